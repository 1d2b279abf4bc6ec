import PyProof.Rows.All
import Wide.All
import OpenK.AllK
import Wide.FinOn
import HandS.ForMost
import HandS.TupAny
import HandS.Wide
import KE.GoesEnumKw
import HandS.Words
import HandS.Ends
import HandS.Codes
import HandS.SortInts
import HandS.IsInst
import KE.KTupSum
import HandS.WordsDict
import HandS.RaiseMore
import PyProof.ReprRoads
import HandS.Deep
import HandS.Style
import HandS.TupMul
import HandS.SetFor
import HandS.TupSets
import HandS.Keys
import HandS.Defaults
import HandS.MakeKwOnly
import HandS.SlotsOwn
import HandS.OwnEq
import HandS.NamedTupGet
import HandS.DictComp
import HandS.More
import HandS.TryOnly
import PyProof.WalksMore
import PyProof.MinMaxWalk
import PyProof.SeqRoads2
import PyProof.Rows.StrInSeq3
import HandS.Conv
import HandS.Head0
import HandS.Head1
import HandS.Head2
import HandS.HeadEnd
import HandS.HeadHook1
import HandS.HeadHook2
import KE.KExcInit
import HandS.Exc
import HandS.ExcInit
import HandS.ExcField
import HandS.ExcSuper
import HandS.ExcIs
import PyProof.RulesRaise
import PyProof.FactsTree
import PyProof.ExcClass
import PySem.Challenge.RW_quietlookup_k25_copies_and_versions
set_option Elab.async false
set_option linter.all false
set_option maxRecDepth 100000
set_option maxHeartbeats 4000000
namespace L2
namespace QL
open PySem PySem.Spec PyProof.Rows

/-! ### 1. data, cells, the store -/
inductive D where
  | non | bl (b : Bool) | int (i : Int) | str (x : Str) | tup (xs : List D) | rol (xs : List D) | loc (a : Addr) | ty (n : String)
inductive Cell where
  | lst (xs : List D) | dic (kvs : List (Key × D)) | ins (C : Addr) (fs : List (Str × D))
abbrev Sto := Addr → Option Cell
def Sto.put (S : Sto) (a : Addr) (c : Cell) : Sto := fun b => if b = a then some c else S b
theorem put_eq {S : Sto} {a : Addr} {c : Cell} : S.put a c a = some c := if_pos rfl
theorem put_ne {S : Sto} {a b : Addr} {c : Cell} (h : b ≠ a) : S.put a c b = S b := if_neg h
theorem put_put {S : Sto} {a : Addr} {c c' : Cell} : (S.put a c).put a c' = S.put a c' := by
  funext b; unfold Sto.put; split <;> rfl
theorem ne_of_free {S : Sto} {a b : Addr} {c : Cell} (h : S a = some c) (n : S b = none) : a ≠ b := by
  intro e; rw [e, n] at h; cases h

/-- a list that nobody writes -/
def Ro (K : PySem.W.Frag) (H : Hp) (a : Addr) (vs : List V) : Prop := (∃ o, H a = some (.frz o (.lst vs))) ∨ SqL K (fun _ => none) a vs
mutual
inductive Rep (K : PySem.W.Frag) (H : Hp) : D → V → Prop
  | non : Rep K H .non .non
  | bl (b : Bool) : Rep K H (.bl b) (.bl b)
  | int (i : Int) : Rep K H (.int i) (.int i)
  | str (x : Str) : Rep K H (.str x) (.str x)
  | loc (a : Addr) : Rep K H (.loc a) (.ref a)
  | ty (n : String) : Rep K H (.ty n) (.ty n)
  | tup {a : Addr} {vs : List V} {ds : List D} : SqT K H a vs → Reps K H ds vs → Rep K H (.tup ds) (.ref a)
  | rol {a : Addr} {vs : List V} {ds : List D} : Ro K H a vs → Reps K H ds vs → Rep K H (.rol ds) (.ref a)
inductive Reps (K : PySem.W.Frag) (H : Hp) : List D → List V → Prop
  | nil : Reps K H [] []
  | cons {d : D} {v : V} {ds : List D} {vs : List V} : Rep K H d v → Reps K H ds vs → Reps K H (d :: ds) (v :: vs)
end

/-- tuples stay -/
structure TK (K : PySem.W.Frag) (H H' : Hp) : Prop where
  t : ∀ a xs, SqT K H a xs → SqT K H' a xs
  r : ∀ a xs, Ro K H a xs → Ro K H' a xs
theorem TK.refl {K : PySem.W.Frag} {H : Hp} : TK K H H := ⟨fun _ _ h => h, fun _ _ h => h⟩
theorem TK.trans {K : PySem.W.Frag} {H H1 H2 : Hp} (a : TK K H H1) (b : TK K H1 H2) : TK K H H2 := ⟨fun x xs h => b.t x xs (a.t x xs h), fun x xs h => b.r x xs (a.r x xs h)⟩
mutual
theorem Rep.mono {K : PySem.W.Frag} {H H' : Hp} (k : TK K H H') {d : D} {v : V} : Rep K H d v → Rep K H' d v
  | .non => .non
  | .bl b => .bl b
  | .int i => .int i
  | .str x => .str x
  | .loc a => .loc a
  | .ty n => .ty n
  | .tup h r => .tup (k.t _ _ h) (Reps.mono k r)
  | .rol h r => .rol (k.r _ _ h) (Reps.mono k r)
theorem Reps.mono {K : PySem.W.Frag} {H H' : Hp} (k : TK K H H') {ds : List D} {vs : List V} : Reps K H ds vs → Reps K H' ds vs
  | .nil => .nil
  | .cons h r => .cons (Rep.mono k h) (Reps.mono k r)
end
section
variable {K : PySem.W.Frag} {H H' : Hp}
theorem Reps.length : ∀ {ds : List D} {vs : List V}, Reps K H ds vs → ds.length = vs.length
  | _, _, .nil => rfl
  | _, _, .cons _ r => congrArg (· + 1) r.length
theorem Reps.append : ∀ {ds es : List D} {vs ws : List V}, Reps K H ds vs → Reps K H es ws → Reps K H (ds ++ es) (vs ++ ws)
  | _, _, _, _, .nil, s => s
  | _, _, _, _, .cons h r, s => .cons h (r.append s)
theorem Reps.get : ∀ {ds : List D} {vs : List V} {i : Nat} {d : D}, Reps K H ds vs → ds[i]? = some d → ∃ v, vs[i]? = some v ∧ Rep K H d v
  | _, _, 0, _, .cons h _, e => by simp at e; subst e; exact ⟨_, rfl, h⟩
  | _, _, i + 1, _, .cons _ r, e => by
    obtain ⟨v, e1, e2⟩ := Reps.get (i := i) r (by simpa using e)
    exact ⟨v, by simpa using e1, e2⟩
  | _, _, _, _, .nil, e => by simp at e
theorem Reps.getV {ds : List D} {vs : List V} {i : Nat} {v : V} (r : Reps K H ds vs) (e : vs[i]? = some v) : ∃ d, ds[i]? = some d ∧ Rep K H d v := by
  have hl := r.length
  have hi : i < vs.length := (List.getElem?_eq_some_iff.mp e).1
  obtain ⟨w, e1, e2⟩ := r.get (i := i) (d := ds[i]'(by omega)) (by simp)
  rw [e] at e1; cases e1
  exact ⟨_, by simp, e2⟩
theorem Reps.set {d : D} {v : V} (h : Rep K H d v) : ∀ {ds : List D} {vs : List V} (i : Nat), Reps K H ds vs → Reps K H (ds.set i d) (vs.set i v)
  | _, _, _, .nil => .nil
  | _, _, 0, .cons _ r => .cons h r
  | _, _, i + 1, .cons g r => .cons g (Reps.set h i r)
theorem Reps.take : ∀ {ds : List D} {vs : List V} (i : Nat), Reps K H ds vs → Reps K H (ds.take i) (vs.take i)
  | _, _, 0, _ => .nil
  | _, _, _ + 1, .nil => .nil
  | _, _, i + 1, .cons h r => .cons h (Reps.take i r)
theorem Reps.drop : ∀ {ds : List D} {vs : List V} (i : Nat), Reps K H ds vs → Reps K H (ds.drop i) (vs.drop i)
  | _, _, 0, r => r
  | _, _, _ + 1, .nil => .nil
  | _, _, i + 1, .cons _ r => Reps.drop i r
theorem Reps.ints : ∀ {ns : List Int} {vs : List V}, Reps K H (ns.map D.int) vs → vs = ns.map V.int
  | [], _, .nil => rfl
  | n :: ns, _, .cons h r => by cases h; rw [Reps.ints r]; rfl
theorem Reps.of_ints : ∀ (ns : List Int), Reps K H (ns.map D.int) (ns.map V.int)
  | [] => .nil
  | n :: ns => .cons (.int n) (Reps.of_ints ns)
theorem Reps.bls : ∀ {bs : List Bool} {vs : List V}, Reps K H (bs.map D.bl) vs → vs = bs.map V.bl
  | [], _, .nil => rfl
  | n :: ns, _, .cons h r => by cases h; rw [Reps.bls r]; rfl
theorem Reps.strs : ∀ {bs : List Str} {vs : List V}, Reps K H (bs.map D.str) vs → vs = bs.map V.str
  | [], _, .nil => rfl
  | n :: ns, _, .cons h r => by cases h; rw [Reps.strs r]; rfl
theorem Reps.dropLast {ds : List D} {vs : List V} (r : Reps K H ds vs) : Reps K H ds.dropLast vs.dropLast := by
  rw [List.dropLast_eq_take, List.dropLast_eq_take, r.length]
  exact r.take _
theorem Reps.map_of {α : Type} {f : α → D} {g : α → V} (h : ∀ x, Rep K H (f x) (g x)) : ∀ l : List α, Reps K H (l.map f) (l.map g)
  | [] => .nil
  | x :: l => .cons (h x) (Reps.map_of h l)
end

/-! ### 2. cells stand at their addresses -/
def KVR (K : PySem.W.Frag) (H : Hp) (kvs : List (Key × D)) (q : List (Key × V)) : Prop := Paired (fun (a : Key × D) (b : Key × V) => a.1 = b.1 ∧ Rep K H a.2 b.2) kvs q
def FSR (K : PySem.W.Frag) (H : Hp) (fs : List (Str × D)) (q : List (Str × V)) : Prop := Paired (fun (a : Str × D) (b : Str × V) => a.1 = b.1 ∧ Rep K H a.2 b.2) fs q
def CellAt (K : PySem.W.Frag) (H : Hp) (a : Addr) : Cell → Prop
  | .lst ds => ∃ vs, H a = some (.lst vs) ∧ Reps K H ds vs
  | .dic kvs => ∃ q, H a = some (.dK q) ∧ KVR K H kvs q
  | .ins C fs => ∃ dx q, H a = some (.ins C dx q) ∧ FSR K H fs q
def RelS (K : PySem.W.Frag) (S : Sto) (H : Hp) : Prop := ∀ a c, S a = some c → CellAt K H a c
/-- the slots -/
abbrev DEnv := List (Option D)
def RelE (K : PySem.W.Frag) (H : Hp) : DEnv → St → Prop
  | [], [] => True
  | none :: e, _ :: σ => RelE K H e σ
  | some d :: e, some v :: σ => Rep K H d v ∧ RelE K H e σ
  | _, _ => False
section
variable {K : PySem.W.Frag} {H H' : Hp}
theorem Paired.mapQ {α β : Type} {F G : α → β → Prop} (f : ∀ a b, F a b → G a b) : ∀ {x : List α} {y : List β}, Paired F x y → Paired G x y
  | _, _, .nil => .nil
  | _, _, .cons r t => .cons (f _ _ r) (Paired.mapQ f t)
theorem RelE.mono (k : TK K H H') : ∀ {e : DEnv} {σ : St}, RelE K H e σ → RelE K H' e σ
  | [], [], _ => trivial
  | none :: e, _ :: σ, h => RelE.mono (e := e) (σ := σ) k h
  | some _ :: e, some _ :: σ, h => ⟨Rep.mono k h.1, RelE.mono (e := e) (σ := σ) k h.2⟩
  | [], _ :: _, h => h.elim
  | none :: _, [], h => h.elim
  | some _ :: _, [], h => h.elim
  | some _ :: _, none :: _, h => h.elim
theorem RelE.get : ∀ {e : DEnv} {σ : St} {i : Nat} {d : D}, RelE K H e σ → e[i]? = some (some d) → ∃ v, σ[i]? = some (some v) ∧ Rep K H d v
  | [], [], _, _, _, q => by simp at q
  | none :: _, _ :: _, 0, _, _, q => by simp at q
  | none :: e, x :: σ, i + 1, d, h, q => by
    obtain ⟨v, e1, e2⟩ := RelE.get (e := e) (σ := σ) (i := i) (d := d) h (by simpa using q)
    exact ⟨v, by simpa using e1, e2⟩
  | some _ :: _, some _ :: _, 0, _, h, q => by simp at q; subst q; exact ⟨_, rfl, h.1⟩
  | some _ :: e, some _ :: σ, i + 1, d, h, q => by
    obtain ⟨v, e1, e2⟩ := RelE.get (e := e) (σ := σ) (i := i) (d := d) h.2 (by simpa using q)
    exact ⟨v, by simpa using e1, e2⟩
  | [], _ :: _, _, _, h, _ => h.elim
  | none :: _, [], _, _, h, _ => h.elim
  | some _ :: _, [], _, _, h, _ => h.elim
  | some _ :: _, none :: _, _, _, h, _ => h.elim
theorem RelE.set {d : D} {v : V} (r : Rep K H d v) : ∀ {e : DEnv} {σ : St} (i : Nat), RelE K H e σ → RelE K H (e.set i (some d)) (σ.set i (some v))
  | [], [], _, _ => trivial
  | none :: _, _ :: _, 0, h => ⟨r, h⟩
  | none :: e, x :: σ, i + 1, h => by
    have q := RelE.set r (e := e) (σ := σ) i h
    exact q
  | some _ :: _, some _ :: _, 0, h => ⟨r, h.2⟩
  | some _ :: e, some _ :: σ, i + 1, h => ⟨h.1, RelE.set r (e := e) (σ := σ) i h.2⟩
  | [], _ :: _, _, h => h.elim
  | none :: _, [], _, h => h.elim
  | some _ :: _, [], _, h => h.elim
  | some _ :: _, none :: _, _, h => h.elim
theorem RelE.forget : ∀ {e : DEnv} {σ : St} (i : Nat), RelE K H e σ → RelE K H (e.set i none) (σ.set i none)
  | [], [], _, _ => trivial
  | none :: _, _ :: _, 0, h => h
  | none :: e, x :: σ, i + 1, h => by
    have q := RelE.forget (e := e) (σ := σ) i h
    exact q
  | some _ :: _, some _ :: _, 0, h => h.2
  | some _ :: e, some _ :: σ, i + 1, h => ⟨h.1, RelE.forget (e := e) (σ := σ) i h.2⟩
  | [], _ :: _, _, h => h.elim
  | none :: _, [], _, h => h.elim
  | some _ :: _, [], _, h => h.elim
  | some _ :: _, none :: _, _, h => h.elim
theorem RelE.length : ∀ {e : DEnv} {σ : St}, RelE K H e σ → e.length = σ.length
  | [], [], _ => rfl
  | none :: e, _ :: σ, h => congrArg (· + 1) (RelE.length (e := e) (σ := σ) h)
  | some _ :: e, some _ :: σ, h => congrArg (· + 1) (RelE.length (e := e) (σ := σ) h.2)
  | [], _ :: _, h => h.elim
  | none :: _, [], h => h.elim
  | some _ :: _, [], h => h.elim
  | some _ :: _, none :: _, h => h.elim
def startD (N : List Str) (ds : List D) : DEnv := ds.map some ++ List.replicate (N.length - ds.length) none
theorem RelE.blank : ∀ n : Nat, RelE K H (List.replicate n none) (List.replicate n none)
  | 0 => trivial
  | n + 1 => RelE.blank n
theorem RelE.front {e : DEnv} {σ : St} (t : RelE K H e σ) : ∀ {ds : List D} {vs : List V}, Reps K H ds vs → RelE K H (ds.map some ++ e) (vs.map some ++ σ)
  | _, _, .nil => t
  | _, _, .cons h r => ⟨h, RelE.front t r⟩
theorem RelE.start {N : List Str} {ds : List D} {vs : List V} (r : Reps K H ds vs) : RelE K H (startD N ds) (start N vs) := by
  unfold startD L2.start
  rw [r.length]
  exact RelE.front (RelE.blank _) r
theorem KVR.mono (k : TK K H H') {x : List (Key × D)} {y : List (Key × V)} (h : KVR K H x y) : KVR K H' x y := Paired.mapQ (fun _ _ z => ⟨z.1, Rep.mono k z.2⟩) h
theorem FSR.mono (k : TK K H H') {x : List (Str × D)} {y : List (Str × V)} (h : FSR K H x y) : FSR K H' x y := Paired.mapQ (fun _ _ z => ⟨z.1, Rep.mono k z.2⟩) h
/-- what may be turned by a write -/
def Free (o : Option HO) : Prop := match o with
  | none => True
  | some (.lst _) => True
  | some (.dK _) => True
  | some (.ins _ _ _) => True
  | _ => False
theorem Rd.of_upd {a p : Addr} {u' : List V} {o : HO} (f : Free (H p)) (h : Rd H a (.tup u')) : Rd (upd H p o) a (.tup u') := by
  have ne : a ≠ p := by
    rintro rfl
    rcases h with h | ⟨o, h⟩ <;> rw [h] at f <;> exact f
  rcases h with h | ⟨o', h⟩
  · exact .inl (by rw [upd_ne ne]; exact h)
  · exact .inr ⟨o', by rw [upd_ne ne]; exact h⟩
theorem TK.upd {p : Addr} {o : HO} (f : Free (H p)) : TK K H (L2.upd H p o) := by
  constructor
  · intro a xs h
    rcases h with h | h
    · exact .inl (Rd.of_upd f h)
    · exact .inr h
  · intro a xs h
    rcases h with ⟨o', h⟩ | h
    · have ne : a ≠ p := by
        rintro rfl
        rw [h] at f; exact f
      exact .inl ⟨o', by rw [upd_ne ne]; exact h⟩
    · exact .inr h
theorem CellAt.upd {p a : Addr} {o : HO} {c : Cell} (f : Free (H p)) (ne : a ≠ p) (h : CellAt K H a c) : CellAt K (L2.upd H p o) a c := by
  cases c with
  | lst ds => obtain ⟨vs, h1, h2⟩ := h; exact ⟨vs, by rw [upd_ne ne]; exact h1, h2.mono (TK.upd f)⟩
  | dic kvs => obtain ⟨q, h1, h2⟩ := h; exact ⟨q, by rw [upd_ne ne]; exact h1, h2.mono (TK.upd f)⟩
  | ins C fs => obtain ⟨dx, q, h1, h2⟩ := h; exact ⟨dx, q, by rw [upd_ne ne]; exact h1, h2.mono (TK.upd f)⟩
theorem RelS.upd {S : Sto} {p : Addr} {o : HO} (f : Free (H p)) (n : S p = none) (h : RelS K S H) : RelS K S (L2.upd H p o) := fun a c e =>
  (h a c e).upd f (ne_of_free e n)
theorem RelS.put {S : Sto} {p : Addr} {o : HO} {c : Cell} (f : Free (H p)) (h : RelS K S H) (new : CellAt K (L2.upd H p o) p c) : RelS K (S.put p c) (L2.upd H p o) := fun a c' e => by
  by_cases ha : a = p
  · subst ha; rw [put_eq] at e; cases e; exact new
  · rw [put_ne ha] at e
    exact (h a c' e).upd f ha
theorem RelS.sub {S S' : Sto} (h : RelS K S H) (s : ∀ a c, S' a = some c → S a = some c) : RelS K S' H := fun a c e => h a c (s a c e)
theorem CellAt.free {a : Addr} {c : Cell} (h : CellAt K H a c) : Free (H a) := by
  cases c with
  | lst ds => obtain ⟨vs, h1, _⟩ := h; rw [h1]; trivial
  | dic kvs => obtain ⟨q, h1, _⟩ := h; rw [h1]; trivial
  | ins C fs => obtain ⟨dx, q, h1, _⟩ := h; rw [h1]; trivial
theorem CellAt.there {a : Addr} {c : Cell} (h : CellAt K H a c) : H a ≠ none := by
  cases c with
  | lst ds => obtain ⟨vs, h1, _⟩ := h; rw [h1]; simp
  | dic kvs => obtain ⟨q, h1, _⟩ := h; rw [h1]; simp
  | ins C fs => obtain ⟨dx, q, h1, _⟩ := h; rw [h1]; simp
theorem RelS.none_of {S : Sto} {a : Addr} (h : RelS K S H) (n : H a = none) : S a = none := by
  cases e : S a with
  | none => rfl
  | some c => exact absurd n (h a c e).there
end
end QL
end L2
namespace L2
namespace QL
open PySem PySem.Spec PyProof.Rows

/-! ### 3. what a step leaves -/
structure Post (K : PySem.W.Frag) (S : Sto) (H : Hp) (S' : Sto) (H' : Hp) : Prop where
  tk : TK K H H'
  frame : ∀ a o, S a = none → H a = some o → H' a = some o
  dom : ∀ a, S a = none → H a ≠ none → S' a = none
section
variable {K : PySem.W.Frag} {S S1 S2 : Sto} {H H1 H2 : Hp} {p : Addr} {o : HO} {c : Cell}
theorem Post.refl : Post K S H S H := ⟨TK.refl, fun _ _ _ e => e, fun _ n _ => n⟩
theorem Post.trans (a : Post K S H S1 H1) (b : Post K S1 H1 S2 H2) : Post K S H S2 H2 :=
  ⟨a.tk.trans b.tk, fun x o n e => b.frame x o (a.dom x n (by rw [e]; simp)) (a.frame x o n e), fun x n e => b.dom x (a.dom x n e) (by
    cases q : H x with
    | none => exact absurd q e
    | some o => rw [a.frame x o n q]; simp)⟩
theorem Post.new (hp : H p = none) : Post K S H (S.put p c) (upd H p o) :=
  ⟨TK.upd (by rw [hp]; trivial), fun x o' n e => by rw [upd_ne (ne_of_none e hp)]; exact e, fun x n e => by rw [put_ne (fun z => e (by rw [z]; exact hp))]; exact n⟩
/-- a new thing that no cell tells -/
theorem Post.lay (hp : H p = none) : Post K S H S (upd H p o) :=
  ⟨TK.upd (by rw [hp]; trivial), fun x o' n e => by rw [upd_ne (ne_of_none e hp)]; exact e, fun x n e => n⟩
theorem Post.write {c0 : Cell} (R : RelS K S H) (e : S p = some c0) : Post K S H (S.put p c) (upd H p o) := by
  have ne : ∀ {x : Addr}, S x = none → x ≠ p := fun {x} n z => by rw [z, e] at n; cases n
  exact ⟨TK.upd (R p c0 e).free, fun x o' n q => by rw [upd_ne (ne n)]; exact q, fun x n q => by rw [put_ne (ne n)]; exact n⟩
end

/-! ### 4. readings over data -/
abbrev DK := D → Sto → Prop
abbrev TD := DEnv → Sto → DK → Prop
abbrev TTD := DEnv → Sto → (Bool → Sto → Prop) → Prop
abbrev TAD := DEnv → Sto → (List D → Sto → Prop) → Prop
structure EndsD where
  nx : DEnv → Sto → Prop
  rt : DK
  bk : DEnv → Sto → Prop := fun _ _ => False
  ct : DEnv → Sto → Prop := fun _ _ => False
abbrev TSD := EndsD → DEnv → Sto → Prop

def emE (K : PySem.W.Frag) (t : TD) : TE := fun σ H Q => ∃ e S Q0, RelE K H e σ ∧ RelS K S H ∧ t e S Q0 ∧ ∀ d S' v H', Q0 d S' → Post K S H S' H' → RelS K S' H' → Rep K H' d v → Q v H'
def emT (K : PySem.W.Frag) (t : TTD) : TT := fun σ H Q => ∃ e S Q0, RelE K H e σ ∧ RelS K S H ∧ t e S Q0 ∧ ∀ b S' H', Q0 b S' → Post K S H S' H' → RelS K S' H' → Q b H'
def emA (K : PySem.W.Frag) (t : TAD) : TA := fun σ H Q => ∃ e S Q0, RelE K H e σ ∧ RelS K S H ∧ t e S Q0 ∧ ∀ ds S' vs H', Q0 ds S' → Post K S H S' H' → RelS K S' H' → Reps K H' ds vs → Q vs H'
structure EndsOk (K : PySem.W.Frag) (S : Sto) (H : Hp) (D0 : EndsD) (D1 : Ends) : Prop where
  nx : ∀ e' S' σ' H', D0.nx e' S' → Post K S H S' H' → RelE K H' e' σ' → RelS K S' H' → D1.nx σ' H'
  rt : ∀ d S' v H', D0.rt d S' → Post K S H S' H' → Rep K H' d v → RelS K S' H' → D1.rt v H'
  bk : ∀ e' S' σ' H', D0.bk e' S' → Post K S H S' H' → RelE K H' e' σ' → RelS K S' H' → D1.bk σ' H'
  ct : ∀ e' S' σ' H', D0.ct e' S' → Post K S H S' H' → RelE K H' e' σ' → RelS K S' H' → D1.ct σ' H'
theorem EndsOk.after {K : PySem.W.Frag} {S S1 : Sto} {H H1 : Hp} {D0 : EndsD} {D1 : Ends} (e : EndsOk K S H D0 D1) (p : Post K S H S1 H1) : EndsOk K S1 H1 D0 D1 :=
  ⟨fun _ _ _ _ a b => e.nx _ _ _ _ a (p.trans b), fun _ _ _ _ a b => e.rt _ _ _ _ a (p.trans b), fun _ _ _ _ a b => e.bk _ _ _ _ a (p.trans b), fun _ _ _ _ a b => e.ct _ _ _ _ a (p.trans b)⟩
def emS (K : PySem.W.Frag) (t : TSD) : TS := fun D1 σ H => ∃ e S D0, RelE K H e σ ∧ RelS K S H ∧ t D0 e S ∧ EndsOk K S H D0 D1

/-- the judgements over data -/
abbrev DE (X : Cx) (e : Expr) (t : TD) : Prop := PE X e (emE X.K t)
abbrev DT (X : Cx) (e : Expr) (t : TTD) : Prop := PT X e (emT X.K t)
abbrev DW (X : Cx) (e : Expr) (t : TTD) : Prop := PW X e (emT X.K t)
abbrev DA (X : Cx) (es : List Expr) (t : TAD) : Prop := PA X es (emA X.K t)
abbrev DS (X : Cx) (s : Stmt) (t : TSD) : Prop := PS X s (emS X.K t)
abbrev DSs (X : Cx) (s : List Stmt) (t : TSD) : Prop := PSs X s (emS X.K t)

section
variable {X : Cx}
theorem PE.le {e : Expr} {t u : TE} (h : PE X e t) (k : ∀ σ H Q, u σ H Q → t σ H Q) : PE X e u := ⟨fun pins s σ H Q I q => h.run pins s σ H Q I (k _ _ _ q)⟩
theorem PT.le {e : Expr} {t u : TT} (h : PT X e t) (k : ∀ σ H Q, u σ H Q → t σ H Q) : PT X e u := ⟨fun pins s σ H Q I q => h.run pins s σ H Q I (k _ _ _ q)⟩
theorem PW.le {e : Expr} {t u : TT} (h : PW X e t) (k : ∀ σ H Q, u σ H Q → t σ H Q) : PW X e u := ⟨fun wh pins s σ H Q I q => h.run wh pins s σ H Q I (k _ _ _ q)⟩
theorem PA.le {e : List Expr} {t u : TA} (h : PA X e t) (k : ∀ σ H Q, u σ H Q → t σ H Q) : PA X e u := ⟨fun po pins s σ H Q I q => h.run po pins s σ H Q I (k _ _ _ q)⟩
theorem PS.le {e : Stmt} {t u : TS} (h : PS X e t) (k : ∀ D1 σ H, u D1 σ H → t D1 σ H) : PS X e u := ⟨fun pins s σ H Q I q => h.run pins s σ H Q I (k _ _ _ q)⟩
theorem PSs.le {e : List Stmt} {t u : TS} (h : PSs X e t) (k : ∀ D1 σ H, u D1 σ H → t D1 σ H) : PSs X e u := ⟨fun pins s σ H Q I q => h.run pins s σ H Q I (k _ _ _ q)⟩
theorem PTs.le {e : List Expr} {t u : TT} (h : PTs X e t) (k : ∀ σ H Q, u σ H Q → t σ H Q) : PTs X e u := ⟨fun pins s σ H Q I q => h.run pins s σ H Q I (k _ _ _ q)⟩
theorem PI.le {tg e : Expr} {t u : TI} (h : PI X tg e t) (k : ∀ σ H Q, u σ H Q → t σ H Q) : PI X tg e u := ⟨fun pins s σ H Q I q => h.run pins s σ H Q I (k _ _ _ q)⟩

/-! ### 5. names, constants -/
def dV (i : Nat) : TD := fun e S Q => match e[i]? with
  | some (some d) => Q d S
  | _ => False
def dC (d : D) : TD := fun _ S Q => Q d S
theorem de_var {i : Nat} {x : Str} {pos : Pos} (hN : X.N[i]? = some x) (hv : Vis X.env.scope x) (hd : (x == ("__debug__" : Str)) = false := by decide) (hcd : (x == ("__classdict__" : Str)) = false := by decide) : DE X (.Name x pos) (dV i) := by
  refine PE.le (pe_var hN hv hd hcd) fun σ H Q h => ?_
  obtain ⟨e, S, Q0, re, rs, ht, k⟩ := h
  unfold dV at ht
  split at ht
  · rename_i d q
    obtain ⟨v, e1, r⟩ := re.get q
    exact ⟨v, e1, k d S v H ht Post.refl rs r⟩
  · exact ht.elim
theorem de_con {e : Expr} {v : V} {d : D} (h : PE X e (tC v)) (r : ∀ K H, Rep K H d v) : DE X e (dC d) := by
  refine PE.le h fun σ H Q h => ?_
  obtain ⟨e, S, Q0, re, rs, ht, k⟩ := h
  exact k d S v H ht Post.refl rs (r _ _)
theorem de_int {i j pos} : DE X (.Constant (.int i) j pos) (dC (.int i)) := de_con pe_int fun _ _ => .int i
theorem de_bl {i j pos} : DE X (.Constant (.bool i) j pos) (dC (.bl i)) := de_con pe_bl fun _ _ => .bl i
theorem de_non {j pos} : DE X (.Constant .none j pos) (dC .non) := de_con pe_non fun _ _ => .non
theorem de_str {x j pos} : DE X (.Constant (.str x) j pos) (dC (.str x)) := de_con pe_str fun _ _ => .str x
theorem de_gint {x : Str} {i : Int} {k : Tok} {pos : Pos} (hg : Gl X x) (hm : X.mg x = some (.int i k)) (hd : (x == ("__debug__" : Str)) = false := by decide) : DE X (.Name x pos) (dC (.int i)) := de_con (pe_glob (v := .int i) hg hm ⟨k, rfl⟩ hd) fun _ _ => .int i
theorem de_gstr {x y : Str} {k : Tok} {pos : Pos} (hg : Gl X x) (hm : X.mg x = some (.str y k)) (hd : (x == ("__debug__" : Str)) = false := by decide) : DE X (.Name x pos) (dC (.str y)) := de_con (pe_glob (v := .str y) hg hm ⟨k, rfl⟩ hd) fun _ _ => .str y
theorem de_gbl {x : Str} {b : Bool} {pos : Pos} (hg : Gl X x) (hm : X.mg x = some (.bool b)) (hd : (x == ("__debug__" : Str)) = false := by decide) : DE X (.Name x pos) (dC (.bl b)) := de_con (pe_glob (v := .bl b) hg hm rfl hd) fun _ _ => .bl b
theorem de_type {x : Str} {n : String} {pos : Pos} (hg : Gl X x) (hm : X.mg x = none) (hv : bootBuiltins x = some (.type n)) (hn : x ≠ "__name__" := by decide) (hd : (x == ("__debug__" : Str)) = false := by decide) : DE X (.Name x pos) (dC (.ty n)) := de_con (pe_bltn (v := .ty n) hg hm hv rfl hn hd) fun _ _ => .ty n

/-! ### 6. operators -/
abbrev RD := D → D → Sto → DK → Prop
/-- a rule by data for a rule by values -/
def OpD (K : PySem.W.Frag) (r : R2) (rd : RD) : Prop := ∀ d1 d2 S (Q0 : DK) v1 v2 H (Q : VK), RelS K S H → Rep K H d1 v1 → Rep K H d2 v2 → rd d1 d2 S Q0 →
  (∀ d S' v H', Q0 d S' → Post K S H S' H' → RelS K S' H' → Rep K H' d v → Q v H') → r v1 v2 H Q
def dBin (rd : RD) (ta tb : TD) : TD := fun e S Q => ta e S fun x S1 => tb e S1 fun y S2 => rd x y S2 Q
theorem em_bin {K : PySem.W.Frag} {r : R2} {rd : RD} {ta tb : TD} (hr : OpD K r rd) {σ : St} {H : Hp} {Q : VK} (h : emE K (dBin rd ta tb) σ H Q) : tOp r (emE K ta) (emE K tb) σ H Q := by
  obtain ⟨e, S, Q0, re, rs, ht, k⟩ := h
  refine ⟨e, S, _, re, rs, ht, fun x S1 v1 H1 h1 p1 rs1 r1 => ?_⟩
  refine ⟨e, S1, _, re.mono p1.tk, rs1, h1, fun y S2 v2 H2 h2 p2 rs2 r2 => ?_⟩
  exact hr x y S2 Q0 v1 v2 H2 Q rs2 (r1.mono p2.tk) r2 h2 fun d S' v H' q p rs' r' => k d S' v H' q ((p1.trans p2).trans p) rs' r'
section
variable {a b c : Expr} {ta tb tc : TD} {pos : Pos} {r : R2} {rd : RD}
theorem de_op {op : Operator} (ho : OpR X (binaryOp op) r) (hr : OpD X.K r rd) (ha : DE X a ta) (hb : DE X b tb) : DE X (.BinOp a op b pos) (dBin rd ta tb) :=
  PE.le (pe_op ho ha hb) fun _ _ _ h => em_bin hr h
theorem de_cmp {op : CmpOp} (ho : OpR X (compareOp op) r) (hr : OpD X.K r rd) (ha : DE X a ta) (hb : DE X b tb) (hm : behindInMarks op b = false) : DE X (.Compare a [op] [b] pos) (dBin rd ta tb) :=
  PE.le (pe_cmpR ho ha hb hm) fun _ _ _ h => em_bin hr h
end
/-- a value that is a bool, as a test -/
def dB (t : TD) : TTD := fun e S Q => t e S fun d S' => match d with
  | .bl b => Q b S'
  | _ => False
theorem em_test {K : PySem.W.Frag} {t : TD} {tv : TE} (hv : ∀ σ H Q, emE K t σ H Q → tv σ H Q) {σ : St} {H : Hp} {Q : Bool → Hp → Prop} (h : emT K (dB t) σ H Q) : tTest tv σ H Q := by
  obtain ⟨e, S, Q0, re, rs, ht, k⟩ := h
  refine hv σ H _ ⟨e, S, _, re, rs, ht, fun d S' v H' q p rs' r' => ?_⟩
  cases d with
  | bl b => cases r'; exact ⟨b, rfl, k b S' H' q p rs'⟩
  | _ => exact q.elim
section
variable {a b c : Expr} {ta tb tc : TD} {pos : Pos} {r r' : R2} {rd rd' : RD}
theorem dt_cmp {op : CmpOp} (ho : OpR X (compareOp op) r) (hr : OpD X.K r rd) (ha : DE X a ta) (hb : DE X b tb) (hm : behindInMarks op b = false) : DT X (.Compare a [op] [b] pos) (dB (dBin rd ta tb)) :=
  PT.le (pt_cmpR ho ha hb hm) fun _ _ _ h => em_test (fun _ _ _ h => em_bin hr h) h
/-- a op b op' c -/
def dChain (rd rd' : RD) (ta tb tc : TD) : TD := fun e S Q => ta e S fun x S1 => tb e S1 fun y S2 => rd x y S2 fun z S3 => match z with
  | .bl true => tc e S3 fun u S4 => rd' y u S4 Q
  | .bl false => Q (.bl false) S3
  | _ => False
theorem em_chain {K : PySem.W.Frag} (hr : OpD K r rd) (hr' : OpD K r' rd') {σ : St} {H : Hp} {Q : VK} (h : emE K (dChain rd rd' ta tb tc) σ H Q) : tChain r r' (emE K ta) (emE K tb) (emE K tc) σ H Q := by
  obtain ⟨e, S, Q0, re, rs, ht, k⟩ := h
  refine ⟨e, S, _, re, rs, ht, fun x S1 v1 H1 h1 p1 rs1 r1 => ?_⟩
  refine ⟨e, S1, _, re.mono p1.tk, rs1, h1, fun y S2 v2 H2 h2 p2 rs2 r2 => ?_⟩
  refine hr x y S2 _ v1 v2 H2 _ rs2 (r1.mono p2.tk) r2 h2 fun z S3 v3 H3 h3 p3 rs3 r3 => ?_
  cases z with
  | bl q =>
    cases r3
    refine ⟨q, rfl, ?_⟩
    cases q with
    | true =>
      refine iteT ⟨e, S3, _, re.mono ((p1.trans p2).trans p3).tk, rs3, h3, fun u S4 v4 H4 h4 p4 rs4 r4 => ?_⟩
      exact hr' y u S4 Q0 v2 v4 H4 Q rs4 (r2.mono (p3.trans p4).tk) r4 h4 fun d S' v H' q p rs' r' => k d S' v H' q ((((p1.trans p2).trans p3).trans p4).trans p) rs' r'
    | false => exact iteF (k _ S3 _ H3 h3 ((p1.trans p2).trans p3) rs3 (.bl false))
  | _ => exact h3.elim
theorem de_chain {op op' : CmpOp} (ho : OpR X (compareOp op) r) (hr : OpD X.K r rd) (ho' : OpR X (compareOp op') r') (hr' : OpD X.K r' rd') (ha : DE X a ta) (hb : DE X b tb) (hc : DE X c tc)
    (hm : lastMarks [op, op'] [b, c] = false := by with_unfolding_all rfl) : DE X (.Compare a [op, op'] [b, c] pos) (dChain rd rd' ta tb tc) :=
  PE.le (pe_chain ho ho' ha hb hc hm) fun _ _ _ h => em_chain hr hr' h
theorem dt_chain {op op' : CmpOp} (ho : OpR X (compareOp op) r) (hr : OpD X.K r rd) (ho' : OpR X (compareOp op') r') (hr' : OpD X.K r' rd') (ha : DE X a ta) (hb : DE X b tb) (hc : DE X c tc)
    (hm : lastMarks [op, op'] [b, c] = false := by with_unfolding_all rfl) : DT X (.Compare a [op, op'] [b, c] pos) (dB (dChain rd rd' ta tb tc)) :=
  PT.le (pt_chain ho ho' ha hb hc hm) fun _ _ _ h => em_test (fun _ _ _ h => em_chain hr hr' h) h
end
/-! ints -/
def rdI (f : Int → Int → DK → Sto → Prop) : RD := fun x y S Q => match x, y with
  | .int i, .int j => f i j Q S
  | _, _ => False
def rdLt : RD := rdI fun i j Q S => Q (.bl (decide (i < j))) S
def rdLe : RD := rdI fun i j Q S => Q (.bl (decide (i ≤ j))) S
def rdGt : RD := rdI fun i j Q S => Q (.bl (decide (j < i))) S
def rdGe : RD := rdI fun i j Q S => Q (.bl (decide (j ≤ i))) S
def rdSub : RD := rdI fun i j Q S => Q (.int (i - j)) S
def rdMod : RD := rdI fun i j Q S => 0 < j ∧ Q (.int (i % j)) S
def rdPow : RD := rdI fun i j Q S => (0 ≤ j ∧ j ≤ 1000000 ∧ i.natAbs < 2 ^ 64) ∧ Q (.int (i ^ j.toNat)) S
theorem rdI_ints {f : Int → Int → DK → Sto → Prop} {x y : D} {S : Sto} {Q : DK} (h : rdI f x y S Q) : ∃ i j, x = .int i ∧ y = .int j ∧ f i j Q S := by
  unfold rdI at h
  split at h
  · exact ⟨_, _, rfl, rfl, h⟩
  · exact h.elim
theorem opd_I0 {K : PySem.W.Frag} {g : Int → Int → V} {gd : Int → Int → D} (hg : ∀ H i j, Rep K H (gd i j) (g i j)) : OpD K (rI0 g) (rdI fun i j Q S => Q (gd i j) S) := by
  intro d1 d2 S Q0 v1 v2 H Q rs r1 r2 h k
  obtain ⟨i, j, rfl, rfl, h⟩ := rdI_ints h
  cases r1; cases r2
  exact ⟨i, j, rfl, rfl, k _ S _ H h Post.refl rs (hg H i j)⟩
theorem opd_I {K : PySem.W.Frag} {C : Int → Int → Prop} {C' : Int → Int → Prop} {g : Int → Int → V} {gd : Int → Int → D} (hc : ∀ i j, C' i j → C i j) (hg : ∀ H i j, Rep K H (gd i j) (g i j)) : OpD K (rI C g) (rdI fun i j Q S => C' i j ∧ Q (gd i j) S) := by
  intro d1 d2 S Q0 v1 v2 H Q rs r1 r2 h k
  obtain ⟨i, j, rfl, rfl, c, h⟩ := rdI_ints h
  cases r1; cases r2
  exact ⟨i, j, rfl, rfl, hc i j c, k _ S _ H h Post.refl rs (hg H i j)⟩
section
variable {a b : Expr} {ta tb : TD} {pos : Pos}
theorem od_lt {K : PySem.W.Frag} : OpD K (rI0 fun i j => .bl (decide (i < j))) rdLt := opd_I0 fun _ _ _ => .bl _
theorem od_le {K : PySem.W.Frag} : OpD K (rI0 fun i j => .bl (decide (i ≤ j))) rdLe := opd_I0 fun _ _ _ => .bl _
theorem od_gt {K : PySem.W.Frag} : OpD K (rI0 fun i j => .bl (decide (j < i))) rdGt := opd_I0 fun _ _ _ => .bl _
theorem od_ge {K : PySem.W.Frag} : OpD K (rI0 fun i j => .bl (decide (j ≤ i))) rdGe := opd_I0 fun _ _ _ => .bl _
theorem de_sub (ha : DE X a ta) (hb : DE X b tb) : DE X (.BinOp a .Sub b pos) (dBin rdSub ta tb) := de_op op_sub (opd_I0 fun _ _ _ => .int _) ha hb
theorem de_mod (ha : DE X a ta) (hb : DE X b tb) : DE X (.BinOp a .Mod b pos) (dBin rdMod ta tb) := de_op op_mod (opd_I (fun _ _ h => h) fun _ _ _ => .int _) ha hb
theorem de_pow (ha : DE X a ta) (hb : DE X b tb) : DE X (.BinOp a .Pow b pos) (dBin rdPow ta tb) := de_op op_pow (opd_I (fun _ _ h => h) fun _ _ _ => .int _) ha hb
end
/-- a + b: ints, tuples, texts, lists -/
def rdAdd : RD := fun x y S Q => match x, y with
  | .int i, .int j => Q (.int (i + j)) S
  | .tup xs, .tup ys => xs.length + ys.length ≤ sizeLine ∧ Q (.tup (xs ++ ys)) S
  | .str i, .str j => i.length + j.length ≤ sizeLine ∧ Q (.str (i ++ j)) S
  | .loc p, .loc q => match S p, S q with
    | some (.lst xs), some (.lst ys) => xs.length + ys.length ≤ sizeLine ∧ ∀ a, S a = none → Q (.loc a) (S.put a (.lst (xs ++ ys)))
    | _, _ => False
  | _, _ => False
def rAddAll (K : PySem.W.Frag) : R2 := fun x y H Q => (rI0 fun i j => .int (i + j)) x y H Q ∨ rCatA K x y H Q ∨ (∃ i j, x = .str i ∧ y = .str j ∧ i.length + j.length ≤ sizeLine ∧ Q (.str (i ++ j)) H) ∨ rCat x y H Q
theorem op_addAll : OpR X (binaryOp .Add) (rAddAll X.K) := op_add.or (op_catA.or (op_add_str.or op_cat))
/-- a new list -/
theorem new_lst {K : PySem.W.Frag} {S : Sto} {H : Hp} {p : Addr} {xs : List D} {vs : List V} (rs : RelS K S H) (hp : H p = none) (r : Reps K H xs vs) : RelS K (S.put p (.lst xs)) (upd H p (.lst vs)) :=
  rs.put (by rw [hp]; trivial) ⟨vs, upd_same, r.mono (TK.upd (by rw [hp]; trivial))⟩
theorem od_add {K : PySem.W.Frag} : OpD K (rAddAll K) rdAdd := by
  intro d1 d2 S Q0 v1 v2 H Q rs r1 r2 h k
  unfold rdAdd at h
  split at h
  · cases r1; cases r2
    exact .inl ⟨_, _, rfl, rfl, k _ S _ H h Post.refl rs (.int _)⟩
  · cases r1 with
    | tup h1 q1 =>
      cases r2 with
      | tup h2 q2 =>
        refine .inr (.inl ⟨_, _, _, _, rfl, rfl, h1, h2, by rw [← q1.length, ← q2.length]; exact h.1, fun e => ?_, fun _ e => ?_, fun _ _ p hp => ?_⟩)
        · subst e; cases q1
          exact k _ S _ H h.2 Post.refl rs (.tup h2 q2)
        · subst e; cases q2
          have h' := h.2
          rw [List.append_nil] at h'
          exact k _ S _ H h' Post.refl rs (.tup h1 q1)
        · have f : Free (H p) := by rw [hp]; trivial
          exact k _ S _ _ h.2 (Post.lay hp) (rs.upd f (rs.none_of hp)) (.tup (.of upd_same) ((q1.append q2).mono (TK.upd f)))
  · cases r1; cases r2
    exact .inr (.inr (.inl ⟨_, _, rfl, rfl, h.1, k _ S _ H h.2 Post.refl rs (.str _)⟩))
  · cases r1; cases r2
    split at h
    · rename_i xs ys e1 e2
      obtain ⟨v1, a1, b1⟩ := rs _ _ e1
      obtain ⟨v2, a2, b2⟩ := rs _ _ e2
      refine .inr (.inr (.inr ⟨_, _, _, _, rfl, rfl, a1, a2, by rw [← b1.length, ← b2.length]; exact h.1, fun p hp => ?_⟩))
      exact k _ _ _ _ (h.2 p (rs.none_of hp)) (Post.new hp) (new_lst rs hp (b1.append b2)) (.loc p)
    · exact h.elim
  · exact h.elim
theorem de_add {a b : Expr} {ta tb : TD} {pos : Pos} (ha : DE X a ta) (hb : DE X b tb) : DE X (.BinOp a .Add b pos) (dBin rdAdd ta tb) := de_op op_addAll od_add ha hb
/-- a * b -/
def MulOk (i j : Int) : Prop := CMul i j ∨ CMulW i j
def rdMul : RD := rdI fun i j Q S => MulOk i j ∧ Q (.int (i * j)) S
theorem op_mulAll : OpR X (binaryOp .Mult) (rI MulOk fun i j => .int (i * j)) := by
  intro pins s σ H x y v u Q I rx ry h
  obtain ⟨i, j, e1, e2, c, q⟩ := h
  rcases c with c | c
  · exact op_mul pins s σ H x y v u Q I rx ry ⟨i, j, e1, e2, c, q⟩
  · exact op_mulW pins s σ H x y v u Q I rx ry ⟨i, j, e1, e2, c, q⟩
theorem de_mul {a b : Expr} {ta tb : TD} {pos : Pos} (ha : DE X a ta) (hb : DE X b tb) : DE X (.BinOp a .Mult b pos) (dBin rdMul ta tb) := de_op op_mulAll (opd_I (fun _ _ h => h) fun _ _ _ => .int _) ha hb
/-- a // b -/
def rdDiv : RD := rdI fun i j Q S => CDivW i j ∧ Q (.int (i / j)) S
theorem de_div {a b : Expr} {ta tb : TD} {pos : Pos} (ha : DE X a ta) (hb : DE X b tb) : DE X (.BinOp a .FloorDiv b pos) (dBin rdDiv ta tb) := de_op op_fdivW (opd_I (fun _ _ h => h) fun _ _ _ => .int _) ha hb
/-- -a -/
def dNeg (ta : TD) : TD := fun e S Q => ta e S fun x S1 => match x with
  | .int i => Q (.int (-i)) S1
  | _ => False
theorem de_neg {a : Expr} {ta : TD} {pos : Pos} (ha : DE X a ta) : DE X (.UnaryOp .USub a pos) (dNeg ta) := by
  refine PE.le (pe_un un_neg ha) fun σ H Q h => ?_
  obtain ⟨e, S, Q0, re, rs, ht, k⟩ := h
  refine ⟨e, S, _, re, rs, ht, fun x S1 v1 H1 h1 p1 rs1 r1 => ?_⟩
  cases x with
  | int i => cases r1; exact ⟨i, rfl, k _ S1 _ H1 h1 p1 rs1 (.int _)⟩
  | _ => exact h1.elim

/-! ### 7. equality of data -/
mutual
def toPy : D → PyData
  | .non => .none
  | .bl b => .bool b
  | .int i => .int i
  | .str x => .str x
  | .tup xs => .tuple (toPys xs)
  | .rol xs => .list (toPys xs)
  | .loc _ => .none
  | .ty _ => .none
def toPys : List D → List PyData
  | [] => []
  | x :: xs => toPy x :: toPys xs
end
theorem toPys_map : ∀ xs : List D, toPys xs = xs.map toPy
  | [] => rfl
  | x :: xs => by rw [toPys, toPys_map xs]; rfl
/-- data without cells, at most n deep -/
def fine : Nat → D → Prop
  | 0, d => match d with
    | .non => True
    | .bl _ => True
    | .int _ => True
    | .str x => PyData.canLay0 (.str x) = true
    | _ => False
  | n + 1, d => match d with
    | .non => True
    | .bl _ => True
    | .int _ => True
    | .str x => PyData.canLay0 (.str x) = true
    | .tup xs => ∀ x ∈ xs, fine n x
    | _ => False
theorem lay_all : ∀ (xs : List D), (∀ x ∈ xs, (toPy x).canLay0 = true) → PyData.canLayAll0 (toPys xs) = true
  | [], _ => rfl
  | x :: xs, h => by
    show (PyData.canLay0 (toPy x) && PyData.canLayAll0 (toPys xs)) = true
    rw [h x List.mem_cons_self, lay_all xs fun y hy => h y (List.mem_cons_of_mem _ hy)]
    rfl
theorem deep_all : ∀ (xs : List D) (n : Nat), (∀ x ∈ xs, (toPy x).depth ≤ n) → PyData.depthAll (toPys xs) ≤ n
  | [], _, _ => Nat.zero_le _
  | x :: xs, n, h => by
    have h1 := h x List.mem_cons_self
    have h2 := deep_all xs n fun y hy => h y (List.mem_cons_of_mem _ hy)
    show PyData.depthAll (toPy x :: toPys xs) ≤ n
    simp only [PyData.depthAll]
    omega
theorem fine_lay : ∀ (n : Nat) (d : D), fine n d → (toPy d).canLay0 = true ∧ (toPy d).depth ≤ n + 1
  | 0, d, h => by
    cases d with
    | str x => exact ⟨h, by simp [toPy, PyData.depth]⟩
    | tup xs => exact (show False from h).elim
    | rol xs => exact (show False from h).elim
    | loc a => exact (show False from h).elim
    | ty a => exact (show False from h).elim
    | _ => exact ⟨rfl, by simp [toPy, PyData.depth]⟩
  | n + 1, d, h => by
    cases d with
    | str x => exact ⟨h, by simp [toPy, PyData.depth]⟩
    | tup xs =>
      have h' : ∀ x ∈ xs, fine n x := h
      refine ⟨lay_all xs fun x hx => (fine_lay n x (h' x hx)).1, ?_⟩
      have q := deep_all xs (n + 1) fun x hx => (fine_lay n x (h' x hx)).2
      simp only [toPy, PyData.depth]
      omega
    | rol xs => exact (show False from h).elim
    | loc a => exact (show False from h).elim
    | ty a => exact (show False from h).elim
    | _ => exact ⟨rfl, by simp [toPy, PyData.depth]⟩
theorem fine_shaped {n : Nat} {d : D} (h : fine n d) (hn : n ≤ 60) : SeqAt.shaped (toPy d) = true := by
  obtain ⟨a, b⟩ := fine_lay n d h
  unfold SeqAt.shaped
  rw [a, decide_eq_true (by omega)]
  rfl
theorem reps_dp {K : PySem.W.Frag} {H : Hp} : ∀ (ds : List D), (∀ d ∈ ds, ∀ v, Rep K H d v → Dp K H v (toPy d)) → ∀ vs, Reps K H ds vs → DpAll K H vs (toPys ds)
  | [], _, _, .nil => .nil
  | d :: ds, f, _, .cons h r => .cons (f d List.mem_cons_self _ h) (reps_dp ds (fun y hy => f y (List.mem_cons_of_mem _ hy)) _ r)
theorem fine_dp {K : PySem.W.Frag} {H : Hp} : ∀ (n : Nat) (d : D), fine n d → ∀ v, Rep K H d v → Dp K H v (toPy d)
  | 0, d, h, v, r => by
    cases r with
    | non => exact .non
    | bl b => exact .bl b
    | int i => exact .int i
    | str x => exact .str x
    | _ => exact (show False from h).elim
  | n + 1, d, h, v, r => by
    cases r with
    | non => exact .non
    | bl b => exact .bl b
    | int i => exact .int i
    | str x => exact .str x
    | tup hq q =>
      have h' : ∀ x ∈ _, fine n x := h
      exact .tup hq (reps_dp _ (fun d hd => fine_dp n d (h' d hd)) _ q)
    | _ => exact (show False from h).elim
/-- x == y, x != y -/
def rdEqN (g : Bool → Bool) : RD := fun x y S Q => match x, y with
  | .loc p, .loc q => match S p, S q with
    | some (.lst xs), some (.lst ys) => ((∀ x ∈ xs, fine 50 x) ∧ ∀ x ∈ ys, fine 50 x) ∧ Q (.bl (g (PyData.eqvAll (toPys xs) (toPys ys)))) S
    | _, _ => False
  | .int i, .int j => Q (.bl (g (decide (i = j)))) S
  | .str i, .str j => Q (.bl (g (decide (i = j)))) S
  | x, y => (fine 50 x ∧ fine 50 y) ∧ Q (.bl (g (PyData.eqv (toPy x) (toPy y)))) S
def rdEq : RD := rdEqN fun b => b
def rdNe : RD := rdEqN fun b => !b
theorem dp_lst {K : PySem.W.Frag} {S : Sto} {H : Hp} {p : Addr} {xs : List D} (rs : RelS K S H) (e : S p = some (.lst xs)) (f : ∀ x ∈ xs, fine 50 x) : Dp K H (.ref p) (.list (toPys xs)) ∧ SeqAt.shaped (.list (toPys xs)) = true := by
  obtain ⟨vs, a, b⟩ := rs _ _ e
  refine ⟨.lst (.of a) (reps_dp _ (fun d hd => fine_dp 50 d (f d hd)) _ b), ?_⟩
  have q := deep_all xs 51 fun x hx => (fine_lay 50 x (f x hx)).2
  unfold SeqAt.shaped
  rw [Bool.and_eq_true]
  refine ⟨lay_all xs fun x hx => (fine_lay 50 x (f x hx)).1, decide_eq_true ?_⟩
  simp only [PyData.depth]
  omega
theorem em_eqv {K : PySem.W.Frag} {g : Bool → Bool} {d1 d2 : D} {S : Sto} {Q0 : DK} {v1 v2 : V} {H : Hp} {Q : VK} (rs : RelS K S H) (r1 : Rep K H d1 v1) (r2 : Rep K H d2 v2) (h : rdEqN g d1 d2 S Q0)
    (k : ∀ d S' v H', Q0 d S' → Post K S H S' H' → RelS K S' H' → Rep K H' d v → Q v H') : (∃ d e, Dp K H v1 d ∧ Dp K H v2 e ∧ SeqAt.shaped d = true ∧ SeqAt.shaped e = true ∧ Q (.bl (g (PyData.eqv d e))) H) ∨ (scal v1 v2 = true ∧ Q (.bl (g (decide (v1 = v2)))) H) := by
  unfold rdEqN at h
  split at h
  · cases r1; cases r2
    split at h
    · rename_i xs ys e1 e2
      obtain ⟨a1, b1⟩ := dp_lst rs e1 h.1.1
      obtain ⟨a2, b2⟩ := dp_lst rs e2 h.1.2
      exact .inl ⟨_, _, a1, a2, b1, b2, k _ S _ H h.2 Post.refl rs (.bl _)⟩
    · exact h.elim
  · cases r1; cases r2
    exact .inl ⟨_, _, .int _, .int _, rfl, rfl, k _ S _ H (by simpa only [PyData.eqv, Bool.beq_eq_decide_eq] using h) Post.refl rs (.bl _)⟩
  · cases r1; cases r2
    rename_i i j
    have e : decide (V.str i = V.str j) = decide (i = j) := by simp
    exact .inr ⟨rfl, k _ S _ H (by rw [e]; exact h) Post.refl rs (.bl _)⟩
  · exact .inl ⟨_, _, fine_dp 50 _ h.1.1 _ r1, fine_dp 50 _ h.1.2 _ r2, fine_shaped h.1.1 (by decide), fine_shaped h.1.2 (by decide), k _ S _ H h.2 Post.refl rs (.bl _)⟩
def rEqA (K : PySem.W.Frag) : R2 := fun x y H Q => rEqD K x y H Q ∨ rEq x y H Q
def rNeA (K : PySem.W.Frag) : R2 := fun x y H Q => rNeD K x y H Q ∨ rNe x y H Q
theorem op_eqA {X : Cx} (hu : X.A.units + 64 < cLine) : OpR X (compareOp .Eq) (rEqA X.K) := (op_eqD hu).or op_eq
theorem op_neA {X : Cx} (hu : X.A.units + 64 < cLine) : OpR X (compareOp .NotEq) (rNeA X.K) := (op_neD hu).or op_ne
theorem od_eq {K : PySem.W.Frag} : OpD K (rEqA K) rdEq := fun _ _ _ _ _ _ _ _ rs r1 r2 h k => em_eqv rs r1 r2 h k
theorem od_ne {K : PySem.W.Frag} : OpD K (rNeA K) rdNe := fun _ _ _ _ _ _ _ _ rs r1 r2 h k => em_eqv rs r1 r2 h k
end
end QL
end L2
namespace L2
namespace QL
open PySem PySem.Spec PyProof.Rows
section
variable {X : Cx}
/-! ### 8. tests -/
def dTru (t : TD) : TTD := fun e S Q => t e S fun d S1 => match d with
  | .non => Q false S1
  | .bl b => Q b S1
  | .int i => Q (i != 0) S1
  | .str x => x.length ≤ sizeLine ∧ Q ((x.length : Int) != 0) S1
  | .tup xs => Q (!xs.isEmpty) S1
  | .rol xs => Q (!xs.isEmpty) S1
  | .loc a => match S1 a with
    | some (.lst xs) => Q (!xs.isEmpty) S1
    | some (.dic kvs) => Q (!kvs.isEmpty) S1
    | _ => False
  | .ty _ => False
theorem reps_empty {K : PySem.W.Frag} {H : Hp} {ds : List D} {vs : List V} (r : Reps K H ds vs) : ds.isEmpty = vs.isEmpty := by cases r <;> rfl
theorem ro_sql {K : PySem.W.Frag} {H : Hp} {a : Addr} {vs : List V} (h : Ro K H a vs) : SqL K H a vs := by
  rcases h with ⟨o, h⟩ | h
  · exact .inl (.inr ⟨o, h⟩)
  · rcases h with h | h
    · rcases h with h | ⟨_, h⟩ <;> cases h
    · exact .inr h
theorem em_tru {K : PySem.W.Frag} {t : TD} {σ : St} {H : Hp} {Q : Bool → Hp → Prop} (h : emT K (dTru t) σ H Q) : emE K t σ H (fun x H' => ∃ k, TruV K x H' k ∧ Q k H') := by
  obtain ⟨e, S, Q0, re, rs, ht, k⟩ := h
  refine ⟨e, S, _, re, rs, ht, fun d S1 v H1 q p rs1 r => ?_⟩
  cases r with
  | non => exact ⟨_, rfl, k _ S1 H1 q p rs1⟩
  | bl b => exact ⟨_, rfl, k _ S1 H1 q p rs1⟩
  | int b => exact ⟨_, rfl, k _ S1 H1 q p rs1⟩
  | str b => exact ⟨_, ⟨q.1, rfl⟩, k _ S1 H1 q.2 p rs1⟩
  | ty n => exact q.elim
  | tup hq r => exact ⟨_, .inr (.inl ⟨_, hq, rfl⟩), k _ S1 H1 (by rw [← reps_empty r]; exact q) p rs1⟩
  | rol hq r => exact ⟨_, .inl ⟨_, ro_sql hq, rfl⟩, k _ S1 H1 (by rw [← reps_empty r]; exact q) p rs1⟩
  | loc a =>
    dsimp only at q
    split at q
    · rename_i xs e1
      obtain ⟨vs, a1, b1⟩ := rs1 _ _ e1
      exact ⟨_, .inl ⟨_, .of a1, rfl⟩, k _ S1 H1 (by rw [← reps_empty b1]; exact q) p rs1⟩
    · rename_i kvs e1
      obtain ⟨vs, a1, b1⟩ := rs1 _ _ e1
      exact ⟨_, .inr (.inr ⟨_, a1, rfl⟩), k _ S1 H1 (by
        have e : kvs.isEmpty = vs.isEmpty := by cases b1 <;> rfl
        rw [← e]; exact q) p rs1⟩
    · exact q.elim
section
variable {a b c : Expr} {rest : List Expr} {pos : Pos} {ta tb tc : TTD} {te tf : TD}
theorem dt_tru (h : DE X a te) (he : ∀ whole, isTrue a X.env whole = (do let v ← whole; standAt a.pos; holding [v] (truthy v)) := by intro _; rfl) : DT X a (dTru te) :=
  PT.le (pt_truth h he) fun _ _ _ q => em_tru q
def dAnd (t u : TTD) : TTD := fun e S Q => t e S fun c S1 => match c with
  | true => u e S1 Q
  | false => Q false S1
def dOr (t u : TTD) : TTD := fun e S Q => t e S fun c S1 => match c with
  | true => Q true S1
  | false => u e S1 Q
def dNot (t : TTD) : TTD := fun e S Q => t e S fun c S1 => Q (!c) S1
theorem dw_and1 (ha : DT X a ta) : DW X (.BoolOp .And [a] pos) ta := pw_and1 ha
theorem dw_or1 (ha : DT X a ta) : DW X (.BoolOp .Or [a] pos) ta := pw_or1 ha
theorem dw_and (ha : DT X a ta) (hb : DW X (.BoolOp .And (b :: rest) pos) tb) : DW X (.BoolOp .And (a :: b :: rest) pos) (dAnd ta tb) :=
  PW.le (pw_and ha hb) fun σ H Q h => by
    obtain ⟨e, S, Q0, re, rs, ht, k⟩ := h
    refine ⟨e, S, _, re, rs, ht, fun d S1 H1 q p rs1 => ?_⟩
    cases d with
    | true => exact iteT ⟨e, S1, Q0, re.mono p.tk, rs1, q, fun b S' H' q' p' rs' => k b S' H' q' (p.trans p') rs'⟩
    | false => exact iteF (k _ S1 H1 q p rs1)
theorem dw_or (ha : DT X a ta) (hb : DW X (.BoolOp .Or (b :: rest) pos) tb) : DW X (.BoolOp .Or (a :: b :: rest) pos) (dOr ta tb) :=
  PW.le (pw_or ha hb) fun σ H Q h => by
    obtain ⟨e, S, Q0, re, rs, ht, k⟩ := h
    refine ⟨e, S, _, re, rs, ht, fun d S1 H1 q p rs1 => ?_⟩
    cases d with
    | true => exact iteT (k _ S1 H1 q p rs1)
    | false => exact iteF ⟨e, S1, Q0, re.mono p.tk, rs1, q, fun b S' H' q' p' rs' => k b S' H' q' (p.trans p') rs'⟩
theorem dw_pt (h : DW X a ta) : DT X a ta := PW.pt h
theorem dt_not (ha : DT X a ta) : DT X (.UnaryOp .Not a pos) (dNot ta) :=
  PT.le (pt_not ha) fun σ H Q h => by
    obtain ⟨e, S, Q0, re, rs, ht, k⟩ := h
    exact ⟨e, S, _, re, rs, ht, fun d S1 H1 q p rs1 => k _ S1 H1 q p rs1⟩
/-- and, or as values: all but the last bools -/
def dAndV (t u : TD) : TD := fun e S Q => t e S fun d S1 => match d with
  | .bl true => u e S1 Q
  | .bl false => Q (.bl false) S1
  | _ => False
def dOrV (t u : TD) : TD := fun e S Q => t e S fun d S1 => match d with
  | .bl true => Q (.bl true) S1
  | .bl false => u e S1 Q
  | _ => False
def dNotV (t : TD) : TD := fun e S Q => t e S fun d S1 => match d with
  | .bl b => Q (.bl (!b)) S1
  | _ => False
theorem de_one {op} (h : DE X a te) : DE X (.BoolOp op [a] pos) te := pe_one h
theorem de_and (ha : DE X a te) (hb : DE X (.BoolOp .And (b :: rest) pos) tf) : DE X (.BoolOp .And (a :: b :: rest) pos) (dAndV te tf) :=
  PE.le (pe_and ha hb) fun σ H Q h => by
    obtain ⟨e, S, Q0, re, rs, ht, k⟩ := h
    refine ⟨e, S, _, re, rs, ht, fun d S1 v H1 q p rs1 r => ?_⟩
    cases r with
    | bl b =>
      refine ⟨b, rfl, ?_⟩
      cases b with
      | true => exact iteT ⟨e, S1, Q0, re.mono p.tk, rs1, q, fun b S' v' H' q' p' rs' => k b S' v' H' q' (p.trans p') rs'⟩
      | false => exact iteF (k _ S1 _ H1 q p rs1 (.bl _))
    | _ => exact q.elim
theorem de_or (ha : DE X a te) (hb : DE X (.BoolOp .Or (b :: rest) pos) tf) : DE X (.BoolOp .Or (a :: b :: rest) pos) (dOrV te tf) :=
  PE.le (pe_or ha hb) fun σ H Q h => by
    obtain ⟨e, S, Q0, re, rs, ht, k⟩ := h
    refine ⟨e, S, _, re, rs, ht, fun d S1 v H1 q p rs1 r => ?_⟩
    cases r with
    | bl b =>
      refine ⟨b, rfl, ?_⟩
      cases b with
      | true => exact iteT (k _ S1 _ H1 q p rs1 (.bl _))
      | false => exact iteF ⟨e, S1, Q0, re.mono p.tk, rs1, q, fun b S' v' H' q' p' rs' => k b S' v' H' q' (p.trans p') rs'⟩
    | _ => exact q.elim
theorem de_not (ha : DE X a te) : DE X (.UnaryOp .Not a pos) (dNotV te) :=
  PE.le (pe_not ha) fun σ H Q h => by
    obtain ⟨e, S, Q0, re, rs, ht, k⟩ := h
    refine ⟨e, S, _, re, rs, ht, fun d S1 v H1 q p rs1 r => ?_⟩
    cases r with
    | bl b => exact ⟨b, rfl, k _ S1 _ H1 q p rs1 (.bl _)⟩
    | _ => exact q.elim
def dIf (t : TTD) (u v : TD) : TD := fun e S Q => t e S fun c S1 => match c with
  | true => u e S1 Q
  | false => v e S1 Q
theorem de_if (hc : DT X c tc) (ha : DE X a te) (hb : DE X b tf) : DE X (.IfExp c a b pos) (dIf tc te tf) :=
  PE.le (pe_ifExp hc ha hb) fun σ H Q h => by
    obtain ⟨e, S, Q0, re, rs, ht, k⟩ := h
    refine ⟨e, S, _, re, rs, ht, fun d S1 H1 q p rs1 => ?_⟩
    cases d with
    | true => exact iteT ⟨e, S1, Q0, re.mono p.tk, rs1, q, fun b S' v' H' q' p' rs' => k b S' v' H' q' (p.trans p') rs'⟩
    | false => exact iteF ⟨e, S1, Q0, re.mono p.tk, rs1, q, fun b S' v' H' q' p' rs' => k b S' v' H' q' (p.trans p') rs'⟩
end
/-- x is None, x is not None -/
def isNon : D → Bool
  | .non => true
  | _ => false
def rdIsN (g : Bool → Bool) : RD := fun x y S Q => match y with
  | .non => Q (.bl (g (isNon x))) S
  | _ => False
theorem rep_non {K : PySem.W.Frag} {H : Hp} {d : D} {v : V} (r : Rep K H d v) : decide (v = .non) = isNon d := by cases r <;> rfl
theorem od_is {K : PySem.W.Frag} : OpD K (fun x y H Q => y = .non ∧ Q (.bl (decide (x = .non))) H) (rdIsN fun b => b) := by
  intro d1 d2 S Q0 v1 v2 H Q rs r1 r2 h k
  cases r2 with
  | non => exact ⟨rfl, by rw [rep_non r1]; exact k _ S _ H h Post.refl rs (.bl _)⟩
  | _ => exact h.elim
theorem od_isnot {K : PySem.W.Frag} : OpD K (fun x y H Q => y = .non ∧ Q (.bl (!decide (x = .non))) H) (rdIsN fun b => !b) := by
  intro d1 d2 S Q0 v1 v2 H Q rs r1 r2 h k
  cases r2 with
  | non => exact ⟨rfl, by rw [rep_non r1]; exact k _ S _ H h Post.refl rs (.bl _)⟩
  | _ => exact h.elim
/-- x in a tuple or list of flat items -/
def flatD : D → Bool
  | .non => true
  | .bl _ => true
  | .int _ => true
  | .str _ => true
  | _ => false
def toV : D → V
  | .non => .non
  | .bl b => .bl b
  | .int i => .int i
  | .str x => .str x
  | _ => .non
theorem flat_rep {K : PySem.W.Frag} {H : Hp} {d : D} {v : V} (r : Rep K H d v) (f : flatD d = true) : v = toV d ∧ flatV v = true := by
  cases r <;> first | exact ⟨rfl, rfl⟩ | cases f
theorem flat_reps {K : PySem.W.Frag} {H : Hp} : ∀ {ds : List D} {vs : List V}, Reps K H ds vs → (∀ x ∈ ds, flatD x = true) → vs = ds.map toV ∧ vs.all flatV = true
  | _, _, .nil, _ => ⟨rfl, rfl⟩
  | _, _, .cons h r, f => by
    obtain ⟨e1, e2⟩ := flat_rep h (f _ List.mem_cons_self)
    obtain ⟨e3, e4⟩ := flat_reps r fun x hx => f x (List.mem_cons_of_mem _ hx)
    exact ⟨by rw [e1, e3]; rfl, by rw [List.all_cons, e2, e4]; rfl⟩
def inD (x : D) (ys : List D) : Bool := inV (toV x) (ys.map toV)
def rdIn (g : Bool → Bool) : RD := fun x y S Q => match y with
  | .tup ys => (flatD x = true ∧ ∀ z ∈ ys, flatD z = true) ∧ Q (.bl (g (inD x ys))) S
  | .rol ys => (flatD x = true ∧ ∀ z ∈ ys, flatD z = true) ∧ Q (.bl (g (inD x ys))) S
  | .loc p => match S p with
    | some (.lst ys) => (flatD x = true ∧ ∀ z ∈ ys, flatD z = true) ∧ Q (.bl (g (inD x ys))) S
    | _ => False
  | _ => False
theorem em_in {K : PySem.W.Frag} {g : Bool → Bool} {d1 d2 : D} {S : Sto} {Q0 : DK} {v1 v2 : V} {H : Hp} {Q : VK} (rs : RelS K S H) (r1 : Rep K H d1 v1) (r2 : Rep K H d2 v2) (h : rdIn g d1 d2 S Q0)
    (k : ∀ d S' v H', Q0 d S' → Post K S H S' H' → RelS K S' H' → Rep K H' d v → Q v H') : ∃ p xs, v2 = .ref p ∧ (SqL K H p xs ∨ SqT K H p xs) ∧ flatV v1 = true ∧ xs.all flatV = true ∧ Q (.bl (g (inV v1 xs))) H := by
  cases r2 with
  | tup hq r =>
    obtain ⟨e1, e2⟩ := flat_rep r1 h.1.1
    obtain ⟨e3, e4⟩ := flat_reps r h.1.2
    exact ⟨_, _, rfl, .inr hq, e2, e4, by rw [e1, e3]; exact k _ S _ H h.2 Post.refl rs (.bl _)⟩
  | rol hq r =>
    obtain ⟨e1, e2⟩ := flat_rep r1 h.1.1
    obtain ⟨e3, e4⟩ := flat_reps r h.1.2
    exact ⟨_, _, rfl, .inl (ro_sql hq), e2, e4, by rw [e1, e3]; exact k _ S _ H h.2 Post.refl rs (.bl _)⟩
  | loc a =>
    dsimp only [rdIn] at h
    split at h
    · rename_i ys e
      obtain ⟨vs, a1, r⟩ := rs _ _ e
      obtain ⟨e1, e2⟩ := flat_rep r1 h.1.1
      obtain ⟨e3, e4⟩ := flat_reps r h.1.2
      exact ⟨_, _, rfl, .inl (.of a1), e2, e4, by rw [e1, e3]; exact k _ S _ H h.2 Post.refl rs (.bl _)⟩
    · exact h.elim
  | _ => exact h.elim
theorem od_in {K : PySem.W.Frag} : OpD K (rIn K false) (rdIn fun b => b) := fun _ _ _ _ _ _ _ _ rs r1 r2 h k => em_in rs r1 r2 h k
theorem od_notIn {K : PySem.W.Frag} : OpD K (rIn K true) (rdIn fun b => !b) := fun _ _ _ _ _ _ _ _ rs r1 r2 h k => em_in rs r1 r2 h k

/-! ### 9. items, parts -/
def rdIx : RD := fun x y S Q => match y with
  | .int i => match x with
    | .tup xs => match atI xs i with
      | some d => Q d S
      | none => False
    | .rol xs => match atI xs i with
      | some d => Q d S
      | none => False
    | .str z => z.length ≤ sizeLine ∧ match atI z.cps.toList i with
      | some c => Q (.str ⟨#[c]⟩) S
      | none => False
    | .loc p => match S p with
      | some (.lst xs) => match atI xs i with
        | some d => Q d S
        | none => False
      | _ => False
    | _ => False
  | _ => False
theorem atI_reps {K : PySem.W.Frag} {H : Hp} {ds : List D} {vs : List V} {i : Int} {d : D} (r : Reps K H ds vs) (e : atI ds i = some d) : ∃ v, atI vs i = some v ∧ Rep K H d v := by
  unfold atI at e ⊢
  rw [← r.length]
  cases q : ixN ds.length i with
  | none => rw [q] at e; cases e
  | some j =>
    rw [q] at e
    exact r.get (i := j) e
theorem od_ix {K : PySem.W.Frag} : OpD K (rIx K) rdIx := by
  intro d1 d2 S Q0 v1 v2 H Q rs r1 r2 h k
  cases r2 with
  | int i =>
    cases r1 with
    | tup hq r =>
      dsimp only [rdIx] at h
      split at h
      · rename_i d e
        obtain ⟨v, e1, e2⟩ := atI_reps r e
        exact .inr (.inl ⟨_, _, _, _, rfl, rfl, hq, e1, k _ S _ H h Post.refl rs e2⟩)
      · exact h.elim
    | rol hq r =>
      dsimp only [rdIx] at h
      split at h
      · rename_i d e
        obtain ⟨v, e1, e2⟩ := atI_reps r e
        exact .inl ⟨_, _, _, _, rfl, rfl, ro_sql hq, e1, k _ S _ H h Post.refl rs e2⟩
      · exact h.elim
    | str z =>
      dsimp only [rdIx] at h
      obtain ⟨hz, h⟩ := h
      split at h
      · rename_i c e
        exact .inr (.inr ⟨_, _, _, rfl, rfl, hz, e, k _ S _ H h Post.refl rs (.str _)⟩)
      · exact h.elim
    | loc p =>
      dsimp only [rdIx] at h
      split at h
      · rename_i xs e
        obtain ⟨vs, a1, r⟩ := rs _ _ e
        split at h
        · rename_i d e
          obtain ⟨v, e1, e2⟩ := atI_reps r e
          exact .inl ⟨_, _, _, _, rfl, rfl, .of a1, e1, k _ S _ H h Post.refl rs e2⟩
        · exact h.elim
      · exact h.elim
    | _ => exact (show False from h).elim
  | _ => exact (show False from h).elim
theorem de_ix {a b : Expr} {ta tb : TD} {pos : Pos} (ha : DE X a ta) (hb : DE X b tb) (hs : PlainIx b := by intro _ _; rfl) : DE X (.Subscript a b pos) (dBin rdIx ta tb) :=
  PE.le (pe_ix ix_seq ha hb hs) fun _ _ _ h => em_bin od_ix h
/-- x[lo:hi] -/
abbrev TOD := DEnv → Sto → (Option Int → Sto → Prop) → Prop
def emO (K : PySem.W.Frag) (t : TOD) : TO := fun σ H Q => ∃ e S Q0, RelE K H e σ ∧ RelS K S H ∧ t e S Q0 ∧ ∀ o S' H', Q0 o S' → Post K S H S' H' → RelS K S' H' → Q o H'
abbrev DO (X : Cx) (e : Option Expr) (t : TOD) : Prop := PO X e (emO X.K t)
theorem PO.le {e : Option Expr} {t u : TO} (h : PO X e t) (k : ∀ σ H Q, u σ H Q → t σ H Q) : PO X e u := ⟨fun pins s σ H Q I q => h.run pins s σ H Q I (k _ _ _ q)⟩
def dNoPart : TOD := fun _ S Q => Q none S
def dPart (t : TD) : TOD := fun e S Q => t e S fun d S1 => match d with
  | .int i => Q (some i) S1
  | _ => False
theorem do_none : DO X none dNoPart := PO.le po_none fun σ H Q h => by
  obtain ⟨e, S, Q0, re, rs, ht, k⟩ := h
  exact k _ S H ht Post.refl rs
theorem do_some {a : Expr} {t : TD} (h : DE X a t) : DO X (some a) (dPart t) := PO.le (po_some h) fun σ H Q h => by
  obtain ⟨e, S, Q0, re, rs, ht, k⟩ := h
  refine ⟨e, S, _, re, rs, ht, fun d S1 v H1 q p rs1 r => ?_⟩
  cases r with
  | int i => exact ⟨i, rfl, k _ S1 H1 q p rs1⟩
  | _ => exact q.elim
def cutD {α : Type} (xs : List α) (lo hi : Option Int) : List α := (xs.drop (HT.sIx xs.length 0 lo)).take (HT.sIx xs.length xs.length hi - HT.sIx xs.length 0 lo)
def dSl (te : TD) (tl th : TOD) : TD := fun e S Q => te e S fun x S1 => tl e S1 fun lo S2 => th e S2 fun hi S3 => match x with
  | .tup xs => Q (.tup (cutD xs lo hi)) S3
  | .rol xs => ∀ a, S3 a = none → Q (.loc a) (S3.put a (.lst (cutD xs lo hi)))
  | .loc p => match S3 p with
    | some (.lst xs) => ∀ a, S3 a = none → Q (.loc a) (S3.put a (.lst (cutD xs lo hi)))
    | _ => False
  | _ => False
theorem reps_cut {K : PySem.W.Frag} {H : Hp} {ds : List D} {vs : List V} (lo hi : Option Int) (r : Reps K H ds vs) : Reps K H (cutD ds lo hi) (cutV vs lo hi) := by
  unfold cutD cutV
  rw [r.length]
  exact (r.drop _).take _
theorem cut_all {α : Type} {xs : List α} {lo hi : Option Int} (h : HT.sIx xs.length 0 lo = 0 ∧ HT.sIx xs.length xs.length hi = xs.length) : cutD xs lo hi = xs := by
  unfold cutD
  rw [h.1, h.2]
  simp
theorem de_slice {a : Expr} {lo hi : Option Expr} {te : TD} {tl th : TOD} {pos p2 : Pos} (he : DE X a te) (hl : DO X lo tl) (hh : DO X hi th) : DE X (.Subscript a (.Slice lo hi none p2) pos) (dSl te tl th) :=
  PE.le (pe_slice (sl_tupA.or sl_list) he hl hh) fun σ H Q h => by
    obtain ⟨e, S, Q0, re, rs, ht, k⟩ := h
    refine ⟨e, S, _, re, rs, ht, fun x S1 v1 H1 h1 p1 rs1 r1 => ?_⟩
    refine ⟨e, S1, _, re.mono p1.tk, rs1, h1, fun lo S2 H2 h2 p2 rs2 => ?_⟩
    refine ⟨e, S2, _, re.mono (p1.trans p2).tk, rs2, h2, fun hi S3 H3 h3 p3 rs3 => ?_⟩
    have pp := (p1.trans p2).trans p3
    have r3 := r1.mono (p2.trans p3).tk
    cases r3 with
    | tup hq r =>
      refine .inl ⟨_, _, rfl, hq, fun e0 => ?_, fun _ p hp => ?_⟩
      · dsimp only at h3
        rw [cut_all (by rw [r.length]; exact e0)] at h3
        exact k _ S3 _ H3 h3 pp rs3 (.tup hq r)
      · have f : Free (H3 p) := by rw [hp]; trivial
        exact k _ S3 _ _ h3 (pp.trans (Post.lay hp)) (rs3.upd f (rs3.none_of hp)) (.tup (.of upd_same) ((reps_cut lo hi r).mono (TK.upd f)))
    | rol hq r =>
      exact .inr ⟨_, _, rfl, ro_sql hq, fun p hp => k _ _ _ _ (h3 p (rs3.none_of hp)) (pp.trans (Post.new hp)) (new_lst rs3 hp (reps_cut lo hi r)) (.loc p)⟩
    | loc a =>
      dsimp only at h3
      split at h3
      · rename_i xs e1
        obtain ⟨vs, a1, r⟩ := rs3 _ _ e1
        exact .inr ⟨_, _, rfl, .of a1, fun p hp => k _ _ _ _ (h3 p (rs3.none_of hp)) (pp.trans (Post.new hp)) (new_lst rs3 hp (reps_cut lo hi r)) (.loc p)⟩
      · exact h3.elim
    | _ => exact h3.elim

/-! ### 10. arguments, displays -/
def dNil : TAD := fun _ S Q => Q [] S
def dCons (t : TD) (u : TAD) : TAD := fun e S Q => t e S fun d S1 => u e S1 fun ds S2 => Q (d :: ds) S2
theorem da_nil : DA X [] dNil := PA.le pa_nil fun σ H Q h => by
  obtain ⟨e, S, Q0, re, rs, ht, k⟩ := h
  exact k _ S _ H ht Post.refl rs .nil
theorem da_cons {e : Expr} {es : List Expr} {te : TD} {t : TAD} (ha : DE X e te) (hr : DA X es t) (hs : starEach (e :: es) X.env = (false, eval e X.env) :: starEach es X.env := by rfl) : DA X (e :: es) (dCons te t) :=
  PA.le (pa_cons ha hr hs) fun σ H Q h => by
    obtain ⟨e, S, Q0, re, rs, ht, k⟩ := h
    refine ⟨e, S, _, re, rs, ht, fun x S1 v1 H1 h1 p1 rs1 r1 => ?_⟩
    refine ⟨e, S1, _, re.mono p1.tk, rs1, h1, fun ds S2 vs H2 h2 p2 rs2 r2 => ?_⟩
    exact k _ S2 _ H2 h2 (p1.trans p2) rs2 (.cons (r1.mono p2.tk) r2)
def dTup (t : TAD) : TD := fun e S Q => t e S fun ds S1 => ds.length ≤ 1000 ∧ Q (.tup ds) S1
def dLst (t : TAD) : TD := fun e S Q => t e S fun ds S1 => ds.length ≤ 1000 ∧ ∀ a, S1 a = none → Q (.loc a) (S1.put a (.lst ds))
theorem le1000 {n : Nat} (h : n ≤ 1000) : n ≤ sizeLine := by rw [sizeLine_eq]; omega
theorem de_tup {es : List Expr} {t : TAD} {x1} {pos : Pos} (h : DA X es t) : DE X (.Tuple es x1 pos) (dTup t) :=
  PE.le (pe_tup h) fun σ H Q h => by
    obtain ⟨e, S, Q0, re, rs, ht, k⟩ := h
    refine ⟨e, S, _, re, rs, ht, fun ds S1 vs H1 h1 p1 rs1 r1 => ⟨le1000 (by rw [← r1.length]; exact h1.1), fun p hp => ?_⟩⟩
    have f : Free (H1 p) := by rw [hp]; trivial
    exact k _ S1 _ _ h1.2 (p1.trans (Post.lay hp)) (rs1.upd f (rs1.none_of hp)) (.tup (.of upd_same) (r1.mono (TK.upd f)))
theorem de_lst {es : List Expr} {t : TAD} {pos : Pos} (h : DA X es t) : DE X (.List es pos) (dLst t) :=
  PE.le (pe_lst h) fun σ H Q h => by
    obtain ⟨e, S, Q0, re, rs, ht, k⟩ := h
    refine ⟨e, S, _, re, rs, ht, fun ds S1 vs H1 h1 p1 rs1 r1 => ⟨le1000 (by rw [← r1.length]; exact h1.1), fun p hp => ?_⟩⟩
    exact k _ _ _ _ (h1.2 p (rs1.none_of hp)) (p1.trans (Post.new hp)) (new_lst rs1 hp r1) (.loc p)
end
end QL
end L2
/-! strict zip over lists and tuples; enumerate over both -/
namespace L2
namespace QL
open PySem PySem.Spec PyProof.Rows
/-! ### the source: a list (true) or a tuple (false) -/
def SrcIs (K : PySem.W.Frag) (H : Hp) (k : Bool) (a : Addr) (xs : List V) : Prop := match k with
  | true => SqL K H a xs
  | false => SqT K H a xs
def ItSt (k : Bool) (h : Heap) (i l : Addr) (n : Nat) : Prop := match k with
  | true => h.IsListIter i l n
  | false => h.IsTupleIter i l n
def SeqIs (k : Bool) (h : Heap) (l : Addr) (items : Array Value) : Prop := match k with
  | true => h.IsList l items
  | false => h.IsTuple l items
def itObj (k : Bool) (l : Addr) : Obj := { cls := .type (match k with | true => "list_iterator" | false => "tuple_iterator"), data := .fields #[.ref l, .int 0 0] }
theorem src_seq {X : Cx} {pins : List (Addr × Obj)} {σ : St} {H : Hp} {s : Shared} {k : Bool} {a : Addr} {xs : List V} (I : Inv X pins σ H s) (h : SrcIs X.K H k a xs) :
    ∃ its : List Value, Vals xs its ∧ SeqIs k s.heap a its.toArray ∧ xs.length ≤ sizeLine ∧ a < s.heap.objs.size := by
  cases k with
  | true => obtain ⟨its, r, p, z⟩ := I.list h; exact ⟨its, r, p.isList, z, p.lt⟩
  | false => obtain ⟨its, r, p, z⟩ := I.tuple h; exact ⟨its, r, p, z, p.lt⟩
theorem src_draws {prog : Program} {w : World} {A : Around} (hh : A.handled = none) (k : Bool) {it l : Addr} (hne : l ≠ it) (items : Array Value) :
    Draws prog w A it [it, l] items.size (fun i v => items[i]? = some v) (fun i h => ItSt k h it l i ∧ SeqIs k h l items) := by
  cases k with
  | true => exact Draws.list hh it l hne items
  | false => exact Draws.tuple hh it l hne items
theorem src_begins (k : Bool) (l : Addr) (items : Array Value) : Begins (.ref l) (itObj k l) (fun h => SeqIs k h l items) := by
  cases k with
  | true => exact begins_list l items
  | false => exact begins_tuple l items
theorem ItSt.at {k : Bool} {h h' : Heap} {i l : Addr} {n : Nat} (x : ItSt k h i l n) (f : ∀ o, h.get? i = some o → h'.get? i = some o) : ItSt k h' i l n := by
  cases k with
  | true => exact PySem.Heap.IsListIter.at x f
  | false => exact PySem.Heap.IsTupleIter.at x f
theorem ItSt.there {k : Bool} {h : Heap} {i l : Addr} {n : Nat} (x : ItSt k h i l n) : ∃ o, h.get? i = some o ∧ ∀ v, o.data ≠ .cell v := by
  cases k with
  | true => obtain ⟨o, e, _, d⟩ := x; exact ⟨o, e, fun v z => by rw [d] at z; cases z⟩
  | false => obtain ⟨o, e, _, d⟩ := x; exact ⟨o, e, fun v z => by rw [d] at z; cases z⟩
theorem itst_new {k : Bool} {h : Heap} {i l : Addr} (e : h.get? i = some (itObj k l)) : ItSt k h i l 0 := by
  cases k with
  | true => exact ⟨_, e, rfl, rfl⟩
  | false => exact ⟨_, e, rfl, rfl⟩
theorem SeqIs.at {k : Bool} {h h' : Heap} {l : Addr} {items : Array Value} (x : SeqIs k h l items) (f : ∀ o, h.get? l = some o → h'.get? l = some o) : SeqIs k h' l items := by
  cases k with
  | true => exact PySem.Heap.IsList.at x f
  | false => exact PySem.Heap.IsTuple.at x f
theorem SrcIs.inj {X : Cx} {pins : List (Addr × Obj)} {σ : St} {H : Hp} {s : Shared} {k : Bool} {a : Addr} {xs ys : List V} (I : Inv X pins σ H s) (h : SrcIs X.K H k a xs) (h' : SrcIs X.K H k a ys) : xs = ys := by
  cases k with
  | true => exact I.list_inj h h'
  | false => exact I.tuple_inj h h'

/-! ### one draw that may be the end -/
section
variable {prog : Program} {w : World} {A : Around} {E : Value → Shared → Prop} {s : Shared} {it : Addr} {fp : List Addr} {n i : Nat} {P : Nat → Value → Prop} {St0 : Nat → Heap → Prop}
theorem orEnd_item {Q : Option Value → Shared → Prop} (D : Draws prog w A it fp n P St0) (hi : i < n) (st : St0 i s.heap)
    (h : ∀ x h' tk, P i x → St0 (i + 1) h' → Heap.SameBut it s.heap h' → Q (some x) { s with heap := h', toks := tk }) : wpAny (model prog w) A (Builtin.SmallTypes.nextOrEnd (.ref it)) Q E s := by
  unfold Builtin.SmallTypes.nextOrEnd
  exact wpAny_bind (wpAny_attempt (D.item i s _ _ hi st fun x h' tk a b c => wpAny_pure (h x h' tk a b c)))
theorem orEnd_end {Q : Option Value → Shared → Prop} (D : Draws prog w A it fp n P St0) (st : St0 n s.heap) (h : ∀ h', Heap.ExtBut it s.heap h' → Q none { s with heap := h' }) :
    wpAny (model prog w) A (Builtin.SmallTypes.nextOrEnd (.ref it)) Q E s := by
  unfold Builtin.SmallTypes.nextOrEnd
  refine wpAny_bind (wpAny_attempt (D.done s _ _ st fun h' e a ⟨o, ho, hc⟩ => ?_))
  refine wpAny_bind (wpAny_isInstance (T := "StopIteration") (b := true) ⟨o, ho, hc⟩ isSubtype_stop ?_)
  exact wpAny_pure (h h' a)
end

/-! ### the strict zip's record -/
abbrev IsZipS (h : Heap) (z TI TO : Addr) (f0 : Value) : Prop :=
  h.get? z = some { cls := .type "zip", dict := none, data := .fields #[f0, .bool false, .bool true, .ref TI, .ref TO], slots := #[] }
section
variable {prog : Program} {w : World} {A : Around} {E : Value → Shared → Prop} {s : Shared} {z TI TO i1 i2 : Addr} {fp1 fp2 : List Addr} {n i : Nat} {P1 P2 : Nat → Value → Prop} {St1 St2 : Nat → Heap → Prop} {a1 a2 : Value}
theorem zipS_item {Q : Value → Shared → Prop} (S : ZipSep2 z TI TO i1 i2 fp1 fp2) (D1 : Draws prog w A i1 fp1 n P1 St1) (D2 : Draws prog w A i2 fp2 n P2 St2)
    (hz : IsZipS s.heap z TI TO .none) (hTI : IsTupOf2 s.heap TI (.ref i1) (.ref i2)) (hTO : IsTupOf2 s.heap TO a1 a2) (st1 : St1 i s.heap) (st2 : St2 i s.heap) (hlt : i < n)
    (hQ : ∀ x1 x2 h' tk, P1 i x1 → P2 i x2 → IsZipS h' z TI TO (rawInt s.heap.objs.size) → IsTupOf2 h' TO x1 x2 → St1 (i + 1) h' → St2 (i + 1) h' → IsTupOf2 h' s.heap.objs.size x1 x2 → h'.objs.size = s.heap.objs.size + 1 →
      (∀ c o, c ≠ z → c ≠ TO → c ≠ i1 → c ≠ i2 → s.heap.get? c = some o → h'.get? c = some o) → Q (.ref s.heap.objs.size) { s with heap := h', toks := tk }) :
    wpAny (model prog w) A (Builtin.«zip.__next__» ⟨[.ref z], []⟩) (fun fin s' => ∃ v, fin = .done (.ret v) ∧ Q v s') E s := by
  obtain ⟨hp, g, d, tk0, os⟩ := s
  show wpAny _ _ (field (.ref z) 2 >>= _) _ _ _
  refine wpAny_bind (wpAny_field hz rfl (x := .bool true) rfl ?_)
  show wpAny _ _ (field (.ref z) 3 >>= _) _ _ _
  refine wpAny_bind (wpAny_field hz rfl (x := .ref TI) rfl (wpAny_bind (wpAny_seqItems hTI rfl ?_)))
  show wpAny _ _ (Builtin.SmallTypes.ownedTupleIsFree (.ref z) >>= _) _ _ _
  refine wpAny_bind ?_
  unfold Builtin.SmallTypes.ownedTupleIsFree
  refine wpAny_bind (wpAny_field hz rfl (x := .none) rfl (wpAny_pure ?_))
  simp only [if_true]
  refine wpAny_bind (wpAny_rule (wpAny_bind (wpAny_field hz rfl (x := .ref TO) rfl ?_)))
  refine wpAny_bind (wpAny_setField_rec hz (by simp) fun g0 hz0 hs0 => ?_)
  replace hz0 : IsZipS g0 z TI TO .ellipsis := hz0
  replace hs0 : Heap.SameBut z hp g0 := hs0
  refine wpAny_bind ?_
  simp only [List.zipIdx_cons, List.zipIdx_nil, List.forIn_cons, List.forIn_nil]
  refine wpAny_bind (wpAny_bind (wpAny_onRaise ?_))
  show wpAny _ _ (Builtin.SmallTypes.nextOrEnd (.ref i1)) _ _ ⟨g0, g, d, tk0, os⟩
  refine orEnd_item D1 hlt (D1.over st1 hs0 S.zf1) fun x1 p1 tk1 hx1 sn1 hp1 => ?_
  replace hp1 : Heap.SameBut i1 g0 p1 := hp1
  have hU1 : IsTupOf2 p1 TO a1 a2 := hp1.extBut _ _ S.Ti1 (hs0.extBut _ _ S.TOz hTO)
  refine wpAny_bind (wpAny_seqItems (s := ⟨p1, g, d, tk1, os⟩) hU1 rfl ?_)
  refine wpAny_bind (updateSeq_IsTupOf2 (s := ⟨p1, g, d, tk1, os⟩) hU1 fun g1 hT1 hs1 => ?_)
  replace hT1 : IsTupOf2 g1 TO x1 a2 := hT1
  replace hs1 : Heap.SameBut TO p1 g1 := hs1
  refine wpAny_bind (wpAny_letGo (wpAny_pure ?_))
  refine wpAny_bind (wpAny_bind (wpAny_onRaise ?_))
  show wpAny _ _ (Builtin.SmallTypes.nextOrEnd (.ref i2)) _ _ ⟨g1, g, d, tk1, os⟩
  refine orEnd_item D2 hlt (D2.over (D2.over (D2.over st2 hs0 S.zf2) hp1 S.sep1_2) hs1 S.Tf2) fun x2 p2 tk2 hx2 sn2 hp2 => ?_
  replace hp2 : Heap.SameBut i2 g1 p2 := hp2
  have hU2 : IsTupOf2 p2 TO x1 a2 := hp2.extBut _ _ S.Ti2 hT1
  refine wpAny_bind (wpAny_seqItems (s := ⟨p2, g, d, tk2, os⟩) hU2 rfl ?_)
  refine wpAny_bind (updateSeq_IsTupOf2 (s := ⟨p2, g, d, tk2, os⟩) hU2 fun g2 hT2 hs2 => ?_)
  replace hT2 : IsTupOf2 g2 TO x1 x2 := hT2
  replace hs2 : Heap.SameBut TO p2 g2 := hs2
  refine wpAny_bind (wpAny_letGo (wpAny_pure (wpAny_pure ?_)))
  refine wpAny_bind (wpAny_seqItems (s := ⟨g2, g, d, tk2, os⟩) hT2 rfl (wpAny_bind (wpAny_newTuple ?_)))
  have size2 : g2.objs.size = hp.objs.size := by rw [hs2.1, hp2.1, hs1.1, hp1.1, hs0.1]
  have zip2 : IsZipS g2 z TI TO .ellipsis := hs2.extBut _ _ S.TOz.symm (hp2.extBut _ _ S.zi2 (hs1.extBut _ _ S.TOz.symm (hp1.extBut _ _ S.zi1 hz0)))
  have keep2 : ∀ c o, c ≠ z → c ≠ TO → c ≠ i1 → c ≠ i2 → hp.get? c = some o → g2.get? c = some o := fun c o cz cT c1 c2 e =>
    hs2.extBut _ _ cT (hp2.extBut _ _ c2 (hs1.extBut _ _ cT (hp1.extBut _ _ c1 (hs0.extBut _ _ cz e))))
  have turn1 : St1 (i + 1) g2 := D1.over (D1.over (D1.over sn1 hs1 S.Tf1) hp2 S.sep2_1) hs2 S.Tf1
  have turn2 : St2 (i + 1) g2 := D2.over sn2 hs2 S.Tf2
  have lt2 : z < g2.objs.size := Heap.lt_size zip2
  show wpAny _ _ (Builtin.SmallTypes.ownedTupleHandOut (.ref z) (.ref g2.objs.size) >>= _) _ _ ⟨g2.push { cls := .type "tuple", data := .seq #[x1, x2] }, g, d, tk2, os⟩
  refine wpAny_bind ?_
  unfold Builtin.SmallTypes.ownedTupleHandOut
  have zip3 : IsZipS (g2.push { cls := .type "tuple", data := .seq #[x1, x2] }) z TI TO .ellipsis := Heap.get?_push_of_some _ zip2
  refine wpAny_bind (wpAny_setField_rec zip3 (by simp) fun h4 zip4 same4 => ?_)
  replace zip4 : IsZipS h4 z TI TO (rawInt g2.objs.size) := zip4
  refine wpAny_setField_rec zip4 (by simp) fun h5 zip5 same5 => ?_
  replace zip5 : IsZipS h5 z TI TO (rawInt g2.objs.size) := zip5
  replace same4 : Heap.SameBut z (g2.push { cls := .type "tuple", data := .seq #[x1, x2] }) h4 := same4
  replace same5 : Heap.SameBut z h4 h5 := same5
  have up : ∀ c o, c ≠ z → g2.get? c = some o → h5.get? c = some o := fun c o c1 e => same5.extBut _ _ c1 (same4.extBut _ _ c1 (Heap.get?_push_of_some _ e))
  have tup5 : IsTupOf2 h5 g2.objs.size x1 x2 := same5.extBut _ _ (Nat.ne_of_gt lt2) (same4.extBut _ _ (Nat.ne_of_gt lt2) (Heap.get?_push_size _ rfl))
  have size5 : h5.objs.size = g2.objs.size + 1 := by rw [same5.1, same4.1, Heap.size_push]
  rw [size2] at zip5 tup5 size5
  refine wpAny_pure ⟨_, rfl, ?_⟩
  show Q (.ref g2.objs.size) ⟨h5, g, d, tk2, os⟩
  rw [size2]
  exact hQ x1 x2 h5 tk2 hx1 hx2 zip5 (up _ _ S.TOz hT2) (D1.frame _ _ _ turn1 fun b hb o e => up b o (fun q => S.zf1 (q ▸ hb)) e) (D2.frame _ _ _ turn2 fun b hb o e => up b o (fun q => S.zf2 (q ▸ hb)) e) tup5 size5
    fun c o cz cT c1 c2 e => up c o cz (keep2 c o cz cT c1 c2 e)
theorem zipS_end {Q : Fin → Shared → Prop} (hh : A.handled = none) (S : ZipSep2 z TI TO i1 i2 fp1 fp2) (D1 : Draws prog w A i1 fp1 n P1 St1) (D2 : Draws prog w A i2 fp2 n P2 St2)
    (hz : IsZipS s.heap z TI TO .none) (hTI : IsTupOf2 s.heap TI (.ref i1) (.ref i2)) (hTO : IsTupOf2 s.heap TO a1 a2) (st1 : St1 n s.heap) (st2 : St2 n s.heap)
    (hE : ∀ h' tk e, (∀ c o, c ≠ z → c ≠ TO → c ≠ i1 → c ≠ i2 → s.heap.get? c = some o → h'.get? c = some o) → (∃ o, h'.get? e = some o ∧ o.cls = .type "StopIteration") → E (.ref e) { s with heap := h', toks := tk }) :
    wpAny (model prog w) A (Builtin.«zip.__next__» ⟨[.ref z], []⟩) Q E s := by
  obtain ⟨hp, g, d, tk0, os⟩ := s
  show wpAny _ _ (field (.ref z) 2 >>= _) _ _ _
  refine wpAny_bind (wpAny_field hz rfl (x := .bool true) rfl ?_)
  show wpAny _ _ (field (.ref z) 3 >>= _) _ _ _
  refine wpAny_bind (wpAny_field hz rfl (x := .ref TI) rfl (wpAny_bind (wpAny_seqItems hTI rfl ?_)))
  show wpAny _ _ (Builtin.SmallTypes.ownedTupleIsFree (.ref z) >>= _) _ _ _
  refine wpAny_bind ?_
  unfold Builtin.SmallTypes.ownedTupleIsFree
  refine wpAny_bind (wpAny_field hz rfl (x := .none) rfl (wpAny_pure ?_))
  simp only [if_true]
  refine wpAny_bind (wpAny_rule (wpAny_bind (wpAny_field hz rfl (x := .ref TO) rfl ?_)))
  refine wpAny_bind (wpAny_setField_rec hz (by simp) fun g0 hz0 hs0 => ?_)
  replace hz0 : IsZipS g0 z TI TO .ellipsis := hz0
  replace hs0 : Heap.SameBut z hp g0 := hs0
  refine wpAny_bind ?_
  simp only [List.zipIdx_cons, List.zipIdx_nil, List.forIn_cons, List.forIn_nil]
  refine wpAny_bind (wpAny_bind (wpAny_onRaise ?_))
  show wpAny _ _ (Builtin.SmallTypes.nextOrEnd (.ref i1)) _ _ ⟨g0, g, d, tk0, os⟩
  refine orEnd_end D1 (D1.over st1 hs0 S.zf1) fun q hq => ?_
  replace hq : Heap.ExtBut i1 g0 q := hq
  have hzq : IsZipS q z TI TO .ellipsis := hq _ _ S.zi1 hz0
  dsimp only
  refine wpAny_bind (wpAny_setField_rec (s := ⟨q, g, d, tk0, os⟩) hzq (by simp) fun q1 _ hs1 => ?_)
  replace hs1 : Heap.SameBut z q q1 := hs1
  have st2q : St2 n q1 := D2.over (D2.frame _ _ _ (D2.over st2 hs0 S.zf2) fun b hb o e => hq b o (fun x => S.sep1_2 (x ▸ hb)) e) hs1 S.zf2
  refine wpAny_bind ?_
  show wpAny _ _ (_ >>= _) _ _ _
  refine wpAny_bind ?_
  show wpAny _ _ (forIn [(Value.ref i2, 1)] PUnit.unit _) _ _ ⟨q1, g, d, tk0, os⟩
  simp only [List.forIn_cons, List.forIn_nil]
  refine wpAny_bind (wpAny_bind (orEnd_end D2 st2q fun q2 hq2 => ?_))
  replace hq2 : Heap.ExtBut i2 q1 q2 := hq2
  show wpAny _ _ (ite ((none : Option Value).isSome = true) _ _) _ _ _
  rw [if_neg (by decide)]
  refine wpAny_pure (wpAny_pure (wpAny_bind (wpAny_rule ?_)))
  show wpAny _ _ (newExc (.type "StopIteration") [] >>= _) _ _ ⟨q2, g, d, tk0, os⟩
  refine wpAny_bind ?_
  simp only [newExc, newTuple]
  refine wpAny_bind (wpAny_newObj_type ?_ (by size_fits))
  refine wpAny_bind (m := firstArgMember _ _) (wpAny_of_eq (a := Value.none) (by first | rfl | (simp only [firstArgMember]; rfl)) ?_)
  refine wpAny_newObj_type ?_ (by size_fits)
  simp only [raiseNew]
  refine wpAny_bind (wpAny_handled ?_)
  rw [hh]
  refine wpAny_bind (wpAny_pure (wpAny_throw ?_))
  exact hE _ tk0 _ (fun c o cz cT c1 c2 e => Heap.get?_push_of_some _ (Heap.get?_push_of_some _ (hq2 _ _ c2 (hs1.extBut _ _ cz (hq _ _ c1 (hs0.extBut _ _ cz e)))))) ⟨_, Heap.get?_push_size _ rfl, rfl⟩
theorem next_zipS_item {Q : Option Value → Shared → Prop} (S : ZipSep2 z TI TO i1 i2 fp1 fp2) (D1 : Draws prog w A.in1 i1 fp1 n P1 St1) (D2 : Draws prog w A.in1 i2 fp2 n P2 St2)
    (hz : IsZipS s.heap z TI TO .none) (hTI : IsTupOf2 s.heap TI (.ref i1) (.ref i2)) (hTO : IsTupOf2 s.heap TO a1 a2) (st1 : St1 i s.heap) (st2 : St2 i s.heap) (hlt : i < n)
    (hQ : ∀ x1 x2 h' tk, P1 i x1 → P2 i x2 → IsZipS h' z TI TO (rawInt s.heap.objs.size) → IsTupOf2 h' TO x1 x2 → St1 (i + 1) h' → St2 (i + 1) h' → IsTupOf2 h' s.heap.objs.size x1 x2 → h'.objs.size = s.heap.objs.size + 1 →
      (∀ c o, c ≠ z → c ≠ TO → c ≠ i1 → c ≠ i2 → s.heap.get? c = some o → h'.get? c = some o) → Q (some (.ref s.heap.objs.size)) { s with heap := h', toks := tk }) :
    wpAny (model prog w) A (pyNext (.ref z)) Q E s := by
  have hT : s.TypeIs (.ref z) "zip" := ⟨_, hz, rfl⟩
  unfold pyNext
  exact wpAny_bind (wpAny_attempt (wpAny_callSpecial?_slot (name := Str.ofString "__next__") hT F.slot_zip_next
    (wpAny_call_entry F.slot_zip_next hT F.entry_zip_next (zipS_item S D1 D2 hz hTI hTO st1 st2 hlt fun x1 x2 h' tk y1 y2 b1 b2 d1 d2 b5 b6 b7 => wpAny_pure (hQ x1 x2 h' tk y1 y2 b1 b2 d1 d2 b5 b6 b7)) (F.args_zip_next_1 _))))
theorem next_zipS_end {Q : Option Value → Shared → Prop} (hh : A.handled = none) (S : ZipSep2 z TI TO i1 i2 fp1 fp2) (D1 : Draws prog w A.in1 i1 fp1 n P1 St1) (D2 : Draws prog w A.in1 i2 fp2 n P2 St2)
    (hz : IsZipS s.heap z TI TO .none) (hTI : IsTupOf2 s.heap TI (.ref i1) (.ref i2)) (hTO : IsTupOf2 s.heap TO a1 a2) (st1 : St1 n s.heap) (st2 : St2 n s.heap)
    (hQ : ∀ h' tk, (∀ c o, c ≠ z → c ≠ TO → c ≠ i1 → c ≠ i2 → s.heap.get? c = some o → h'.get? c = some o) → Q none { s with heap := h', toks := tk }) : wpAny (model prog w) A (pyNext (.ref z)) Q E s := by
  have hT : s.TypeIs (.ref z) "zip" := ⟨_, hz, rfl⟩
  unfold pyNext
  refine wpAny_bind (wpAny_attempt (wpAny_callSpecial?_slot (name := Str.ofString "__next__") hT F.slot_zip_next
    (wpAny_call_entry F.slot_zip_next hT F.entry_zip_next (zipS_end (A := A.in1) hh S D1 D2 hz hTI hTO st1 st2 fun h' tk e hk he => ?_) (F.args_zip_next_1 _))))
  obtain ⟨o, ho, hc⟩ := he
  refine wpAny_bind (wpAny_isInstance (T := "StopIteration") (b := true) ⟨o, ho, hc⟩ isSubtype_stop ?_)
  exact wpAny_pure (hQ _ _ hk)
theorem iter_zipS {Q : Value → Shared → Prop} {f0 : Value} (hz : IsZipS s.heap z TI TO f0) (h : Q (.ref z) s) : wpAny (model prog w) A (pyIter (.ref z)) Q E s := by
  have hT : s.TypeIs (.ref z) "zip" := ⟨_, hz, rfl⟩
  refine wpAny_pyIter_slot hT F.slot_zip_iter (wpAny_call_entry F.slot_zip_iter hT F.entry_zip_iter ?_ (F.args_zip_iter_1 _))
  show wpAny _ _ (ret (.ref z)) _ _ s
  exact wpAny_pure ⟨_, rfl, "zip", _, hT, F.slot_zip_next.lookup, h⟩
theorem go_zipS {elts : List Expr} {x1} {pos : Pos} {T : Addr} {Q : Unit → Shared → Prop} (hz : IsZipS s.heap z TI TO (rawInt T))
    (hQ : ∀ h', IsZipS h' z TI TO .none → Heap.SameBut z s.heap h' → Q () { s with heap := h' }) : wpAny (model prog w) A (letOwnedTupleGo (.Tuple elts x1 pos) (.ref z) (.ref T)) Q E s := by
  unfold letOwnedTupleGo
  refine wpAny_bind (wpAny_load hz ?_)
  show wpAny _ _ (if (["enumerate", "zip", "dict_itemiterator", "dict_reverseitemiterator", "odict_iterator", "itertools.zip_longest", "itertools.pairwise"].contains "zip" &&
      (#[rawInt T, .bool false, .bool true, .ref TI, .ref TO] : Array Value)[0]? == some (rawInt T)) = true then _ else _) Q E s
  rw [if_pos (by simp)]
  refine wpAny_bind (wpAny_rule ?_)
  show wpAny _ _ (setField (.ref z) 0 .none) Q E s
  exact wpAny_setField_rec hz (by simp) fun h' a b => hQ h' a b
end

/-! ### zip(v1, v2, strict=True) begins -/
theorem typeCall_zipS (a b v : Value) : checkTypeCall "zip" ⟨[a, b], [(Str.ofString "strict", v)]⟩ = pure () := by kernel_rfl
theorem newCall_zipS (a b v : Value) : checkBuiltinCall "zip.__new__" ⟨[.type "zip", a, b], [(Str.ofString "strict", v)]⟩ = pure () := by kernel_rfl
theorem args_init_zipS (obj a b v : Value) : argsOk "object.__init__" ⟨[obj, a, b], [(Str.ofString "strict", v)]⟩ := by unfold argsOk; kernel_rfl
abbrev zsZ (h : Heap) (o1 o2 : Obj) : Heap := (gzO2 h o1 o2).push { cls := .type "zip", data := .fields #[.none, .bool false, .bool true, .ref ((h.push o1).push o2).objs.size, .ref (gzT2 h o1 o2).objs.size] }
theorem meets_zipS {v1 v2 : Value} {o1 o2 : Obj} {H1 H2 : Heap → Prop} (B1 : Begins v1 o1 H1) (B2 : Begins v2 o2 H2) :
    Meets (Builtin.«zip.__new__» ⟨[.type "zip", v1, v2], [(Str.ofString "strict", .bool true)]⟩) (fun _ R s => (H1 s.heap ∧ H2 s.heap) ∧
      R (.ok (.ret (.ref (gzO2 s.heap o1 o2).objs.size))) { s with heap := zsZ s.heap o1 o2 }) :=
  .of_wp fun prog w A R s h => by
    obtain ⟨hp, g, d, tk, os⟩ := s; obtain ⟨⟨h1, h2⟩, h⟩ := h
    have hsub := sub_zip
    have q1 : ∀ {A' : Around} {E : Value → Shared → Prop} {Q : Value → Shared → Prop}, Q (.ref hp.objs.size) ⟨(hp.push o1), g, d, tk, os⟩ → wpAny (model prog w) A' (pyIter v1) Q E ⟨hp, g, d, tk, os⟩ :=
      fun q => B1.iter prog w _ _ ⟨hp, g, d, tk, os⟩ _ h1 q
    have q2 : ∀ {A' : Around} {E : Value → Shared → Prop} {Q : Value → Shared → Prop}, Q (.ref (hp.push o1).objs.size) ⟨((hp.push o1).push o2), g, d, tk, os⟩ → wpAny (model prog w) A' (pyIter v2) Q E ⟨(hp.push o1), g, d, tk, os⟩ :=
      fun q => B2.iter prog w _ _ ⟨(hp.push o1), g, d, tk, os⟩ _ (B2.keeps _ _ h2 fun b o' e => (Heap.get?_push_of_some _ e)) q
    have e1 : (Str.ofString "strict" == ("strict" : Str)) = true := by decide +kernel
    have e2 : (Str.ofString "strict" != ("strict" : Str)) = false := by decide +kernel
    wp_walk using q1, q2
    exact ⟨_, rfl, h⟩
section
variable {prog : Program} {w : World} {A : Around} {E : Value → Shared → Prop} {s : Shared}
theorem zipS_begins {v1 v2 : Value} {o1 o2 : Obj} {H1 H2 : Heap → Prop} {Q : Value → Shared → Prop} (B1 : Begins v1 o1 H1) (B2 : Begins v2 o2 H2) (h1 : H1 s.heap) (h2 : H2 s.heap)
    (h : ∀ h', IsZipS h' (s.heap.objs.size + 4) (s.heap.objs.size + 2) (s.heap.objs.size + 3) .none → IsTupOf2 h' (s.heap.objs.size + 2) (.ref s.heap.objs.size) (.ref (s.heap.objs.size + 1)) →
      IsTupOf2 h' (s.heap.objs.size + 3) .none .none → h'.get? s.heap.objs.size = some o1 → h'.get? (s.heap.objs.size + 1) = some o2 →
      (∀ c o, s.heap.get? c = some o → h'.get? c = some o) → Q (.ref (s.heap.objs.size + 4)) { s with heap := h' }) :
    wpAny (model prog w) A (call (.type "zip") [v1, v2] [(Str.ofString "strict", .bool true)]) Q E s := by
  refine callType_newKw F.called_zip (by decide) (typeCall_zipS _ _ _) (newCall_zipS _ _ _) (fun obj => args_init_zipS obj _ _ _) F.entry_zip_new (meets_zipS B1 B2) ⟨⟨h1, h2⟩, ?_⟩
  have n1 : (s.heap.push o1).objs.size = s.heap.objs.size + 1 := Heap.size_push _ _
  have n2 : ((s.heap.push o1).push o2).objs.size = s.heap.objs.size + 2 := by rw [Heap.size_push, n1]
  have n3 : (gzT2 s.heap o1 o2).objs.size = s.heap.objs.size + 3 := by rw [Heap.size_push, n2]
  have n4 : (gzO2 s.heap o1 o2).objs.size = s.heap.objs.size + 4 := by rw [Heap.size_push, n3]
  have a4 : (zsZ s.heap o1 o2).get? (gzO2 s.heap o1 o2).objs.size = some { cls := .type "zip", data := .fields #[.none, .bool false, .bool true, .ref ((s.heap.push o1).push o2).objs.size, .ref (gzT2 s.heap o1 o2).objs.size] } := Heap.get?_push_size _ rfl
  have a3 : (zsZ s.heap o1 o2).get? (gzT2 s.heap o1 o2).objs.size = some { cls := .type "tuple", data := .seq #[.none, .none] } := Heap.get?_push_of_some _ (Heap.get?_push_size _ rfl)
  have a2 : (zsZ s.heap o1 o2).get? ((s.heap.push o1).push o2).objs.size = some { cls := .type "tuple", data := .seq #[.ref s.heap.objs.size, .ref (s.heap.push o1).objs.size] } := Heap.get?_push_of_some _ (Heap.get?_push_of_some _ (Heap.get?_push_size _ rfl))
  have a0 : (zsZ s.heap o1 o2).get? s.heap.objs.size = some o1 := Heap.get?_push_of_some _ (Heap.get?_push_of_some _ (Heap.get?_push_of_some _ (Heap.get?_push_of_some _ (Heap.get?_push_size _ B1.free))))
  have a1 : (zsZ s.heap o1 o2).get? (s.heap.push o1).objs.size = some o2 := Heap.get?_push_of_some _ (Heap.get?_push_of_some _ (Heap.get?_push_of_some _ (Heap.get?_push_size _ B2.free)))
  rw [n4, n3, n2] at a4
  rw [n3] at a3
  rw [n2, n1] at a2
  rw [n1] at a1
  show _ ∧ _
  rw [n4]
  exact ⟨⟨_, a4, rfl⟩, h _ a4 a2 a3 a0 a1 fun c o e => Heap.get?_push_of_some _ (Heap.get?_push_of_some _ (Heap.get?_push_of_some _ (Heap.get?_push_of_some _ (Heap.get?_push_of_some _ e))))⟩
/-- T(e, .., k = v): a built-in type called with keywords -/
theorem call_typeKw {env : Env} {pos : Pos} {T : String} {e : Expr} {rest : List Expr} {kws : List Keyword} {Q : Value → Shared → Prop}
    (h : wpAny (model prog w) A (spliced (backTo pos (starEach (e :: rest) env))) (fun vs s1 => wpAny (model prog w) A (evalAll ((backToKw pos (keywordEach kws env)).map (·.2)))
      (fun ks s2 => wpAny (model prog w) A (call (.type T) vs (((backToKw pos (keywordEach kws env)).filterMap (·.1)).zip ks)) Q E s2) E s1) E s)
    (he : backTo pos (starEach (e :: rest) env) = (false, eval e env) :: backTo pos (starEach rest env) := by rfl) (hpl : (backTo pos (starEach (e :: rest) env)).any (·.1) = false := by rfl)
    (hall : (backToKw pos (keywordEach kws env)).all (·.1.isSome) = true := by rfl) (hno : (backToKw pos (keywordEach kws env)).any (·.1.isNone) = false := by rfl) :
    wpAny (model prog w) A (callWith pos (.type T) [] (backTo pos (starEach (e :: rest) env)) (backToKw pos (keywordEach kws env))) Q E s := by
  unfold callWith
  have go : wpAny (model prog w) A (evalArgs (.type T) true (backTo pos (starEach (e :: rest) env)) (backToKw pos (keywordEach kws env))) (fun a s1 => wpAny (model prog w) A (call (.type T) ([] ++ a.pos) a.kw) Q E s1) E s := by
    rw [he] at h ⊢
    exact evalArgs_kwB hall h
  refine wpAny_bind (wpAny_holding (wpAny_mono go (fun a s1 h1 => wpAny_bind (wpAny_standAt ?_)) fun _ _ x => x))
  simp only [hpl, hno, Bool.or_false]
  refine wpAny_bind (wpAny_pure ?_)
  exact wpAny_bind (wpAny_mono h1 (fun r s2 hr => wpAny_bind (wpAny_holding (wpAny_point (wpAny_pure hr)))) fun _ _ x => x)
end

/-! ### the strict zip as a walk of the layer -/
def Itzs (K : PySem.W.Frag) (k1 : Bool) (a : Addr) (k2 : Bool) (b : Addr) (n : Nat) : It :=
  ⟨fun i H => i < n ∧ ∃ xs ys, SrcIs K H k1 a xs ∧ SrcIs K H k2 b ys ∧ xs.length = n ∧ ys.length = n,
    fun i H v H' => ∃ T x y, v = .ref T ∧ H T = none ∧ H' = upd H T (.tup [x, y]) ∧ (∀ xs, SrcIs K H k1 a xs → xs[i]? = some x) ∧ ∀ ys, SrcIs K H k2 b ys → ys[i]? = some y,
    fun i H => i = n ∧ ∃ xs ys, SrcIs K H k1 a xs ∧ SrcIs K H k2 b ys ∧ xs.length = n ∧ ys.length = n⟩
theorem turn_zipS {P : Program} {w : World} {K : PySem.W.Frag} {elts : List Expr} {kk : Nat} {tpos : Pos} {k1 k2 : Bool} {a b : Addr} {n N : Nat} (ha : a < N) (hb : b < N) :
    Turn P w K (.Tuple elts kk tpos) (Itzs K k1 a k2 b n) [N + 4, N + 2, N + 3, N, N + 1] (N + 4)
      (fun i h => IsZipS h (N + 4) (N + 2) (N + 3) .none ∧ IsTupOf2 h (N + 2) (.ref N) (.ref (N + 1)) ∧ (∃ x y, IsTupOf2 h (N + 3) x y) ∧ ItSt k1 h N a i ∧ ItSt k2 h (N + 1) b i) := by
  have ia : ∀ c ∈ [a], c < N := fun c hc => (show c = a by simpa using hc) ▸ ha
  have ib : ∀ c ∈ [b], c < N := fun c hc => (show c = b by simpa using hc) ▸ hb
  have S : ZipSep2 (N + 4) (N + 2) (N + 3) N (N + 1) [N, a] [N + 1, b] := zip_sep2 ia ib
  have nea : a ≠ N := Nat.ne_of_lt ha
  have neb : b ≠ N + 1 := Nat.ne_of_lt (Nat.lt_succ_of_lt hb)
  have five : ∀ {c : Addr}, c ∈ [N + 4, N + 2, N + 3, N, N + 1] → c = N + 4 ∨ c = N + 2 ∨ c = N + 3 ∨ c = N ∨ c = N + 1 := fun h => by simpa using h
  have inA : ∀ {h : Heap} {f : Heap}, Heap.SameBut (N + 4) h f → ∀ c, c ≠ N + 4 → ∀ o, h.get? c = some o → f.get? c = some o := fun sb c hc o q => (sb.2 c hc).trans q
  refine ⟨by simp, fun i h st c hc => ?_, fun i h h' st k => ?_, ?_, ?_, fun A i s Q E st h => iter_zipS st.1 h⟩
  · obtain ⟨hz, hTI, ⟨x, y, hTO⟩, s1, s2⟩ := st
    rcases five hc with q | q | q | q | q
    · rw [q]; exact ⟨_, hz, fun v z => nomatch z⟩
    · rw [q]; exact ⟨_, hTI, fun v z => nomatch z⟩
    · rw [q]; exact ⟨_, hTO, fun v z => nomatch z⟩
    · rw [q]; exact s1.there
    · rw [q]; exact s2.there
  · obtain ⟨hz, hTI, ⟨x, y, hTO⟩, s1, s2⟩ := st
    exact ⟨k (N + 4) (by simp) _ hz, k (N + 2) (by simp) _ hTI, ⟨x, y, k (N + 3) (by simp) _ hTO⟩, s1.at fun o q => k N (by simp) o q, s2.at fun o q => k (N + 1) (by simp) o q⟩
  · intro X hP hw hK hc i pins s σ H E I hf st hg
    subst hP hw hK
    obtain ⟨hz, hTI, ⟨x0, y0, hTO⟩, s1, s2⟩ := st
    obtain ⟨hi, xs, ys, g1, g2, l1, l2⟩ := hg
    obtain ⟨its, rv, p, _, _⟩ := src_seq I g1
    obtain ⟨its2, rv2, p2, _, _⟩ := src_seq I g2
    have e1 : its.toArray.size = n := by rw [List.size_toArray, ← l1]; exact rv.length.symm
    have e2 : its2.toArray.size = n := by rw [List.size_toArray, ← l2]; exact rv2.length.symm
    have D1 := src_draws (prog := X.prog) (w := X.w) (A := X.A.in1) (I.ok.hd hc) k1 nea its.toArray
    have D2 := src_draws (prog := X.prog) (w := X.w) (A := X.A.in1) (I.ok.hd hc) k2 neb its2.toArray
    rw [e1] at D1
    rw [e2] at D2
    have hzl : N + 4 < s.heap.objs.size := Heap.lt_size hz
    have fresh : ∀ c ∈ [N + 4, N + 2, N + 3, N, N + 1], c ≠ s.heap.objs.size := fun c hm => by
      rcases five hm with q | q | q | q | q
      · rw [q]; exact Nat.ne_of_lt hzl
      · rw [q]; exact Nat.ne_of_lt (Heap.lt_size hTI)
      · rw [q]; exact Nat.ne_of_lt (Heap.lt_size hTO)
      · rw [q]; obtain ⟨o, e, _⟩ := s1.there; exact Nat.ne_of_lt (Heap.lt_size e)
      · rw [q]; obtain ⟨o, e, _⟩ := s2.there; exact Nat.ne_of_lt (Heap.lt_size e)
    refine next_zipS_item S D1 D2 hz hTI hTO ⟨s1, p⟩ ⟨s2, p2⟩ hi fun u u2 h' tk hu hu2 z' TO' t1 t2 hT hsz hk => ?_
    refine ⟨_, rfl, go_zipS (s := { s with heap := h', toks := tk }) z' fun h2 z2 sb => ?_⟩
    have hT2 : h2.get? s.heap.objs.size = some { cls := .type "tuple", data := .seq #[u, u2] } := (sb.2 _ (Ne.symm (fresh _ (by simp)))).trans hT
    obtain ⟨x, hx⟩ : ∃ x, xs[i]? = some x := ⟨xs[i]'(by omega), by simp⟩
    obtain ⟨y, hy⟩ : ∃ y, ys[i]? = some y := ⟨ys[i]'(by omega), by simp⟩
    obtain ⟨ux, eux, rx⟩ := rv.get hx
    obtain ⟨uy, euy, ry⟩ := rv2.get hy
    have exu : u = ux := by
      have q : its[i]? = some u := by simpa using hu
      rw [eux] at q; exact (Option.some.inj q).symm
    have eyu : u2 = uy := by
      have q : its2[i]? = some u2 := by simpa using hu2
      rw [euy] at q; exact (Option.some.inj q).symm
    subst exu eyu
    have new : ObjOk X.prog X.w (upd H s.heap.objs.size (.tup [x, y])) h2 s.heap.objs.size (.tup [x, y]) :=
      ⟨by show 2 ≤ sizeLine; decide, [u, u2], .cons rx (.cons ry .nil), ⟨_, hT2, rfl, _, rfl⟩⟩
    have I1 : Inv X pins σ (upd H s.heap.objs.size (.tup [x, y])) { s with heap := h2, toks := tk } :=
      I.turnedNew (t' := tk) (ch := [N + 4, N + 2, N + 3, N, N + 1]) (fun c o hb q => (sb.2 c (fun z => hb (by simp [z]))).trans (hk c o (fun z => hb (by simp [z])) (fun z => hb (by simp [z])) (fun z => hb (by simp [z])) (fun z => hb (by simp [z])) q)) hf (Nat.le_refl _) new
    refine ⟨.ref s.heap.objs.size, _, I1, rfl, ⟨_, x, y, rfl, I.hok.fresh (Nat.le_refl _), rfl, fun l hl => by rw [hl.inj I g1]; exact hx, fun l hl => by rw [hl.inj I g2]; exact hy⟩, ⟨z2, ?_, ⟨u, u2, ?_⟩, ?_, ?_⟩, fun c hcm => ?_⟩
    · exact (sb.2 _ S.TIz).trans (hk _ _ S.TIz S.TITO S.TIi1 S.TIi2 hTI)
    · exact (sb.2 _ S.TOz).trans TO'
    · exact t1.1.at fun o q => (sb.2 _ S.zi1.symm).trans q
    · exact t2.1.at fun o q => (sb.2 _ S.zi2.symm).trans q
    · rw [upd_ne (fresh c hcm)]
      exact (hf c hcm).1
  · intro X hP hw hK hc i pins s σ H E I hf st hg
    subst hP hw hK
    obtain ⟨hz, hTI, ⟨x0, y0, hTO⟩, s1, s2⟩ := st
    obtain ⟨hi, xs, ys, g1, g2, l1, l2⟩ := hg
    subst hi
    obtain ⟨its, rv, p, _, _⟩ := src_seq I g1
    obtain ⟨its2, rv2, p2, _, _⟩ := src_seq I g2
    have e1 : its.toArray.size = i := by rw [List.size_toArray, ← l1]; exact rv.length.symm
    have e2 : its2.toArray.size = i := by rw [List.size_toArray, ← l2]; exact rv2.length.symm
    have D1 := src_draws (prog := X.prog) (w := X.w) (A := X.A.in1) (I.ok.hd hc) k1 nea its.toArray
    have D2 := src_draws (prog := X.prog) (w := X.w) (A := X.A.in1) (I.ok.hd hc) k2 neb its2.toArray
    rw [e1] at D1
    rw [e2] at D2
    exact next_zipS_end (I.ok.hd hc) S D1 D2 hz hTI hTO ⟨s1, p⟩ ⟨s2, p2⟩ fun h' tk hk => ⟨rfl, I.turnedL (t' := tk) (ch := [N + 4, N + 2, N + 3, N, N + 1]) (fun c o hb q =>
      hk c o (fun z => hb (by simp [z])) (fun z => hb (by simp [z])) (fun z => hb (by simp [z])) (fun z => hb (by simp [z])) q) hf⟩
def iZipS (K : PySem.W.Frag) (ta : TA) : TI := fun σ H R => ta σ H fun vs H1 => ∃ k1 a xs k2 b ys, vs = [.ref a, .ref b] ∧ SrcIs K H1 k1 a xs ∧ SrcIs K H1 k2 b ys ∧ xs.length = ys.length ∧ (xs.length ≤ sizeLine → R (Itzs K k1 a k2 b xs.length) H1)
theorem pi_zipS {X : Cx} {e e2 : Expr} {ta : TA} {p pos tpos q1 q2 : Pos} {elts : List Expr} {kk j : Nat} (hg : Gl X "zip") (hm : X.mg "zip" = none) (ha : PA X [e, e2] ta)
    (hs : backTo pos (starEach [e, e2] X.env) = (false, eval e X.env) :: backTo pos (starEach [e2] X.env) := by rfl) (hpl : (backTo pos (starEach [e, e2] X.env)).any (·.1) = false := by rfl) :
    PI X (.Tuple elts kk tpos) (.Call (.Name "zip" p) [e, e2] [⟨some "strict", .Constant (.bool true) j q1, q2⟩] pos) (iZipS X.K ta) := by
  refine ⟨fun pins s σ H R I h => ?_⟩
  refine wpAny_Call_Name_kw (ld_blt I hg hm PyProof.Rows.boot_zip ?_)
  refine call_typeKw (thn (ha.run pos pins s σ H _ I h) fun us s1 ⟨vs, H1, I1, r1, q⟩ => kws_cons (Constant_bool (kws_nil ?_))) hs hpl
  obtain ⟨k1, a, xs, k2, b, ys, ex, g1, g2, hn, q⟩ := q
  subst ex
  obtain ⟨u1, u2, rfl, c1, c2⟩ := Vals.two r1
  cases c1; cases c2
  obtain ⟨its, rv, p1, z1, la⟩ := src_seq I1 g1
  obtain ⟨its2, rv2, p2, _, lb⟩ := src_seq I1 g2
  show wpAny _ _ (call (.type "zip") [.ref a, .ref b] [(Str.ofString "strict", .bool true)]) _ _ _
  refine zipS_begins (src_begins k1 a its.toArray) (src_begins k2 b its2.toArray) p1 p2 fun h' hz hTI hTO h1 h2 hk => iter_zipS hz ?_
  have I2 : Inv X pins σ H1 { s1 with heap := h' } := I1.kept (t' := s1.toks) hk
  refine ⟨s1.heap.objs.size + 4, [s1.heap.objs.size + 4, s1.heap.objs.size + 2, s1.heap.objs.size + 3, s1.heap.objs.size, s1.heap.objs.size + 1], _, _, H1, rfl, I2, turn_zipS la lb, ⟨hz, hTI, ⟨_, _, hTO⟩, itst_new h1, itst_new h2⟩, fun c hcm => ?_, q z1⟩
  have hle : s1.heap.objs.size ≤ c := by
    have e' : c = s1.heap.objs.size + 4 ∨ c = s1.heap.objs.size + 2 ∨ c = s1.heap.objs.size + 3 ∨ c = s1.heap.objs.size ∨ c = s1.heap.objs.size + 1 := by simpa using hcm
    rcases e' with z | z | z | z | z
    · rw [z]; exact Nat.le_add_right _ _
    · rw [z]; exact Nat.le_add_right _ _
    · rw [z]; exact Nat.le_add_right _ _
    · rw [z]; exact Nat.le_refl _
    · rw [z]; exact Nat.le_add_right _ _
  exact I1.fpOk hle (I1.hok.fresh hle)
end QL
end L2
/-! enumerate over a list or a tuple; zip of two of them -/
namespace L2
namespace QL
open PySem PySem.Spec PyProof.Rows
theorem meets_enumB {v : Value} {o : Obj} {H : Heap → Prop} (B : Begins v o H) :
    Meets (Builtin.«enumerate.__new__» ⟨[.type "enumerate", v], []⟩) (fun _ R s => H s.heap ∧
      R (.ok (.ret (.ref (s.heap.push o).objs.size))) { s with heap := (s.heap.push o).push { cls := .type "enumerate", data := .fields #[.none, .bool false, .ref s.heap.objs.size, rawInt 0, .none, .none] } }) :=
  .of_wp fun prog w A R s h => by
    obtain ⟨hp, g, d, tk, os⟩ := s; obtain ⟨h1, h⟩ := h
    have hsub := sub_enumerate
    have q1 : ∀ {A' : Around} {E : Value → Shared → Prop} {Q : Value → Shared → Prop}, Q (.ref hp.objs.size) ⟨hp.push o, g, d, tk, os⟩ → wpAny (model prog w) A' (pyIter v) Q E ⟨hp, g, d, tk, os⟩ :=
      fun q => B.iter prog w _ _ ⟨hp, g, d, tk, os⟩ _ h1 q
    wp_walk using q1
    refine wpAny_stack_any fun st => wpAny_pure ?_
    split
    · rename_i c _ _ _ _ _
      cases (c == Value.type "enumerate")
      · wp_walk using q1
        exact ⟨_, rfl, h⟩
      · wp_walk using q1
        exact ⟨_, rfl, h⟩
    · wp_walk using q1
      exact ⟨_, rfl, h⟩
theorem enumB {prog : Program} {w : World} {A : Around} {E : Value → Shared → Prop} {s : Shared} {v : Value} {o : Obj} {H : Heap → Prop} {Q : Value → Shared → Prop} (B : Begins v o H) (h1 : H s.heap)
    (h : ∀ h', IsEnum h' (s.heap.objs.size + 1) s.heap.objs.size 0 .none → h'.get? s.heap.objs.size = some o → (∀ b o, s.heap.get? b = some o → h'.get? b = some o) → Q (.ref (s.heap.objs.size + 1)) { s with heap := h' }) :
    wpAny (model prog w) A (call (.type "enumerate") [v]) Q E s := by
  refine callType_new F.called_enumerate (by decide) (F.typeCall_enumerate_1 _) (F.newCall_enumerate_1 _) (fun obj => F.args_object_init_2 obj _) F.entry_enumerate_new (meets_enumB B) ⟨h1, ?_⟩
  have n1 : (s.heap.push o).objs.size = s.heap.objs.size + 1 := Heap.size_push ..
  have a1 := Heap.get?_push_size (s.heap.push o) (o := { cls := .type "enumerate", data := .fields #[.none, .bool false, .ref s.heap.objs.size, rawInt 0, .none, .none] }) rfl
  show _ ∧ _
  rw [n1] at a1 ⊢
  exact ⟨⟨_, a1, rfl⟩, h _ a1 (Heap.get?_push_of_some _ (Heap.get?_push_size _ B.free)) fun b o x => Heap.get?_push_of_some _ (Heap.get?_push_of_some _ x)⟩
def Itens (K : PySem.W.Frag) (k : Bool) (a : Addr) (n : Nat) : It :=
  ⟨fun i H => i < n ∧ ∃ xs, SrcIs K H k a xs ∧ xs.length = n, fun i H v H' => ∃ T x, v = .ref T ∧ H T = none ∧ H' = upd H T (.tup [.int (i : Nat), x]) ∧ ∀ xs, SrcIs K H k a xs → xs[i]? = some x,
    fun i H => i = n ∧ ∃ xs, SrcIs K H k a xs ∧ xs.length = n⟩
theorem turn_enumS {P : Program} {w : World} {K : PySem.W.Frag} {elts : List Expr} {kk : Nat} {tpos : Pos} {k : Bool} {a : Addr} {n N : Nat} (ha : a < N) :
    Turn P w K (.Tuple elts kk tpos) (Itens K k a n) [N + 1, N] (N + 1) (fun i h => (∃ old, IsEnum h (N + 1) N i old) ∧ ItSt k h N a i) := by
  have nea : a ≠ N := Nat.ne_of_lt ha
  have ne1 : N + 1 ≠ N := Nat.succ_ne_self N
  have hef : N + 1 ∉ [N, a] := fun h => by
    rcases List.mem_cons.mp h with z | z
    · exact ne1 z
    · exact Nat.ne_of_lt (Nat.lt_succ_of_lt ha) (List.mem_singleton.mp z).symm
  have two : ∀ {c : Addr}, c ∈ [N + 1, N] → c = N + 1 ∨ c = N := fun h => by simpa using h
  refine ⟨by simp, fun i h st c hc => ?_, fun i h h' st f => ?_, ?_, ?_, fun A i s Q E st h => ?_⟩
  · obtain ⟨⟨old, he⟩, s1⟩ := st
    rcases two hc with q | q
    · rw [q]; exact ⟨_, he, fun v z => nomatch z⟩
    · rw [q]; exact s1.there
  · obtain ⟨⟨old, he⟩, s1⟩ := st
    exact ⟨⟨old, f (N + 1) (by simp) _ he⟩, s1.at fun o q => f N (by simp) o q⟩
  · intro X hP hw hK hc i pins s σ H E I hf st hg
    subst hP hw hK
    obtain ⟨⟨old, he⟩, s1⟩ := st
    obtain ⟨hi, xs, g1, l1⟩ := hg
    obtain ⟨its, rv, p, _, _⟩ := src_seq I g1
    have e1 : its.toArray.size = n := by rw [List.size_toArray, ← l1]; exact rv.length.symm
    have D1 := src_draws (prog := X.prog) (w := X.w) (A := X.A.in1) (I.ok.hd hc) k nea its.toArray
    rw [e1] at D1
    have hel : N + 1 < s.heap.objs.size := Heap.lt_size he
    have fresh : ∀ c ∈ [N + 1, N], c ≠ s.heap.objs.size := fun c hm => by
      rcases two hm with q | q
      · rw [q]; exact Nat.ne_of_lt hel
      · rw [q]; exact Nat.ne_of_lt (Nat.lt_of_succ_lt hel)
    refine wpAny_pyNext_enum_itemD D1 he ⟨s1, p⟩ hi ne1 hef fun u h' tk hu ho t1 hT hsz hk => ?_
    refine ⟨_, rfl, wpAny_letOwnedTupleGo_enum (s := { s with heap := h', toks := tk + 1 }) ho fun h2 he2 sb => ?_⟩
    have hT2 : h2.get? s.heap.objs.size = some { cls := .type "tuple", data := .seq #[.int i tk, u] } := (sb.2 _ (Ne.symm (fresh _ (by simp)))).trans hT
    obtain ⟨x, hx⟩ : ∃ x, xs[i]? = some x := ⟨xs[i]'(by omega), by simp⟩
    obtain ⟨ux, eux, rx⟩ := rv.get hx
    have exu : u = ux := by
      have q : its[i]? = some u := by simpa using hu
      rw [eux] at q; exact (Option.some.inj q).symm
    subst exu
    have new : ObjOk X.prog X.w (upd H s.heap.objs.size (.tup [.int (i : Nat), x])) h2 s.heap.objs.size (.tup [.int (i : Nat), x]) :=
      ⟨by show 2 ≤ sizeLine; decide, [.int (i : Nat) tk, u], .cons ⟨tk, rfl⟩ (.cons rx .nil), ⟨_, hT2, rfl, _, rfl⟩⟩
    have I1 : Inv X pins σ (upd H s.heap.objs.size (.tup [.int (i : Nat), x])) { s with heap := h2, toks := tk + 1 } :=
      I.turnedNew (t' := tk + 1) (ch := [N + 1, N]) (fun c o hb q => (sb.2 c (fun z => hb (by simp [z]))).trans (hk c o (fun z => hb (by simp [z])) (fun z => hb (by simp [z])) q)) hf (Nat.le_refl _) new
    refine ⟨.ref s.heap.objs.size, _, I1, rfl, ⟨_, x, rfl, I.hok.fresh (Nat.le_refl _), rfl, fun l hl => by rw [hl.inj I g1]; exact hx⟩, ⟨⟨u, by simpa using he2⟩, t1.1.at fun o q => (sb.2 _ (Ne.symm ne1)).trans q⟩, fun c hcm => ?_⟩
    rw [upd_ne (fresh c hcm)]
    exact (hf c hcm).1
  · intro X hP hw hK hc i pins s σ H E I hf st hg
    subst hP hw hK
    obtain ⟨⟨old, he⟩, s1⟩ := st
    obtain ⟨hi, xs, g1, l1⟩ := hg
    subst hi
    obtain ⟨its, rv, p, _, _⟩ := src_seq I g1
    have e1 : its.toArray.size = i := by rw [List.size_toArray, ← l1]; exact rv.length.symm
    have D1 := src_draws (prog := X.prog) (w := X.w) (A := X.A.in1) (I.ok.hd hc) k nea its.toArray
    rw [e1] at D1
    exact wpAny_pyNext_enum_endD D1 he ⟨s1, p⟩ fun h' hk => ⟨rfl, I.turnedL (t' := s.toks) (ch := [N + 1, N]) (fun c o hb q => hk c o (fun z => hb (by simp [z])) q) hf⟩
  · obtain ⟨⟨old, he⟩, _⟩ := st
    exact wpAny_pyIter_enum he h
def iEnumS (K : PySem.W.Frag) (ta : TA) : TI := fun σ H R => ta σ H fun vs H1 => ∃ k a xs, vs = [.ref a] ∧ SrcIs K H1 k a xs ∧ (xs.length ≤ sizeLine → R (Itens K k a xs.length) H1)
theorem pi_enumS {X : Cx} {e : Expr} {ta : TA} {p pos tpos : Pos} {elts : List Expr} {kk : Nat} (hg : Gl X "enumerate") (hm : X.mg "enumerate" = none) (ha : PA X [e] ta)
    (hs : starEach [e] X.env = [(false, eval e X.env)] := by rfl) : PI X (.Tuple elts kk tpos) (.Call (.Name "enumerate" p) [e] [] pos) (iEnumS X.K ta) := by
  refine ⟨fun pins s σ H R I h => ?_⟩
  refine Call_ (ld_blt I hg hm PyProof.Rows.boot_enumerate (PyProof.Rows.callWith_type1 (thn (ha.run pos pins s σ H _ I h) fun us s1 ⟨vs, H1, I1, r1, q⟩ => ?_) hs rfl))
  obtain ⟨k, a, xs, ex, g1, q⟩ := q
  subst ex
  obtain ⟨u1, rfl, c1⟩ := Vals.one r1
  cases c1
  obtain ⟨its, rv, p1, z1, la⟩ := src_seq I1 g1
  refine enumB (src_begins k a its.toArray) p1 fun h' he h1 hk => wpAny_pyIter_enum he ?_
  have I2 : Inv X pins σ H1 { s1 with heap := h' } := I1.kept (t' := s1.toks) hk
  refine ⟨s1.heap.objs.size + 1, [s1.heap.objs.size + 1, s1.heap.objs.size], _, _, H1, rfl, I2, turn_enumS la, ⟨⟨_, he⟩, itst_new h1⟩, fun c hcm => ?_, q z1⟩
  have hle : s1.heap.objs.size ≤ c := by
    have e' : c = s1.heap.objs.size + 1 ∨ c = s1.heap.objs.size := by simpa using hcm
    rcases e' with z | z
    · rw [z]; exact Nat.le_add_right _ _
    · rw [z]; exact Nat.le_refl _
  exact I1.fpOk hle (I1.hok.fresh hle)
def Itzn (K : PySem.W.Frag) (k1 : Bool) (a : Addr) (k2 : Bool) (b : Addr) (n : Nat) : It :=
  ⟨fun i H => i < n ∧ ∃ xs ys, SrcIs K H k1 a xs ∧ SrcIs K H k2 b ys ∧ min xs.length ys.length = n,
    fun i H v H' => ∃ T x y, v = .ref T ∧ H T = none ∧ H' = upd H T (.tup [x, y]) ∧ (∀ xs, SrcIs K H k1 a xs → xs[i]? = some x) ∧ ∀ ys, SrcIs K H k2 b ys → ys[i]? = some y,
    fun i H => i = n ∧ ∃ xs ys, SrcIs K H k1 a xs ∧ SrcIs K H k2 b ys ∧ min xs.length ys.length = n⟩
theorem turn_zipN {P : Program} {w : World} {K : PySem.W.Frag} {elts : List Expr} {kk : Nat} {tpos : Pos} {k1 k2 : Bool} {a b : Addr} {n N : Nat} (ha : a < N) (hb : b < N) :
    Turn P w K (.Tuple elts kk tpos) (Itzn K k1 a k2 b n) [N + 4, N + 2, N + 3, N, N + 1] (N + 4)
      (fun i h => IsZip h (N + 4) (N + 2) (N + 3) .none ∧ IsTupOf2 h (N + 2) (.ref N) (.ref (N + 1)) ∧ (∃ x y, IsTupOf2 h (N + 3) x y) ∧ ItSt k1 h N a i ∧ ItSt k2 h (N + 1) b i) := by
  have ia : ∀ c ∈ [a], c < N := fun c hc => (show c = a by simpa using hc) ▸ ha
  have ib : ∀ c ∈ [b], c < N := fun c hc => (show c = b by simpa using hc) ▸ hb
  have S : ZipSep2 (N + 4) (N + 2) (N + 3) N (N + 1) [N, a] [N + 1, b] := zip_sep2 ia ib
  have nea : a ≠ N := Nat.ne_of_lt ha
  have neb : b ≠ N + 1 := Nat.ne_of_lt (Nat.lt_succ_of_lt hb)
  have five : ∀ {c : Addr}, c ∈ [N + 4, N + 2, N + 3, N, N + 1] → c = N + 4 ∨ c = N + 2 ∨ c = N + 3 ∨ c = N ∨ c = N + 1 := fun h => by simpa using h
  have inA : ∀ {h : Heap} {f : Heap}, Heap.SameBut (N + 4) h f → ∀ c, c ≠ N + 4 → ∀ o, h.get? c = some o → f.get? c = some o := fun sb c hc o q => (sb.2 c hc).trans q
  refine ⟨by simp, fun i h st c hc => ?_, fun i h h' st k => ?_, ?_, ?_, fun A i s Q E st h => wpAny_pyIter_zip st.1 h⟩
  · obtain ⟨hz, hTI, ⟨x, y, hTO⟩, s1, s2⟩ := st
    rcases five hc with q | q | q | q | q
    · rw [q]; exact ⟨_, hz, fun v z => nomatch z⟩
    · rw [q]; exact ⟨_, hTI, fun v z => nomatch z⟩
    · rw [q]; exact ⟨_, hTO, fun v z => nomatch z⟩
    · rw [q]; exact s1.there
    · rw [q]; exact s2.there
  · obtain ⟨hz, hTI, ⟨x, y, hTO⟩, s1, s2⟩ := st
    exact ⟨k (N + 4) (by simp) _ hz, k (N + 2) (by simp) _ hTI, ⟨x, y, k (N + 3) (by simp) _ hTO⟩, s1.at fun o q => k N (by simp) o q, s2.at fun o q => k (N + 1) (by simp) o q⟩
  · intro X hP hw hK hc i pins s σ H E I hf st hg
    subst hP hw hK
    obtain ⟨hz, hTI, ⟨x0, y0, hTO⟩, s1, s2⟩ := st
    obtain ⟨hi, xs, ys, g1, g2, l1⟩ := hg
    obtain ⟨its, rv, p, _, _⟩ := src_seq I g1
    obtain ⟨its2, rv2, p2, _, _⟩ := src_seq I g2
    have e1 : its.toArray.size = xs.length := by rw [List.size_toArray]; exact rv.length.symm
    have e2 : its2.toArray.size = ys.length := by rw [List.size_toArray]; exact rv2.length.symm
    have D1 := src_draws (prog := X.prog) (w := X.w) (A := X.A.in1) (I.ok.hd hc) k1 nea its.toArray
    have D2 := src_draws (prog := X.prog) (w := X.w) (A := X.A.in1) (I.ok.hd hc) k2 neb its2.toArray
    rw [e1] at D1
    rw [e2] at D2
    have hzl : N + 4 < s.heap.objs.size := Heap.lt_size hz
    have fresh : ∀ c ∈ [N + 4, N + 2, N + 3, N, N + 1], c ≠ s.heap.objs.size := fun c hm => by
      rcases five hm with q | q | q | q | q
      · rw [q]; exact Nat.ne_of_lt hzl
      · rw [q]; exact Nat.ne_of_lt (Heap.lt_size hTI)
      · rw [q]; exact Nat.ne_of_lt (Heap.lt_size hTO)
      · rw [q]; obtain ⟨o, e, _⟩ := s1.there; exact Nat.ne_of_lt (Heap.lt_size e)
      · rw [q]; obtain ⟨o, e, _⟩ := s2.there; exact Nat.ne_of_lt (Heap.lt_size e)
    refine wpAny_pyNext_zipD2_item S D1 D2 hz hTI hTO ⟨s1, p⟩ ⟨s2, p2⟩ (by omega) (by omega) fun u u2 h' tk hu hu2 z' TO' t1 t2 hT hsz hk => ?_
    refine ⟨_, rfl, wpAny_letOwnedTupleGo_zip (s := { s with heap := h', toks := tk }) z' fun h2 z2 sb => ?_⟩
    have hT2 : h2.get? s.heap.objs.size = some { cls := .type "tuple", data := .seq #[u, u2] } := (sb.2 _ (Ne.symm (fresh _ (by simp)))).trans hT
    obtain ⟨x, hx⟩ : ∃ x, xs[i]? = some x := ⟨xs[i]'(by omega), by simp⟩
    obtain ⟨y, hy⟩ : ∃ y, ys[i]? = some y := ⟨ys[i]'(by omega), by simp⟩
    obtain ⟨ux, eux, rx⟩ := rv.get hx
    obtain ⟨uy, euy, ry⟩ := rv2.get hy
    have exu : u = ux := by
      have q : its[i]? = some u := by simpa using hu
      rw [eux] at q; exact (Option.some.inj q).symm
    have eyu : u2 = uy := by
      have q : its2[i]? = some u2 := by simpa using hu2
      rw [euy] at q; exact (Option.some.inj q).symm
    subst exu eyu
    have new : ObjOk X.prog X.w (upd H s.heap.objs.size (.tup [x, y])) h2 s.heap.objs.size (.tup [x, y]) :=
      ⟨by show 2 ≤ sizeLine; decide, [u, u2], .cons rx (.cons ry .nil), ⟨_, hT2, rfl, _, rfl⟩⟩
    have I1 : Inv X pins σ (upd H s.heap.objs.size (.tup [x, y])) { s with heap := h2, toks := tk } :=
      I.turnedNew (t' := tk) (ch := [N + 4, N + 2, N + 3, N, N + 1]) (fun c o hb q => (sb.2 c (fun z => hb (by simp [z]))).trans (hk c o (fun z => hb (by simp [z])) (fun z => hb (by simp [z])) (fun z => hb (by simp [z])) (fun z => hb (by simp [z])) q)) hf (Nat.le_refl _) new
    refine ⟨.ref s.heap.objs.size, _, I1, rfl, ⟨_, x, y, rfl, I.hok.fresh (Nat.le_refl _), rfl, fun l hl => by rw [hl.inj I g1]; exact hx, fun l hl => by rw [hl.inj I g2]; exact hy⟩, ⟨z2, ?_, ⟨u, u2, ?_⟩, ?_, ?_⟩, fun c hcm => ?_⟩
    · exact (sb.2 _ S.TIz).trans (hk _ _ S.TIz S.TITO S.TIi1 S.TIi2 hTI)
    · exact (sb.2 _ S.TOz).trans TO'
    · exact t1.1.at fun o q => (sb.2 _ S.zi1.symm).trans q
    · exact t2.1.at fun o q => (sb.2 _ S.zi2.symm).trans q
    · rw [upd_ne (fresh c hcm)]
      exact (hf c hcm).1
  · intro X hP hw hK hc i pins s σ H E I hf st hg
    subst hP hw hK
    obtain ⟨hz, hTI, ⟨x0, y0, hTO⟩, s1, s2⟩ := st
    obtain ⟨hi, xs, ys, g1, g2, l1⟩ := hg
    obtain ⟨its, rv, p, _, _⟩ := src_seq I g1
    obtain ⟨its2, rv2, p2, _, _⟩ := src_seq I g2
    have e1 : its.toArray.size = xs.length := by rw [List.size_toArray]; exact rv.length.symm
    have e2 : its2.toArray.size = ys.length := by rw [List.size_toArray]; exact rv2.length.symm
    have D1 := src_draws (prog := X.prog) (w := X.w) (A := X.A.in1) (I.ok.hd hc) k1 nea its.toArray
    have D2 := src_draws (prog := X.prog) (w := X.w) (A := X.A.in1) (I.ok.hd hc) k2 neb its2.toArray
    rw [e1] at D1
    rw [e2] at D2
    exact wpAny_pyNext_zipD2_end S D1 D2 hz hTI hTO ⟨s1, p⟩ ⟨s2, p2⟩ (by omega) (by omega) (by omega) fun h' tk hk => ⟨rfl, I.turnedL (t' := tk) (ch := [N + 4, N + 2, N + 3, N, N + 1]) (fun c o hb q =>
      hk c o (fun z => hb (by simp [z])) (fun z => hb (by simp [z])) (fun z => hb (by simp [z])) (fun z => hb (by simp [z])) q) hf⟩
def iZipN (K : PySem.W.Frag) (ta : TA) : TI := fun σ H R => ta σ H fun vs H1 => ∃ k1 a xs k2 b ys, vs = [.ref a, .ref b] ∧ SrcIs K H1 k1 a xs ∧ SrcIs K H1 k2 b ys ∧ (xs.length ≤ sizeLine → R (Itzn K k1 a k2 b (min xs.length ys.length)) H1)
theorem pi_zipN {X : Cx} {e e2 : Expr} {ta : TA} {p pos tpos : Pos} {elts : List Expr} {kk : Nat} (hg : Gl X "zip") (hm : X.mg "zip" = none) (ha : PA X [e, e2] ta)
    (hs : starEach [e, e2] X.env = (false, eval e X.env) :: starEach [e2] X.env := by rfl) (hpl : (backTo pos (starEach [e2] X.env)).any (·.1) = false := by rfl) :
    PI X (.Tuple elts kk tpos) (.Call (.Name "zip" p) [e, e2] [] pos) (iZipN X.K ta) := by
  refine ⟨fun pins s σ H R I h => ?_⟩
  refine Call_ (ld_blt I hg hm PyProof.Rows.boot_zip (PyProof.Rows.callWith_type1 (thn (ha.run pos pins s σ H _ I h) fun us s1 ⟨vs, H1, I1, r1, q⟩ => ?_) hs hpl))
  obtain ⟨k1, a, xs, k2, b, ys, ex, g1, g2, q⟩ := q
  subst ex
  obtain ⟨u1, u2, rfl, c1, c2⟩ := Vals.two r1
  cases c1; cases c2
  obtain ⟨its, rv, p1, z1, la⟩ := src_seq I1 g1
  obtain ⟨its2, rv2, p2, _, lb⟩ := src_seq I1 g2
  refine zip_begins2 (src_begins k1 a its.toArray) (src_begins k2 b its2.toArray) p1 p2 fun h' hz hTI hTO h1 h2 _ hk => wpAny_pyIter_zip hz ?_
  have I2 : Inv X pins σ H1 { s1 with heap := h' } := I1.kept (t' := s1.toks) hk
  refine ⟨s1.heap.objs.size + 4, [s1.heap.objs.size + 4, s1.heap.objs.size + 2, s1.heap.objs.size + 3, s1.heap.objs.size, s1.heap.objs.size + 1], _, _, H1, rfl, I2, turn_zipN la lb, ⟨hz, hTI, ⟨_, _, hTO⟩, itst_new h1, itst_new h2⟩, fun c hcm => ?_, q z1⟩
  have hle : s1.heap.objs.size ≤ c := by
    have e' : c = s1.heap.objs.size + 4 ∨ c = s1.heap.objs.size + 2 ∨ c = s1.heap.objs.size + 3 ∨ c = s1.heap.objs.size ∨ c = s1.heap.objs.size + 1 := by simpa using hcm
    rcases e' with z | z | z | z | z
    · rw [z]; exact Nat.le_add_right _ _
    · rw [z]; exact Nat.le_add_right _ _
    · rw [z]; exact Nat.le_add_right _ _
    · rw [z]; exact Nat.le_refl _
    · rw [z]; exact Nat.le_add_right _ _
  exact I1.fpOk hle (I1.hok.fresh hle)
end QL
end L2
namespace L2
namespace QL
open PySem PySem.Spec PyProof.Rows
/-! ### 11. what is walked -/
abbrev TID := DEnv → Sto → (List D → (Sto → Prop) → Sto → Prop) → Prop
/-- the walk J yields the items while chk stands -/
def IterOk (K : PySem.W.Frag) (H0 : Hp) (J : It) (items : List D) (chk : Sto → Prop) : Prop := ∀ i S H, TK K H0 H → RelS K S H → chk S →
  (i = items.length → J.stop i H) ∧ ∀ d, items[i]? = some d → J.go i H ∧ ∀ x H', J.yld i H x H' → Post K S H S H' ∧ RelS K S H' ∧ Rep K H' d x
def emI (K : PySem.W.Frag) (t : TID) : TI := fun σ H R => ∃ e S Q0, RelE K H e σ ∧ RelS K S H ∧ t e S Q0 ∧
  ∀ items chk S' J H', Q0 items chk S' → Post K S H S' H' → RelS K S' H' → items.length ≤ sizeLine → IterOk K H' J items chk → R J H'
abbrev DI (X : Cx) (tg e : Expr) (t : TID) : Prop := PI X tg e (emI X.K t)
/-- a list's, a tuple's items -/
def seqD (S : Sto) : D → Option (List D)
  | .tup xs => some xs
  | .rol xs => some xs
  | .loc a => match S a with
    | some (.lst xs) => some xs
    | _ => none
  | _ => none
def dISeq (t : TD) : TID := fun e S Q => t e S fun d S1 => match seqD S1 d with
  | some xs => Q xs (fun S2 => seqD S2 d = some xs) S1
  | none => False
/-- the source behind a datum -/
theorem src_of {K : PySem.W.Frag} {S : Sto} {H : Hp} {d : D} {v : V} {xs : List D} (rs : RelS K S H) (r : Rep K H d v) (e : seqD S d = some xs) :
    ∃ k a, v = .ref a ∧ ∀ S' H', TK K H H' → RelS K S' H' → seqD S' d = some xs → ∃ vs, SrcIs K H' k a vs ∧ Reps K H' xs vs := by
  cases r with
  | tup hq q =>
    refine ⟨false, _, rfl, fun S' H' k _ e' => ?_⟩
    have e2 : some _ = some xs := e'
    cases e2
    exact ⟨_, k.t _ _ hq, q.mono k⟩
  | rol hq q =>
    refine ⟨true, _, rfl, fun S' H' k _ e' => ?_⟩
    have e2 : some _ = some xs := e'
    cases e2
    exact ⟨_, ro_sql (k.r _ _ hq), q.mono k⟩
  | loc a =>
    refine ⟨true, a, rfl, fun S' H' k rs' e' => ?_⟩
    dsimp only [seqD] at e'
    split at e'
    · rename_i ys e2
      cases e'
      obtain ⟨vs, a1, b1⟩ := rs' _ _ e2
      exact ⟨vs, .of a1, b1⟩
    · cases e'
  | _ => cases e
def itOf (K : PySem.W.Frag) (k : Bool) (a : Addr) : It := match k with
  | true => Itl K a
  | false => Itt K a
def iSeq (K : PySem.W.Frag) (tl : TE) : TI := fun σ H R => tl σ H fun x H1 => ∃ k a vs, x = .ref a ∧ SrcIs K H1 k a vs ∧ (vs.length ≤ sizeLine → R (itOf K k a) H1)
section
variable {X : Cx} {tg : Expr}
theorem pi_seq {l : Expr} {tl : TE} (hl : PE X l tl) : PI X tg l (iSeq X.K tl) := by
  refine ⟨fun pins s σ H R I h => ?_⟩
  refine thn (hl.run pins s σ H _ I h) fun v s1 ⟨x, H1, I1, r1, k, a, vs, e, g, q⟩ => ?_
  subst e
  cases r1
  obtain ⟨its, rv, p, hz, la⟩ := src_seq I1 g
  refine (src_begins k a its.toArray).iter _ _ _ _ _ _ p ?_
  have new : (s1.heap.push (itObj k a)).get? s1.heap.objs.size = some (itObj k a) := Heap.get?_push_size _ (by cases k <;> rfl)
  have I2 : Inv X pins σ H1 { s1 with heap := s1.heap.push (itObj k a) } := I1.kept (t' := s1.toks) fun b o e => Heap.get?_push_of_some _ e
  have f : ∀ b ∈ [s1.heap.objs.size], FpOk X pins H1 b := fun b hb => by
    have e : b = s1.heap.objs.size := by simpa using hb
    subst e
    exact I1.fpOk (Nat.le_refl _) (I1.hok.fresh (Nat.le_refl _))
  cases k with
  | true => exact ⟨s1.heap.objs.size, [s1.heap.objs.size], _, _, H1, rfl, I2, turn_list a _, ⟨_, new, rfl, rfl⟩, f, q hz⟩
  | false => exact ⟨s1.heap.objs.size, [s1.heap.objs.size], _, _, H1, rfl, I2, turn_tuple a _, ⟨_, new, rfl, rfl⟩, f, q hz⟩
theorem iterOk_seq {K : PySem.W.Frag} {S : Sto} {H : Hp} {d : D} {v : V} {xs : List D} (rs : RelS K S H) (r : Rep K H d v) (e : seqD S d = some xs) :
    ∃ k a vs, v = .ref a ∧ SrcIs K H k a vs ∧ Reps K H xs vs ∧ IterOk K H (itOf K k a) xs (fun S2 => seqD S2 d = some xs) := by
  obtain ⟨k, a, rfl, g⟩ := src_of rs r e
  obtain ⟨vs, g0, r0⟩ := g S H TK.refl rs e
  refine ⟨k, a, vs, rfl, g0, r0, fun i S' H' tk rs' e' => ?_⟩
  obtain ⟨ws, g1, r1⟩ := g S' H' tk rs' e'
  have hl := r1.length
  refine ⟨fun hi => ?_, fun d hd => ?_⟩
  · cases k with
    | true => exact ⟨ws, g1, by omega⟩
    | false => exact ⟨ws, g1, by omega⟩
  · obtain ⟨x, hx, rx⟩ := r1.get hd
    cases k with
    | true => exact ⟨⟨ws, x, g1, hx⟩, fun y H2 q => by
        obtain ⟨e1, q⟩ := q
        subst e1
        have e2 := q ws g1
        rw [hx] at e2; cases e2
        exact ⟨Post.refl, rs', rx⟩⟩
    | false => exact ⟨⟨ws, x, g1, hx⟩, fun y H2 q => by
        obtain ⟨e1, q⟩ := q
        subst e1
        have e2 := q ws g1
        rw [hx] at e2; cases e2
        exact ⟨Post.refl, rs', rx⟩⟩
theorem di_seq {l : Expr} {tl : TD} (hl : DE X l tl) : DI X tg l (dISeq tl) :=
  PI.le (pi_seq hl) fun σ H R h => by
    obtain ⟨e, S, Q0, re, rs, ht, k⟩ := h
    refine ⟨e, S, _, re, rs, ht, fun d S1 v H1 q p rs1 r => ?_⟩
    split at q
    · rename_i xs e1
      obtain ⟨b, a, vs, e2, g, rr, ok⟩ := iterOk_seq rs1 r e1
      exact ⟨b, a, vs, e2, g, fun z => k xs _ S1 _ H1 q p rs1 (by rw [rr.length]; exact z) ok⟩
    · exact q.elim
/-- range(n), range(lo, hi) -/
def rngD (lo : Int) (n : Nat) : List D := (List.range n).map fun (k : Nat) => .int (lo + k)
def dIRng1 (ta : TAD) : TID := fun e S Q => ta e S fun ds S1 => match ds with
  | [.int j] => (-100000 ≤ j ∧ j ≤ 100000) ∧ Q (rngD 0 j.toNat) (fun _ => True) S1
  | _ => False
def dIRng2 (ta : TAD) : TID := fun e S Q => ta e S fun ds S1 => match ds with
  | [.int i, .int j] => (-100000 ≤ i ∧ i ≤ 100000 ∧ -100000 ≤ j ∧ j ≤ 100000) ∧ Q (rngD i (j - i).toNat) (fun _ => True) S1
  | _ => False
theorem iterOk_rng {K : PySem.W.Frag} {H0 : Hp} {lo : Int} {n : Nat} : IterOk K H0 (Itr lo n) (rngD lo n) (fun _ => True) := fun i S H tk rs _ => by
  have hl : (rngD lo n).length = n := by simp [rngD]
  refine ⟨fun hi => by rw [hl] at hi; exact Nat.le_of_eq hi.symm, fun d hd => ?_⟩
  have hi : i < n := by rw [← hl]; exact (List.getElem?_eq_some_iff.mp hd).1
  refine ⟨hi, fun x H' y => ?_⟩
  obtain ⟨e1, e2⟩ := y
  subst e1 e2
  have e : d = .int (lo + i) := by
    unfold rngD at hd
    rw [List.getElem?_map, List.getElem?_range hi] at hd
    exact (Option.some.inj hd).symm
  rw [e]
  exact ⟨Post.refl, rs, .int _⟩
theorem rng_fit {lo : Int} {n : Nat} (h : n ≤ 1000000) : (rngD lo n).length ≤ sizeLine := by
  simp only [rngD, List.length_map, List.length_range]
  rw [sizeLine_eq]; omega
theorem reps_one {K : PySem.W.Frag} {H : Hp} {d : D} {vs : List V} (r : Reps K H [d] vs) : ∃ v, vs = [v] ∧ Rep K H d v := by
  cases r with
  | cons h t => cases t; exact ⟨_, rfl, h⟩
theorem reps_two {K : PySem.W.Frag} {H : Hp} {d e : D} {vs : List V} (r : Reps K H [d, e] vs) : ∃ v w, vs = [v, w] ∧ Rep K H d v ∧ Rep K H e w := by
  cases r with
  | cons h t =>
    obtain ⟨w, e, r⟩ := reps_one t
    subst e
    exact ⟨_, _, rfl, h, r⟩
theorem di_rng1 {a : Expr} {ta : TAD} {p pos : Pos} (hg : Gl X "range") (hm : X.mg "range" = none) (ha : DA X [a] ta) (hs : starEach [a] X.env = [(false, eval a X.env)] := by rfl) : DI X tg (.Call (.Name "range" p) [a] [] pos) (dIRng1 ta) :=
  PI.le (pi_range1 hg hm ha hs) fun σ H R h => by
    obtain ⟨e, S, Q0, re, rs, ht, k⟩ := h
    refine ⟨e, S, _, re, rs, ht, fun ds S1 vs H1 q p rs1 r => ?_⟩
    split at q
    · rename_i j
      obtain ⟨v, e1, r1⟩ := reps_one r
      cases r1
      exact ⟨j, e1, by omega, by omega, k _ _ S1 _ H1 q.2 p rs1 (rng_fit (by omega)) iterOk_rng⟩
    · exact q.elim
theorem di_rng2 {a b : Expr} {ta : TAD} {p pos : Pos} (hg : Gl X "range") (hm : X.mg "range" = none) (ha : DA X [a, b] ta) (hs : starEach [a, b] X.env = [(false, eval a X.env), (false, eval b X.env)] := by rfl) (hs2 : starEach [b] X.env = [(false, eval b X.env)] := by rfl) :
    DI X tg (.Call (.Name "range" p) [a, b] [] pos) (dIRng2 ta) :=
  PI.le (pi_range2 hg hm ha hs hs2) fun σ H R h => by
    obtain ⟨e, S, Q0, re, rs, ht, k⟩ := h
    refine ⟨e, S, _, re, rs, ht, fun ds S1 vs H1 q p rs1 r => ?_⟩
    split at q
    · rename_i i j
      obtain ⟨v, w, e1, r1, r2⟩ := reps_two r
      cases r1; cases r2
      exact ⟨i, j, e1, by omega, k _ _ S1 _ H1 q.2 p rs1 (rng_fit (by omega)) iterOk_rng⟩
    · exact q.elim
/-- zip(x, y, strict=True), zip(x, y) -/
def pairD (x y : D) : D := .tup [x, y]
def dIZip (st : Bool) (ta : TAD) : TID := fun e S Q => ta e S fun ds S1 => match ds with
  | [x, y] => match seqD S1 x, seqD S1 y with
    | some xs, some ys => (st = true → xs.length = ys.length) ∧ Q (List.zipWith pairD xs ys) (fun S2 => seqD S2 x = some xs ∧ seqD S2 y = some ys) S1
    | _, _ => False
  | _ => False
theorem pair_yld {K : PySem.W.Frag} {S : Sto} {H : Hp} {T : Addr} {d1 d2 : D} {x y : V} (rs : RelS K S H) (hT : H T = none) (r1 : Rep K H d1 x) (r2 : Rep K H d2 y) :
    Post K S H S (upd H T (.tup [x, y])) ∧ RelS K S (upd H T (.tup [x, y])) ∧ Rep K (upd H T (.tup [x, y])) (.tup [d1, d2]) (.ref T) := by
  have f : Free (H T) := by rw [hT]; trivial
  exact ⟨Post.lay hT, rs.upd f (rs.none_of hT), .tup (.of upd_same) (.cons (r1.mono (TK.upd f)) (.cons (r2.mono (TK.upd f)) .nil))⟩
theorem zip_get {xs ys : List D} {i : Nat} {d : D} (h : (List.zipWith pairD xs ys)[i]? = some d) : ∃ x y, xs[i]? = some x ∧ ys[i]? = some y ∧ d = .tup [x, y] := by
  rw [List.getElem?_zipWith] at h
  cases e1 : xs[i]? with
  | none => rw [e1] at h; cases h
  | some x =>
    cases e2 : ys[i]? with
    | none => rw [e1, e2] at h; cases h
    | some y =>
      rw [e1, e2] at h
      exact ⟨x, y, rfl, rfl, (Option.some.inj h).symm⟩
theorem di_zipS {e1 e2 : Expr} {elts : List Expr} {kk j : Nat} {ta : TAD} {p pos tpos q1 q2 : Pos} (hg : Gl X "zip") (hm : X.mg "zip" = none) (ha : DA X [e1, e2] ta)
    (hs : backTo pos (starEach [e1, e2] X.env) = (false, eval e1 X.env) :: backTo pos (starEach [e2] X.env) := by rfl) (hpl : (backTo pos (starEach [e1, e2] X.env)).any (·.1) = false := by rfl) :
    DI X (.Tuple elts kk tpos) (.Call (.Name "zip" p) [e1, e2] [⟨some "strict", .Constant (.bool true) j q1, q2⟩] pos) (dIZip true ta) :=
  PI.le (pi_zipS hg hm ha hs hpl) fun σ H R h => by
    obtain ⟨e, S, Q0, re, rs, ht, k⟩ := h
    refine ⟨e, S, _, re, rs, ht, fun ds S1 vs H1 q p rs1 r => ?_⟩
    split at q
    · rename_i x y
      obtain ⟨v, w, e1, r1, r2⟩ := reps_two r
      subst e1
      split at q
      · rename_i xs ys ex ey
        obtain ⟨k1, a, rfl, g1⟩ := src_of rs1 r1 ex
        obtain ⟨k2, b, rfl, g2⟩ := src_of rs1 r2 ey
        obtain ⟨us, a1, b1⟩ := g1 S1 H1 TK.refl rs1 ex
        obtain ⟨ws, a2, b2⟩ := g2 S1 H1 TK.refl rs1 ey
        have hn := q.1 rfl
        have l1 := b1.length
        have l2 := b2.length
        have lz : (List.zipWith pairD xs ys).length = us.length := by rw [List.length_zipWith]; omega
        refine ⟨k1, a, us, k2, b, ws, rfl, a1, a2, by omega, fun z => k _ _ S1 _ H1 q.2 p rs1 (by omega) fun i S' H' tk rs' ch => ?_⟩
        obtain ⟨us', c1, d1⟩ := g1 S' H' tk rs' ch.1
        obtain ⟨ws', c2, d2⟩ := g2 S' H' tk rs' ch.2
        have l3 := d1.length
        have l4 := d2.length
        refine ⟨fun hi => ⟨by omega, us', ws', c1, c2, by omega, by omega⟩, fun d hd => ⟨⟨?_, us', ws', c1, c2, by omega, by omega⟩, fun x' H2 yl => ?_⟩⟩
        · have := (List.getElem?_eq_some_iff.mp hd).1
          omega
        · obtain ⟨T, x0, y0, ex', hT, eH, h1, h2⟩ := yl
          subst ex' eH
          obtain ⟨dx, dy, p1, p2, rfl⟩ := zip_get hd
          obtain ⟨z1, s1, t1⟩ := d1.get p1
          obtain ⟨z2, s2, t2⟩ := d2.get p2
          have q1 := h1 us' c1
          have q2 := h2 ws' c2
          rw [s1] at q1; cases q1
          rw [s2] at q2; cases q2
          exact pair_yld rs' hT t1 t2
      · exact q.elim
    · exact q.elim
theorem di_zipN {e1 e2 : Expr} {elts : List Expr} {kk : Nat} {ta : TAD} {p pos tpos : Pos} (hg : Gl X "zip") (hm : X.mg "zip" = none) (ha : DA X [e1, e2] ta)
    (hs : starEach [e1, e2] X.env = (false, eval e1 X.env) :: starEach [e2] X.env := by rfl) (hpl : (backTo pos (starEach [e2] X.env)).any (·.1) = false := by rfl) :
    DI X (.Tuple elts kk tpos) (.Call (.Name "zip" p) [e1, e2] [] pos) (dIZip false ta) :=
  PI.le (pi_zipN hg hm ha hs hpl) fun σ H R h => by
    obtain ⟨e, S, Q0, re, rs, ht, k⟩ := h
    refine ⟨e, S, _, re, rs, ht, fun ds S1 vs H1 q p rs1 r => ?_⟩
    split at q
    · rename_i x y
      obtain ⟨v, w, e1, r1, r2⟩ := reps_two r
      subst e1
      split at q
      · rename_i xs ys ex ey
        obtain ⟨k1, a, rfl, g1⟩ := src_of rs1 r1 ex
        obtain ⟨k2, b, rfl, g2⟩ := src_of rs1 r2 ey
        obtain ⟨us, a1, b1⟩ := g1 S1 H1 TK.refl rs1 ex
        obtain ⟨ws, a2, b2⟩ := g2 S1 H1 TK.refl rs1 ey
        have l1 := b1.length
        have l2 := b2.length
        have lz : (List.zipWith pairD xs ys).length = min us.length ws.length := by rw [List.length_zipWith]; omega
        refine ⟨k1, a, us, k2, b, ws, rfl, a1, a2, fun z => k _ _ S1 _ H1 q.2 p rs1 (by omega) fun i S' H' tk rs' ch => ?_⟩
        obtain ⟨us', c1, d1⟩ := g1 S' H' tk rs' ch.1
        obtain ⟨ws', c2, d2⟩ := g2 S' H' tk rs' ch.2
        have l3 := d1.length
        have l4 := d2.length
        refine ⟨fun hi => ⟨by omega, us', ws', c1, c2, by omega⟩, fun d hd => ⟨⟨?_, us', ws', c1, c2, by omega⟩, fun x' H2 yl => ?_⟩⟩
        · have := (List.getElem?_eq_some_iff.mp hd).1
          omega
        · obtain ⟨T, x0, y0, ex', hT, eH, h1, h2⟩ := yl
          subst ex' eH
          obtain ⟨dx, dy, p1, p2, rfl⟩ := zip_get hd
          obtain ⟨z1, s1, t1⟩ := d1.get p1
          obtain ⟨z2, s2, t2⟩ := d2.get p2
          have q1 := h1 us' c1
          have q2 := h2 ws' c2
          rw [s1] at q1; cases q1
          rw [s2] at q2; cases q2
          exact pair_yld rs' hT t1 t2
      · exact q.elim
    · exact q.elim
/-- enumerate(x) -/
def enumD (n : Nat) : List D → List D
  | [] => []
  | x :: xs => .tup [.int (n : Nat), x] :: enumD (n + 1) xs
theorem enumD_length : ∀ (n : Nat) (xs : List D), (enumD n xs).length = xs.length
  | _, [] => rfl
  | n, x :: xs => congrArg (· + 1) (enumD_length (n + 1) xs)
theorem enumD_get : ∀ (n : Nat) (xs : List D) (i : Nat), (enumD n xs)[i]? = xs[i]?.map fun x => .tup [.int ((n + i : Nat) : Int), x]
  | _, [], _ => by simp [enumD]
  | n, x :: xs, 0 => by simp [enumD]
  | n, x :: xs, i + 1 => by
    have h := enumD_get (n + 1) xs i
    simp only [enumD, List.getElem?_cons_succ]
    rw [h, show n + 1 + i = n + (i + 1) by omega]
def dIEnum (ta : TAD) : TID := fun e S Q => ta e S fun ds S1 => match ds with
  | [x] => match seqD S1 x with
    | some xs => Q (enumD 0 xs) (fun S2 => seqD S2 x = some xs) S1
    | none => False
  | _ => False
theorem di_enum {e1 : Expr} {elts : List Expr} {kk : Nat} {ta : TAD} {p pos tpos : Pos} (hg : Gl X "enumerate") (hm : X.mg "enumerate" = none) (ha : DA X [e1] ta)
    (hs : starEach [e1] X.env = [(false, eval e1 X.env)] := by rfl) : DI X (.Tuple elts kk tpos) (.Call (.Name "enumerate" p) [e1] [] pos) (dIEnum ta) :=
  PI.le (pi_enumS hg hm ha hs) fun σ H R h => by
    obtain ⟨e, S, Q0, re, rs, ht, k⟩ := h
    refine ⟨e, S, _, re, rs, ht, fun ds S1 vs H1 q p rs1 r => ?_⟩
    split at q
    · rename_i x
      obtain ⟨v, e1, r1⟩ := reps_one r
      subst e1
      split at q
      · rename_i xs ex
        obtain ⟨k1, a, rfl, g1⟩ := src_of rs1 r1 ex
        obtain ⟨us, a1, b1⟩ := g1 S1 H1 TK.refl rs1 ex
        have l1 := b1.length
        refine ⟨k1, a, us, rfl, a1, fun z => k _ _ S1 _ H1 q p rs1 (by rw [enumD_length]; omega) fun i S' H' tk rs' ch => ?_⟩
        obtain ⟨us', c1, d1⟩ := g1 S' H' tk rs' ch
        have l3 := d1.length
        rw [enumD_length]
        refine ⟨fun hi => ⟨by omega, us', c1, by omega⟩, fun d hd => ?_⟩
        have hi := (List.getElem?_eq_some_iff.mp hd).1
        rw [enumD_length] at hi
        refine ⟨⟨by omega, us', c1, by omega⟩, fun x' H2 yl => ?_⟩
        obtain ⟨T, x0, ex', hT, eH, h1⟩ := yl
        subst ex' eH
        rw [enumD_get] at hd
        cases e3 : xs[i]? with
        | none => rw [e3] at hd; cases hd
        | some dx =>
          rw [e3] at hd
          have hd' := (Option.some.inj hd).symm
          subst hd'
          obtain ⟨z1, s1, t1⟩ := d1.get e3
          have q1 := h1 us' c1
          rw [s1] at q1; cases q1
          have t0 : Rep X.K H' (.int ((0 + i : Nat) : Int)) (.int (i : Nat)) := by rw [Nat.zero_add]; exact .int _
          exact pair_yld rs' hT t0 t1
      · exact q.elim
    · exact q.elim
end
end QL
end L2
namespace L2
namespace QL
open PySem PySem.Spec PyProof.Rows
/-! ### 12. targets: names, tuples of them -/
mutual
inductive Tgt where
  | nm (i : Nat) | tp (ts : Tgts)
inductive Tgts where
  | nil | cons (t : Tgt) (ts : Tgts)
end
def Tgts.len : Tgts → Nat
  | .nil => 0
  | .cons _ ts => ts.len + 1
mutual
def gOf (K : PySem.W.Frag) : Tgt → TG
  | .nm i => gName i
  | .tp ts => gTup K ts.len (gsOf K ts)
def gsOf (K : PySem.W.Frag) : Tgts → TGs
  | .nil => gNil
  | .cons t ts => gCons (gOf K t) (gsOf K ts)
end
mutual
def bT : Tgt → D → DEnv → Option DEnv
  | .nm i, d, e => some (e.set i (some d))
  | .tp ts, d, e => match d with
    | .tup xs => bTs ts xs e
    | _ => none
def bTs : Tgts → List D → DEnv → Option DEnv
  | .nil, [], e => some e
  | .nil, _ :: _, _ => none
  | .cons _ _, [], _ => none
  | .cons t ts, x :: xs, e => match bT t x e with
    | some e' => bTs ts xs e'
    | none => none
end
mutual
def Tgt.own (vs : List Nat) : Tgt → Bool
  | .nm i => vs.contains i
  | .tp ts => ts.own vs
def Tgts.own (vs : List Nat) : Tgts → Bool
  | .nil => true
  | .cons t ts => t.own vs && ts.own vs
end
theorem wipe_get (σ : St) (i : Nat) : ∀ vs : List Nat, (wipe σ vs)[i]? = if i ∈ vs then σ[i]?.map (fun _ => none) else σ[i]?
  | [] => rfl
  | v :: vs => by
    unfold wipe
    have ih := wipe_get σ i vs
    by_cases hv : v = i
    · subst hv
      rw [if_pos List.mem_cons_self]
      by_cases hl : v < σ.length
      · rw [List.getElem?_set_self (by rw [wipe_length]; exact hl)]
        simp [hl]
      · rw [List.getElem?_eq_none (by simp [wipe_length]; omega), List.getElem?_eq_none (by omega)]
        rfl
    · rw [List.getElem?_set_ne hv, ih]
      have e : (i ∈ v :: vs) ↔ i ∈ vs := ⟨fun h => (List.mem_cons.mp h).resolve_left (Ne.symm hv), List.mem_cons_of_mem _⟩
      by_cases hi : i ∈ vs
      · rw [if_pos hi, if_pos (e.mpr hi)]
      · rw [if_neg hi, if_neg (fun h => hi (e.mp h))]
theorem wipe_set {σ : St} {i : Nat} {x : Option V} {vs : List Nat} (h : i ∈ vs) : wipe (σ.set i x) vs = wipe σ vs := by
  apply List.ext_getElem?
  intro j
  rw [wipe_get, wipe_get]
  by_cases hj : j ∈ vs
  · rw [if_pos hj, if_pos hj]
    by_cases e : i = j
    · subst e
      by_cases hl : i < σ.length
      · rw [List.getElem?_set_self hl]; simp [hl]
      · rw [List.getElem?_eq_none (by simp; omega), List.getElem?_eq_none (by omega)]
    · rw [List.getElem?_set_ne e]
  · rw [if_neg hj, if_neg hj, List.getElem?_set_ne (show ¬ i = j from fun e => hj (by rw [← e]; exact h))]
theorem wipe_wipe {σ : St} {vs : List Nat} : wipe (wipe σ vs) vs = wipe σ vs := by
  apply List.ext_getElem?
  intro j
  rw [wipe_get, wipe_get]
  by_cases hj : j ∈ vs
  · rw [if_pos hj, if_pos hj]
    cases σ[j]? <;> rfl
  · rw [if_neg hj]
def wipeD (e : DEnv) : List Nat → DEnv
  | [] => e
  | v :: vs => (wipeD e vs).set v none
theorem RelE.wipe {K : PySem.W.Frag} {H : Hp} {e : DEnv} {σ : St} (h : RelE K H e σ) : ∀ vs : List Nat, RelE K H (wipeD e vs) (L2.wipe σ vs)
  | [] => h
  | v :: vs => (RelE.wipe h vs).forget v
/-- what a target leaves of the slots: a comprehension's own are wiped -/
def Out (ok : List Nat → Bool) (σ σ' : St) : Prop := ∀ vs, ok vs = true → wipe σ' vs = wipe σ vs
theorem bTs_len : ∀ (ts : Tgts) (ds : List D) (e e' : DEnv), bTs ts ds e = some e' → ds.length = ts.len
  | .nil, [], _, _, _ => rfl
  | .nil, _ :: _, _, _, h => by cases h
  | .cons _ _, [], _, _, h => by cases h
  | .cons t ts, x :: xs, e, e', h => by
    have h : (match bT t x e with | some e' => bTs ts xs e' | none => none) = some e' := h
    cases e1 : bT t x e with
    | none => rw [e1] at h; cases h
    | some e2 =>
      rw [e1] at h
      exact congrArg (· + 1) (bTs_len ts xs e2 e' h)
mutual
theorem gOf_ok {K : PySem.W.Frag} {H : Hp} : ∀ (t : Tgt) (d : D) (v : V) (e e' : DEnv) (σ : St) (Q : St → Hp → Prop), Rep K H d v → RelE K H e σ → bT t d e = some e' →
    (∀ σ', RelE K H e' σ' → Out (fun vs => t.own vs) σ σ' → Q σ' H) → gOf K t v σ H Q
  | .nm i, d, v, e, e', σ, Q, r, re, hb, k => by
    have he : e.set i (some d) = e' := Option.some.inj hb
    subst he
    refine k _ (re.set r i) fun vs h => ?_
    exact wipe_set (by simpa [Tgt.own] using h)
  | .tp ts, d, v, e, e', σ, Q, r, re, hb, k => by
    cases r with
    | tup hq q =>
      exact ⟨_, _, rfl, hq, by rw [← q.length]; exact bTs_len ts _ e e' hb, gsOf_ok ts _ _ e e' σ Q q re hb k⟩
    | _ => cases hb
theorem gsOf_ok {K : PySem.W.Frag} {H : Hp} : ∀ (ts : Tgts) (ds : List D) (vs : List V) (e e' : DEnv) (σ : St) (Q : St → Hp → Prop), Reps K H ds vs → RelE K H e σ → bTs ts ds e = some e' →
    (∀ σ', RelE K H e' σ' → Out (fun vs => ts.own vs) σ σ' → Q σ' H) → gsOf K ts vs σ H Q
  | .nil, [], _, e, e', σ, Q, r, re, hb, k => by
    cases r
    have he : e = e' := Option.some.inj hb
    subst he
    exact ⟨rfl, k σ re fun _ _ => rfl⟩
  | .nil, _ :: _, _, _, _, _, _, _, _, hb, _ => by cases hb
  | .cons _ _, [], _, _, _, _, _, _, _, hb, _ => by cases hb
  | .cons t ts, x :: xs, _, e, e', σ, Q, r, re, hb, k => by
    cases r with
    | cons r1 r2 =>
      have hb : (match bT t x e with | some e' => bTs ts xs e' | none => none) = some e' := hb
      cases e1 : bT t x e with
      | none => rw [e1] at hb; cases hb
      | some e2 =>
        rw [e1] at hb
        refine ⟨_, _, rfl, gOf_ok t x _ e e2 σ _ r1 re e1 fun σ2 re2 o2 => gsOf_ok ts xs _ e2 e' σ2 Q r2 re2 hb fun σ3 re3 o3 => k σ3 re3 fun vs h => ?_⟩
        have h' : t.own vs = true ∧ ts.own vs = true := by simpa [Tgts.own] using h
        exact (o3 vs h'.2).trans (o2 vs h'.1)
end

/-! ### 13. statements -/
section
variable {X : Cx} {st : Stmt} {rest : List Stmt} {t u : TSD} {e : Expr} {te : TD} {pos : Pos}
def dNext : TSD := fun D0 e S => D0.nx e S
def dSeq (t u : TSD) : TSD := fun D0 e S => t { D0 with nx := u D0 } e S
theorem em_next {K : PySem.W.Frag} {D1 : Ends} {σ : St} {H : Hp} (h : emS K dNext D1 σ H) : D1.nx σ H := by
  obtain ⟨e, S, D0, re, rs, ht, k⟩ := h
  exact k.nx e S σ H ht Post.refl re rs
theorem dss_nil : DSs X [] dNext := PSs.le pss_nil fun _ _ _ h => em_next h
theorem dss_cons (h1 : DS X st t) (h2 : DSs X rest u) : DSs X (st :: rest) (dSeq t u) := PSs.le (pss_cons h1 h2) fun D1 σ H h => by
  obtain ⟨e, S, D0, re, rs, ht, k⟩ := h
  refine ⟨e, S, { D0 with nx := u D0 }, re, rs, ht, ⟨fun e' S' σ' H' q p re' rs' => ?_, k.rt, k.bk, k.ct⟩⟩
  exact ⟨e', S', D0, re', rs', q, k.after p⟩
theorem dss_one (h1 : DS X st t) : DSs X [st] t := pss_one h1
theorem ds_pass : DS X (.Pass pos) dNext := PS.le ps_pass fun _ _ _ h => em_next h
theorem ds_doc {x j pos pos'} : DS X (.Expr (.Constant (.str x) j pos) pos') dNext := PS.le ps_doc fun _ _ _ h => em_next h
def dBrk : TSD := fun D0 e S => D0.bk e S
def dCnt : TSD := fun D0 e S => D0.ct e S
theorem ds_break : DS X (.Break pos) dBrk := PS.le ps_break fun D1 σ H h => by
  obtain ⟨e, S, D0, re, rs, ht, k⟩ := h
  exact k.bk e S σ H ht Post.refl re rs
theorem ds_continue : DS X (.Continue pos) dCnt := PS.le ps_continue fun D1 σ H h => by
  obtain ⟨e, S, D0, re, rs, ht, k⟩ := h
  exact k.ct e S σ H ht Post.refl re rs
def dRet (te : TD) : TSD := fun D0 e S => te e S D0.rt
theorem ds_ret (he : DE X e te) : DS X (.Return (some e) pos) (dRet te) := PS.le (ps_ret he) fun D1 σ H h => by
  obtain ⟨e, S, D0, re, rs, ht, k⟩ := h
  exact ⟨e, S, D0.rt, re, rs, ht, fun d S' v H' q p rs' r => k.rt d S' v H' q p r rs'⟩
def dRetN : TSD := fun D0 _ S => D0.rt .non S
theorem ds_retN : DS X (.Return none pos) dRetN := PS.le ps_retN fun D1 σ H h => by
  obtain ⟨e, S, D0, re, rs, ht, k⟩ := h
  exact k.rt _ S _ H ht Post.refl .non rs
def dDrop (te : TD) : TSD := fun D0 e S => te e S fun _ S1 => D0.nx e S1
theorem ds_expr (he : DE X e te) (hs : swapsWith e none pos.line X.env = pure false := by rfl) : DS X (.Expr e pos) (dDrop te) := PS.le (ps_expr he hs) fun D1 σ H h => by
  obtain ⟨e, S, D0, re, rs, ht, k⟩ := h
  exact ⟨e, S, _, re, rs, ht, fun d S' v H' q p rs' r => k.nx e S' σ H' q p (re.mono p.tk) rs'⟩
def dIfS (c : TTD) (t u : TSD) : TSD := fun D0 e S => c e S fun b S1 => match b with
  | true => t D0 e S1
  | false => u D0 e S1
theorem ds_if {c : Expr} {a b : List Stmt} {tc : TTD} (hc : DT X c tc) (ha : DSs X a t) (hb : DSs X b u) : DS X (.If c a b pos) (dIfS tc t u) := PS.le (ps_if hc ha hb) fun D1 σ H h => by
  obtain ⟨e, S, D0, re, rs, ht, k⟩ := h
  refine ⟨e, S, _, re, rs, ht, fun b S1 H1 q p rs1 => ?_⟩
  cases b with
  | true => exact iteT ⟨e, S1, D0, re.mono p.tk, rs1, q, k.after p⟩
  | false => exact iteF ⟨e, S1, D0, re.mono p.tk, rs1, q, k.after p⟩
def dNever : TSD := fun _ _ _ => False
theorem ds_never : DS X st dNever := PS.le ps_never fun D1 σ H h => by
  obtain ⟨e, S, D0, re, rs, ht, k⟩ := h
  exact ht.elim
theorem dss_never {sts : List Stmt} : DSs X sts dNever := PSs.le pss_never fun D1 σ H h => by
  obtain ⟨e, S, D0, re, rs, ht, k⟩ := h
  exact ht.elim
/-- a target of any form -/
def dAsg (te : TD) (t : Tgt) : TSD := fun D0 e S => te e S fun d S1 => match bT t d e with
  | some e' => D0.nx e' S1
  | none => False
theorem em_asg {K : PySem.W.Frag} {tt : Tgt} {D1 : Ends} {σ : St} {H : Hp} (h : emS K (dAsg te tt) D1 σ H) : tAsg (emE K te) (gOf K tt) D1 σ H := by
  obtain ⟨e, S, D0, re, rs, ht, k⟩ := h
  refine ⟨e, S, _, re, rs, ht, fun d S' v H' q p rs' r => ?_⟩
  split at q
  · rename_i e' eb
    exact gOf_ok tt d v e e' σ _ r (re.mono p.tk) eb fun σ' re' _ => k.nx e' S' σ' H' q p re' rs'
  · exact q.elim
theorem ds_set {i : Nat} {x : Str} {pos' : Pos} (hN : X.N.Nodup) (hi : X.N[i]? = some x) (hx : Loc X.env.scope x) (he : DE X e te) (hs : swapsWith e (some (.Name x pos')) pos.line X.env = pure false := by rfl) (hf : X.fn x = true ∨ X.env.scope.names.lookup x = some .local := by first | exact .inl rfl | exact .inr rfl | assumption) :
    DS X (.Assign [.Name x pos'] e pos) (dAsg te (.nm i)) := PS.le (ps_set hN hi hx he hs hf) fun _ _ _ h => em_asg h
theorem ds_asg {tg : Expr} {tt : Tgt} (he : DE X e te) (hg : PG X tg (gOf X.K tt)) (hs : swapsWithSole [tg] e pos.line X.env = pure false := by rfl) (hw : swappedStores [tg] e X.env = pure none := by rfl)
    (h1 : (assignEach [tg] X.env).map (·.2) = [assign tg X.env] := by rfl) : DS X (.Assign [tg] e pos) (dAsg te tt) := PS.le (ps_asg he hg hs hw h1) fun _ _ _ h => em_asg h
/-- a, b = x, y -/
def dPar (i j : Nat) (ta : TAD) : TSD := fun D0 e S => ta e S fun ds S1 => match ds with
  | [x, y] => D0.nx ((e.set i (some x)).set j (some y)) S1
  | _ => False
theorem ds_par {i j : Nat} {x y : Str} {a b : Expr} {ta : TAD} {px py pt : Pos} {kt k2 pt2} (hc : X.calm = true) (hN : X.N.Nodup) (hi : X.N[i]? = some x) (hj : X.N[j]? = some y) (hij : i ≠ j)
    (hx : X.env.scope.names.lookup x = some .local) (hy : X.env.scope.names.lookup y = some .local) (ha : DA X [a, b] ta)
    (hw : swappedStores [.Tuple [.Name x px, .Name y py] kt pt] (.Tuple [a, b] k2 pt2) X.env = pure (some [x, y]))
    (hs : swapsWithSole [.Tuple [.Name x px, .Name y py] kt pt] (.Tuple [a, b] k2 pt2) pos.line X.env = pure false := by rfl) :
    DS X (.Assign [.Tuple [.Name x px, .Name y py] kt pt] (.Tuple [a, b] k2 pt2) pos) (dPar i j ta) := PS.le (ps_par hc hN hi hj hij hx hy ha hw hs) fun D1 σ H h => by
  obtain ⟨e, S, D0, re, rs, ht, k⟩ := h
  refine ⟨e, S, _, re, rs, ht, fun ds S' vs H' q p rs' r => ?_⟩
  split at q
  · rename_i d1 d2
    obtain ⟨v, w, e1, r1, r2⟩ := reps_two r
    subst e1
    exact ⟨v, w, rfl, k.nx _ S' _ H' q p (((re.mono p.tk).set r1 i).set r2 j) rs'⟩
  · exact q.elim
/-- o[i] = e, a list -/
def setD (o i v : D) (S : Sto) (Q : Sto → Prop) : Prop := match o, i with
  | .loc p, .int k => match S p with
    | some (.lst xs) => match ixN xs.length k with
      | some j => Q (S.put p (.lst (xs.set j v)))
      | none => False
    | _ => False
  | _, _ => False
def dSub (te to ti : TD) : TSD := fun D0 e S => te e S fun d S1 => to e S1 fun o S2 => ti e S2 fun i S3 => setD o i d S3 fun S4 => D0.nx e S4
theorem RelS.cell {K : PySem.W.Frag} {S : Sto} {H : Hp} {p : Addr} {c0 c : Cell} {o : HO} (rs : RelS K S H) (e : S p = some c0) (new : CellAt K (L2.upd H p o) p c) : RelS K (S.put p c) (L2.upd H p o) := rs.put (rs p c0 e).free new
theorem ds_sub {o i : Expr} {to ti : TD} {tpos : Pos} (he : DE X e te) (ho : DE X o to) (hi : DE X i ti)
    (ha : ∀ v, assign (.Subscript o i tpos) X.env v = (do
      let ov ← holding [v] (eval o X.env)
      let iv ← holding [v, ov] (eval i X.env)
      standAt tpos
      holding [v, ov, iv] (setItem ov iv v)
      release [v, ov, iv] []) := by intro _; rfl)
    (hs : swapsWithSole [.Subscript o i tpos] e pos.line X.env = pure false := by rfl) (hw : swappedStores [.Subscript o i tpos] e X.env = pure none := by rfl)
    (h1 : (assignEach [.Subscript o i tpos] X.env).map (·.2) = [assign (.Subscript o i tpos) X.env] := by rfl) : DS X (.Assign [.Subscript o i tpos] e pos) (dSub te to ti) :=
  PS.le (ps_asg he (pg_sub ho hi set_list ha) hs hw h1) fun D1 σ H h => by
    obtain ⟨e, S, D0, re, rs, ht, k⟩ := h
    refine ⟨e, S, _, re, rs, ht, fun d S1 v H1 h1 p1 rs1 r1 => ?_⟩
    refine ⟨e, S1, _, re.mono p1.tk, rs1, h1, fun od S2 ov H2 h2 p2 rs2 r2 => ?_⟩
    refine ⟨e, S2, _, re.mono (p1.trans p2).tk, rs2, h2, fun id S3 iv H3 h3 p3 rs3 r3 => ?_⟩
    have pp := (p1.trans p2).trans p3
    unfold setD at h3
    split at h3
    · cases r2; cases r3
      rename_i q kk
      split at h3
      · rename_i xs e1
        obtain ⟨vs, a1, b1⟩ := rs3 _ _ e1
        split at h3
        · rename_i j e2
          refine ⟨_, _, _, _, rfl, rfl, a1, by rw [← b1.length]; exact e2, ?_⟩
          have rd := r1.mono (p2.trans p3).tk
          have f : Free (H3 q) := by rw [a1]; trivial
          exact k.nx e _ σ _ h3 (pp.trans (Post.write rs3 e1)) ((re.mono pp.tk).mono (TK.upd f)) (rs3.cell e1 ⟨_, upd_same, (b1.set rd j).mono (TK.upd f)⟩)
        · exact h3.elim
      · exact h3.elim
    · exact h3.elim
end

/-! ### 14. for -/
/-- cells that nobody needs may be dropped -/
def Sb (S' S : Sto) : Prop := ∀ a c, S' a = some c → S a = some c
theorem Sb.refl (S : Sto) : Sb S S := fun _ _ h => h
theorem Sb.trans {S S1 S2 : Sto} (a : Sb S S1) (b : Sb S1 S2) : Sb S S2 := fun x c h => b x c (a x c h)
theorem Sb.free {S' S : Sto} {a : Addr} (s : Sb S' S) (n : S a = none) : S' a = none := by
  cases h : S' a with
  | none => rfl
  | some c => rw [s a c h] at n; cases n
theorem Sb.put {S' S : Sto} (s : Sb S' S) {a : Addr} (n : S' a = none) (c : Cell) : Sb S' (S.put a c) := fun x d h => by
  rw [put_ne (ne_of_free h n)]
  exact s x d h
theorem Sb.puts {S' S : Sto} (s : Sb S' S) (a : Addr) (c : Cell) : Sb (S'.put a c) (S.put a c) := fun x d h => by
  by_cases e : x = a
  · subst e; rw [put_eq] at h ⊢; exact h
  · rw [put_ne e] at h ⊢; exact s x d h
theorem Post.sub {K : PySem.W.Frag} {S S1 S2 : Sto} {H H1 : Hp} (p : Post K S H S1 H1) (s : Sb S2 S1) : Post K S H S2 H1 := ⟨p.tk, p.frame, fun a n e => s.free (p.dom a n e)⟩
def forRun (t : Tgt) (tb : TSD) (chk : Sto → Prop) (D0 : EndsD) : List D → DEnv → Sto → Prop
  | [], e, S => chk S ∧ D0.nx e S
  | x :: r, e, S => chk S ∧ match bT t x e with
    | some e' => tb { nx := fun e2 S2 => ∃ S3, Sb S3 S2 ∧ forRun t tb chk D0 r e2 S3, rt := D0.rt, bk := D0.nx, ct := fun e2 S2 => ∃ S3, Sb S3 S2 ∧ forRun t tb chk D0 r e2 S3 } e' S
    | none => False
def dFor (ti : TID) (t : Tgt) (tb : TSD) : TSD := fun D0 e S => ti e S fun items chk S1 => forRun t tb chk D0 items e S1
section
variable {X : Cx} {pos : Pos}
theorem forRun_chk {t : Tgt} {tb : TSD} {chk : Sto → Prop} {D0 : EndsD} {items : List D} {e : DEnv} {S : Sto} (h : forRun t tb chk D0 items e S) : chk S := by
  cases items with
  | nil => exact h.1
  | cons x r => exact h.1
theorem em_for {K : PySem.W.Frag} {ti : TID} {t : Tgt} {tb : TSD} {D1 : Ends} {σ : St} {H : Hp} (h : emS K (dFor ti t tb) D1 σ H) : tFor (emI K ti) (gOf K t) (emS K tb) D1 σ H := by
  obtain ⟨e, S, D0, re, rs, ht, k⟩ := h
  refine ⟨e, S, _, re, rs, ht, fun items chk S1 J H1 q p rs1 line ok => ?_⟩
  refine ⟨fun i m σ' H' => ∃ e' S', RelE K H' e' σ' ∧ RelS K S' H' ∧ Post K S1 H1 S' H' ∧ i ≤ items.length ∧ m = items.length - i ∧ forRun t tb chk D0 (items.drop i) e' S', ⟨_, e, S1, re.mono p.tk, rs1, Post.refl, Nat.zero_le _, rfl, q⟩, ?_⟩
  rintro i m σ' H' ⟨e', S', re', rs', p', hi, rfl, run⟩
  obtain ⟨o1, o2⟩ := ok i S' H' p'.tk rs' (forRun_chk run)
  by_cases hl : i = items.length
  · subst hl
    rw [List.drop_length] at run
    exact .inl ⟨o1 rfl, k.nx e' S' σ' H' run.2 (p.trans p') re' rs'⟩
  · have hlt : i < items.length := by omega
    obtain ⟨d, hd⟩ : ∃ d, items[i]? = some d := ⟨items[i], by simp [hlt]⟩
    have ed : items.drop i = d :: items.drop (i + 1) := by
      rw [List.drop_eq_getElem_cons hlt]
      have : items[i] = d := by
        have q2 := List.getElem?_eq_getElem hlt
        rw [hd] at q2
        exact (Option.some.inj q2).symm
      rw [this]
    rw [ed] at run
    obtain ⟨g, y⟩ := o2 d hd
    refine .inr ⟨g, fun σ'' H'' => ∃ e'' S'', RelE K H'' e'' σ'' ∧ RelS K S'' H'' ∧ Post K S1 H1 S'' H'' ∧ forRun t tb chk D0 (items.drop (i + 1)) e'' S'', ?_, fun x H2 yl => ?_⟩
    · rintro σ'' H'' ⟨e'', S'', a, b, c, f⟩
      exact ⟨items.length - (i + 1), by omega, e'', S'', a, b, c, hlt, rfl, f⟩
    · obtain ⟨p2, rs2, r2⟩ := y x H2 yl
      have run := run.2
      split at run
      · rename_i e2 eb
        refine gOf_ok t d x e' e2 σ' _ r2 (re'.mono p2.tk) eb fun σ3 re3 _ => ?_
        refine ⟨e2, S', _, re3, rs2, run, ⟨fun e4 S4 σ4 H4 f p4 re4 rs4 => ?_, fun d4 S4 v4 H4 f p4 r4 rs4 => ?_, fun e4 S4 σ4 H4 f p4 re4 rs4 => ?_, fun e4 S4 σ4 H4 f p4 re4 rs4 => ?_⟩⟩
        · obtain ⟨S5, sb, f⟩ := f
          exact ⟨e4, S5, re4, rs4.sub sb, ((p'.trans p2).trans p4).sub sb, f⟩
        · exact k.rt d4 S4 v4 H4 f ((p.trans (p'.trans p2)).trans p4) r4 rs4
        · exact k.nx e4 S4 σ4 H4 f ((p.trans (p'.trans p2)).trans p4) re4 rs4
        · obtain ⟨S5, sb, f⟩ := f
          exact ⟨e4, S5, re4, rs4.sub sb, ((p'.trans p2).trans p4).sub sb, f⟩
      · exact run.elim
theorem ds_for {tg iter : Expr} {body : List Stmt} {ti : TID} {t : Tgt} {tb : TSD} (hp : PassesOwn (model X.prog X.w) X.A X.env X.xe) (hc : X.calm = true) (hi : DI X tg iter ti) (hg : PG X tg (gOf X.K t)) (hb : DSs X body tb)
    (hs : ∀ x, foldedSetIterable iter X.env x = pure x := by intro _; rfl) : DS X (.For tg iter body [] pos) (dFor ti t tb) :=
  PS.le (ps_for hp hc hi hg hb hs) fun _ _ _ h => em_for h
end

/-! ### 15. list comprehensions -/
def lcRun (t : Tgt) (tt : TTD) (te : TD) (chk : Sto → Prop) (e0 : DEnv) (Q : List D → Sto → Prop) : List D → List D → Sto → Prop
  | [], acc, S => chk S ∧ Q acc S
  | x :: r, acc, S => chk S ∧ match bT t x e0 with
    | some e' => tt e' S fun b S1 => match b with
      | true => te e' S1 fun d S2 => ∃ S3, Sb S3 S2 ∧ lcRun t tt te chk e0 Q r (acc ++ [d]) S3
      | false => ∃ S3, Sb S3 S1 ∧ lcRun t tt te chk e0 Q r acc S3
    | none => False
/-- what is done with the items of a list that nobody else has -/
abbrev RLD := List D → Sto → DK → Prop
def rdNew : RLD := fun acc S Q => ∀ a, S a = none → Q (.loc a) (S.put a (.lst acc))
def dLcK (rd : RLD) (ti : TID) (t : Tgt) (tt : TTD) (te : TD) (vs : List Nat) : TD := fun e S Q => ti e S fun items chk S1 => lcRun t tt te chk (wipeD e vs) (fun acc S2 => rd acc S2 Q) items [] S1
abbrev dLc (ti : TID) (t : Tgt) (tt : TTD) (te : TD) (vs : List Nat) : TD := dLcK rdNew ti t tt te vs
/-- .. soundly: the list stands at D, no cell tells of it -/
def LcK (K : PySem.W.Frag) (rd : RLD) (rv : V → Hp → VK → Prop) : Prop := ∀ D acc us S (Q0 : DK) H (Q : VK), RelS K S H → S D = none → H D = some (.lst us) → Reps K H acc us → rd acc S Q0 →
  (∀ d S' v H', Q0 d S' → (∀ S0 H0, Post K S0 H0 S H → (H0 D = none) → Post K S0 H0 S' H') → RelS K S' H' → Rep K H' d v → Q v H') → rv (.ref D) H Q
theorem lck_new {K : PySem.W.Frag} : LcK K rdNew (fun x H Q => Q x H) := fun D acc us S Q0 H Q rs nD hu ru run k => by
  refine k _ _ _ H (run D nD) (fun S0 H0 p hD => ⟨p.tk, p.frame, fun x n ex => ?_⟩) (fun a c ea => ?_) (.loc D)
  · rw [put_ne (fun z => ex (by rw [z]; exact hD))]
    exact p.dom x n ex
  · by_cases hb : a = D
    · subst hb
      rw [put_eq] at ea; cases ea
      exact ⟨us, hu, ru⟩
    · rw [put_ne hb] at ea
      exact rs a c ea
abbrev DTs (X : Cx) (ifs : List Expr) (t : TTD) : Prop := PTs X ifs (emT X.K t)
def dYes : TTD := fun _ S Q => Q true S
theorem dts_nil {X : Cx} : DTs X [] dYes := PTs.le pts_nil fun σ H Q h => by
  obtain ⟨e, S, Q0, re, rs, ht, k⟩ := h
  exact k true S H ht Post.refl rs
theorem dts_one {X : Cx} {c : Expr} {t : TTD} (h : DT X c t) : DTs X [c] t := pts_one h
theorem lcRun_chk {t : Tgt} {tt : TTD} {te : TD} {chk : Sto → Prop} {e0 : DEnv} {Q : List D → Sto → Prop} {items acc : List D} {S : Sto} (h : lcRun t tt te chk e0 Q items acc S) : chk S := by
  cases items with
  | nil => exact h.1
  | cons x r => exact h.1
theorem Post.inner {K : PySem.W.Frag} {S S' : Sto} {H H' : Hp} {D : Addr} {o : HO} (p : Post K S H S' H') (hD : H D = none) (f : Free (H' D)) : Post K S H S' (upd H' D o) :=
  ⟨p.tk.trans (TK.upd f), fun x u n e => by rw [upd_ne (ne_of_none e hD)]; exact p.frame x u n e, p.dom⟩
theorem em_lcK {K : PySem.W.Frag} {rd : RLD} {rv : V → Hp → VK → Prop} (hr : LcK K rd rv) {ti : TID} {t : Tgt} {tt : TTD} {te : TD} {vs : List Nat} (hv : t.own vs = true) {σ : St} {H : Hp} {Q : VK} (h : emE K (dLcK rd ti t tt te vs) σ H Q) :
    tLc (emI K ti) (gOf K t) (emT K tt) (emE K te) vs σ H fun x H' => rv x H' Q := by
  obtain ⟨e, S, Q0, re, rs, ht, k⟩ := h
  refine ⟨e, S, _, re, rs, ht, fun items chk S1 J H1 q p rs1 line ok => ?_⟩
  intro D hD
  have nD : S1 D = none := rs1.none_of hD
  refine ⟨fun i m H' => ∃ S' acc us, RelS K S' H' ∧ Post K S1 H1 S' H' ∧ S' D = none ∧ H' D = some (.lst us) ∧ Reps K H' acc us ∧ acc.length ≤ i ∧ i ≤ items.length ∧ m = items.length - i ∧
    lcRun t tt te chk (wipeD e vs) (fun acc S2 => rd acc S2 Q0) (items.drop i) acc S',
    ⟨_, S1, [], [], rs1.upd (by rw [hD]; trivial) nD, Post.lay hD, nD, upd_same, .nil, Nat.le_refl _, Nat.zero_le _, rfl, q⟩, ?_⟩
  rintro i m H' ⟨S', acc, us, rs', p', nD', hu, ru, ha, hi, rfl, run⟩
  obtain ⟨o1, o2⟩ := ok i S' H' p'.tk rs' (lcRun_chk run)
  by_cases hl : i = items.length
  · subst hl
    rw [List.drop_length] at run
    exact .inl ⟨o1 rfl, hr D acc us S' Q0 H' Q rs' nD' hu ru run.2 fun d S2 v H2 q2 pp rs2 r2 => k d S2 v H2 q2 (p.trans (pp S1 H1 p' hD)) rs2 r2⟩
  · have hlt : i < items.length := by omega
    obtain ⟨d, hd⟩ : ∃ d, items[i]? = some d := ⟨items[i], by simp [hlt]⟩
    have ed : items.drop i = d :: items.drop (i + 1) := by
      rw [List.drop_eq_getElem_cons hlt]
      have : items[i] = d := by
        have q2 := List.getElem?_eq_getElem hlt
        rw [hd] at q2
        exact (Option.some.inj q2).symm
      rw [this]
    rw [ed] at run
    obtain ⟨g, y⟩ := o2 d hd
    refine .inr ⟨g, fun H'' => ∃ S'' acc' us', RelS K S'' H'' ∧ Post K S1 H1 S'' H'' ∧ S'' D = none ∧ H'' D = some (.lst us') ∧ Reps K H'' acc' us' ∧ acc'.length ≤ i + 1 ∧
      lcRun t tt te chk (wipeD e vs) (fun acc S2 => rd acc S2 Q0) (items.drop (i + 1)) acc' S'', ?_, fun x H2 yl => ?_⟩
    · rintro H'' ⟨S'', acc', us', b1, b2, b3, b4, b5, b6, b7⟩
      exact ⟨items.length - (i + 1), by omega, S'', acc', us', b1, b2, b3, b4, b5, b6, hlt, rfl, b7⟩
    · obtain ⟨p2, rs2, r2⟩ := y x H2 yl
      have run := run.2
      have hu2 := p2.frame D _ nD' hu
      split at run
      · rename_i e2 eb
        have rw0 := (re.mono (p.trans (p'.trans p2)).tk).wipe vs
        refine gOf_ok t d x (wipeD e vs) e2 (wipe σ vs) _ r2 rw0 eb fun σ3 re3 o3 => ⟨(o3 vs hv).trans wipe_wipe, ?_⟩
        refine ⟨e2, S', _, re3, rs2, run, fun b S4 H4 f p4 rs4 => ?_⟩
        have nD4 := p4.dom D nD' (by rw [hu2]; simp)
        have hu4 := p4.frame D _ nD' hu2
        cases b with
        | true =>
          refine iteT ⟨e2, S4, _, re3.mono p4.tk, rs4, f, fun dd S5 v5 H5 f5 p5 rs5 r5 => ?_⟩
          obtain ⟨S6, sb, f5⟩ := f5
          have nD5 := p5.dom D nD4 (by rw [hu4]; simp)
          have hu5 := p5.frame D _ nD4 hu4
          have fr : Free (H5 D) := by rw [hu5]; trivial
          have rl := ru.length
          refine ⟨us, hu5, by omega, S6, acc ++ [dd], us ++ [v5], (rs5.sub sb).upd fr (sb.free nD5), ((((p'.trans p2).trans p4).trans p5).inner hD fr).sub sb, sb.free nD5, upd_same, ((ru.mono ((p2.trans p4).trans p5).tk).append (.cons r5 .nil)).mono (TK.upd fr), by simp; omega, f5⟩
        | false =>
          obtain ⟨S6, sb, f⟩ := f
          exact iteF ⟨S6, acc, us, rs4.sub sb, ((p'.trans p2).trans p4).sub sb, sb.free nD4, hu4, ru.mono (p2.trans p4).tk, by omega, f⟩
      · exact run.elim
theorem em_lc {K : PySem.W.Frag} {ti : TID} {t : Tgt} {tt : TTD} {te : TD} {vs : List Nat} (hv : t.own vs = true) {σ : St} {H : Hp} {Q : VK} (h : emE K (dLc ti t tt te vs) σ H Q) : tLc (emI K ti) (gOf K t) (emT K tt) (emE K te) vs σ H Q :=
  em_lcK lck_new hv h
section
variable {X : Cx} {pos : Pos}
theorem de_lc {elt tg iter : Expr} {ifs : List Expr} {scope : Scope} {own : List (Str × Nat)} {ti : TID} {t : Tgt} {tt : TTD} {te : TD} (hc : X.calm = true) (hN : X.N.Nodup) (hi : DI X tg iter ti) (ok : BlkOk X.N X.env.scope scope own) (hv : t.own (own.map (·.2)) = true)
    (hg : ∀ (s : Shared) (H : Hp) (C : Addr) (cl : List (Str × Addr)) (fp : List Addr), PG (X.blk s H scope (compEnvC scope cl C X.env) fp) tg (gOf X.K t))
    (ht : ∀ (s : Shared) (H : Hp) (C : Addr) (cl : List (Str × Addr)) (fp : List Addr), DTs (X.blk s H scope (compEnvC scope cl C X.env) fp) ifs tt)
    (he : ∀ (s : Shared) (H : Hp) (C : Addr) (cl : List (Str × Addr)) (fp : List Addr), DE (X.blk s H scope (compEnvC scope cl C X.env) fp) elt te) (hs : ∀ x, foldedSetIterable iter X.env x = pure x := by intro _; rfl) :
    DE X (.ListComp elt [⟨tg, iter, ifs, 0⟩] scope pos) (dLc ti t tt te (own.map (·.2))) :=
  PE.le (pe_lc hc hN hi ok hg ht he hs) fun _ _ _ h => em_lc hv h
theorem ds_setLc {i : Nat} {y : Str} {py : Pos} {elt tg iter : Expr} {ifs : List Expr} {scope : Scope} {own : List (Str × Nat)} {spos : Pos} {ti : TID} {t : Tgt} {tt : TTD} {te : TD} (hc : X.calm = true) (hN : X.N.Nodup) (hy : X.N[i]? = some y) (hyl : X.env.scope.names.lookup y = some .local)
    (hsw : swapsWith (.ListComp elt [⟨tg, iter, ifs, 0⟩] scope pos) (some (.Name y py)) spos.line X.env = pure true) (hi : DI X tg iter ti) (ok : BlkOk X.N X.env.scope scope own) (hv : t.own (own.map (·.2)) = true)
    (hg : ∀ (s : Shared) (H : Hp) (C : Addr) (cl : List (Str × Addr)) (fp : List Addr), PG (X.blk s H scope (compEnvC scope cl C X.env) fp) tg (gOf X.K t))
    (ht : ∀ (s : Shared) (H : Hp) (C : Addr) (cl : List (Str × Addr)) (fp : List Addr), DTs (X.blk s H scope (compEnvC scope cl C X.env) fp) ifs tt)
    (he : ∀ (s : Shared) (H : Hp) (C : Addr) (cl : List (Str × Addr)) (fp : List Addr), DE (X.blk s H scope (compEnvC scope cl C X.env) fp) elt te) (hs : ∀ x, foldedSetIterable iter X.env x = pure x := by intro _; rfl) :
    DS X (.Assign [.Name y py] (.ListComp elt [⟨tg, iter, ifs, 0⟩] scope pos) spos) (dAsg (dLc ti t tt te (own.map (·.2))) (.nm i)) :=
  PS.le (ps_setLc hc hN hy hyl hsw hi ok hg ht he hs) fun D1 σ H h => by
    have q := em_asg (te := dLc ti t tt te (own.map (·.2))) (tt := .nm i) h
    obtain ⟨e, S, Q0, re, rs, h1, k⟩ := q
    exact em_lc hv ⟨e, S, Q0, re, rs, h1, k⟩
end
end QL
end L2
namespace L2
namespace QL
open PySem PySem.Spec PyProof.Rows
/-! ### 16. defs -/
structure RoomG (k : Nat) (A : Around) : Prop where
  rm : Room k A
  gd : A.guards = some []
theorem RoomG.mono {j k : Nat} {A : Around} (r : RoomG k A) (h : j ≤ k) : RoomG j A := ⟨r.rm.mono h, r.gd⟩
theorem RoomG.deeper {k : Nat} {A : Around} (r : RoomG (k + 1) A) (env : Env) : RoomG k (A.deeper env) := ⟨r.rm.deeper env, r.gd⟩
theorem RoomG.make {k : Nat} {A : Around} (r : RoomG (k + 1) A) (C : Addr) (us : List Value) (kw : List (Str × Value)) : RoomG k (A.under (.builtin "type.__call__" ⟨.ref C :: us, kw⟩)) :=
  ⟨r.rm.make C us kw, by
    have g := r.gd
    first | exact g | (simpa [Around.under, Code.guards, Code.isGuard, guardIds, pushGuards] using g)⟩
/-- a def's promise over data -/
abbrev SpD := List D → Sto → DK → Prop
def emSp (K : PySem.W.Frag) (sp : SpD) (vs : List V) (H : Hp) (Q : VK) : Prop :=
  ∃ ds S Q0, Reps K H ds vs ∧ RelS K S H ∧ sp ds S Q0 ∧ ∀ d S' v H', Q0 d S' → Post K S H S' H' → RelS K S' H' → Rep K H' d v → Q v H'
abbrev noE : XK := fun _ _ _ => False
structure FnD (P : Program) (w : World) (K : PySem.W.Frag) (mg : Str → Option Value) (base : Heap) (k : Nat) (f : Addr) (fd : FuncData) (ps : List Str) (sp : SpD) : Prop where
  len : ∀ ds S Q, sp ds S Q → ds.length = ps.length
  run : ∀ (A : Around) (outer : List Env) (s : Shared) (H : Hp) (args : Args) (us : List Value) (vs : List V) (Q : VK), RoomG k A → Env0 P w K mg base A outer s H → BindsTo s fd args (ps.zip us) → Vals vs us → emSp K sp vs H Q →
    codeAny (model P w) A (.call (.ref f) args) (CR CX0 outer P w H s Q noE) s
theorem emSp.len {P : Program} {w : World} {K : PySem.W.Frag} {mg : Str → Option Value} {base : Heap} {k : Nat} {f : Addr} {fd : FuncData} {ps : List Str} {sp : SpD} (F : FnD P w K mg base k f fd ps sp) {vs : List V} {H : Hp} {Q : VK}
    (h : emSp K sp vs H Q) : vs.length = ps.length := by
  obtain ⟨ds, S, Q0, r, _, q, _⟩ := h
  rw [← r.length]
  exact F.len ds S Q0 q
theorem FnD.mono {P : Program} {w : World} {K : PySem.W.Frag} {mg : Str → Option Value} {base : Heap} {j k : Nat} {f : Addr} {fd : FuncData} {ps : List Str} {sp : SpD} (F : FnD P w K mg base j f fd ps sp) (h : j ≤ k) : FnD P w K mg base k f fd ps sp :=
  ⟨F.len, fun A outer s H args us vs Q hr => F.run A outer s H args us vs Q (hr.mono h)⟩
/-- the body's end: cells that nobody needs may be dropped -/
def bodyEnds (Q0 : DK) : EndsD where
  nx := fun _ S => ∃ S', Sb S' S ∧ Q0 .non S'
  rt := fun d S => ∃ S', Sb S' S ∧ Q0 d S'
/-- a def of the text, by its body over data -/
theorem fnd_of {P : Program} {w : World} {K : PySem.W.Frag} {mg : Str → Option Value} {base : Heap} {k : Nat} {f : Addr} {x qual : Str} {st : Stmt} {fd : FuncData} {N ps : List Str} {sp : SpD} {tb : TSD} (F : Fun K x qual st f fd) (S : FnScope N ps (defScope st))
    (len : ∀ ds S Q, sp ds S Q → ds.length = ps.length)
    (hbody : ∀ (A : Around) (outer : List Env) (s : Shared) (H : Hp) (cdv : Value), RoomG k (A.deeper (envOfC qual (defScope st) s.heap.objs.size f cdv)) → DSs (cxOf CX0 P w K mg base N qual (defScope st) f cdv A outer s H noE).nox (defBody st) tb)
    (plain : ∀ ds S Q0, sp ds S Q0 → tb (bodyEnds Q0) (startD N ds) S) : FnD P w K mg base (k + 1) f fd ps sp := by
  obtain ⟨oc, od, kV, doc, pm, an, cdv, ct, osl, rfl, lk, hcd⟩ := F.ex
  refine ⟨len, fun A outer s H args us vs Q hr e0 hb r hsp => ?_⟩
  obtain ⟨ds, S0, Q0, hreps, rs, hq, kk⟩ := hsp
  have hl : vs.length = ps.length := by rw [← hreps.length]; exact len ds S0 Q0 hq
  have KX : K.In s.heap := e0.mod.kin.keeps fun b o e => (e0.bs b o e).1
  have lim : s.heap.NoLimit := e0.mod.nolimit.keeps fun b o e => (e0.bs b o e).1
  have hkind : ∀ y ∈ ps.zip us, (defScope st).names.lookup y.1 = some .local ∨ ((defScope st).names.lookup y.1 = some .cell ∧ ((cellsFrom (s.heap.objs.size + 1) (defScope st).names []).lookup y.1).isSome = true) := fun ⟨n, v⟩ hy => by
    rcases S.par n (List.of_mem_zip hy).1 with q | q
    · exact .inl q
    · exact .inr ⟨q, PySem.W.cellsFrom_some _ _ _ (.inl q)⟩
  refine codeAny_call_function hr.rm.depth (KX _ _ lk) rfl S.co S.gen rfl (PySem.W.codeRec_of KX hcd) (hb _ _ _ _ ?_)
  refine wpAny_newFunctionEnv_cells S.kind hkind fun env he s1 x => ?_
  subst he
  refine ⟨lim.keeps x.toInCall.keep, codeAny_func ?_⟩
  have I : Inv (cxOf CX0 P w K mg base N qual (defScope st) f cdv A outer s H noE) [] (start N vs) H s1 := inv_start S hr.rm.hd e0 hl r x
  have fin : ∀ {d S' S2 v H'}, Q0 d S2 → Sb S2 S' → Post K S0 H S' H' → RelS K S' H' → Rep K H' d v → Q v H' := fun {d S' S2 v H'} q sb p rs' rp => kk d S2 v H' q (p.sub sb) (rs'.sub sb) rp
  refine wpAny_mono ((PSs.nox (hbody A outer s H cdv (hr.deeper _))).run [] s1 (start N vs) H { nx := fun _ H' => Q .non H', rt := Q } I
    ⟨startD N ds, S0, bodyEnds Q0, RelE.start hreps, rs, plain ds S0 Q0 hq, ⟨fun e' S' σ' H' q p re rs' => ?_, fun d S' v H' q p rp rs' => ?_, fun _ _ _ _ q => q.elim, fun _ _ _ _ q => q.elim⟩⟩) (fun fl s' hs => ?_) fun e s' hs => hs
  · obtain ⟨S2, sb, q⟩ := q
    exact fin q sb p rs' .non
  · obtain ⟨S2, sb, q⟩ := q
    exact fin q sb p rs' rp
  · have fin : ∀ {σ' : St} {H' : Hp} {v : V} {u : Value}, Inv (cxOf CX0 P w K mg base N qual (defScope st) f cdv A outer s H noE) [] σ' H' s' → RelV v u → Q v H' → CE outer P w H s Q u s' :=
      fun {σ' H' v u} J rv q => ⟨v, H', J.os, J.bare, J.base, J.hok, rv, q⟩
    cases fl with
    | ret u =>
      obtain ⟨v, σ', H', J, rv, q⟩ := hs
      exact fin J rv q
    | next =>
      obtain ⟨σ', H', J, q⟩ := hs
      exact fin (v := V.non) (u := Value.none) J rfl q
    | brk =>
      obtain ⟨_, _, _, q⟩ := hs
      exact False.elim q
    | cont =>
      obtain ⟨_, _, _, q⟩ := hs
      exact False.elim q
end QL
end L2
namespace L2
namespace QL
open PySem PySem.Spec PyProof.Rows
/-! ### 17. calls of one's own defs -/
section
variable {P : Program} {w : World} {K : PySem.W.Frag} {mg : Str → Option Value} {base : Heap}
structure CalD (P : Program) (w : World) (K : PySem.W.Frag) (mg : Str → Option Value) (base : Heap) (k : Nat) (x : Str) (sp : SpD) (dds : List D) : Prop where
  ex : ∃ (f : Addr) (fd : FuncData) (ps : List Str) (ds : List Value) (dvs : List V), FnD P w K mg base k f fd ps sp ∧ mg x = some (.ref f) ∧ PySem.W.keepIn K (.ref f) = true ∧ Binds K fd ps ds ∧ Vals dvs ds ∧ ∀ H, Reps K H dds dvs
structure MetD (P : Program) (w : World) (K : PySem.W.Frag) (mg : Str → Option Value) (base : Heap) (k : Nat) (C : Addr) (m : Str) (sp : SpD) (dds : List D) : Prop where
  ex : ∃ (f : Addr) (fd : FuncData) (ps : List Str) (ds : List Value) (dvs : List V), Cls K C ∧ Meth K C m f ∧ FnD P w K mg base k f fd ps sp ∧ Binds K fd ps ds ∧ Vals dvs ds ∧ ∀ H, Reps K H dds dvs
structure MakD (P : Program) (w : World) (K : PySem.W.Frag) (mg : Str → Option Value) (base : Heap) (k : Nat) (x : Str) (C : Addr) (sp : SpD) (dds : List D) : Prop where
  ex : ∃ (f : Addr) (fd : FuncData) (ps : List Str) (ds : List Value) (dvs : List V), Mk K C f ∧ FnD P w K mg base k f fd ps sp ∧ mg x = some (.ref C) ∧ Binds K fd ps ds ∧ Vals dvs ds ∧ ∀ H, Reps K H dds dvs
theorem CalD.of {k : Nat} {x : Str} {sp : SpD} {f : Addr} {fd : FuncData} {ps : List Str} (F : FnD P w K mg base k f fd ps sp) (hm : mg x = some (.ref f)) (hk : PySem.W.keepIn K (.ref f) = true) (hb : Binds K fd ps []) : CalD P w K mg base k x sp [] :=
  ⟨f, fd, ps, [], [], F, hm, hk, hb, .nil, fun _ => .nil⟩
end
def dCall (sp : SpD) (dds : List D) (t : TAD) : TD := fun e S Q => t e S fun ds S1 => sp (ds ++ dds) S1 Q
def dMeth (C : Addr) (m : Str) (sp : SpD) (dds : List D) (to : TD) (t : TAD) : TD := fun e S Q => to e S fun o S1 => match o with
  | .loc a => match S1 a with
    | some (.ins C' fs) => (C' = C ∧ fs.lookup m = none) ∧ t e S1 fun ds S2 => sp (.loc a :: (ds ++ dds)) S2 Q
    | _ => False
  | _ => False
def dMake (C : Addr) (sp : SpD) (dds : List D) (t : TAD) : TD := fun e S Q => t e S fun ds S1 => ∀ a, S1 a = none → sp (.loc a :: (ds ++ dds)) (S1.put a (.ins C [])) fun d S2 => d = .non ∧ Q (.loc a) S2
section
variable {X : Cx} {k j : Nat} {f C : Addr} {fd : FuncData} {ps : List Str} {sp : SpD} {dds : List D} {dvs : List V} {ds : List Value} {x m : Str} {p pos apos : Pos} {e o : Expr} {es : List Expr} {to : TD} {t : TAD}
theorem emA_nil {K : PySem.W.Frag} {σ : St} {H : Hp} {Q : List V → Hp → Prop} (h : emA K (fun e S Q => Q [] S) σ H Q) : Q [] H := by
  obtain ⟨e, S, Q0, re, rs, ht, k⟩ := h
  exact k [] S [] H ht Post.refl rs .nil
theorem run_fnd {pins : List (Addr × Obj)} {σ : St} {H : Hp} {s : Shared} {Q : VK} {us : List Value} {vs : List V} (F : FnD X.prog X.w X.K X.mg X.base k f fd ps sp) (hr : RoomG k X.A) (hb : Binds X.K fd ps ds) (hd : Vals dvs ds)
    (I : Inv X pins σ H s) (r : Vals vs us) (h : emSp X.K sp (vs ++ dvs) H Q) : wpAny (model X.prog X.w) X.A (call (.ref f) us) (EP X pins σ Q) X.xe s := by
  have r2 : Vals (vs ++ dvs) (us ++ ds) := r.append hd
  have hl : (us ++ ds).length = ps.length := by rw [← r2.length]; exact emSp.len F h
  refine wpAny_call (codeAny_mono (F.run X.A X.stack s H ⟨us, []⟩ (us ++ ds) (vs ++ dvs) Q hr I.env0 (hb s us I.kIn hl) r2 h) fun r s' hq => ?_)
  rcases r with _ | (_ | _ | _ | u)
  · exact hq.elim
  · exact False.elim hq
  · exact False.elim hq
  · exact False.elim hq
  · exact I.after hq
theorem em_callArgs {K : PySem.W.Frag} {σ : St} {H : Hp} {Q : VK} (hD : ∀ H, Reps K H dds dvs) (h : emE K (dCall sp dds t) σ H Q) : emA K t σ H fun vs H1 => emSp K sp (vs ++ dvs) H1 Q := by
  obtain ⟨e, S, Q0, re, rs, ht, k⟩ := h
  exact ⟨e, S, _, re, rs, ht, fun ds S1 vs H1 q p rs1 r => ⟨ds ++ dds, S1, Q0, r.append (hD H1), rs1, q, fun d S' v H' q' p' rs' r' => k d S' v H' q' (p.trans p') rs' r'⟩⟩
theorem de_call (c : CalD X.prog X.w X.K X.mg X.base k x sp dds) (hr : RoomG j X.A) (hk : k ≤ j) (hg : Gl X x) (ha : DA X (e :: es) t) (hdb : (x == ("__debug__" : Str)) = false := by decide)
    (he : starEach (e :: es) X.env = (false, eval e X.env) :: starEach es X.env := by rfl) (hpl : (backTo pos (starEach es X.env)).any (·.1) = false := by rfl) : DE X (.Call (.Name x p) (e :: es) [] pos) (dCall sp dds t) := by
  obtain ⟨f, fd, ps, ds, dvs, F, hm, hkp, hb, hd, hD⟩ := c.ex
  refine ⟨fun pins s σ H Q I h => ?_⟩
  refine wpAny_Call_Name_kw (ld_glob I hg hm ?_ hdb)
  refine PySem.W.callWith_K (h₀ := X.base) I.ok.mod.kin hkp (thn (ha.run pos pins s σ H _ I (em_callArgs hD h)) fun us s1 ⟨vs, H1, I1, r, q⟩ => ⟨I1.kIn, ?_⟩) he hpl
  exact run_fnd F (hr.mono hk) hb hd I1 r q
theorem de_call0 (c : CalD X.prog X.w X.K X.mg X.base k x sp dds) (hr : RoomG j X.A) (hk : k ≤ j) (hg : Gl X x) (hdb : (x == ("__debug__" : Str)) = false := by decide) :
    DE X (.Call (.Name x p) [] [] pos) (dCall sp dds fun _ S Q => Q [] S) := by
  obtain ⟨f, fd, ps, ds, dvs, F, hm, hkp, hb, hd, hD⟩ := c.ex
  refine ⟨fun pins s σ H Q I h => ?_⟩
  refine wpAny_Call_Name_kw (ld_glob I hg hm ?_ hdb)
  exact PySem.W.callWith_K0 I.kIn hkp (run_fnd (us := []) F (hr.mono hk) hb hd I .nil (emA_nil (em_callArgs hD h)))
theorem em_meth {K : PySem.W.Frag} {σ : St} {H : Hp} {Q : VK} (hD : ∀ H, Reps K H dds dvs) (h : emE K (dMeth C m sp dds to t) σ H Q) :
    emE K to σ H fun x H1 => ∃ a dx fs, x = .ref a ∧ H1 a = some (.ins C dx fs) ∧ fs.lookup m = none ∧ emA K t σ H1 fun vs H2 => emSp K sp (.ref a :: (vs ++ dvs)) H2 Q := by
  obtain ⟨e, S, Q0, re, rs, ht, k⟩ := h
  refine ⟨e, S, _, re, rs, ht, fun d S1 v H1 q p rs1 r => ?_⟩
  cases r with
  | loc a =>
    dsimp only at q
    split at q
    · rename_i C' fs e1
      obtain ⟨⟨rfl, hl⟩, q⟩ := q
      obtain ⟨dx, fq, e2, fr⟩ := rs1 _ _ e1
      refine ⟨a, dx, fq, rfl, e2, ?_, e, S1, _, re.mono p.tk, rs1, q, fun ds S2 vs H2 q2 p2 rs2 r2 => ?_⟩
      · clear e1 e2 q
        induction fr with
        | nil => rfl
        | cons h t ih =>
          rename_i a b _ _
          obtain ⟨g, x⟩ := a
          obtain ⟨g', x'⟩ := b
          obtain ⟨hg, _⟩ := h
          dsimp only at hg
          subst hg
          by_cases hm : (m == g) = true
          · simp [List.lookup, hm] at hl
          · simp only [Bool.not_eq_true] at hm
            simp only [List.lookup, hm] at hl ⊢
            exact ih hl
      · exact ⟨_, S2, Q0, .cons (.loc a) (r2.append (hD H2)), rs2, q2, fun d S' v H' q' p' rs' r' => k d S' v H' q' ((p.trans p2).trans p') rs' r'⟩
    · exact q.elim
  | _ => exact q.elim
theorem de_meth {pl : Sem Bool} (c : MetD X.prog X.w X.K X.mg X.base k C m sp dds) (hr : RoomG j X.A) (hk : k ≤ j) (ho : DE X o to) (ha : DA X (e :: es) t)
    (hst : starEach (e :: es) X.env = (false, eval e X.env) :: starEach es X.env := by rfl) (hpl : (backTo pos (starEach es X.env)).any (·.1) = false := by rfl)
    (ht : eval (.Call (.Attribute o m apos) (e :: es) [] pos) X.env = (do
      let ov ← eval o X.env
      standAt apos.atName
      let (f, first) ← holding [ov] (getMethod ov m pl)
      callWith pos f first (backTo pos (starEach (e :: es) X.env)) (backToKw pos (keywordEach [] X.env))) := by rfl) :
    DE X (.Call (.Attribute o m apos) (e :: es) [] pos) (dMeth C m sp dds to t) := by
  obtain ⟨f, fd, ps, ds, dvs, cl, me, F, hb, hd, hD⟩ := c.ex
  refine ⟨fun pins s σ H Q I h => ?_⟩
  refine PySem.W.methodCall_KW (pl := pl) (thn (ho.run pins s σ H _ I (em_meth hD h)) fun u s1 ⟨x, H1, I1, rx, a, dx, fs, ex, ea, l, q⟩ => ?_) ht
  subst ex
  obtain rfl : u = Value.ref a := rx
  refine getmeth_ok I1 ea cl me l ?_
  refine PySem.W.callWith_K (first := [.ref a]) (h₀ := X.base) I.ok.mod.kin me.kp (thn (ha.run pos pins s1 σ H1 _ I1 q) fun us s2 ⟨vs, H2, I2, r, q2⟩ => ⟨I2.kIn, ?_⟩) hst hpl
  exact run_fnd (us := .ref a :: us) (vs := .ref a :: vs) F (hr.mono hk) hb hd I2 (.cons rfl r) q2
theorem de_meth0 {pl : Sem Bool} (c : MetD X.prog X.w X.K X.mg X.base k C m sp dds) (hr : RoomG j X.A) (hk : k ≤ j) (ho : DE X o to)
    (ht : eval (.Call (.Attribute o m apos) [] [] pos) X.env = (do
      let ov ← eval o X.env
      standAt apos.atName
      let (f, first) ← holding [ov] (getMethod ov m pl)
      callWith pos f first (backTo pos (starEach [] X.env)) (backToKw pos (keywordEach [] X.env))) := by rfl) :
    DE X (.Call (.Attribute o m apos) [] [] pos) (dMeth C m sp dds to fun _ S Q => Q [] S) := by
  obtain ⟨f, fd, ps, ds, dvs, cl, me, F, hb, hd, hD⟩ := c.ex
  refine ⟨fun pins s σ H Q I h => ?_⟩
  refine PySem.W.methodCall_KW (pl := pl) (thn (ho.run pins s σ H _ I (em_meth hD h)) fun u s1 ⟨x, H1, I1, rx, a, dx, fs, ex, ea, l, q⟩ => ?_) ht
  subst ex
  obtain rfl : u = Value.ref a := rx
  refine getmeth_ok I1 ea cl me l ?_
  exact PySem.W.callWith_K0 (first := [.ref a]) I1.kIn me.kp (run_fnd (us := [.ref a]) (vs := [.ref a]) F (hr.mono hk) hb hd I1 (.cons rfl .nil) (emA_nil q))
theorem run_maked {pins : List (Addr × Obj)} {σ : St} {H : Hp} {s : Shared} {Q : VK} {us : List Value} {vs : List V} (M : Mk X.K C f) (F : FnD X.prog X.w X.K X.mg X.base k f fd ps sp) (hr : RoomG (k + 1) X.A) (hb : Binds X.K fd ps ds) (hd : Vals dvs ds)
    (I : Inv X pins σ H s) (r : Vals vs us)
    (h : ∀ x dx, H x = none → H dx = none → dx ≠ x → emSp X.K sp (.ref x :: (vs ++ dvs)) (upd (upd H dx (.own x)) x (.ins C dx [])) fun v H2 => v = .non ∧ Q (.ref x) H2) :
    wpAny (model X.prog X.w) X.A (call (.ref C) us) (EP X pins σ Q) X.xe s := by
  have hq := h (s.heap.objs.size + 1) s.heap.objs.size (I.hok.fresh (Nat.le_succ _)) (I.hok.fresh (Nat.le_refl _)) (Nat.ne_of_lt (Nat.lt_succ_self _))
  have I2 := Inv.made (C := C) I
  have r2 : Vals (V.ref (s.heap.objs.size + 1) :: (vs ++ dvs)) (Value.ref (s.heap.objs.size + 1) :: (us ++ ds)) := .cons rfl (r.append hd)
  have hl : (Value.ref (s.heap.objs.size + 1) :: us ++ ds).length = ps.length := by
    have e := r2.length
    rw [emSp.len F hq] at e
    exact e.symm
  refine wpAny_call (make_map (f := f) I.kIn M.makes M.init (beq_iff_eq.mp M.fn) (codeAny_mono (F.run _ X.stack _ _ ⟨Value.ref (s.heap.objs.size + 1) :: us, []⟩ (Value.ref (s.heap.objs.size + 1) :: (us ++ ds)) _ _ (hr.make C us [])
    (I2.env0.make C us []) (hb _ (Value.ref (s.heap.objs.size + 1) :: us) I2.kIn hl) r2 hq) fun r s' hq' => ?_))
  rcases r with _ | (_ | _ | _ | u)
  · exact hq'.elim
  · exact False.elim hq'
  · exact False.elim hq'
  · exact False.elim hq'
  · obtain ⟨v, H', I3, rv, ev, q3⟩ := I2.after hq'
    subst ev
    exact ⟨rv, ⟨V.ref (s.heap.objs.size + 1), H', I3, rfl, q3⟩⟩
theorem em_makeArgs {K : PySem.W.Frag} {σ : St} {H : Hp} {Q : VK} (hD : ∀ H, Reps K H dds dvs) (h : emE K (dMake C sp dds t) σ H Q) :
    emA K t σ H fun vs H1 => ∀ x dx, H1 x = none → H1 dx = none → dx ≠ x → emSp K sp (.ref x :: (vs ++ dvs)) (upd (upd H1 dx (.own x)) x (.ins C dx [])) fun v H2 => v = .non ∧ Q (.ref x) H2 := by
  obtain ⟨e, S, Q0, re, rs, ht, k⟩ := h
  refine ⟨e, S, _, re, rs, ht, fun ds S1 vs H1 q p rs1 r x dx hx hdx ne => ?_⟩
  have n1 : S1 x = none := rs1.none_of hx
  have f0 : Free (H1 dx) := by rw [hdx]; trivial
  have hx2 : (upd H1 dx (.own x)) x = none := by rw [upd_ne (Ne.symm ne)]; exact hx
  have f1 : Free ((upd H1 dx (.own x)) x) := by rw [hx2]; trivial
  have rs2 : RelS K S1 (upd H1 dx (.own x)) := rs1.upd f0 (rs1.none_of hdx)
  have p2 : Post K S1 H1 (S1.put x (.ins C [])) (upd (upd H1 dx (.own x)) x (.ins C dx [])) := (Post.lay hdx).trans (Post.new hx2)
  refine ⟨.loc x :: (ds ++ dds), S1.put x (.ins C []), _, .cons (.loc x) ((r.append (hD H1)).mono p2.tk), rs2.put f1 ⟨dx, [], upd_same, .nil⟩, q x n1, fun d S' v H' q' p' rs' r' => ?_⟩
  obtain ⟨rfl, q'⟩ := q'
  cases r'
  exact ⟨rfl, k _ S' _ H' q' (p.trans (p2.trans p')) rs' (.loc x)⟩
theorem de_make (c : MakD X.prog X.w X.K X.mg X.base k x C sp dds) (hr : RoomG j X.A) (hk : k + 1 ≤ j) (hg : Gl X x) (ha : DA X (e :: es) t) (hdb : (x == ("__debug__" : Str)) = false := by decide)
    (he : starEach (e :: es) X.env = (false, eval e X.env) :: starEach es X.env := by rfl) (hpl : (backTo pos (starEach es X.env)).any (·.1) = false := by rfl) : DE X (.Call (.Name x p) (e :: es) [] pos) (dMake C sp dds t) := by
  obtain ⟨f, fd, ps, ds, dvs, M, F, hm, hb, hd, hD⟩ := c.ex
  refine ⟨fun pins s σ H Q I h => ?_⟩
  refine wpAny_Call_Name_kw (ld_glob I hg hm ?_ hdb)
  refine PySem.W.callWith_K (h₀ := X.base) I.ok.mod.kin M.kp (thn (ha.run pos pins s σ H _ I (em_makeArgs hD h)) fun us s1 ⟨vs, H1, I1, r, q⟩ => ⟨I1.kIn, ?_⟩) he hpl
  exact run_maked M F (hr.mono hk) hb hd I1 r q
theorem de_make0 (c : MakD X.prog X.w X.K X.mg X.base k x C sp dds) (hr : RoomG j X.A) (hk : k + 1 ≤ j) (hg : Gl X x) (hdb : (x == ("__debug__" : Str)) = false := by decide) :
    DE X (.Call (.Name x p) [] [] pos) (dMake C sp dds fun _ S Q => Q [] S) := by
  obtain ⟨f, fd, ps, ds, dvs, M, F, hm, hb, hd, hD⟩ := c.ex
  refine ⟨fun pins s σ H Q I h => ?_⟩
  refine wpAny_Call_Name_kw (ld_glob I hg hm ?_ hdb)
  exact PySem.W.callWith_K0 I.kIn M.kp (run_maked (us := []) M F (hr.mono hk) hb hd I .nil (emA_nil (em_makeArgs hD h)))
end
/-! ### 18. attributes -/
def putFD (f : Str) (v : D) : List (Str × D) → List (Str × D)
  | [] => [(f, v)]
  | (g, x) :: r => if g = f then (g, v) :: r else (g, x) :: putFD f v r
section
variable {K : PySem.W.Frag} {H : Hp}
theorem fsr_put {f : Str} {d : D} {v : V} (r : Rep K H d v) : ∀ {fs : List (Str × D)} {q : List (Str × V)}, FSR K H fs q → FSR K H (putFD f d fs) (putF f v q)
  | _, _, .nil => .cons ⟨rfl, r⟩ .nil
  | (g, x) :: _, (g', x') :: _, .cons h t => by
    obtain ⟨e, hx⟩ := h
    dsimp only at e
    subst e
    unfold putFD putF
    by_cases hg : g = f
    · rw [if_pos hg, if_pos hg]
      exact .cons ⟨rfl, r⟩ t
    · rw [if_neg hg, if_neg hg]
      exact .cons ⟨rfl, hx⟩ (fsr_put r t)
theorem fsr_look {f : Str} {d : D} : ∀ {fs : List (Str × D)} {q : List (Str × V)}, FSR K H fs q → fs.lookup f = some d → ∃ v, q.lookup f = some v ∧ Rep K H d v
  | _, _, .nil, h => by simp at h
  | (g, x) :: _, (g', x') :: _, .cons h t, hl => by
    obtain ⟨e, hx⟩ := h
    dsimp only at e
    subst e
    by_cases hm : (f == g) = true
    · simp only [List.lookup, hm] at hl ⊢
      cases hl
      exact ⟨x', rfl, hx⟩
    · simp only [Bool.not_eq_true] at hm
      simp only [List.lookup, hm] at hl ⊢
      exact fsr_look t hl
end
def dFld (C : Addr) (f : Str) (to : TD) : TD := fun e S Q => to e S fun o S1 => match o with
  | .loc a => match S1 a with
    | some (.ins C' fs) => C' = C ∧ match fs.lookup f with
      | some d => Q d S1
      | none => False
    | _ => False
  | _ => False
def dFldS (C : Addr) (f : Str) (to tv : TD) : TSD := fun D0 e S => tv e S fun y S1 => to e S1 fun o S2 => match o with
  | .loc a => match S2 a with
    | some (.ins C' fs) => (C' = C ∧ fs.length < 1000) ∧ D0.nx e (S2.put a (.ins C (putFD f y fs)))
    | _ => False
  | _ => False
section
variable {X : Cx} {C : Addr} {f : Str} {o value : Expr} {to tv : TD} {pos pos' : Pos}
theorem de_fld (cl : Cls X.K C) (n : NoAttr X.K C f) (ho : DE X o to) (hb : attributeBase o f X.env (eval o X.env) = eval o X.env := by rfl) : DE X (.Attribute o f pos) (dFld C f to) :=
  PE.le (pe_fld ho hb) fun σ H Q h => by
    obtain ⟨e, S, Q0, re, rs, ht, k⟩ := h
    refine ⟨e, S, _, re, rs, ht, fun d S1 v H1 q p rs1 r => ?_⟩
    cases r with
    | loc a =>
      dsimp only at q
      split at q
      · rename_i C' fs e1
        obtain ⟨rfl, q⟩ := q
        split at q
        · rename_i d e3
          obtain ⟨dx, fq, e2, fr⟩ := rs1 _ _ e1
          obtain ⟨v, l, r'⟩ := fsr_look fr e3
          exact ⟨a, C', dx, fq, v, rfl, e2, cl, n, l, k _ S1 _ H1 q p rs1 r'⟩
        · exact q.elim
      · exact q.elim
    | _ => exact q.elim
theorem ds_fld (cl : Cls X.K C) (n : NoAttr X.K C f) (ho : DE X o to) (hv : DE X value tv) (hs : swapsWith value (some (.Attribute o f pos')) pos.line X.env = pure false := by rfl) : DS X (.Assign [.Attribute o f pos'] value pos) (dFldS C f to tv) :=
  PS.le (ps_fld ho hv hs) fun D1 σ H h => by
    obtain ⟨e, S, D0, re, rs, ht, k⟩ := h
    refine ⟨e, S, _, re, rs, ht, fun y S1 v H1 q p rs1 r => ?_⟩
    refine ⟨e, S1, _, re.mono p.tk, rs1, q, fun d S2 v2 H2 q2 p2 rs2 r2 => ?_⟩
    cases r2 with
    | loc a =>
      dsimp only at q2
      split at q2
      · rename_i C' fs e1
        obtain ⟨⟨rfl, hl⟩, q2⟩ := q2
        obtain ⟨dx, fq, e2, fr⟩ := rs2 _ _ e1
        have fre : Free (H2 a) := by rw [e2]; trivial
        have pw : Post X.K S2 H2 (S2.put a (.ins C' (putFD f y fs))) (upd H2 a (.ins C' dx (putF f v fq))) := Post.write rs2 e1
        refine ⟨a, C', dx, fq, rfl, e2, cl, n, by rw [← Paired.length fr]; exact hl, ?_⟩
        exact k.nx e _ σ _ q2 ((p.trans p2).trans pw) (re.mono ((p.trans p2).trans pw).tk) (rs2.cell e1 ⟨dx, _, upd_same, (fsr_put (r.mono p2.tk) fr).mono (TK.upd fre)⟩)
      · exact q2.elim
    | _ => exact q2.elim
end
end QL
end L2
namespace L2
namespace QL
open PySem PySem.Spec PyProof.Rows
/-! ### 19. calls with one argument -/
/-- b is a call with a as its argument; rv: what it makes of the value -/
structure C1 (X : Cx) (a b : Expr) (rv : V → Hp → VK → Prop) : Prop where
  to : ∀ ta, PE X a ta → PE X b (fun σ H Q => ta σ H fun x H1 => rv x H1 Q)
section
variable {X : Cx} {x : Str} {id T : String} {a b : Expr} {p pos : Pos} {r : List V → Hp → VK → Prop}
theorem c1_b (hc : CallR X (.builtin id) r) (hg : Gl X x) (hm : X.mg x = none) (hv : bootBuiltins x = some (.builtin id)) (hn : x ≠ "__name__" := by decide) (hdb : (x == ("__debug__" : Str)) = false := by decide)
    (he : starEach (a :: []) X.env = (false, eval a X.env) :: starEach [] X.env := by rfl) : C1 X a (.Call (.Name x p) [a] [] pos) (fun x H Q => r [x] H Q) :=
  ⟨fun ta h => pe_callB hc hg hm hv (pa_cons h pa_nil he) hn hdb he⟩
theorem c1_t (hc : CallR X (.type T) r) (hg : Gl X x) (hm : X.mg x = none) (hv : bootBuiltins x = some (.type T)) (hn : x ≠ "__name__" := by decide) (hdb : (x == ("__debug__" : Str)) = false := by decide)
    (he : starEach (a :: []) X.env = (false, eval a X.env) :: starEach [] X.env := by rfl) : C1 X a (.Call (.Name x p) [a] [] pos) (fun x H Q => r [x] H Q) :=
  ⟨fun ta h => pe_callTy hc hg hm hv (pa_cons h pa_nil he) hn hdb he⟩
end
/-- the items of a list, of a list or a tuple -/
def lstD (S : Sto) : D → Option (List D)
  | .rol xs => some xs
  | .loc p => match S p with
    | some (.lst xs) => some xs
    | _ => none
  | _ => none
def LstR (K : PySem.W.Frag) (rd : RLD) (rv : V → Hp → VK → Prop) : Prop := ∀ a xs vs S H (Q0 : DK) (Q : VK), SqL K H a vs → Reps K H xs vs → RelS K S H → rd xs S Q0 → (∀ d S' v H', Q0 d S' → Post K S H S' H' → RelS K S' H' → Rep K H' d v → Q v H') → rv (.ref a) H Q
def TupR (K : PySem.W.Frag) (rd : RLD) (rv : V → Hp → VK → Prop) : Prop := ∀ a xs vs S H (Q0 : DK) (Q : VK), SqT K H a vs → Reps K H xs vs → RelS K S H → rd xs S Q0 → (∀ d S' v H', Q0 d S' → Post K S H S' H' → RelS K S' H' → Rep K H' d v → Q v H') → rv (.ref a) H Q
theorem lck_of {K : PySem.W.Frag} {rd : RLD} {rv : V → Hp → VK → Prop} (h : LstR K rd rv) : LcK K rd rv := fun D acc us S Q0 H Q rs nD hu ru run k =>
  h D acc us S H Q0 Q (.of hu) ru rs run fun d S' v H' q p rs' r' => k d S' v H' q (fun S0 H0 p0 _ => p0.trans p) rs' r'
def dL1 (rd : RLD) (ta : TD) : TD := fun e S Q => ta e S fun x S1 => match lstD S1 x with
  | some xs => rd xs S1 Q
  | none => False
def dQ1 (rd : RLD) (ta : TD) : TD := fun e S Q => ta e S fun x S1 => match seqD S1 x with
  | some xs => rd xs S1 Q
  | none => False
theorem lst_sql {K : PySem.W.Frag} {S : Sto} {H : Hp} {d : D} {v : V} {xs : List D} (rs : RelS K S H) (r : Rep K H d v) (e : lstD S d = some xs) : ∃ a vs, v = .ref a ∧ SqL K H a vs ∧ Reps K H xs vs := by
  cases r with
  | rol hq q =>
    have e2 : some _ = some xs := e
    cases e2
    exact ⟨_, _, rfl, ro_sql hq, q⟩
  | loc a =>
    dsimp only [lstD] at e
    split at e
    · rename_i ys e2
      cases e
      obtain ⟨vs, a1, b1⟩ := rs _ _ e2
      exact ⟨_, _, rfl, .of a1, b1⟩
    · cases e
  | _ => cases e
section
variable {X : Cx} {a b : Expr} {rv : V → Hp → VK → Prop} {rd : RLD} {ta : TD} {pos : Pos}
theorem de_l1 (c : C1 X a b rv) (hs : LstR X.K rd rv) (ha : DE X a ta) : DE X b (dL1 rd ta) := PE.le (c.to _ ha) fun σ H Q h => by
  obtain ⟨e, S, Q0, re, rs, ht, k⟩ := h
  refine ⟨e, S, _, re, rs, ht, fun d S1 v H1 q p rs1 r => ?_⟩
  split at q
  · rename_i xs ex
    obtain ⟨a, vs, rfl, g, rr⟩ := lst_sql rs1 r ex
    exact hs a xs vs S1 H1 Q0 Q g rr rs1 q fun d S' v H' q' p' rs' r' => k d S' v H' q' (p.trans p') rs' r'
  · exact q.elim
theorem de_q1 (c : C1 X a b rv) (hs : LstR X.K rd rv) (ht : TupR X.K rd rv) (ha : DE X a ta) : DE X b (dQ1 rd ta) := PE.le (c.to _ ha) fun σ H Q h => by
  obtain ⟨e, S, Q0, re, rs, h1, k⟩ := h
  refine ⟨e, S, _, re, rs, h1, fun d S1 v H1 q p rs1 r => ?_⟩
  split at q
  · rename_i xs ex
    obtain ⟨kk, a, rfl, g⟩ := src_of rs1 r ex
    obtain ⟨vs, g0, rr⟩ := g S1 H1 TK.refl rs1 ex
    cases kk with
    | true => exact hs a xs vs S1 H1 Q0 Q g0 rr rs1 q fun d S' v H' q' p' rs' r' => k d S' v H' q' (p.trans p') rs' r'
    | false => exact ht a xs vs S1 H1 Q0 Q g0 rr rs1 q fun d S' v H' q' p' rs' r' => k d S' v H' q' (p.trans p') rs' r'
  · exact q.elim
/-- f([.. for ..]) -/
theorem de_l1lc {elt tg iter : Expr} {ifs : List Expr} {scope : Scope} {own : List (Str × Nat)} {ti : TID} {t : Tgt} {tt : TTD} {te : TD} (c : C1 X (.ListComp elt [⟨tg, iter, ifs, 0⟩] scope pos) b rv) (hs : LstR X.K rd rv) (hc : X.calm = true) (hN : X.N.Nodup) (hi : DI X tg iter ti) (ok : BlkOk X.N X.env.scope scope own) (hv : t.own (own.map (·.2)) = true)
    (hg : ∀ (s : Shared) (H : Hp) (C : Addr) (cl : List (Str × Addr)) (fp : List Addr), PG (X.blk s H scope (compEnvC scope cl C X.env) fp) tg (gOf X.K t))
    (ht : ∀ (s : Shared) (H : Hp) (C : Addr) (cl : List (Str × Addr)) (fp : List Addr), DTs (X.blk s H scope (compEnvC scope cl C X.env) fp) ifs tt)
    (he : ∀ (s : Shared) (H : Hp) (C : Addr) (cl : List (Str × Addr)) (fp : List Addr), DE (X.blk s H scope (compEnvC scope cl C X.env) fp) elt te) (hsi : ∀ x, foldedSetIterable iter X.env x = pure x := by intro _; rfl) :
    DE X b (dLcK rd ti t tt te (own.map (·.2))) :=
  PE.le (c.to _ (pe_lc hc hN hi ok hg ht he hsi)) fun _ _ _ h => em_lcK (lck_of hs) hv h
end
/-! sum, len, max, min, any, all, sorted, tuple, list -/
def rdSum : RLD := fun xs S Q => ∃ ns : List Int, xs = ns.map D.int ∧ Q (.int ns.sum) S
def rdLen : RLD := fun xs S Q => Q (.int xs.length) S
def rdMax : RLD := fun xs S Q => ∃ ns : List Int, xs = ns.map D.int ∧ 0 < ns.length ∧ ∀ m, m ∈ ns → (∀ y, y ∈ ns → y ≤ m) → Q (.int m) S
def rdMin : RLD := fun xs S Q => ∃ ns : List Int, xs = ns.map D.int ∧ 0 < ns.length ∧ ∀ m, m ∈ ns → (∀ y, y ∈ ns → m ≤ y) → Q (.int m) S
def rdAny : RLD := fun xs S Q => ∃ bs : List Bool, xs = bs.map D.bl ∧ Q (.bl (bs.any id)) S
def rdAll : RLD := fun xs S Q => ∃ bs : List Bool, xs = bs.map D.bl ∧ Q (.bl (bs.all id)) S
def rdSort : RLD := fun xs S Q => ∃ ns : List Int, xs = ns.map D.int ∧ ∀ (ns' : List Int) (p : Addr), ns'.Perm ns → ns'.Pairwise (· ≤ ·) → S p = none → Q (.loc p) (S.put p (.lst (ns'.map D.int)))
def rdTup : RLD := fun xs S Q => Q (.tup xs) S
section
variable {X : Cx} {K : PySem.W.Frag}
theorem cr_sumA (hc : X.calm = true) : CallR X (.builtin "sum") (fun vs H Q => ∃ (a : Addr) (ns : List Int), vs = [V.ref a] ∧ (SqL X.K H a (ns.map V.int) ∨ SqT X.K H a (ns.map V.int)) ∧ Q (.int ns.sum) H) := by
  intro pins s σ H vs us Q I r h
  obtain ⟨a, ns, rfl, hs, q⟩ := h
  rcases hs with hs | hs
  · exact cr_sum hc pins s σ H [.ref a] us Q I r ⟨a, ns, rfl, hs, q⟩
  · obtain ⟨its, rv, hl, _⟩ := I.tuple hs
    rw [Vals.ref1 r]
    obtain ⟨xs, e⟩ := rv.ints.allInts.items
    have hn : numsOf (intItems xs).toList = ns := by rw [← e]; exact rv.ints.numsOf
    rw [nums_intItems] at hn
    rw [e] at hl
    refine PySem.W.ktm_sumG (I.ok.hd hc) hl fun h' tk t' hk => ⟨.int _, H, I.kept hk, ⟨_, rfl⟩, ?_⟩
    rw [preSum_eq, List.take_of_length_le (by simp), hn]
    exact q
theorem lr_sum : LstR K rdSum (fun x H Q => ∃ (a : Addr) (ns : List Int), [x] = [V.ref a] ∧ (SqL K H a (ns.map V.int) ∨ SqT K H a (ns.map V.int)) ∧ Q (.int ns.sum) H) := fun a xs vs S H Q0 Q g rr rs h k => by
  obtain ⟨ns, rfl, q⟩ := h
  rw [rr.ints] at g
  exact ⟨a, ns, rfl, .inl g, k _ S _ H q Post.refl rs (.int _)⟩
theorem tr_sum : TupR K rdSum (fun x H Q => ∃ (a : Addr) (ns : List Int), [x] = [V.ref a] ∧ (SqL K H a (ns.map V.int) ∨ SqT K H a (ns.map V.int)) ∧ Q (.int ns.sum) H) := fun a xs vs S H Q0 Q g rr rs h k => by
  obtain ⟨ns, rfl, q⟩ := h
  rw [rr.ints] at g
  exact ⟨a, ns, rfl, .inr g, k _ S _ H q Post.refl rs (.int _)⟩
theorem lr_max : LstR K rdMax (fun x H Q => rMax K [x] H Q) := fun a xs vs S H Q0 Q g rr rs h k => by
  obtain ⟨ns, rfl, hl, q⟩ := h
  rw [rr.ints] at g
  exact ⟨a, ns, rfl, g, hl, fun m h1 h2 => k _ S _ H (q m h1 h2) Post.refl rs (.int _)⟩
theorem lr_min : LstR K rdMin (fun x H Q => rMin K [x] H Q) := fun a xs vs S H Q0 Q g rr rs h k => by
  obtain ⟨ns, rfl, hl, q⟩ := h
  rw [rr.ints] at g
  exact ⟨a, ns, rfl, g, hl, fun m h1 h2 => k _ S _ H (q m h1 h2) Post.refl rs (.int _)⟩
theorem lr_any : LstR K rdAny (fun x H Q => rAny K [x] H Q) := fun a xs vs S H Q0 Q g rr rs h k => by
  obtain ⟨ns, rfl, q⟩ := h
  rw [rr.bls] at g
  exact ⟨a, ns, rfl, g, k _ S _ H q Post.refl rs (.bl _)⟩
theorem lr_all : LstR K rdAll (fun x H Q => rAll K [x] H Q) := fun a xs vs S H Q0 Q g rr rs h k => by
  obtain ⟨ns, rfl, q⟩ := h
  rw [rr.bls] at g
  exact ⟨a, ns, rfl, g, k _ S _ H q Post.refl rs (.bl _)⟩
theorem lr_sort : LstR K rdSort (fun x H Q => rSortedI K [x] H Q) := fun a xs vs S H Q0 Q g rr rs h k => by
  obtain ⟨ns, rfl, q⟩ := h
  rw [rr.ints] at g
  exact ⟨a, ns, rfl, g, fun ns' p h1 h2 hp => k _ _ _ _ (q ns' p h1 h2 (rs.none_of hp)) (Post.new hp) (new_lst rs hp (Reps.of_ints ns')) (.loc p)⟩
theorem lr_tup : LstR K rdTup (fun x H Q => ∃ p ys, [x] = [V.ref p] ∧ ((SqL K H p ys ∧ ∀ l, H l = none → Q (.ref l) (upd H l (.tup ys))) ∨ (SqT K H p ys ∧ Q (.ref p) H))) := fun a xs vs S H Q0 Q g rr rs h k =>
  ⟨a, vs, rfl, .inl ⟨g, fun l hl => by
    have f : Free (H l) := by rw [hl]; trivial
    exact k _ S _ _ h (Post.lay hl) (rs.upd f (rs.none_of hl)) (.tup (.of upd_same) (rr.mono (TK.upd f)))⟩⟩
theorem tr_tup : TupR K rdTup (fun x H Q => ∃ p ys, [x] = [V.ref p] ∧ ((SqL K H p ys ∧ ∀ l, H l = none → Q (.ref l) (upd H l (.tup ys))) ∨ (SqT K H p ys ∧ Q (.ref p) H))) := fun a xs vs S H Q0 Q g rr rs h k =>
  ⟨a, vs, rfl, .inr ⟨g, k _ S _ _ h Post.refl rs (.tup g rr)⟩⟩
theorem lr_lst : LstR K rdNew (fun x H Q => ∃ p ys, [x] = [V.ref p] ∧ (SqL K H p ys ∨ SqT K H p ys) ∧ ∀ l, H l = none → Q (.ref l) (upd H l (.lst ys))) := fun a xs vs S H Q0 Q g rr rs h k =>
  ⟨a, vs, rfl, .inl g, fun l hl => k _ _ _ _ (h l (rs.none_of hl)) (Post.new hl) (new_lst rs hl rr) (.loc l)⟩
theorem tr_lst : TupR K rdNew (fun x H Q => ∃ p ys, [x] = [V.ref p] ∧ (SqL K H p ys ∨ SqT K H p ys) ∧ ∀ l, H l = none → Q (.ref l) (upd H l (.lst ys))) := fun a xs vs S H Q0 Q g rr rs h k =>
  ⟨a, vs, rfl, .inr g, fun l hl => k _ _ _ _ (h l (rs.none_of hl)) (Post.new hl) (new_lst rs hl rr) (.loc l)⟩
end
/-! the calls by their words -/
def rvSum (K : PySem.W.Frag) : V → Hp → VK → Prop := fun x H Q => ∃ (a : Addr) (ns : List Int), [x] = [V.ref a] ∧ (SqL K H a (ns.map V.int) ∨ SqT K H a (ns.map V.int)) ∧ Q (.int ns.sum) H
def rvTup (K : PySem.W.Frag) : V → Hp → VK → Prop := fun x H Q => ∃ p ys, [x] = [V.ref p] ∧ ((SqL K H p ys ∧ ∀ l, H l = none → Q (.ref l) (upd H l (.tup ys))) ∨ (SqT K H p ys ∧ Q (.ref p) H))
def rvLst (K : PySem.W.Frag) : V → Hp → VK → Prop := fun x H Q => ∃ p ys, [x] = [V.ref p] ∧ (SqL K H p ys ∨ SqT K H p ys) ∧ ∀ l, H l = none → Q (.ref l) (upd H l (.lst ys))
section
variable {X : Cx} {a : Expr} {p pos : Pos} {ta : TD}
theorem c_sum (hc : X.calm = true) (hg : Gl X "sum") (hm : X.mg "sum" = none) (he : starEach (a :: []) X.env = (false, eval a X.env) :: starEach [] X.env := by rfl) : C1 X a (.Call (.Name "sum" p) [a] [] pos) (rvSum X.K) := c1_b (cr_sumA hc) hg hm boot_sum (he := he)
theorem c_max (hc : X.calm = true) (hg : Gl X "max") (hm : X.mg "max" = none) (he : starEach (a :: []) X.env = (false, eval a X.env) :: starEach [] X.env := by rfl) : C1 X a (.Call (.Name "max" p) [a] [] pos) (fun x H Q => rMax X.K [x] H Q) := c1_b (cr_max hc) hg hm boot_max (he := he)
theorem c_min (hc : X.calm = true) (hg : Gl X "min") (hm : X.mg "min" = none) (he : starEach (a :: []) X.env = (false, eval a X.env) :: starEach [] X.env := by rfl) : C1 X a (.Call (.Name "min" p) [a] [] pos) (fun x H Q => rMin X.K [x] H Q) := c1_b (cr_min hc) hg hm boot_min (he := he)
theorem c_any (hc : X.calm = true) (hg : Gl X "any") (hm : X.mg "any" = none) (he : starEach (a :: []) X.env = (false, eval a X.env) :: starEach [] X.env := by rfl) : C1 X a (.Call (.Name "any" p) [a] [] pos) (fun x H Q => rAny X.K [x] H Q) := c1_b (cr_any hc) hg hm boot_any (he := he)
theorem c_all (hc : X.calm = true) (hg : Gl X "all") (hm : X.mg "all" = none) (he : starEach (a :: []) X.env = (false, eval a X.env) :: starEach [] X.env := by rfl) : C1 X a (.Call (.Name "all" p) [a] [] pos) (fun x H Q => rAll X.K [x] H Q) := c1_b (cr_all hc) hg hm boot_all (he := he)
theorem c_sort (hg : Gl X "sorted") (hm : X.mg "sorted" = none) (he : starEach (a :: []) X.env = (false, eval a X.env) :: starEach [] X.env := by rfl) : C1 X a (.Call (.Name "sorted" p) [a] [] pos) (fun x H Q => rSortedI X.K [x] H Q) := c1_b cr_sortedI hg hm boot_sorted (he := he)
theorem c_tup (hg : Gl X "tuple") (hm : X.mg "tuple" = none) (he : starEach (a :: []) X.env = (false, eval a X.env) :: starEach [] X.env := by rfl) : C1 X a (.Call (.Name "tuple" p) [a] [] pos) (rvTup X.K) := c1_t call_tuple_of hg hm PyProof.Rows.boot_tuple (he := he)
theorem c_lst (hg : Gl X "list") (hm : X.mg "list" = none) (he : starEach (a :: []) X.env = (false, eval a X.env) :: starEach [] X.env := by rfl) : C1 X a (.Call (.Name "list" p) [a] [] pos) (rvLst X.K) := c1_t call_list_of hg hm PyProof.Rows.boot_list (he := he)
/-- len: lists, tuples, texts, dicts -/
def dLen (ta : TD) : TD := fun e S Q => ta e S fun x S1 => match x with
  | .tup xs => Q (.int xs.length) S1
  | .rol xs => Q (.int xs.length) S1
  | .str z => z.length ≤ sizeLine ∧ Q (.int z.length) S1
  | .loc q => match S1 q with
    | some (.lst xs) => Q (.int xs.length) S1
    | some (.dic kvs) => Q (.int kvs.length) S1
    | _ => False
  | _ => False
theorem call_lenA : CallR X (.builtin "len") (fun xs H Q => (∃ x n, xs = [x] ∧ LenV X.K x H n ∧ Q (.int n) H) ∨ ∃ a kvs, xs = [V.ref a] ∧ H a = some (.dK kvs) ∧ Q (.int kvs.length) H) := by
  intro pins s σ H xs us Q I r h
  rcases h with h | h
  · exact call_len pins s σ H xs us Q I r h
  · exact call_lenD pins s σ H xs us Q I r h
theorem de_len (hg : Gl X "len") (hm : X.mg "len" = none) (ha : DE X a ta) (he : starEach (a :: []) X.env = (false, eval a X.env) :: starEach [] X.env := by rfl) : DE X (.Call (.Name "len" p) [a] [] pos) (dLen ta) :=
  PE.le ((c1_b (p := p) (pos := pos) call_lenA hg hm PySem.boot_len (he := he)).to _ ha) fun σ H Q h => by
    obtain ⟨e, S, Q0, re, rs, h1, k⟩ := h
    refine ⟨e, S, _, re, rs, h1, fun d S1 v H1 q p rs1 r => ?_⟩
    cases r with
    | tup hq rr => exact .inl ⟨_, _, rfl, .inr ⟨_, hq, rfl⟩, by rw [← rr.length]; exact k _ S1 _ H1 q p rs1 (.int _)⟩
    | rol hq rr => exact .inl ⟨_, _, rfl, .inl ⟨_, ro_sql hq, rfl⟩, by rw [← rr.length]; exact k _ S1 _ H1 q p rs1 (.int _)⟩
    | str z => exact .inl ⟨_, _, rfl, ⟨q.1, rfl⟩, k _ S1 _ H1 q.2 p rs1 (.int _)⟩
    | loc a =>
      dsimp only at q
      split at q
      · rename_i xs ex
        obtain ⟨vs, a1, b1⟩ := rs1 _ _ ex
        exact .inl ⟨_, _, rfl, .inl ⟨_, .of a1, rfl⟩, by rw [← b1.length]; exact k _ S1 _ H1 q p rs1 (.int _)⟩
      · rename_i kvs ex
        obtain ⟨vs, a1, b1⟩ := rs1 _ _ ex
        exact .inr ⟨_, _, rfl, a1, by rw [← Paired.length b1]; exact k _ S1 _ H1 q p rs1 (.int _)⟩
      · exact q.elim
    | _ => exact q.elim
/-- calls that want plain values -/
def dFn (f : List D → Option D) (t : TAD) : TD := fun e S Q => t e S fun ds S1 => match f ds with
  | some d => Q d S1
  | none => False
theorem em_fn {K : PySem.W.Frag} {f : List D → Option D} {t : TAD} {r : List V → Hp → VK → Prop} (hr : ∀ ds d vs H (Q : VK), f ds = some d → Reps K H ds vs → (∀ v, Rep K H d v → Q v H) → r vs H Q) {σ : St} {H : Hp} {Q : VK} (h : emE K (dFn f t) σ H Q) : tCB r (emA K t) σ H Q := by
  obtain ⟨e, S, Q0, re, rs, h1, k⟩ := h
  refine ⟨e, S, _, re, rs, h1, fun ds S1 vs H1 q p rs1 rr => ?_⟩
  split at q
  · rename_i d ed
    exact hr ds d vs H1 Q ed rr fun v rv => k d S1 v H1 q p rs1 rv
  · exact q.elim
theorem rmax_eq (i j : Int) : (if j > i then j else i) = max i j := by split <;> omega
theorem rmin_eq (i j : Int) : (if j < i then j else i) = min i j := by split <;> omega
def fMax2 : List D → Option D
  | [.int i, .int j] => some (.int (max i j))
  | _ => none
def fMin2 : List D → Option D
  | [.int i, .int j] => some (.int (min i j))
  | _ => none
variable {b : Expr} {t : TAD}
theorem de_max2 (hc : X.calm = true) (hg : Gl X "max") (hm : X.mg "max" = none) (ha : DA X [a, b] t) (he : starEach [a, b] X.env = (false, eval a X.env) :: starEach [b] X.env := by rfl) (hpl : (backTo pos (starEach [b] X.env)).any (·.1) = false := by rfl) : DE X (.Call (.Name "max" p) [a, b] [] pos) (dFn fMax2 t) :=
  PE.le (pe_callB (call_max2 hc) hg hm boot_max ha (he := he) (hpl := hpl)) fun σ H Q h => em_fn (fun ds d vs H Q e rr k => by
    unfold fMax2 at e
    split at e
    · obtain ⟨v, w, rfl, r1, r2⟩ := reps_two rr
      cases r1; cases r2; cases e
      exact ⟨_, _, rfl, by rw [rmax_eq]; exact k _ (.int _)⟩
    · cases e) h
theorem de_min2 (hc : X.calm = true) (hg : Gl X "min") (hm : X.mg "min" = none) (ha : DA X [a, b] t) (he : starEach [a, b] X.env = (false, eval a X.env) :: starEach [b] X.env := by rfl) (hpl : (backTo pos (starEach [b] X.env)).any (·.1) = false := by rfl) : DE X (.Call (.Name "min" p) [a, b] [] pos) (dFn fMin2 t) :=
  PE.le (pe_callB (call_min2 hc) hg hm boot_min ha (he := he) (hpl := hpl)) fun σ H Q h => em_fn (fun ds d vs H Q e rr k => by
    unfold fMin2 at e
    split at e
    · obtain ⟨v, w, rfl, r1, r2⟩ := reps_two rr
      cases r1; cases r2; cases e
      exact ⟨_, _, rfl, by rw [rmin_eq]; exact k _ (.int _)⟩
    · cases e) h
def fInt : List D → Option D
  | [.int i] => some (.int i)
  | [.bl b] => some (.int (if b then 1 else 0))
  | _ => none
def fAbs : List D → Option D
  | [.int i] => some (.int (if i < 0 then -i else i))
  | _ => none
theorem de_int1 (hg : Gl X "int") (hm : X.mg "int" = none) (ha : DA X [a] t) (he : starEach [a] X.env = (false, eval a X.env) :: starEach [] X.env := by rfl) : DE X (.Call (.Name "int" p) [a] [] pos) (dFn fInt t) :=
  PE.le (pe_callTy call_int1 hg hm PyProof.Rows.boot_int ha (he := he)) fun σ H Q h => em_fn (fun ds d vs H Q e rr k => by
    unfold fInt at e
    split at e
    · obtain ⟨v, rfl, r1⟩ := reps_one rr
      cases r1; cases e
      exact .inl ⟨_, rfl, k _ (.int _)⟩
    · obtain ⟨v, rfl, r1⟩ := reps_one rr
      cases r1; cases e
      exact .inr ⟨_, rfl, k _ (.int _)⟩
    · cases e) h
theorem de_abs1 (hg : Gl X "abs") (hm : X.mg "abs" = none) (ha : DA X [a] t) (he : starEach [a] X.env = (false, eval a X.env) :: starEach [] X.env := by rfl) : DE X (.Call (.Name "abs" p) [a] [] pos) (dFn fAbs t) :=
  PE.le (pe_callB call_abs hg hm boot_abs ha (he := he)) fun σ H Q h => em_fn (fun ds d vs H Q e rr k => by
    unfold fAbs at e
    split at e
    · obtain ⟨v, rfl, r1⟩ := reps_one rr
      cases r1; cases e
      exact ⟨_, rfl, k _ (.int _)⟩
    · cases e) h
end
end QL
end L2
namespace L2
namespace QL
open PySem PySem.Spec PyProof.Rows
/-! ### 20. lists that grow -/
def dApp (to te : TD) : TD := fun e S Q => to e S fun o S1 => match o with
  | .loc p => match S1 p with
    | some (.lst _) => te e S1 fun y S2 => match S2 p with
      | some (.lst xs) => xs.length < sizeLine ∧ Q .non (S2.put p (.lst (xs ++ [y])))
      | _ => False
    | _ => False
  | _ => False
def rdExt (p : Addr) : RLD := fun acc S Q => match S p with
  | some (.lst xs) => xs.length + acc.length ≤ sizeLine ∧ Q .non (S.put p (.lst (xs ++ acc)))
  | _ => False
def dExt (to te : TD) : TD := fun e S Q => to e S fun o S1 => match o with
  | .loc p => match S1 p with
    | some (.lst _) => te e S1 fun y S2 => match y with
      | .loc q => match S2 q with
        | some (.lst ys) => rdExt p ys S2 Q
        | _ => False
      | _ => False
    | _ => False
  | _ => False
def dExtLc (to : TD) (ti : TID) (t : Tgt) (tt : TTD) (te : TD) (vs : List Nat) : TD := fun e S Q => to e S fun o S1 => match o with
  | .loc p => match S1 p with
    | some (.lst _) => dLcK (rdExt p) ti t tt te vs e S1 Q
    | _ => False
  | _ => False
section
variable {X : Cx} {o a : Expr} {to te : TD} {apos pos : Pos}
theorem lst_wr {K : PySem.W.Frag} {S : Sto} {H : Hp} {p : Addr} {xs ys : List D} {vs us : List V} (rs : RelS K S H) (e : S p = some (.lst xs)) (h : H p = some (.lst vs)) (r : Reps K H ys us) : Post K S H (S.put p (.lst ys)) (upd H p (.lst us)) ∧ RelS K (S.put p (.lst ys)) (upd H p (.lst us)) := by
  have f : Free (H p) := by rw [h]; trivial
  exact ⟨Post.write rs e, rs.cell e ⟨_, upd_same, r.mono (TK.upd f)⟩⟩
theorem de_app (ho : DE X o to) (ha : DE X a te) (hbase : attributeBase o "append" X.env (eval o X.env) = eval o X.env := by rfl) (hline : (apos.endLine == pos.line) = true := by rfl) (hs : starEach [a] X.env = (false, eval a X.env) :: starEach [] X.env := by rfl)
    (hfew : ((backTo pos (starEach [a] X.env)).all (fun x => !x.1) && (backToKw pos (keywordEach [] X.env)).all (fun x => x.1.isSome)
      && decide (([a] : List Expr).length + ([] : List Keyword).length + (if ([] : List Keyword).isEmpty then 0 else 1) < 30)) = true := by rfl) :
    DE X (.Call (.Attribute o "append" apos) [a] [] pos) (dApp to te) :=
  PE.le (pe_bm PySem.F.plainAttrs_list PySem.F.slot_list_append PySem.F.type_list_append mt_append ho (pa_cons ha pa_nil hs) hbase hfew hline hs) fun σ H Q h => by
    obtain ⟨e, S, Q0, re, rs, h1, k⟩ := h
    refine ⟨e, S, _, re, rs, h1, fun d S1 v H1 q p rs1 r => ?_⟩
    cases r with
    | loc a =>
      dsimp only at q
      split at q
      · rename_i xs0 e0
        obtain ⟨vs0, a0, _⟩ := rs1 _ _ e0
        refine ⟨.inl ⟨rfl, _, SqL.of a0⟩, e, S1, _, re.mono p.tk, rs1, q, fun y S2 w H2 q2 p2 rs2 r2 => ?_⟩
        split at q2
        · rename_i xs e1
          obtain ⟨vs, a1, b1⟩ := rs2 _ _ e1
          obtain ⟨pp, rs3⟩ := lst_wr rs2 e1 a1 (b1.append (.cons r2 .nil))
          exact ⟨_, vs, w, rfl, rfl, a1, by rw [← b1.length]; exact q2.1, k _ _ _ _ q2.2 ((p.trans p2).trans pp) rs3 .non⟩
        · exact q2.elim
      · exact q.elim
    | _ => exact q.elim
theorem em_ext {K : PySem.W.Frag} {S : Sto} {H : Hp} {p b : Addr} {ys : List D} {us : List V} {Q0 : DK} {Q : VK} (rs : RelS K S H) (hb : H b = some (.lst us)) (ry : Reps K H ys us) (h : rdExt p ys S Q0)
    (k : ∀ d S' v H', Q0 d S' → Post K S H S' H' → RelS K S' H' → Rep K H' d v → Q v H') : rExtend (.ref p) [.ref b] H Q := by
  unfold rdExt at h
  split at h
  · rename_i xs e1
    obtain ⟨vs, a1, b1⟩ := rs _ _ e1
    obtain ⟨pp, rs3⟩ := lst_wr rs e1 a1 (b1.append ry)
    exact ⟨_, _, vs, us, rfl, rfl, a1, hb, by rw [← b1.length, ← ry.length]; exact h.1, k _ _ _ _ h.2 pp rs3 .non⟩
  · exact h.elim
theorem de_ext (ho : DE X o to) (ha : DE X a te) (hbase : attributeBase o "extend" X.env (eval o X.env) = eval o X.env := by rfl) (hline : (apos.endLine == pos.line) = true := by rfl) (hs : starEach [a] X.env = (false, eval a X.env) :: starEach [] X.env := by rfl)
    (hfew : ((backTo pos (starEach [a] X.env)).all (fun x => !x.1) && (backToKw pos (keywordEach [] X.env)).all (fun x => x.1.isSome)
      && decide (([a] : List Expr).length + ([] : List Keyword).length + (if ([] : List Keyword).isEmpty then 0 else 1) < 30)) = true := by rfl) :
    DE X (.Call (.Attribute o "extend" apos) [a] [] pos) (dExt to te) :=
  PE.le (pe_bm PySem.F.plainAttrs_list PySem.F.slot_list_extend PySem.F.type_list_extend mt_extend ho (pa_cons ha pa_nil hs) hbase hfew hline hs) fun σ H Q h => by
    obtain ⟨e, S, Q0, re, rs, h1, k⟩ := h
    refine ⟨e, S, _, re, rs, h1, fun d S1 v H1 q p rs1 r => ?_⟩
    cases r with
    | loc a =>
      dsimp only at q
      split at q
      · rename_i xs0 e0
        obtain ⟨vs0, a0, _⟩ := rs1 _ _ e0
        refine ⟨.inl ⟨rfl, _, SqL.of a0⟩, e, S1, _, re.mono p.tk, rs1, q, fun y S2 w H2 q2 p2 rs2 r2 => ?_⟩
        cases r2 with
        | loc b =>
          dsimp only at q2
          split at q2
          · rename_i ys e2
            obtain ⟨us, a2, b2⟩ := rs2 _ _ e2
            exact em_ext rs2 a2 b2 q2 fun d S' v H' q' p' rs' r' => k d S' v H' q' ((p.trans p2).trans p') rs' r'
          · exact q2.elim
        | _ => exact q2.elim
      · exact q.elim
    | _ => exact q.elim
theorem lck_ext {K : PySem.W.Frag} {p : Addr} : LcK K (rdExt p) (fun x H Q => rExtend (.ref p) [x] H Q) := fun D acc us S Q0 H Q rs nD hu ru run k =>
  em_ext rs hu ru run fun d S' v H' q pp rs' r' => k d S' v H' q (fun S0 H0 p0 _ => p0.trans pp) rs' r'
theorem de_extlc {elt tg iter : Expr} {ifs : List Expr} {scope : Scope} {own : List (Str × Nat)} {cpos : Pos} {ti : TID} {t : Tgt} {tt : TTD} {te : TD} (ho : DE X o to) (hc : X.calm = true) (hN : X.N.Nodup) (hi : DI X tg iter ti) (ok : BlkOk X.N X.env.scope scope own) (hv : t.own (own.map (·.2)) = true)
    (hg : ∀ (s : Shared) (H : Hp) (C : Addr) (cl : List (Str × Addr)) (fp : List Addr), PG (X.blk s H scope (compEnvC scope cl C X.env) fp) tg (gOf X.K t))
    (ht : ∀ (s : Shared) (H : Hp) (C : Addr) (cl : List (Str × Addr)) (fp : List Addr), DTs (X.blk s H scope (compEnvC scope cl C X.env) fp) ifs tt)
    (he : ∀ (s : Shared) (H : Hp) (C : Addr) (cl : List (Str × Addr)) (fp : List Addr), DE (X.blk s H scope (compEnvC scope cl C X.env) fp) elt te) (hsi : ∀ x, foldedSetIterable iter X.env x = pure x := by intro _; rfl)
    (hbase : attributeBase o "extend" X.env (eval o X.env) = eval o X.env := by rfl) (hline : (apos.endLine == pos.line) = true := by rfl)
    (hfew : ((backTo pos (starEach [.ListComp elt [⟨tg, iter, ifs, 0⟩] scope cpos] X.env)).all (fun x => !x.1) && (backToKw pos (keywordEach [] X.env)).all (fun x => x.1.isSome)
      && decide (([.ListComp elt [⟨tg, iter, ifs, 0⟩] scope cpos] : List Expr).length + ([] : List Keyword).length + (if ([] : List Keyword).isEmpty then 0 else 1) < 30)) = true := by rfl) :
    DE X (.Call (.Attribute o "extend" apos) [.ListComp elt [⟨tg, iter, ifs, 0⟩] scope cpos] [] pos) (dExtLc to ti t tt te (own.map (·.2))) :=
  PE.le (pe_bm PySem.F.plainAttrs_list PySem.F.slot_list_extend PySem.F.type_list_extend mt_extend ho (pa_cons (pe_lc hc hN hi ok hg ht he hsi) pa_nil) hbase hfew hline) fun σ H Q h => by
    obtain ⟨e, S, Q0, re, rs, h1, k⟩ := h
    refine ⟨e, S, _, re, rs, h1, fun d S1 v H1 q p rs1 r => ?_⟩
    cases r with
    | loc a =>
      dsimp only at q
      split at q
      · rename_i xs0 e0
        obtain ⟨vs0, a0, _⟩ := rs1 _ _ e0
        exact ⟨.inl ⟨rfl, _, SqL.of a0⟩, em_lcK lck_ext hv ⟨e, S1, Q0, re.mono p.tk, rs1, q, fun d S' v H' q' p' rs' r' => k d S' v H' q' (p.trans p') rs' r'⟩⟩
      · exact q.elim
    | _ => exact q.elim
end
/-! ### 21. while -/
def dWhile (c : TTD) (tb : TSD) : TSD := fun D0 e S => ∃ W : Nat → DEnv → Sto → Prop, (∃ m, W m e S) ∧ ∀ m e S, W m e S → c e S fun b S1 => match b with
  | true => tb { nx := fun e' S' => ∃ S2 m', Sb S2 S' ∧ m' < m ∧ W m' e' S2, rt := D0.rt, bk := D0.nx, ct := fun e' S' => ∃ S2 m', Sb S2 S' ∧ m' < m ∧ W m' e' S2 } e S1
  | false => D0.nx e S1
theorem ds_while {X : Cx} {c : Expr} {body : List Stmt} {tc : TTD} {tb : TSD} {pos : Pos} (hp : PassesOwn (model X.prog X.w) X.A X.env X.xe) (hc : DT X c tc) (hb : DSs X body tb) : DS X (.While c body [] pos) (dWhile tc tb) :=
  PS.le (ps_while hp hc hb) fun D1 σ H h => by
    obtain ⟨e, S, D0, re, rs, ⟨W, ⟨m0, w0⟩, turn⟩, k⟩ := h
    refine ⟨fun m σ' H' => ∃ e' S', RelE X.K H' e' σ' ∧ RelS X.K S' H' ∧ Post X.K S H S' H' ∧ W m e' S', ⟨m0, e, S, re, rs, Post.refl, w0⟩, ?_⟩
    rintro m σ' H' ⟨e', S', re', rs', p', w'⟩
    refine ⟨e', S', _, re', rs', turn m e' S' w', fun b S2 H2 q p2 rs2 => ?_⟩
    cases b with
    | false => exact iteF (k.nx e' S2 σ' H2 q (p'.trans p2) (re'.mono p2.tk) rs2)
    | true =>
      refine iteT ⟨fun σ'' H'' => ∃ m', m' < m ∧ ∃ e'' S'', RelE X.K H'' e'' σ'' ∧ RelS X.K S'' H'' ∧ Post X.K S H S'' H'' ∧ W m' e'' S'', fun σ'' H'' h => h, e', S2, _, re'.mono p2.tk, rs2, q,
        ⟨fun e4 S4 σ4 H4 f p4 re4 rs4 => ?_, fun d4 S4 v4 H4 f p4 r4 rs4 => ?_, fun e4 S4 σ4 H4 f p4 re4 rs4 => ?_, fun e4 S4 σ4 H4 f p4 re4 rs4 => ?_⟩⟩
      · obtain ⟨S5, m', sb, hm, w⟩ := f
        exact ⟨m', hm, e4, S5, re4, rs4.sub sb, ((p'.trans p2).trans p4).sub sb, w⟩
      · exact k.rt d4 S4 v4 H4 f ((p'.trans p2).trans p4) r4 rs4
      · exact k.nx e4 S4 σ4 H4 f ((p'.trans p2).trans p4) re4 rs4
      · obtain ⟨S5, m', sb, hm, w⟩ := f
        exact ⟨m', hm, e4, S5, re4, rs4.sub sb, ((p'.trans p2).trans p4).sub sb, w⟩
/-! ### 22. repr -/
structure PyOk (y : PyData) : Prop where
  sh : y.showable = true
  nd : y.hasDict = false
  dp : y.depth ≤ 60
  ln : y.shown.length ≤ sizeLine
theorem cr_repr {X : Cx} (hg : X.A.guards = some []) (hu : X.A.units + 64 < cLine) : CallR X (.builtin "repr") (fun xs H Q => (∃ i, xs = [.int i] ∧ i.natAbs.log2 < 1920 ∧ Q (.str (toString i)) H) ∨
    ∃ a y, xs = [.ref a] ∧ Dp X.K H (.ref a) y ∧ PyOk y ∧ Q (.str y.shown) H) := by
  intro pins s σ H xs us Q I r h
  rcases h with h | ⟨a, y, rfl, dp, ok, q⟩
  · exact SkE.call_repr_int pins s σ H xs us Q I r h
  · rw [Vals.ref1 r]
    obtain ⟨as, hr⟩ := Dp.reads I y (.ref a) (.ref a) dp rfl
    have h1 := ok.dp
    exact repr_of_reads' hr ok.sh (PyData.noDict_hsm ok.nd) hg (by omega) (fun _ _ e => e) (fun h' u tk hk => ⟨.str y.shown, H, I.kept hk, ⟨_, rfl⟩, q⟩) ok.ln
/-- what may be printed: at most n deep, the text of at most b signs -/
structure RB (n b : Nat) (d : D) : Prop where
  fn : fine n d
  sh : (toPy d).showable = true
  nd : (toPy d).hasDict = false
  ln : (toPy d).shown.length ≤ b
theorem fine_mono : ∀ {n m : Nat} {d : D}, n ≤ m → fine n d → fine m d
  | 0, 0, _, _, h => h
  | 0, m + 1, d, _, h => by
    cases d with
    | non => trivial
    | bl b => trivial
    | int i => trivial
    | str x => exact h
    | _ => exact (show False from h).elim
  | n + 1, m + 1, d, hm, h => by
    cases d with
    | non => trivial
    | bl b => trivial
    | int i => trivial
    | str x => exact h
    | tup xs => exact fun x hx => fine_mono (Nat.le_of_succ_le_succ hm) (h x hx)
    | _ => exact (show False from h).elim
  | n + 1, 0, _, hm, _ => by omega
theorem RB.mono {n m b c : Nat} {d : D} (r : RB n b d) (h1 : n ≤ m) (h2 : b ≤ c) : RB m c d := ⟨fine_mono h1 r.fn, r.sh, r.nd, Nat.le_trans r.ln h2⟩
theorem log_small {i : Int} (h : i.natAbs < 10 ^ 12) : i.natAbs.log2 < 1920 := by
  by_cases e : i.natAbs = 0
  · rw [e]; decide
  · refine (Nat.log2_lt e).mpr (Nat.lt_of_lt_of_le h ?_)
    calc 10 ^ 12 ≤ 2 ^ 40 := by decide
      _ ≤ 2 ^ 1920 := Nat.pow_le_pow_right (by decide) (by decide)
theorem RB.int {i : Int} (h : i.natAbs < 10 ^ 12) : RB 0 13 (.int i) := ⟨trivial, by
  show decide _ = true
  exact decide_eq_true (log_small h), rfl, PyData.shown_int_le h⟩
theorem RB.bl {b : Bool} : RB 0 5 (.bl b) := ⟨trivial, rfl, rfl, by cases b <;> decide⟩
theorem RB.non : RB 0 4 .non := ⟨trivial, rfl, rfl, by decide⟩
theorem rb_all : ∀ {n b : Nat} (xs : List D), (∀ x ∈ xs, RB n b x) → PyData.showableAll (toPys xs) = true ∧ PyData.hasDictAll (toPys xs) = false ∧ ((PyData.shownAll (toPys xs)).map (·.length)).sum ≤ b * xs.length ∧ (PyData.shownAll (toPys xs)).length = xs.length
  | _, _, [], _ => ⟨rfl, rfl, by simp [toPys, PyData.shownAll], rfl⟩
  | n, b, x :: xs, h => by
    obtain ⟨a1, a2, a3, a4⟩ := rb_all xs fun y hy => h y (List.mem_cons_of_mem _ hy)
    have r := h x List.mem_cons_self
    refine ⟨?_, ?_, ?_, ?_⟩
    · show ((toPy x).showable && PyData.showableAll (toPys xs)) = true
      rw [r.sh, a1]; rfl
    · show ((toPy x).hasDict || PyData.hasDictAll (toPys xs)) = false
      rw [r.nd, a2]; rfl
    · show ((((toPy x).shown :: PyData.shownAll (toPys xs)).map (·.length)).sum) ≤ b * (xs.length + 1)
      rw [List.map_cons, List.sum_cons, Nat.mul_add, Nat.mul_one]
      have := r.ln
      omega
    · show (PyData.shownAll (toPys xs)).length + 1 = xs.length + 1
      rw [a4]
theorem RB.tup {n b : Nat} {xs : List D} (m : Nat) (hl : xs.length ≤ m) (h : ∀ x ∈ xs, RB n b x) : RB (n + 1) ((b + 2) * m + 3) (.tup xs) := by
  obtain ⟨a1, a2, a3, a4⟩ := rb_all xs h
  refine ⟨fun x hx => (h x hx).fn, a1, a2, ?_⟩
  show (tupleText (PyData.shownAll (toPys xs))).length ≤ _
  have q := tupleText_len_le (PyData.shownAll (toPys xs))
  rw [a4] at q
  have q2 : b * xs.length + 2 * xs.length ≤ (b + 2) * m := by
    rw [← Nat.add_mul]
    exact Nat.mul_le_mul_left _ hl
  omega
theorem RB.ok {n b : Nat} {d : D} (r : RB n b d) (hn : n ≤ 50) (hb : b ≤ sizeLine) : PyOk (toPy d) := ⟨r.sh, r.nd, by have := (fine_lay n d r.fn).2; omega, Nat.le_trans r.ln hb⟩
def dRepr (ta : TD) : TD := fun e S Q => ta e S fun x S1 => match x with
  | .int i => i.natAbs < 10 ^ 12 ∧ Q (.str (PyData.int i).shown) S1
  | .tup xs => RB 50 16000000 (.tup xs) ∧ Q (.str (PyData.tuple (toPys xs)).shown) S1
  | .loc p => match S1 p with
    | some (.lst xs) => RB 50 16000000 (.tup xs) ∧ Q (.str (PyData.list (toPys xs)).shown) S1
    | _ => False
  | _ => False
theorem list_ok {xs : List D} (r : RB 50 16000000 (.tup xs)) : PyOk (.list (toPys xs)) := by
  have f := (fine_lay 50 _ r.fn).2
  refine ⟨r.sh, r.nd, by simp only [toPy, PyData.depth] at f ⊢; omega, ?_⟩
  have h := r.ln
  show (listText (PyData.shownAll (toPys xs))).length ≤ _
  have h' : (tupleText (PyData.shownAll (toPys xs))).length ≤ 16000000 := h
  generalize PyData.shownAll (toPys xs) = ts at h'
  rw [sizeLine_eq]
  cases ts with
  | nil => decide
  | cons t r =>
    have e := join_length_add (t :: r) (by simp)
    have p1 : ∀ (us : List Str), piled us = (us.map (·.length)).sum + 2 * us.length := by
      intro us
      induction us with
      | nil => rfl
      | cons u us ih => simp only [piled, List.map_cons, List.sum_cons, List.length_cons] at *; omega
    have q := listText_len_le (t :: r)
    have q2 := p1 (t :: r)
    unfold tupleText at h'
    rw [strLen_append, strLen_append] at h'
    omega
theorem de_repr {X : Cx} {a : Expr} {ta : TD} {p pos : Pos} {k : Nat} (hr : RoomG k X.A) (hg : Gl X "repr") (hm : X.mg "repr" = none) (ha : DE X a ta) (he : starEach (a :: []) X.env = (false, eval a X.env) :: starEach [] X.env := by rfl) : DE X (.Call (.Name "repr" p) [a] [] pos) (dRepr ta) :=
  PE.le ((c1_b (p := p) (pos := pos) (cr_repr hr.gd hr.rm.units) hg hm boot_repr (he := he)).to _ ha) fun σ H Q h => by
    obtain ⟨e, S, Q0, re, rs, h1, k⟩ := h
    refine ⟨e, S, _, re, rs, h1, fun d S1 v H1 q p rs1 r => ?_⟩
    cases r with
    | int i => exact .inl ⟨i, rfl, log_small q.1, k _ S1 _ H1 q.2 p rs1 (.str _)⟩
    | tup hq rr => exact .inr ⟨_, _, rfl, fine_dp 50 _ q.1.fn _ (.tup hq rr), q.1.ok (Nat.le_refl _) (by rw [sizeLine_eq]; decide), k _ S1 _ H1 q.2 p rs1 (.str _)⟩
    | loc a =>
      dsimp only at q
      split at q
      · rename_i xs ex
        obtain ⟨vs, a1, b1⟩ := rs1 _ _ ex
        exact .inr ⟨_, _, rfl, .lst (.of a1) (reps_dp _ (fun d hd => fine_dp 49 d (q.1.fn d hd)) _ b1), list_ok q.1, k _ S1 _ H1 q.2 p rs1 (.str _)⟩
      · exact q.elim
    | _ => exact q.elim
end QL
end L2
namespace L2
namespace QL
open PySem PySem.Spec PyProof.Rows
/-! ### 23. the law's call -/
theorem law_callD {P : Program} {w : World} {K : PySem.W.Frag} {mg mb : Str → Option Value} {k : Nat} {fa a : Addr} {fd : FuncData} {x : Str} {sp : SpD} {s₁ : Shared} {vs : List Value} {ns : List Int}
    (KX : K.In s₁.heap) (hns : s₁.heap.Ns mainGlobals mg) (hb : s₁.heap.Ns builtinsNs mb) (hbb : ∀ x : Str, x ≠ "__name__" → mb x = bootBuiltins x) (hlim : s₁.heap.NoLimit) (hg : s₁.gens = #[])
    (ha : s₁.heap.get? a = some { cls := .type "list", data := .seq vs.toArray }) (hi : IntsAre vs ns) (hl : ns.length ≤ sizeLine) (hr : RoomG k callerA)
    (F : ∀ base : Heap, K.In base → base.Ns mainGlobals mg → FnD P w K mg base k fa fd [x] sp) (hbind : ∀ (s : Shared) (u : Value), BindsTo s fd ⟨[u], []⟩ [(x, u)])
    (hsp : sp [.rol (ns.map D.int)] (fun _ => none) (fun d _ => d = .bl true)) :
    codeAny (model P w) callerA (.call (.ref fa) ⟨[.ref a], []⟩) (fun r s' => r = .ok (.ret (.bool true)) ∧ OldK s₁.heap s'.heap ∧ s'.os = s₁.os ∧ AllBare s'.gens) s₁ := by
  have rv := vals_ints hi
  have lenV := hi.length
  have core : ∀ H : Hp, Only H → Ro K H a (ns.map V.int) → HOk P w H s₁.heap → (∀ b, H b ≠ none → b = a) → (H a ≠ none → K.lookup a = none) →
      codeAny (model P w) callerA (.call (.ref fa) ⟨[.ref a], []⟩) (fun r s' => r = .ok (.ret (.bool true)) ∧ OldK s₁.heap s'.heap ∧ s'.os = s₁.os ∧ AllBare s'.gens) s₁ := by
    intro H hO hS hok hA hK
    have bo : ∀ {b : Addr} {o : Obj}, s₁.heap.get? b = some o → H b = none → (hidT s₁.heap H).get? b = some o := fun e n => hidT_get e n
    have noD : ∀ {b : Addr} {o : Obj} {es : Array DictEntry} {ep : Nat}, s₁.heap.get? b = some o → o.data = .dict es ep → H b = none := fun {b o es ep} e d => by
      cases q : H b with
      | none => rfl
      | some u =>
        obtain rfl : b = a := hA b (by rw [q]; simp)
        rw [ha] at e; cases e
        cases (show Data.seq vs.toArray _ = Data.dict es ep from d)
    have nsK : ∀ {b : Addr} {m : Str → Option Value}, s₁.heap.Ns b m → (hidT s₁.heap H).Ns b m := fun {b m} ⟨o, es, ep, e, d, r⟩ => ⟨o, es, ep, bo e (noD e d), d, r⟩
    have kIn : K.In (hidT s₁.heap H) := fun b o e => bo (KX b o e) (by
      cases q : H b with
      | none => rfl
      | some u =>
        obtain rfl : b = a := hA b (by rw [q]; simp)
        rw [hK (by rw [q]; simp)] at e; cases e)
    have hM : Mod K mg (hidT s₁.heap H) := ⟨kIn, nsK hns, ⟨mb, nsK hb, hbb⟩, let ⟨mc, h1, h2⟩ := hlim; ⟨mc, nsK h1, h2⟩⟩
    have e0 : Env0 P w K mg (hidT s₁.heap H) callerA [] s₁ H := ⟨rfl, hM, fun b o e => of_hidT e, Nat.le_of_eq (hidT_size _ _), trivial, fun b hb => absurd (show b ∈ ([] : List Addr) from hb) (by simp), hok, .of_eq hg⟩
    refine codeAny_mono ((F _ kIn (nsK hns)).run callerA [] s₁ H ⟨[.ref a], []⟩ [.ref a] [.ref a] (fun v _ => v = .bl true) hr e0 (hbind s₁ (.ref a)) (.cons rfl .nil)
      ⟨_, fun _ => none, _, .cons (.rol hS (Reps.of_ints ns)) .nil, fun _ _ z => (nomatch z), hsp, fun d S' v H' q _ _ r => by subst q; cases r; rfl⟩) fun r s' h => ?_
    rcases r with _ | (_ | _ | _ | u)
    · exact h.elim
    · exact False.elim h
    · exact False.elim h
    · exact False.elim h
    · obtain ⟨v, H', os, bare, un, hok', r', q⟩ := h
      obtain rfl : v = .bl true := q
      obtain rfl : u = Value.bool true := r'
      refine ⟨rfl, OldK.of_keep fun b o e => ?_, os, bare⟩
      rcases hO b with z | ⟨ob, xs, z⟩
      · exact un.keep b o e z (by intro z; exact absurd (show b ∈ ([] : List Addr) from z) (by simp)) (by simp)
      · obtain ⟨e1, _⟩ := hok b _ z
        obtain ⟨e2, _⟩ := hok' b _ (un.frzs b ob _ z)
        rw [e] at e1; cases e1
        exact e2
  cases hk : K.lookup a with
  | some o =>
    have e := KX a o hk
    rw [ha] at e
    cases e
    exact core (fun _ => none) (fun _ => .inl rfl) (.inr (.inr ⟨_, vs.toArray, _, hk, rfl, rfl, rfl, by rw [List.size_toArray, lenV]; exact hl, by simpa using rv⟩)) (fun b u z => nomatch z) (fun b z => absurd rfl z) fun z => absurd rfl z
  | none =>
    refine core (fun b => if b = a then some (.frz { cls := .type "list", data := .seq vs.toArray } (.lst (ns.map V.int))) else none) (fun b => ?_) (.inl ⟨{ cls := .type "list", data := .seq vs.toArray }, if_pos rfl⟩) (fun b u z => ?_) (fun b z => ?_) fun _ => hk
    · by_cases hb : b = a
      · exact .inr ⟨_, _, if_pos hb⟩
      · exact .inl (if_neg hb)
    · by_cases hb : b = a
      · have z' := (if_pos hb).symm.trans z
        cases z'
        subst hb
        exact ⟨ha, by rw [List.length_map]; exact hl, vs, _, rv, ha⟩
      · have z' := (if_neg hb).symm.trans z
        cases z'
    · by_cases hb : b = a
      · exact hb
      · exact absurd (if_neg hb) z
theorem walk_ofD {l : PySem.W.OpenLaw} {n k : Nat} {q : Program} {loose : List Str} {XP : (Str → Option Value) → Heap → Prop} {YP : World → Heap → Prop} {d : DefRec} {K : Params → PySem.W.Frag} {sp : SpD} {x : Str}
    (hn : l.most = some n) (hn2 : n ≤ sizeLine) (hdf : d.params.defaults = []) (hr : RoomG k callerA) (hY : ∀ (w : World) (h : Heap), YP w h → (K w.params).In h)
    (F : ∀ (w : World) (mg : Str → Option Value) (fa : Addr) (h : Heap), (K w.params).In h → h.Ns mainGlobals mg → mg d.name = some (.ref fa) →
      ∃ fd : FuncData, (∀ (s : Shared) (u : Value), BindsTo s fd ⟨[u], []⟩ [(x, u)]) ∧ ∀ base : Heap, (K w.params).In base → base.Ns mainGlobals mg → FnD l.prog w (K w.params) mg base k fa fd [x] sp)
    (hsp : ∀ ns : List Int, ns.length ≤ n → sp [.rol (ns.map D.int)] (fun _ => none) (fun d _ => d = .bl true)) : PySem.W.WalkO q loose XP YP l.row.toRowW d [] (fun f vs => PySem.call f vs) := by
  refine Att.attach_call hn hdf fun w s₀ s₁ mg mb fa o pm cd doc a vs ns G Y ho hd hcd hmg hobj hints hlen hg => ?_
  obtain ⟨fd, hb, hF⟩ := F w mg fa _ (hY w _ Y) G.T.g hmg
  exact law_callD (hY w _ Y) G.T.g G.T.b G.T.builtins G.T.nolimit hg hobj hints (Nat.le_trans hlen hn2) hr hF hb (hsp ns hlen)
theorem roomG {k : Nat} (h : k ≤ 100 := by decide) : RoomG k callerA := ⟨Room.mono ⟨rfl, by decide, by decide⟩ h, rfl⟩
/-- the law's promise -/
def spLaw (n : Nat) : SpD := fun ds _ Q => ∃ ns : List Int, ds = [.rol (ns.map D.int)] ∧ ns.length ≤ n ∧ ∀ S, Q (.bl true) S
end QL
end L2
namespace L2
namespace QL
open PySem PySem.Spec PyProof.Rows
/-! ### 24. walking the readings -/
theorem forRun_inv {t : Tgt} {tb : TSD} {chk : Sto → Prop} {D0 : EndsD} {items : List D} (I : List D → DEnv → Sto → Prop)
    (step : ∀ pre x post e S (N : DEnv → Sto → Prop), items = pre ++ x :: post → I pre e S → (∀ e' S', I (pre ++ [x]) e' S' → N e' S') →
      chk S ∧ match bT t x e with
        | some e' => tb { nx := fun e2 S2 => ∃ S3, Sb S3 S2 ∧ N e2 S3, rt := D0.rt, bk := D0.nx, ct := fun e2 S2 => ∃ S3, Sb S3 S2 ∧ N e2 S3 } e' S
        | none => False)
    (fin : ∀ e S, I items e S → chk S ∧ D0.nx e S) {e : DEnv} {S : Sto} (h0 : I [] e S) : forRun t tb chk D0 items e S := by
  have go : ∀ (r pre : List D) (e : DEnv) (S : Sto), items = pre ++ r → I pre e S → forRun t tb chk D0 r e S := by
    intro r
    induction r with
    | nil =>
      intro pre e S he h
      rw [List.append_nil] at he
      subst he
      exact fin e S h
    | cons x r ih =>
      intro pre e S he h
      exact step pre x r e S _ he h fun e' S' h' => ih (pre ++ [x]) e' S' (by rw [he, List.append_assoc]; rfl) h'
  exact go items [] e S rfl h0
theorem lcRun_inv {t : Tgt} {tt : TTD} {te : TD} {chk : Sto → Prop} {e0 : DEnv} {Q : List D → Sto → Prop} {items : List D} (I : List D → List D → Sto → Prop)
    (step : ∀ pre x post acc S (N : List D → Sto → Prop), items = pre ++ x :: post → I pre acc S → (∀ acc' S', I (pre ++ [x]) acc' S' → N acc' S') →
      chk S ∧ match bT t x e0 with
        | some e' => tt e' S fun b S1 => match b with
          | true => te e' S1 fun d S2 => ∃ S3, Sb S3 S2 ∧ N (acc ++ [d]) S3
          | false => ∃ S3, Sb S3 S1 ∧ N acc S3
        | none => False)
    (fin : ∀ acc S, I items acc S → chk S ∧ Q acc S) {S : Sto} (h0 : I [] [] S) : lcRun t tt te chk e0 Q items [] S := by
  have go : ∀ (r pre acc : List D) (S : Sto), items = pre ++ r → I pre acc S → lcRun t tt te chk e0 Q r acc S := by
    intro r
    induction r with
    | nil =>
      intro pre acc S he h
      rw [List.append_nil] at he
      subst he
      exact fin acc S h
    | cons x r ih =>
      intro pre acc S he h
      exact step pre x r acc S _ he h fun acc' S' h' => ih (pre ++ [x]) acc' S' (by rw [he, List.append_assoc]; rfl) h'
  exact go items [] [] S rfl h0
/-! .. over the items of typed lists, over ranges -/
theorem forRun_map {α : Type} {f : α → D} {xs : List α} {t : Tgt} {tb : TSD} {chk : Sto → Prop} {D0 : EndsD} (I : List α → DEnv → Sto → Prop)
    (step : ∀ p x r e S (N : DEnv → Sto → Prop), xs = p ++ x :: r → I p e S → (∀ e' S', I (p ++ [x]) e' S' → N e' S') →
      chk S ∧ match bT t (f x) e with
        | some e' => tb { nx := fun e2 S2 => ∃ S3, Sb S3 S2 ∧ N e2 S3, rt := D0.rt, bk := D0.nx, ct := fun e2 S2 => ∃ S3, Sb S3 S2 ∧ N e2 S3 } e' S
        | none => False)
    (fin : ∀ e S, I xs e S → chk S ∧ D0.nx e S) {e : DEnv} {S : Sto} (h0 : I [] e S) : forRun t tb chk D0 (xs.map f) e S := by
  have go : ∀ (r p : List α) (e : DEnv) (S : Sto), xs = p ++ r → I p e S → forRun t tb chk D0 (r.map f) e S := by
    intro r
    induction r with
    | nil =>
      intro p e S he h
      rw [List.append_nil] at he
      subst he
      exact fin e S h
    | cons x r ih =>
      intro p e S he h
      exact step p x r e S _ he h fun e' S' h' => ih (p ++ [x]) e' S' (by rw [he, List.append_assoc]; rfl) h'
  exact go xs [] e S rfl h0
theorem lcRun_map {α : Type} {f : α → D} {xs : List α} {t : Tgt} {tt : TTD} {te : TD} {chk : Sto → Prop} {e0 : DEnv} {Q : List D → Sto → Prop} (I : List α → List D → Sto → Prop)
    (step : ∀ p x r acc S (N : List D → Sto → Prop), xs = p ++ x :: r → I p acc S → (∀ acc' S', I (p ++ [x]) acc' S' → N acc' S') →
      chk S ∧ match bT t (f x) e0 with
        | some e' => tt e' S fun b S1 => match b with
          | true => te e' S1 fun d S2 => ∃ S3, Sb S3 S2 ∧ N (acc ++ [d]) S3
          | false => ∃ S3, Sb S3 S1 ∧ N acc S3
        | none => False)
    (fin : ∀ acc S, I xs acc S → chk S ∧ Q acc S) {S : Sto} (h0 : I [] [] S) : lcRun t tt te chk e0 Q (xs.map f) [] S := by
  have go : ∀ (r p : List α) (acc : List D) (S : Sto), xs = p ++ r → I p acc S → lcRun t tt te chk e0 Q (r.map f) acc S := by
    intro r
    induction r with
    | nil =>
      intro p acc S he h
      rw [List.append_nil] at he
      subst he
      exact fin acc S h
    | cons x r ih =>
      intro p acc S he h
      exact step p x r acc S _ he h fun acc' S' h' => ih (p ++ [x]) acc' S' (by rw [he, List.append_assoc]; rfl) h'
  exact go xs [] [] S rfl h0
/-- nothing is changed: the items one by one -/
theorem lc_pure {α : Type} {f g : α → D} {xs : List α} {t : Tgt} {te : TD} {chk : Sto → Prop} {e0 : DEnv} {Q : List D → Sto → Prop} {S : Sto} (hc : chk S)
    (h : ∀ x ∈ xs, ∀ K : DK, K (g x) S → match bT t (f x) e0 with
      | some e' => te e' S K
      | none => False) (fin : Q (xs.map g) S) : lcRun t dYes te chk e0 Q (xs.map f) [] S := by
  refine lcRun_map (fun p acc S' => acc = p.map g ∧ S' = S) ?_ ?_ ⟨rfl, rfl⟩
  · rintro p x r acc S1 N he ⟨rfl, rfl⟩ hN
    refine ⟨hc, ?_⟩
    have q := h x (by rw [he]; simp) (fun d S2 => ∃ S3, Sb S3 S2 ∧ N (p.map g ++ [d]) S3) ⟨S1, Sb.refl _, hN _ _ ⟨by simp, rfl⟩⟩
    exact q
  · rintro acc S1 ⟨rfl, rfl⟩
    exact ⟨hc, fin⟩
theorem lc_filter {α : Type} {f g : α → D} {b : α → Bool} {xs : List α} {t : Tgt} {tt : TTD} {te : TD} {chk : Sto → Prop} {e0 : DEnv} {Q : List D → Sto → Prop} {S : Sto} (hc : chk S)
    (h : ∀ x ∈ xs, ∀ K : DK, ∀ K2 : Sto → Prop, (b x = true → K (g x) S) → (b x = false → K2 S) → match bT t (f x) e0 with
      | some e' => tt e' S fun c S1 => match c with
        | true => te e' S1 K
        | false => K2 S1
      | none => False) (fin : Q ((xs.filter b).map g) S) : lcRun t tt te chk e0 Q (xs.map f) [] S := by
  refine lcRun_map (fun p acc S' => acc = (p.filter b).map g ∧ S' = S) ?_ ?_ ⟨rfl, rfl⟩
  · rintro p x r acc S1 N he ⟨rfl, rfl⟩ hN
    refine ⟨hc, ?_⟩
    have q := h x (by rw [he]; simp) (fun d S2 => ∃ S3, Sb S3 S2 ∧ N ((p.filter b).map g ++ [d]) S3) (fun S2 => ∃ S3, Sb S3 S2 ∧ N ((p.filter b).map g) S3)
      (fun hb => ⟨S1, Sb.refl _, hN _ _ ⟨by simp [List.filter_append, hb], rfl⟩⟩) (fun hb => ⟨S1, Sb.refl _, hN _ _ ⟨by simp [List.filter_append, hb], rfl⟩⟩)
    exact q
  · rintro acc S1 ⟨rfl, rfl⟩
    exact ⟨hc, fin⟩
theorem forRun_rng {lo : Int} {n : Nat} {t : Tgt} {tb : TSD} {chk : Sto → Prop} {D0 : EndsD} (I : Nat → DEnv → Sto → Prop)
    (step : ∀ i e S (N : DEnv → Sto → Prop), i < n → I i e S → (∀ e' S', I (i + 1) e' S' → N e' S') →
      chk S ∧ match bT t (.int (lo + i)) e with
        | some e' => tb { nx := fun e2 S2 => ∃ S3, Sb S3 S2 ∧ N e2 S3, rt := D0.rt, bk := D0.nx, ct := fun e2 S2 => ∃ S3, Sb S3 S2 ∧ N e2 S3 } e' S
        | none => False)
    (fin : ∀ e S, I n e S → chk S ∧ D0.nx e S) {e : DEnv} {S : Sto} (h0 : I 0 e S) : forRun t tb chk D0 (rngD lo n) e S := by
  refine forRun_map (f := fun (k : Nat) => D.int (lo + k)) (fun p e S => I p.length e S) (fun p x r e S N he h hN => ?_) (fun e S h => fin e S (by simpa using h)) h0
  have hl := congrArg List.length he
  rw [List.length_range, List.length_append, List.length_cons] at hl
  have hx : x = p.length := by
    have e1 : (List.range n)[p.length]? = some x := by rw [he]; simp
    rw [List.getElem?_range (by omega)] at e1
    exact (Option.some.inj e1).symm
  subst hx
  exact step p.length e S N (by omega) h fun e' S' h' => hN e' S' (by rw [List.length_append]; exact h')
theorem lcRun_rng {lo : Int} {n : Nat} {t : Tgt} {tt : TTD} {te : TD} {chk : Sto → Prop} {e0 : DEnv} {Q : List D → Sto → Prop} (I : Nat → List D → Sto → Prop)
    (step : ∀ i acc S (N : List D → Sto → Prop), i < n → I i acc S → (∀ acc' S', I (i + 1) acc' S' → N acc' S') →
      chk S ∧ match bT t (.int (lo + i)) e0 with
        | some e' => tt e' S fun b S1 => match b with
          | true => te e' S1 fun d S2 => ∃ S3, Sb S3 S2 ∧ N (acc ++ [d]) S3
          | false => ∃ S3, Sb S3 S1 ∧ N acc S3
        | none => False)
    (fin : ∀ acc S, I n acc S → chk S ∧ Q acc S) {S : Sto} (h0 : I 0 [] S) : lcRun t tt te chk e0 Q (rngD lo n) [] S := by
  refine lcRun_map (f := fun (k : Nat) => D.int (lo + k)) (fun p acc S => I p.length acc S) (fun p x r acc S N he h hN => ?_) (fun acc S h => fin acc S (by simpa using h)) h0
  have hl := congrArg List.length he
  rw [List.length_range, List.length_append, List.length_cons] at hl
  have hx : x = p.length := by
    have e1 : (List.range n)[p.length]? = some x := by rw [he]; simp
    rw [List.getElem?_range (by omega)] at e1
    exact (Option.some.inj e1).symm
  subst hx
  exact step p.length acc S N (by omega) h fun acc' S' h' => hN acc' S' (by rw [List.length_append]; exact h')
theorem Sb.put1 {S : Sto} {a : Addr} (n : S a = none) (c : Cell) : Sb S (S.put a c) := (Sb.refl S).put n c
theorem put_at {S : Sto} {a b : Addr} {c : Cell} : S.put a c b = if b = a then some c else S b := rfl
theorem ixN_of {n : Nat} {i : Int} (h0 : 0 ≤ i) (h1 : i < n) : ixN n i = some i.toNat := by
  unfold ixN
  rw [if_pos h0, if_pos h1]
theorem atI_of {xs : List D} {i : Int} (h0 : 0 ≤ i) (h1 : i < xs.length) : atI xs i = some (xs[i.toNat]'(by omega)) := by
  unfold atI
  rw [ixN_of h0 h1]
  exact List.getElem?_eq_getElem _
theorem atI_map {α : Type} {f : α → D} {xs : List α} {i : Int} (h0 : 0 ≤ i) (h1 : i < xs.length) : atI (xs.map f) i = some (f (xs[i.toNat]'(by omega))) := by
  rw [atI_of h0 (by rw [List.length_map]; exact h1), List.getElem_map]
theorem cmul_l {i j : Int} (h : -(2 ^ 64) < i ∧ i < 2 ^ 64) : MulOk i j := .inl (.inl h)
theorem cmul_r {i j : Int} (h : -(2 ^ 64) < j ∧ j < 2 ^ 64) : MulOk i j := .inl (.inr h)
theorem cmul_w {i j : Int} {a b : Nat} (ha : i.natAbs < 2 ^ a) (hb : j.natAbs < 2 ^ b) (h0 : 0 < a) (h1 : 0 < b) (h : a + b ≤ 1000000) : MulOk i j := .inr (wide_mul ha hb h0 h1 h)
theorem cdiv {i j : Int} (h : 0 < j) (h1 : j < 2 ^ 64) : CDivW i j := wide_div (b := 64) h (by omega) (by decide) (by decide)
/-! the pen -/
/-- a list of three: the script's numbers (at q), how often it was dipped, what is left -/
structure Pen (b : Nat) (p q : Addr) (S : Sto) : Prop where
  ex : ∃ at_ st : Int, S p = some (.lst [.loc q, .int at_, .int st]) ∧ 0 ≤ at_ ∧ at_ ≤ (b : Int)
  sc : ∃ cs : List Int, S q = some (.lst (cs.map D.int))
  ne : q ≠ p
/-- all but p is as it was, something may be new -/
def Ext (p : Addr) (S S' : Sto) : Prop := ∀ a c, a ≠ p → S a = some c → S' a = some c
theorem Ext.refl (p : Addr) (S : Sto) : Ext p S S := fun _ _ _ h => h
theorem Ext.trans {p : Addr} {S S1 S2 : Sto} (a : Ext p S S1) (b : Ext p S1 S2) : Ext p S S2 := fun x c h e => b x c h (a x c h e)
theorem Ext.put {p : Addr} {S : Sto} {c : Cell} : Ext p S (S.put p c) := fun _ _ h e => by rw [put_ne h]; exact e
theorem Ext.of {p : Addr} {S S' : Sto} (h : Sb S S') : Ext p S S' := fun a c _ e => h a c e
theorem Ext.new {p a : Addr} {S : Sto} {c : Cell} (h : S a = none) : Ext p S (S.put a c) := .of ((Sb.refl S).put h c)
theorem Pen.le {b c : Nat} {p q : Addr} {S : Sto} (h : Pen b p q S) (k : b ≤ c) : Pen c p q S := by
  obtain ⟨a, s, h1, h4, h5⟩ := h.ex
  exact ⟨⟨a, s, h1, h4, by omega⟩, h.sc, h.ne⟩
theorem Pen.sb {b : Nat} {p q : Addr} {S S' : Sto} (h : Pen b p q S) (s : Sb S S') : Pen b p q S' := by
  obtain ⟨a, t, h1, h4, h5⟩ := h.ex
  obtain ⟨cs, h2⟩ := h.sc
  exact ⟨⟨a, t, s _ _ h1, h4, h5⟩, ⟨cs, s _ _ h2⟩, h.ne⟩
theorem Pen.set {b c : Nat} {p q : Addr} {S S1 : Sto} {i st : Int} (h : Pen b p q S1) (s : Ext p S1 S) (h0 : 0 ≤ i) (h1 : i ≤ (c : Int)) : Pen c p q (S.put p (.lst [.loc q, .int i, .int st])) := by
  obtain ⟨cs, h2⟩ := h.sc
  exact ⟨⟨i, st, put_eq, h0, h1⟩, ⟨cs, by rw [put_ne h.ne]; exact s _ _ h.ne h2⟩, h.ne⟩
theorem Pen.new {b : Nat} {p q a : Addr} {S : Sto} {c : Cell} (h : Pen b p q S) (ha : S a = none) : Pen b p q (S.put a c) := h.sb ((Sb.refl S).put ha c)
theorem Pen.nep {b : Nat} {p q a : Addr} {S : Sto} (h : Pen b p q S) (ha : S a = none) : a ≠ p := by
  obtain ⟨_, _, e, _⟩ := h.ex
  exact (ne_of_free e ha).symm
/-! one step of a walk -/
theorem put_none {S : Sto} {a b : Addr} {c : Cell} (h : S.put a c b = none) : b ≠ a ∧ S b = none := by
  by_cases e : b = a
  · subst e; rw [put_eq] at h; cases h
  · exact ⟨e, by rw [put_ne e] at h; exact h⟩
theorem seq_ {t u : TSD} {D0 : EndsD} {e : DEnv} {S : Sto} (h : ∀ N : DEnv → Sto → Prop, (∀ e S, u D0 e S → N e S) → t { D0 with nx := N } e S) : dSeq t u D0 e S := h _ fun _ _ h => h
theorem at_new {S : Sto} {a p : Addr} {c d : Cell} (f : S p = some c) (ha : S a = none) : (S.put a d) p = some c := by rw [put_ne (ne_of_free f ha)]; exact f
theorem eqv_ints_nil (xs : List D) : PyData.eqvAll (toPys xs) (toPys []) = xs.isEmpty := by cases xs <;> rfl
theorem fine_ints (n : Nat) (cs : List Int) : ∀ x ∈ cs.map D.int, fine n x := fun x hx => by
  obtain ⟨c, _, rfl⟩ := List.mem_map.mp hx
  cases n <;> trivial
theorem abs31 {v m : Int} (h0 : 0 < m) (h1 : m ≤ 2 ^ 63) : -(2 ^ 64) < v % m ∧ v % m < 2 ^ 64 := by
  have a := Int.emod_nonneg v (show m ≠ 0 by omega)
  have b := Int.emod_lt_of_pos v h0
  omega
theorem rb_ints {xs : List Int} (m : Nat) (hl : xs.length ≤ m) (h : ∀ x ∈ xs, x.natAbs < 10 ^ 12) : RB 1 (15 * m + 3) (.tup (xs.map D.int)) :=
  RB.tup m (by rw [List.length_map]; exact hl) fun x hx => by
    obtain ⟨i, hi, rfl⟩ := List.mem_map.mp hx
    exact .int (h i hi)
theorem RB.pair {n b : Nat} {x y : D} (hx : RB n b x) (hy : RB n b y) : RB (n + 1) ((b + 2) * 2 + 3) (.tup [x, y]) := RB.tup 2 (Nat.le_refl _) fun z hz => by
  rcases List.mem_cons.mp hz with rfl | hz
  · exact hx
  · rw [List.mem_singleton.mp hz]; exact hy
theorem RB.maps {α : Type} {n b : Nat} {f : α → D} {xs : List α} (m : Nat) (hl : xs.length ≤ m) (h : ∀ x ∈ xs, RB n b (f x)) : RB (n + 1) ((b + 2) * m + 3) (.tup (xs.map f)) :=
  RB.tup m (by rw [List.length_map]; exact hl) fun x hx => by
    obtain ⟨i, hi, rfl⟩ := List.mem_map.mp hx
    exact h i hi
theorem str_fine (n : Nat) {x : Str} (h : PyData.canLay0 (.str x) = true) : fine n (.str x) := by cases n <;> exact h
theorem cut_map {α : Type} (f : α → D) (xs : List α) (lo hi : Option Int) : cutD (xs.map f) lo hi = (cutD xs lo hi).map f := by
  unfold cutD
  rw [List.length_map, List.map_take, List.map_drop]
theorem cut_from {α : Type} {xs : List α} {v : Int} (h : 0 ≤ v) : cutD xs (some v) none = xs.drop v.toNat := by
  unfold cutD HT.sIx
  simp only
  rw [if_neg (by omega)]
  by_cases hv : v.toNat ≤ xs.length
  · rw [Nat.min_eq_left hv]
    exact List.take_of_length_le (by rw [List.length_drop]; exact Nat.le_refl _)
  · rw [Nat.min_eq_right (by omega), List.drop_length, List.take_nil, List.drop_eq_nil_of_le (by omega)]
theorem cut_to {α : Type} {xs : List α} {v : Int} (h : 0 ≤ v) : cutD xs none (some v) = xs.take v.toNat := by
  unfold cutD HT.sIx
  simp only
  rw [if_neg (by omega), List.drop_zero, Nat.sub_zero]
  by_cases hv : v.toNat ≤ xs.length
  · rw [Nat.min_eq_left hv]
  · rw [Nat.min_eq_right (by omega), List.take_length, List.take_of_length_le (by omega)]
theorem rngD_length (lo : Int) (n : Nat) : (rngD lo n).length = n := by simp [rngD]
/-- the i-th of a range -/
theorem rng_at {lo : Int} {n : Nat} {pre post : List D} {x : D} (h : rngD lo n = pre ++ x :: post) : x = .int (lo + (pre.length : Nat)) ∧ pre.length < n := by
  have hl := congrArg List.length h
  rw [rngD_length, List.length_append, List.length_cons] at hl
  have hi : pre.length < n := by omega
  have e : (rngD lo n)[pre.length]? = some x := by rw [h]; simp
  unfold rngD at e
  rw [List.getElem?_map, List.getElem?_range hi] at e
  exact ⟨(Option.some.inj e).symm, hi⟩
theorem map_at {α : Type} {f : α → D} {xs : List α} {pre post : List D} {x : D} (h : xs.map f = pre ++ x :: post) : ∃ p a q, xs = p ++ a :: q ∧ pre = p.map f ∧ x = f a ∧ post = q.map f := by
  obtain ⟨p, r, e, h1, h2⟩ := List.map_eq_append_iff.mp h
  obtain ⟨a, q, e2, h3, h4⟩ := List.map_eq_cons_iff.mp h2
  exact ⟨p, a, q, by rw [e, e2], h1.symm, h3.symm, h4.symm⟩
end QL
end L2
namespace L2
namespace QL
open PySem PySem.Spec PyProof.Rows
/-! ### 25. more words -/
section
variable {X : Cx} {pos : Pos}
theorem de_gintE {x : Str} {i : Int} {pos : Pos} (hg : Gl X x) (hm : ∃ k, X.mg x = some (.int i k)) (hd : (x == ("__debug__" : Str)) = false := by decide) : DE X (.Name x pos) (dC (.int i)) := by
  obtain ⟨k, hm⟩ := hm
  exact de_gint hg hm hd
theorem de_gstrE {x y : Str} {pos : Pos} (hg : Gl X x) (hm : ∃ k, X.mg x = some (.str y k)) (hd : (x == ("__debug__" : Str)) = false := by decide) : DE X (.Name x pos) (dC (.str y)) := by
  obtain ⟨k, hm⟩ := hm
  exact de_gstr hg hm hd
def dPar3 (i j l : Nat) (ta : TAD) : TSD := fun D0 e S => ta e S fun ds S1 => match ds with
  | [x, y, z] => D0.nx (((e.set i (some x)).set j (some y)).set l (some z)) S1
  | _ => False
theorem reps_three {K : PySem.W.Frag} {H : Hp} {d e f : D} {vs : List V} (r : Reps K H [d, e, f] vs) : ∃ v w u, vs = [v, w, u] ∧ Rep K H d v ∧ Rep K H e w ∧ Rep K H f u := by
  cases r with
  | cons h t =>
    obtain ⟨w, u, e, r1, r2⟩ := reps_two t
    subst e
    exact ⟨_, _, _, rfl, h, r1, r2⟩
theorem ds_par3 {i j l : Nat} {x y z : Str} {a b c : Expr} {ta : TAD} {px py pz pt pos : Pos} {kt k2 pt2} (hc : X.calm = true) (hN : X.N.Nodup) (hi : X.N[i]? = some x) (hj : X.N[j]? = some y) (hl : X.N[l]? = some z) (hij : i ≠ j) (hil : i ≠ l) (hjl : j ≠ l)
    (hx : X.env.scope.names.lookup x = some .local) (hy : X.env.scope.names.lookup y = some .local) (hz : X.env.scope.names.lookup z = some .local) (ha : DA X [a, b, c] ta)
    (hw : swappedStores [.Tuple [.Name x px, .Name y py, .Name z pz] kt pt] (.Tuple [a, b, c] k2 pt2) X.env = pure (some [x, y, z]))
    (hs : swapsWithSole [.Tuple [.Name x px, .Name y py, .Name z pz] kt pt] (.Tuple [a, b, c] k2 pt2) pos.line X.env = pure false := by rfl) :
    DS X (.Assign [.Tuple [.Name x px, .Name y py, .Name z pz] kt pt] (.Tuple [a, b, c] k2 pt2) pos) (dPar3 i j l ta) := PS.le (ps_par3 hc hN hi hj hl hij hil hjl hx hy hz ha hw hs) fun D1 σ H h => by
  obtain ⟨e, S, D0, re, rs, ht, k⟩ := h
  refine ⟨e, S, _, re, rs, ht, fun ds S' vs H' q p rs' r => ?_⟩
  split at q
  · obtain ⟨v, w, u, e1, r1, r2, r3⟩ := reps_three r
    subst e1
    exact ⟨v, w, u, rfl, k.nx _ S' _ H' q p ((((re.mono p.tk).set r1 i).set r2 j).set r3 l) rs'⟩
  · exact q.elim
end
/-! x in y: flat items of a tuple, data of any depth in a list -/
def rdInA (g : Bool → Bool) : RD := fun x y S Q => match y with
  | .tup ys => (flatD x = true ∧ ∀ z ∈ ys, flatD z = true) ∧ Q (.bl (g (inD x ys))) S
  | .rol ys => (flatD x = true ∧ ∀ z ∈ ys, flatD z = true) ∧ Q (.bl (g (inD x ys))) S
  | .loc p => match S p with
    | some (.lst ys) => (fine 50 x ∧ ∀ z ∈ ys, fine 50 z) ∧ Q (.bl (g ((toPys ys).any fun z => PyData.eqv z (toPy x)))) S
    | _ => False
  | _ => False
def rInA (K : PySem.W.Frag) : R2 := fun x y H Q => rIn K false x y H Q ∨ rInD K x y H Q
def rNotInA (K : PySem.W.Frag) : R2 := fun x y H Q => rIn K true x y H Q ∨ rNotInD K x y H Q
theorem u65 {X : Cx} {k : Nat} (h : Room k X.A) : X.A.units + 65 < cLine := by have := h.un; omega
theorem op_inA {X : Cx} {k : Nat} (h : Room k X.A) : OpR X (compareOp .In) (rInA X.K) := op_in_seq.or (op_inD (u65 h))
theorem op_notInA {X : Cx} {k : Nat} (h : Room k X.A) : OpR X (compareOp .NotIn) (rNotInA X.K) := op_notIn_seq.or (op_notInD (u65 h))
section
variable {K : PySem.W.Frag}
theorem em_inA {g : Bool → Bool} {d1 d2 : D} {S : Sto} {Q0 : DK} {v1 v2 : V} {H : Hp} {Q : VK} (rs : RelS K S H) (r1 : Rep K H d1 v1) (r2 : Rep K H d2 v2) (h : rdInA g d1 d2 S Q0)
    (k : ∀ d S' v H', Q0 d S' → Post K S H S' H' → RelS K S' H' → Rep K H' d v → Q v H') : (∃ p xs, v2 = .ref p ∧ (SqL K H p xs ∨ SqT K H p xs) ∧ flatV v1 = true ∧ xs.all flatV = true ∧ Q (.bl (g (inV v1 xs))) H) ∨
      ∃ d ds, Dp K H v1 d ∧ Dp K H v2 (.list ds) ∧ SeqAt.shaped d = true ∧ SeqAt.shaped (.list ds) = true ∧ Q (.bl (g (ds.any fun z => PyData.eqv z d))) H := by
  cases r2 with
  | loc a =>
    dsimp only [rdInA] at h
    split at h
    · rename_i ys e
      obtain ⟨a1, b1⟩ := dp_lst rs e h.1.2
      exact .inr ⟨_, _, fine_dp 50 _ h.1.1 _ r1, a1, fine_shaped h.1.1 (by decide), b1, k _ S _ H h.2 Post.refl rs (.bl _)⟩
    · exact h.elim
  | tup hq r => exact .inl (em_in rs r1 (.tup hq r) h k)
  | rol hq r => exact .inl (em_in rs r1 (.rol hq r) h k)
  | _ => exact (show False from h).elim
theorem od_inA : OpD K (rInA K) (rdInA fun b => b) := fun _ _ _ _ _ _ _ _ rs r1 r2 h k => em_inA rs r1 r2 h k
theorem od_notInA : OpD K (rNotInA K) (rdInA fun b => !b) := fun _ _ _ _ _ _ _ _ rs r1 r2 h k => em_inA rs r1 r2 h k
end
/-! isinstance(x, T), T a built-in type -/
def tnD (S : Sto) : D → Option String
  | .non => some "NoneType"
  | .bl _ => some "bool"
  | .int _ => some "int"
  | .str _ => some "str"
  | .tup _ => some "tuple"
  | .rol _ => some "list"
  | .loc p => match S p with
    | some (.lst _) => some "list"
    | some (.dic _) => some "dict"
    | _ => none
  | .ty _ => none
def isiB : String → String → Option Bool
  | "NoneType", "tuple" => some false | "bool", "tuple" => some false | "int", "tuple" => some false | "str", "tuple" => some false | "tuple", "tuple" => some true | "list", "tuple" => some false | "dict", "tuple" => some false
  | "NoneType", "bool" => some false | "bool", "bool" => some true | "int", "bool" => some false | "str", "bool" => some false | "tuple", "bool" => some false | "list", "bool" => some false | "dict", "bool" => some false
  | "NoneType", "int" => some false | "bool", "int" => some true | "int", "int" => some true | "str", "int" => some false | "tuple", "int" => some false | "list", "int" => some false | "dict", "int" => some false
  | "NoneType", "str" => some false | "bool", "str" => some false | "int", "str" => some false | "str", "str" => some true | "tuple", "str" => some false | "list", "str" => some false | "dict", "str" => some false
  | "NoneType", "list" => some false | "bool", "list" => some false | "int", "list" => some false | "str", "list" => some false | "tuple", "list" => some false | "list", "list" => some true | "dict", "list" => some false
  | _, _ => none
theorem isiB_ok {a b : String} {r : Bool} (h : isiB a b = some r) : kitB a b = some r := by
  unfold isiB at h
  split at h <;> first | (cases h; decide +kernel) | cases h
def dIsi (T : String) (ta : TD) : TD := fun e S Q => ta e S fun x S1 => match tnD S1 x with
  | some t => match isiB t T with
    | some b => Q (.bl b) S1
    | none => False
  | none => False
theorem ty_sqt {K : PySem.W.Frag} {H : Hp} {a : Addr} {xs : List V} (h : SqT K H a xs) : TyX K H (.ref a) (.type "tuple") := by
  rcases h with (h | ⟨o, h⟩) | ⟨o, its, n, e, c, _⟩
  · exact .base (.tup h)
  · exact .fTuple h
  · exact .kTuple e c
theorem ty_sql {K : PySem.W.Frag} {H : Hp} {a : Addr} {xs : List V} (h : SqL K H a xs) : TyX K H (.ref a) (.type "list") := by
  rcases h with (h | ⟨o, h⟩) | ⟨o, its, n, e, c, _⟩
  · exact .base (.lst h)
  · exact .base (.frz h)
  · exact .kList e c
section
variable {X : Cx}
theorem de_isi {a : Expr} {x : Str} {T : String} {ta : TD} {p p2 pos : Pos} (hg : Gl X "isinstance") (hm : X.mg "isinstance" = none) (hgx : Gl X x) (hmx : X.mg x = none) (hv : bootBuiltins x = some (.type T)) (ha : DE X a ta)
    (hn : x ≠ "__name__" := by decide) (hd : (x == ("__debug__" : Str)) = false := by decide)
    (he : starEach [a, .Name x p2] X.env = (false, eval a X.env) :: starEach [.Name x p2] X.env := by rfl) (he2 : starEach [.Name x p2] X.env = (false, eval (.Name x p2) X.env) :: starEach [] X.env := by rfl) (hpl : (backTo pos (starEach [.Name x p2] X.env)).any (·.1) = false := by rfl) :
    DE X (.Call (.Name "isinstance" p) [a, .Name x p2] [] pos) (dIsi T ta) :=
  PE.le (pe_callB call_isi hg hm boot_isinstance (pa_cons ha (pa_cons (pe_bltn (v := .ty T) hgx hmx hv rfl hn hd) pa_nil he2) he) (he := he) (hpl := hpl)) fun σ H Q h => by
    obtain ⟨e, S, Q0, re, rs, ht, k⟩ := h
    refine ⟨e, S, _, re, rs, ht, fun d S1 v H1 q p rs1 r => ?_⟩
    split at q
    · rename_i t et
      split at q
      · rename_i b eb
        have fin : TyX X.K H1 v (.type t) → rIsi X.K [v, .ty T] H1 Q := fun ty => ⟨v, .ty T, .type t, .type T, b, rfl, .ty T, ty, kit_ty (isiB_ok eb), k _ S1 _ H1 q p rs1 (.bl _)⟩
        cases r with
        | non => cases et; exact fin (.base .non)
        | bl b => cases et; exact fin (.base (.bl _))
        | int i => cases et; exact fin (.base (.int _))
        | str x => cases et; exact fin (.base (.str _))
        | tup hq rr => cases et; exact fin (ty_sqt hq)
        | rol hq rr => cases et; exact fin (ty_sql (ro_sql hq))
        | loc a =>
          dsimp only [tnD] at et
          split at et
          · cases et
            rename_i xs ex
            obtain ⟨vs, a1, _⟩ := rs1 _ _ ex
            exact fin (.base (.lst a1))
          · cases et
            rename_i kvs ex
            obtain ⟨vs, a1, _⟩ := rs1 _ _ ex
            exact fin (.base (.dK a1))
          · cases et
        | ty n => cases et
      · exact q.elim
    · exact q.elim
end
/-! equality of ints, texts and tuples of such -/
mutual
inductive PlainD : D → Prop
  | int (i : Int) : PlainD (.int i)
  | str (x : Str) : PlainD (.str x)
  | tup {xs : List D} : PlainDs xs → PlainD (.tup xs)
inductive PlainDs : List D → Prop
  | nil : PlainDs []
  | cons {x : D} {xs : List D} : PlainD x → PlainDs xs → PlainDs (x :: xs)
end
mutual
theorem eqv_iff : ∀ {x y : D}, PlainD x → PlainD y → (PyData.eqv (toPy x) (toPy y) = true ↔ x = y)
  | _, _, .int i, .int j => by simp [toPy, PyData.eqv]
  | _, _, .int i, .str j => by simp [toPy, PyData.eqv]
  | _, _, .int i, .tup j => by simp [toPy, PyData.eqv]
  | _, _, .str i, .int j => by simp [toPy, PyData.eqv]
  | _, _, .str i, .str j => by simp [toPy, PyData.eqv]
  | _, _, .str i, .tup j => by simp [toPy, PyData.eqv]
  | _, _, .tup i, .int j => by simp [toPy, PyData.eqv]
  | _, _, .tup i, .str j => by simp [toPy, PyData.eqv]
  | _, _, .tup i, .tup j => by
    have h := eqvs_iff i j
    simp only [toPy, PyData.eqv]
    rw [h]
    exact ⟨fun e => by rw [e], fun e => by injection e⟩
theorem eqvs_iff : ∀ {xs ys : List D}, PlainDs xs → PlainDs ys → (PyData.eqvAll (toPys xs) (toPys ys) = true ↔ xs = ys)
  | _, _, .nil, .nil => by simp [toPys, PyData.eqvAll]
  | _, _, .nil, .cons h t => by simp [toPys, PyData.eqvAll]
  | _, _, .cons h t, .nil => by simp [toPys, PyData.eqvAll]
  | _, _, .cons h t, .cons h2 t2 => by
    have a := eqv_iff h h2
    have b := eqvs_iff t t2
    simp only [toPys, PyData.eqvAll, Bool.and_eq_true]
    rw [a, b]
    exact ⟨fun e => by rw [e.1, e.2], fun e => by injection e with e1 e2; exact ⟨e1, e2⟩⟩
end
theorem plain_ints : ∀ xs : List Int, PlainDs (xs.map D.int)
  | [] => .nil
  | x :: xs => .cons (.int x) (plain_ints xs)
theorem plain_map {α : Type} {f : α → D} (h : ∀ a, PlainD (f a)) : ∀ xs : List α, PlainDs (xs.map f)
  | [] => .nil
  | x :: xs => .cons (h x) (plain_map h xs)
theorem any_iff {x : D} (hx : PlainD x) : ∀ {ys : List D}, PlainDs ys → (((toPys ys).any fun z => PyData.eqv z (toPy x)) = true ↔ x ∈ ys)
  | _, .nil => by simp [toPys]
  | _, .cons h t => by
    have a := eqv_iff h hx
    have b := any_iff hx t
    simp only [toPys, List.any_cons, Bool.or_eq_true, List.mem_cons]
    rw [a, b]
    exact ⟨fun e => e.imp Eq.symm id, fun e => e.imp Eq.symm id⟩
theorem map_int_inj {a b : List Int} (h : a.map D.int = b.map D.int) : a = b := by
  refine (List.map_inj_right (f := D.int) fun x y e => ?_).mp h
  injection e
theorem tup_int_inj {a b : List Int} (h : D.tup (a.map D.int) = D.tup (b.map D.int)) : a = b := by
  injection h with h
  exact map_int_inj h
theorem bool_dec {b : Bool} {p : Prop} [Decidable p] (h : b = true ↔ p) : b = decide p := by
  by_cases hp : p
  · rw [decide_eq_true hp]; exact h.mpr hp
  · rw [decide_eq_false hp]
    cases b with
    | true => exact absurd (h.mp rfl) hp
    | false => rfl
theorem eqv_int_tups (a b : List Int) : PyData.eqvAll (toPys (a.map D.int)) (toPys (b.map D.int)) = decide (a = b) :=
  bool_dec ((eqvs_iff (plain_ints a) (plain_ints b)).trans ⟨map_int_inj, fun e => by rw [e]⟩)
theorem inD_ints (x : Int) (ys : List Int) : inD (.int x) (ys.map D.int) = decide (x ∈ ys) := by
  unfold inD
  rw [List.map_map]
  have e : (toV ∘ D.int) = V.int := rfl
  rw [e]
  refine bool_dec ?_
  unfold inV
  simp only [toV]
  induction ys with
  | nil => simp
  | cons y ys ih =>
    simp only [List.map_cons, List.any_cons, Bool.or_eq_true, List.mem_cons]
    rw [ih]
    show ((y == x) = true ∨ x ∈ ys) ↔ _
    rw [beq_iff_eq]
    exact ⟨fun h => h.imp Eq.symm id, fun h => h.imp Eq.symm id⟩
end QL
end L2
/-! tuple * int, any count up to 1000 -/
namespace L2
namespace QL
open PySem PySem.Spec PyProof.Rows
theorem tup_mul1 (l : Addr) (items : Array Value) (n : Nat) (dd : Option Addr) (sl : Array (Option Value)) (u : Tok) :
    Meets (Builtin.«tuple.__mul__» ⟨[.ref l, .int 1 u], []⟩) (fun _ R s => s.heap.get? l = some { cls := .type "tuple", dict := dd, data := .seq items n, slots := sl } ∧ R (.ok (.ret (Value.ref l))) s) :=
  .of_wp fun prog w A R s h => by
    obtain ⟨hp, g, d, tk, os⟩ := s
    obtain ⟨hl, h⟩ := h
    have f1 := AutoSeq1.idx_int
    have c0 : (decide ((1 : Int) < -(2 ^ 63)) || decide ((1 : Int) ≥ 2 ^ 63)) = false := by decide
    have c1 : (items.isEmpty || (1 : Int) == 1) = true := by rw [Bool.or_eq_true]; exact .inr rfl
    wp_walk using wpAny_loadPart' hl
    repeat (first
      | (refine wpAny_ite_false (decide_eq_false (by rw [c0]; exact Bool.false_ne_true)) ?_; wp_walk using wpAny_loadPart' hl)
      | (refine wpAny_ite_true (decide_eq_true c1) ?_; wp_walk using wpAny_loadPart' hl))
    exact ⟨_, rfl, h⟩
theorem tup_mul0 (l : Addr) (items : Array Value) (n : Nat) (dd : Option Addr) (sl : Array (Option Value)) (u : Tok) (hne : items.isEmpty = false) :
    Meets (Builtin.«tuple.__mul__» ⟨[.ref l, .int 0 u], []⟩) (fun _ R s => s.heap.get? l = some { cls := .type "tuple", dict := dd, data := .seq items n, slots := sl } ∧
      R (.ok (.ret (Value.ref s.heap.objs.size))) { s with heap := s.heap.push { cls := Value.type "tuple", data := Data.seq #[] }, toks := s.toks }) :=
  .of_wp fun prog w A R s h => by
    obtain ⟨hp, g, d, tk, os⟩ := s
    obtain ⟨hl, h⟩ := h
    have f1 := AutoSeq1.idx_int
    have c0 : (decide ((0 : Int) < -(2 ^ 63)) || decide ((0 : Int) ≥ 2 ^ 63)) = false := by decide
    have c1 : (items.isEmpty || (0 : Int) == 1) = false := by rw [hne]; rfl
    have c2 : (decide ((0 : Int) ≤ 0) || items.isEmpty) = true := by rw [Bool.or_eq_true]; exact .inl rfl
    wp_walk using wpAny_loadPart' hl
    repeat (first
      | (refine wpAny_ite_false (decide_eq_false (by rw [c0]; exact Bool.false_ne_true)) ?_; wp_walk using wpAny_loadPart' hl)
      | (refine wpAny_ite_false (decide_eq_false (by rw [c1]; exact Bool.false_ne_true)) ?_; wp_walk using wpAny_loadPart' hl)
      | (refine wpAny_ite_true (decide_eq_true c2) ?_; wp_walk using wpAny_loadPart' hl))
    exact ⟨_, rfl, h⟩
def rRepA (K : PySem.W.Frag) : R2 := fun x y H Q => rRepT K x y H Q ∨ (∃ l xs, x = .ref l ∧ y = .int 1 ∧ SqT K H l xs ∧ Q (.ref l) H) ∨ ∃ l xs, x = .ref l ∧ y = .int 0 ∧ SqT K H l xs ∧ xs ≠ [] ∧ ∀ p, H p = none → Q (.ref p) (upd H p (.tup []))
section
variable {X : Cx}
theorem op_repA : OpR X (binaryOp .Mult) (rRepA X.K) := by
  intro pins s σ H x y v u Q I rx ry h
  rcases h with h | ⟨l, xs, rfl, rfl, hT, q⟩ | ⟨l, xs, rfl, rfl, hT, hne, q⟩
  · exact op_repT pins s σ H x y v u Q I rx ry h
  · cases rx
    obtain ⟨t, rfl⟩ := ry
    obtain ⟨its, r, ⟨⟨cls, dd, data, sl⟩, ho, hc, n, hd⟩, hs⟩ := I.tuple hT
    simp only at hc hd
    subst hc hd
    exact wpAny_binaryOp_repeat_ref (T := "tuple") (U := "int") (by decide) ⟨_, ho, rfl⟩ (fun s' => typeIs_int s' 1 t) noFill_tuple_mul F.fills_int_mul F.slot_int_rmul repeat_tuple F.slot_int_index.lookup
      (call_meets F.slot_int_rmul (typeIs_int s 1 t) F.entry_int_rmul (F.args_int_rmul_2 _ _) (int_rmul_tuple 1 t l its.toArray n dd sl)
        ⟨ho, rfl, ⟨_, ho, rfl⟩, call_meets F.slot_tuple_mul ⟨_, ho, rfl⟩ F.entry_tuple_mul (F.args_tuple_mul_2 _ _) (tup_mul1 l its.toArray n dd sl t) ⟨ho, ⟨.ref l, H, I, rfl, q⟩⟩⟩)
  · cases rx
    obtain ⟨t, rfl⟩ := ry
    obtain ⟨its, r, ⟨⟨cls, dd, data, sl⟩, ho, hc, n, hd⟩, hs⟩ := I.tuple hT
    simp only at hc hd
    subst hc hd
    have hi : its.toArray.isEmpty = false := by
      cases r with
      | nil => exact absurd rfl hne
      | cons a b => rfl
    refine wpAny_binaryOp_repeat_ref (T := "tuple") (U := "int") (by decide) ⟨_, ho, rfl⟩ (fun s' => typeIs_int s' 0 t) noFill_tuple_mul F.fills_int_mul F.slot_int_rmul repeat_tuple F.slot_int_index.lookup
      (call_meets F.slot_int_rmul (typeIs_int s 0 t) F.entry_int_rmul (F.args_int_rmul_2 _ _) (int_rmul_tuple 0 t l its.toArray n dd sl)
        ⟨ho, rfl, ⟨_, ho, rfl⟩, call_meets F.slot_tuple_mul ⟨_, ho, rfl⟩ F.entry_tuple_mul (F.args_tuple_mul_2 _ _) (tup_mul0 l its.toArray n dd sl t hi) ⟨ho, ?_⟩⟩)
    exact ⟨.ref s.heap.objs.size, _, I.laid (t' := s.toks) (o := .tup []) (fun b ob q => Heap.get?_push_of_some _ q) (Nat.le_refl _) ⟨by decide, [], .nil, IsTup.new _ _⟩, rfl, q _ (I.hok.fresh (Nat.le_refl _))⟩
end
def rdRep : RD := fun x y S Q => match x, y with
  | .tup xs, .int k => (xs ≠ [] ∧ 0 ≤ k ∧ k ≤ 1000 ∧ xs.length ≤ 1000) ∧ Q (.tup (List.replicate k.toNat xs).flatten) S
  | _, _ => False
theorem Reps.rep {K : PySem.W.Frag} {H : Hp} {ds : List D} {vs : List V} (r : Reps K H ds vs) : ∀ n : Nat, Reps K H (List.replicate n ds).flatten (List.replicate n vs).flatten
  | 0 => .nil
  | n + 1 => by
    rw [List.replicate_succ, List.replicate_succ, List.flatten_cons, List.flatten_cons]
    exact r.append (Reps.rep r n)
theorem od_rep {K : PySem.W.Frag} : OpD K (rRepA K) rdRep := by
  intro d1 d2 S Q0 v1 v2 H Q rs r1 r2 h k
  unfold rdRep at h
  split at h
  · rename_i xs n
    obtain ⟨⟨hne, h0, h1, hz⟩, h⟩ := h
    cases r2
    cases r1 with
    | tup hq r =>
      rename_i a vs
      have hne' : vs ≠ [] := fun e => by
        subst e
        cases r
        exact hne rfl
      by_cases c0 : n = 0
      · subst c0
        refine .inr (.inr ⟨_, _, rfl, rfl, hq, hne', fun p hp => ?_⟩)
        have f : Free (H p) := by rw [hp]; trivial
        exact k _ S _ _ h (Post.lay hp) (rs.upd f (rs.none_of hp)) (.tup (.of upd_same) .nil)
      · by_cases c1 : n = 1
        · subst c1
          refine .inr (.inl ⟨_, _, rfl, rfl, hq, ?_⟩)
          have e : (List.replicate (1 : Int).toNat xs).flatten = xs := by simp
          rw [e] at h
          exact k _ S _ H h Post.refl rs (.tup hq r)
        · refine .inl ⟨_, _, _, rfl, rfl, hq, hne', by omega, h1, by rw [← r.length]; exact hz, fun p hp => ?_⟩
          have f : Free (H p) := by rw [hp]; trivial
          exact k _ S _ _ h (Post.lay hp) (rs.upd f (rs.none_of hp)) (.tup (.of upd_same) ((r.rep _).mono (TK.upd f)))
  · exact h.elim
theorem de_rep {X : Cx} {a b : Expr} {ta tb : TD} {pos : Pos} (ha : DE X a ta) (hb : DE X b tb) : DE X (.BinOp a .Mult b pos) (dBin rdRep ta tb) := de_op op_repA od_rep ha hb
end QL
end L2
/-! sorted(set(x)) of a list of ints; tuple * int for every int -/
namespace L2
namespace QL
open PySem PySem.Spec PyProof.Rows
section
variable {P : Program} {w : World} {A : Around} {E : Value → Shared → Prop} {s : Shared}
/-- a new set of the ints of a list, its table led -/
theorem set_of_list {l : Addr} {items : Array Value} (ns : List Int) {Q : Value → Shared → Prop} (hh : A.handled = none) (hl : s.heap.IsList l items) (hit : IntsAre items.toList ns) (hb : ns.length + 1 < scanBound)
    (h : ∀ (h' : Heap) (tk c : Nat), SetR w h' s.heap.objs.size (fun j => decide (j ∈ ns)) c → c ≤ ns.length → (∀ b o, s.heap.get? b = some o → h'.get? b = some o) → Q (.ref s.heap.objs.size) { s with heap := h', toks := tk }) :
    wpAny (model P w) A (call (.type "set") [.ref l]) Q E s := by
  have hisz : items.size = ns.length := by
    have q := IntsAre.length hit
    rwa [Array.length_toList] at q
  obtain ⟨ob, hob⟩ : ∃ ob : Obj, ob = { cls := .type "set", dict := none, data := .set #[] 0 (.fresh 0 0 (!w.params.followText "set-order")) } := ⟨_, rfl⟩
  obtain ⟨c, tl, hmro⟩ := F.called_set.mro
  have hmade := F.called_set.made
  have hsub := F.called_set.sub
  refine wpAny_call (codeAny_of_tree ?_)
  show wpAny _ _ (callAny (.type "set") _) _ _ _
  refine wpAny_pure ⟨Code.quiet_builtin _ (by decide +kernel), codeAny_builtin F.entry_type_call ?_⟩
  rw [Around.under_plain (weight_type_call_type "set" [.ref l] []) rfl]
  have h1 := F.called_set.notType
  have h2 := F.called_set.canCreate
  have hct := F.typeCall_set_1 (.ref l)
  repeat (any_goals (first | assumption | wp_step))
  refine codeAny_mono (code_set_led1 (.ref l) (E := E) (Q₁ := fun x s₁ => x = .ref s.heap.objs.size ∧ s₁ = { s with heap := s.heap.push ob }) ⟨rfl, by rw [hob]⟩) fun r s₁ hr => ?_
  rcases r with e | (_ | _ | _ | x)
  · exact hr
  · exact hr.elim
  · exact hr.elim
  · exact hr.elim
  obtain ⟨rfl, rfl⟩ := hr
  have hc0 : ob.cls = .type "set" := by rw [hob]
  have hS : (s.heap.push ob).get? s.heap.objs.size = some { cls := .type "set", dict := none, data := .set #[] 0 (.fresh 0 0 (!w.params.followText "set-order")) } := by
    rw [← hob]
    exact Heap.get?_push_size _ (by rw [hob] <;> rfl)
  have hT : Shared.TypeIs { s with heap := s.heap.push ob } (.ref s.heap.objs.size) "set" := ⟨_, hS, rfl⟩
  have hli := F.called_set.init.lookup
  have hbi := F.called_set.init.bind (.ref s.heap.objs.size)
  repeat (any_goals (first | assumption | wp_step))
  refine codeAny_mono (codeAny_call_builtin (R := wants (fun r s₂ => r = .none ∧ ∃ h' tk c, s₂ = { s with heap := h', toks := tk } ∧ SetR w h' s.heap.objs.size (fun j => decide (j ∈ ns)) c ∧ c ≤ ns.length ∧
      (∀ b o, s.heap.get? b = some o → h'.get? b = some o)) E) F.called_set.init.plain F.entry_set_init (check_set_init_1 hT ?_)) fun r₂ s₂ hr₂ => ?_
  · obtain ⟨⟨ocls, odict, odata, oslots⟩, hol, hcl, nl, hdl⟩ := hl
    simp only at hcl hdl
    subst hcl; subst hdl
    have hlS : l < s.heap.objs.size := Heap.lt_size hol
    have hol' : (s.heap.push ob).get? l = some { cls := .type "list", dict := odict, data := .seq items nl, slots := oslots } := Heap.get?_push_of_some _ hol
    have hsls : isSubtype (.type "list") (.type "set") = pure false := by rw [isSubtype_type]; kernel_rfl
    have hslf : isSubtype (.type "list") (.type "frozenset") = pure false := by rw [isSubtype_type]; kernel_rfl
    have hne : (Value.type "list" == Value.type "dict") = false := by decide
    have hl1 : (s.heap.push ob).IsList l items := ⟨_, hol', rfl, nl, rfl⟩
    unfold Builtin.«set.__init__» noKeywords Builtin.Frozenset.updateFrom
    generalize hPI : pyIter = PI
    wp_walk
    subst hPI
    refine wpAny_pyIter_list hl1 ?_
    refine wpAny_bind (wpAny_runValue ?_)
    have hh3 : A.in1.in1.in1.handled = none := by simp [hh]
    have hz1 : (s.heap.push ob).objs.size = s.heap.objs.size + 1 := Heap.size_push ..
    have hneI : l ≠ (s.heap.push ob).objs.size := by rw [hz1]; exact Nat.ne_of_lt (Nat.lt_succ_of_lt hlS)
    have hSf : s.heap.objs.size ∉ [(s.heap.push ob).objs.size, l] := by
      rw [hz1]; simp only [List.mem_cons, List.mem_singleton, List.not_mem_nil, or_false, not_or]
      exact ⟨Nat.ne_of_lt (Nat.lt_succ_self _), Nat.ne_of_gt hlS⟩
    have hval : ∀ (i : Nat) (v : Value), items[i]? = some v → ∃ k t, ns[i]? = some k ∧ v = .int k t := fun i v hv => by
      have hi : i < ns.length := by rw [← hisz]; exact (Array.getElem?_eq_some_iff.mp hv).1
      obtain ⟨t, e⟩ := PyProof.Rows.IntsAre.int_at hit i v (by rw [Array.getElem?_toList]; exact hv)
      refine ⟨ns[i], t, List.getElem?_eq_getElem hi, ?_⟩
      rw [e, List.getD_eq_getElem?_getD, List.getElem?_eq_getElem hi] <;> rfl
    refine set_update_ints ((Walks.list hh3 _ l hneI items).toS) s.heap.objs.size hSf ns hisz hb hval (items.size - 0) 0 _ (by omega) (Nat.zero_le _) ⟨⟨_, Heap.get?_push_size _ rfl, rfl, rfl⟩, (hl1.push _)⟩ ?hS0 ?hR
    case hS0 =>
      have g := Heap.get?_push_of_some { cls := .type "list_iterator", data := .fields #[.ref l, .int 0 0] } hS
      exact ⟨0, Nat.le_refl 0, setR_new_at g⟩
    case hR =>
      intro s' c' hm hc' hS'
      obtain ⟨h', g2, d', tk', os'⟩ := s'
      have eg : g2 = s.gens := hm.gens
      have ed : d' = s.drawn := hm.drawn
      have eo : os' = s.os := hm.os
      subst eg; subst ed; subst eo
      show wpAny _ _ _ _ _ _
      refine wpAny_pure ?_
      show wpAny _ _ (ret Value.none) _ _ _
      rw [hisz] at hc'
      refine wpAny_pure ⟨rfl, h', tk', c', rfl, hS', hc', fun b o e => ?_⟩
      have hb0 : b < s.heap.objs.size := Heap.lt_size e
      have hb2 : b ≠ (s.heap.push ob).objs.size := by rw [hz1]; exact Nat.ne_of_lt (Nat.lt_succ_of_lt hb0)
      exact hm.heap b o (by simp only [List.mem_cons, List.mem_singleton, List.not_mem_nil, or_false, not_or]; exact ⟨Nat.ne_of_lt hb0, hb2⟩) (Heap.get?_push_of_some _ (Heap.get?_push_of_some _ e))
  · rcases r₂ with e | (_ | _ | _ | x)
    · exact hr₂
    · exact hr₂.elim
    · exact hr₂.elim
    · exact hr₂.elim
    obtain ⟨rfl, h', tk, c', rfl, hS', hc', hk'⟩ := hr₂
    repeat (any_goals (first | assumption | wp_step))
    exact h _ _ _ hS' hc' hk'
end
/-- sorted(set(x)) -/
def rvSortSet (K : PySem.W.Frag) : V → Hp → VK → Prop := fun x H Q => ∃ (a : Addr) (ns : List Int), x = .ref a ∧ (SqL K H a (ns.map V.int) ∨ SqT K H a (ns.map V.int)) ∧ ns.length ≤ 4000 ∧ (∃ ms : List Int, ms.length < 64 ∧ ∀ n ∈ ns, n ∈ ms) ∧
  ∀ (ns' : List Int) (p : Addr), ns'.Pairwise (· < ·) → (∀ k, k ∈ ns' ↔ k ∈ ns) → H p = none → Q (.ref p) (upd H p (.lst (ns'.map V.int)))
theorem vals_of_ints : ∀ {us : List Value} {ns : List Int}, IntsAre us ns → Vals (ns.map V.int) us
  | _, _, .nil => .nil
  | _, _, .cons n t r => .cons ⟨t, rfl⟩ (vals_of_ints r)
theorem nodup_short {ns ms : List Int} (hd : ns.Nodup) (h : ∀ n ∈ ns, n ∈ ms) : ns.length ≤ ms.length := hd.length_le_of_subset h
theorem pw_nodup {ns : List Int} (h : ns.Pairwise (· < ·)) : ns.Nodup := h.imp fun {a b} h => Int.ne_of_lt h
end QL
end L2
namespace L2
namespace QL
open PySem PySem.Spec PyProof.Rows
section
variable {X : Cx} {a : Expr} {p p2 q pos : Pos}
theorem setR_few {w : World} {h : Heap} {b : Addr} {ns ms : List Int} {c : Nat} (R : SetR w h b (fun j => decide (j ∈ ns)) c) (hm : ∀ n ∈ ns, n ∈ ms) : c ≤ ms.length := by
  obtain ⟨o, es, ep, t, ho, hex, hd, g, nd, hk, hb, hf, hn, hr, hl⟩ := R
  have e : (es.toList.map keyOf).length = c := by rw [List.length_map, Array.length_toList]; exact hn
  rw [← e]
  exact nodup_short nd fun k hk2 => hm k (of_decide_eq_true ((hk k).mpr hk2))
theorem c_sortset (hc : X.calm = true) (hg : Gl X "sorted") (hm : X.mg "sorted" = none) (hg2 : Gl X "set") (hm2 : X.mg "set" = none) (na : starEach (a :: []) X.env = (false, eval a X.env) :: starEach [] X.env := by rfl) :
    C1 X a (.Call (.Name "sorted" p) [.Call (.Name "set" p2) [a] [] q] [] pos) (rvSortSet X.K) := ⟨fun ta ha => by
  refine ⟨fun pins s σ H Q I h => ?_⟩
  refine Call_ (ld_blt I hg hm boot_sorted ?_)
  refine PyProof.Rows.callWith_builtin1 (PyProof.Rows.args_cons ?_ rfl) rfl rfl
  refine Call_ (ld_blt I hg2 hm2 boot_set ?_)
  refine PyProof.Rows.callWith_type1 (PyProof.Rows.args_cons (thn (ha.run pins s σ H _ I h) fun v s1 ⟨x, H1, I1, r1, q1⟩ => PyProof.Rows.args_nil ?_) na) na rfl
  obtain ⟨l, ns, rfl, hq, hl, ⟨ms, hms, hin⟩, q1⟩ := q1
  cases r1
  have hb : ns.length + 1 < scanBound := by unfold scanBound; omega
  have fin : ∀ (h' : Heap) (tk c : Nat), SetR X.w h' s1.heap.objs.size (fun j => decide (j ∈ ns)) c → c ≤ ns.length → (∀ b o, s1.heap.get? b = some o → h'.get? b = some o) →
      wpAny (model X.prog X.w) X.A (call (.builtin "sorted") [.ref s1.heap.objs.size]) (EP X pins σ Q) X.xe { s1 with heap := h', toks := tk } := fun h' tk c R _ hk => by
    have I2 : Inv X pins σ H1 { s1 with heap := h', toks := tk } := I1.kept hk
    refine sorted_set R (I.ok.hd hc) (Nat.lt_of_le_of_lt (setR_few R hin) hms) fun s' p out c' ns' k g o hp hg' hi hs hm' hl' => ?_
    have hH : H1 p = none := I2.hok.fresh hp
    have len' : ns'.length ≤ sizeLine := by
      have := nodup_short (pw_nodup hs) (ms := ns) fun k hk => of_decide_eq_true ((hm' k).mp hk)
      rw [sizeLine_eq]; omega
    have hz' : (ns'.map V.int).length ≤ sizeLine := by rw [List.length_map]; exact len'
    have J : Inv X pins σ (upd H1 p (.lst (ns'.map V.int))) { { s1 with heap := h', toks := tk } with heap := s'.heap, gens := s'.gens, drawn := s'.drawn, toks := s'.toks } :=
      I2.call (ch := []) (Un.laid k hp hH) (I2.hok.laid k hp ⟨hz', out.toList, c', vals_of_ints hi, hg'⟩) (by rw [g]; exact I2.bare) (fun _ z => nomatch z)
    have e : s' = { { s1 with heap := h', toks := tk } with heap := s'.heap, gens := s'.gens, drawn := s'.drawn, toks := s'.toks } := by
      cases s'
      cases s1
      cases o
      rfl
    rw [e]
    exact ⟨.ref p, _, J, rfl, q1 ns' p hs (fun k => (hm' k).trans ⟨fun z => of_decide_eq_true z, fun z => decide_eq_true z⟩) hH⟩
  rcases hq with hq | hq
  · obtain ⟨its, r, pl, hz⟩ := I1.list hq
    exact set_of_list ns (I.ok.hd hc) pl.isList (by simpa using r.ints) hb fun h' tk c R hc' hk => PyProof.Rows.args_nil (fin h' tk c R hc' hk)
  · obtain ⟨its, r, pl, hz⟩ := I1.tuple hq
    exact call_set_tupI ns (I.ok.hd hc) pl (by simpa using r.ints) hb fun h' tk c R hc' hk => PyProof.Rows.args_nil (fin h' tk c R hc' hk)⟩
end
def rdSortSet : RLD := fun xs S Q => ∃ ns : List Int, xs = ns.map D.int ∧ ns.length ≤ 4000 ∧ (∃ ms : List Int, ms.length < 64 ∧ ∀ n ∈ ns, n ∈ ms) ∧
  ∀ (ns' : List Int) (p : Addr), ns'.Pairwise (· < ·) → (∀ k, k ∈ ns' ↔ k ∈ ns) → S p = none → Q (.loc p) (S.put p (.lst (ns'.map D.int)))
section
variable {K : PySem.W.Frag}
theorem lr_sortset : LstR K rdSortSet (rvSortSet K) := fun a xs vs S H Q0 Q g rr rs h k => by
  obtain ⟨ns, rfl, h1, h2, q⟩ := h
  rw [rr.ints] at g
  exact ⟨a, ns, rfl, .inl g, h1, h2, fun ns' p a1 a2 hp => k _ _ _ _ (q ns' p a1 a2 (rs.none_of hp)) (Post.new hp) (new_lst rs hp (Reps.of_ints ns')) (.loc p)⟩
theorem tr_sortset : TupR K rdSortSet (rvSortSet K) := fun a xs vs S H Q0 Q g rr rs h k => by
  obtain ⟨ns, rfl, h1, h2, q⟩ := h
  rw [rr.ints] at g
  exact ⟨a, ns, rfl, .inr g, h1, h2, fun ns' p a1 a2 hp => k _ _ _ _ (q ns' p a1 a2 (rs.none_of hp)) (Post.new hp) (new_lst rs hp (Reps.of_ints ns')) (.loc p)⟩
end
end QL
end L2
/-! sorted(x) of a list of tuples of ints -/
namespace L2
namespace QL
open PySem PySem.Spec PyProof.Rows
section
variable {prog : Program} {w : World} {A : Around} {E : Value → Shared → Prop} {s : Shared}
theorem sort_short {a : Addr} {vs : List Value} {n : Nat} {P : PySem.Fin → Shared → Prop} (ho : s.heap.get? a = some (seqObj "list" vs.toArray n)) (h1 : vs.length ≤ 1)
    (h : ∀ out : Array Value, out.toList = vs → P (.done (.ret .none)) { s with heap := sortedHeap s.heap a vs out }) : wpAny (model prog w) A (Builtin.«list.sort» ⟨[.ref a], []⟩) P E s := by
  refine SK.plain_sort (r := fun _ => 0) ho (Nat.lt_of_le_of_lt h1 (by decide)) (fun h2 => absurd (Nat.le_trans h2 h1) (by decide)) fun ps out a1 a2 _ => h out ?_
  have p := a2.map Prod.snd
  rw [List.map_snd_zip (Nat.le_refl _)] at p
  rw [a1]
  match vs, h1, p with
  | [], _, p => exact List.perm_nil.mp p
  | [v], _, p => exact List.perm_singleton.mp p
theorem sorted_short {l : Addr} {vs : List Value} {Q : Value → Shared → Prop} (hl : s.heap.IsList l vs.toArray) (h1 : vs.length ≤ 1)
    (h : ∀ out : Array Value, out.toList = vs → Q (.ref (s.heap.objs.size + 1)) { s with heap := sortedAll s.heap vs out }) : wpAny (model prog w) A (call (.builtin "sorted") [.ref l]) Q E s := by
  have hz : vs.length ≤ sizeLine := Nat.le_trans h1 (by rw [sizeLine_eq]; decide)
  refine Calls.call_function_entry kind_sorted plain_sorted entry_sorted (args_sorted1 _) ?_
  unfold Builtin.«sorted»
  refine wpAny_bind (m := checkCount "sorted" 1 1 _) (wpAny_pure ?_)
  refine wpAny_bind (collect_list hl ?_ hz)
  refine wpAny_bind (wpAny_newList ?_ hz)
  have hsz : ((s.heap.push (seqObj "list" #[] 0)).update s.heap.objs.size (Obj.mapSeq (· ++ vs.toArray))).objs.size = s.heap.objs.size + 1 := by
    rw [Heap.size_update, size_push']
  have hoL : (((s.heap.push (seqObj "list" #[] 0)).update s.heap.objs.size (Obj.mapSeq (· ++ vs.toArray))).push (seqObj "list" vs.toArray 0)).get? (s.heap.objs.size + 1) = some (seqObj "list" vs.toArray 0) := by
    rw [← hsz]; exact Heap.get?_push_size _ rfl
  show wpAny _ _ _ _ _ { s with heap := ((s.heap.push (seqObj "list" #[] 0)).update s.heap.objs.size (Obj.mapSeq (· ++ vs.toArray))).push (seqObj "list" vs.toArray 0) }
  rw [hsz]
  refine wpAny_bind (wpAny_holding (wpAny_call_entry slot_list_sort ⟨_, hoL, rfl⟩ entry_list_sort (sort_short hoL h1 fun out a1 => ⟨_, rfl, ?_⟩) (args_list_sort _)))
  exact wpAny_pure ⟨_, rfl, h out a1⟩
end
def rSort1 (K : PySem.W.Frag) : List V → Hp → VK → Prop := fun vs H Q => ∃ (a : Addr) (xs : List V), vs = [V.ref a] ∧ SqL K H a xs ∧ xs.length ≤ 1 ∧ ∀ p, H p = none → Q (.ref p) (upd H p (.lst xs))
theorem cr_sort1 {X : Cx} : CallR X (.builtin "sorted") (rSort1 X.K) := by
  intro pins s σ H vs us Q I r h
  obtain ⟨a, xs, rfl, hs, h1, q⟩ := h
  obtain ⟨its, rv, hl, hz⟩ := I.list hs
  rw [Vals.ref1 r]
  refine sorted_short hl.isList (by rw [← rv.length]; exact h1) fun out e => ?_
  obtain ⟨ep, he'⟩ := PyProof.Rows.sortedAll_at s.heap its out
  have rv' : Vals xs out.toList := by rw [e]; exact rv
  exact ⟨.ref _, upd H (s.heap.objs.size + 1) (.lst xs), I.laid (t' := s.toks) (fun _ _ => PyProof.Rows.sortedAll_old) (Nat.le_succ _) ⟨hz, out.toList, ep, rv', he'⟩, rfl, q _ (I.hok.fresh (Nat.le_succ _))⟩
/-- sorted(x) of ints, of tuples of ints, of at most one item -/
def rSortA (K : PySem.W.Frag) (xs : List V) (H : Hp) (Q : VK) : Prop := rSortedI K xs H Q ∨ rSort1 K xs H Q ∨ ∃ d B, 1 ≤ d ∧ rSortU K d B xs H Q
def rvSortA (K : PySem.W.Frag) : V → Hp → VK → Prop := fun x H Q => rSortA K [x] H Q
theorem c_sortA {X : Cx} {a : Expr} {p pos : Pos} (hg : Gl X "sorted") (hm : X.mg "sorted" = none) (he : starEach (a :: []) X.env = (false, eval a X.env) :: starEach [] X.env := by rfl) : C1 X a (.Call (.Name "sorted" p) [a] [] pos) (rvSortA X.K) :=
  c1_b (r := rSortA X.K) (fun pins s σ H xs us Q I r h => by
    rcases h with h | h | ⟨d, B, hd, h⟩
    · exact cr_sortedI pins s σ H xs us Q I r h
    · exact cr_sort1 pins s σ H xs us Q I r h
    · exact cr_sortT hd pins s σ H xs us Q I r h) hg hm boot_sorted (he := he)
abbrev tupI (l : List Int) : D := .tup (l.map D.int)
def rdSortT : RLD := fun xs S Q => ∃ (d : Nat) (B : Int) (ls : List (List Int)), xs = ls.map tupI ∧ ls.length < 64 ∧ (∀ l ∈ ls, l.length = d ∧ TS.Bd B l) ∧ (d = 0 → ls.length ≤ 1) ∧
  ∀ (ls' : List (List Int)) (p : Addr), ls'.Perm ls → ls'.Pairwise (fun x y => TS.code B x ≤ TS.code B y) → S p = none → Q (.loc p) (S.put p (.lst (ls'.map tupI)))
section
variable {K : PySem.W.Frag} {H : Hp}
theorem reps_perm {vs ys : List V} (h : ys.Perm vs) : ∀ {ls : List (List Int)}, Reps K H (ls.map tupI) vs → ∃ ls' : List (List Int), Reps K H (ls'.map tupI) ys ∧ ls'.Perm ls := by
  induction h with
  | nil => exact fun {ls} r => ⟨ls, r, .refl _⟩
  | cons x _ ih =>
    intro ls r
    cases ls with
    | nil => cases r
    | cons l ls =>
      cases r with
      | cons h t =>
        obtain ⟨ls', r', p'⟩ := ih t
        exact ⟨l :: ls', .cons h r', p'.cons _⟩
  | swap x y l =>
    intro ls r
    match ls, r with
    | a :: b :: ls, .cons h1 (.cons h2 t) => exact ⟨b :: a :: ls, .cons h2 (.cons h1 t), .swap _ _ _⟩
  | trans _ _ ih1 ih2 =>
    intro ls r
    obtain ⟨l1, r1, p1⟩ := ih2 r
    obtain ⟨l2, r2, p2⟩ := ih1 r1
    exact ⟨l2, r2, p2.trans p1⟩
theorem tupI_of {l : List Int} {v : V} (r : Rep K H (tupI l) v) : TupI K H v l := by
  cases r with
  | tup hq q =>
    rw [q.ints] at hq
    exact ⟨_, rfl, hq⟩
theorem pw_tup {B : Int} : ∀ {ls : List (List Int)} {ys : List V}, Reps K H (ls.map tupI) ys → ys.Pairwise (fun x y => ∀ n m, TupI K H x n → TupI K H y m → TS.code B n ≤ TS.code B m) → ls.Pairwise fun x y => TS.code B x ≤ TS.code B y
  | [], _, _, _ => .nil
  | l :: ls, _, .cons h t, pw => by
    obtain ⟨p1, p2⟩ := List.pairwise_cons.mp pw
    refine List.pairwise_cons.mpr ⟨fun m hm => ?_, pw_tup t p2⟩
    have go : ∀ {ls : List (List Int)} {ys : List V}, Reps K H (ls.map tupI) ys → m ∈ ls → ∃ y ∈ ys, TupI K H y m := by
      intro ls
      induction ls with
      | nil => intro _ _ hm; cases hm
      | cons a ls ih =>
        intro ys r hm
        cases r with
        | cons h t =>
          rcases List.mem_cons.mp hm with rfl | hm
          · exact ⟨_, List.mem_cons_self, tupI_of h⟩
          · obtain ⟨y, hy, q⟩ := ih t hm
            exact ⟨y, List.mem_cons_of_mem _ hy, q⟩
    obtain ⟨y, hy, q⟩ := go t hm
    exact p1 y hy l m (tupI_of h) q
theorem reps_tup : ∀ {ls : List (List Int)} {vs : List V}, Reps K H (ls.map tupI) vs → ∀ v ∈ vs, ∃ l ∈ ls, TupI K H v l
  | [], _, .nil, _, hv => nomatch hv
  | l :: ls, _, .cons h t, v, hv => by
    rcases List.mem_cons.mp hv with rfl | hv
    · exact ⟨l, List.mem_cons_self, tupI_of h⟩
    · obtain ⟨l', h1, h2⟩ := reps_tup t v hv
      exact ⟨l', List.mem_cons_of_mem _ h1, h2⟩
end
def rdSortA : RLD := fun xs S Q => rdSort xs S Q ∨ rdSortT xs S Q
theorem lr_sortA {K : PySem.W.Frag} : LstR K rdSortA (rvSortA K) := fun a xs vs S H Q0 Q g rr rs h k => by
  rcases h with h | ⟨d, B, ls, rfl, h64, hl, h0, q⟩
  · exact .inl (lr_sort a xs vs S H Q0 Q g rr rs h k)
  have hlen : vs.length = ls.length := by rw [← rr.length, List.length_map]
  by_cases hd : ls.length ≤ 1
  · refine .inr (.inl ⟨a, vs, rfl, g, by omega, fun p hp => ?_⟩)
    refine k _ _ _ _ (q ls p (.refl _) ?_ (rs.none_of hp)) (Post.new hp) (new_lst rs hp rr) (.loc p)
    match ls, hd with
    | [], _ => exact .nil
    | [x], _ => exact List.pairwise_singleton _ _
  · refine .inr (.inr ⟨d, B, by omega, a, vs, rfl, g, by omega, fun x hx => ?_, fun ys p hy hpw hp => ?_⟩)
    · obtain ⟨l, h1, h2⟩ := reps_tup rr x hx
      exact ⟨l, h2, hl l h1⟩
    · obtain ⟨ls', r', p'⟩ := reps_perm hy rr
      exact k _ _ _ _ (q ls' p p' (pw_tup r' hpw) (rs.none_of hp)) (Post.new hp) (new_lst rs hp r') (.loc p)
end QL
end L2
/-! keywords -/
namespace L2
namespace QL
open PySem PySem.Spec PyProof.Rows
def pick2 {α : Type} (idx : List (Sum Nat Nat)) (us ws : List α) : List α := idx.filterMap fun i => match i with
  | .inl a => us[a]?
  | .inr b => ws[b]?
theorem Paired.at {α β : Type} {F : α → β → Prop} : ∀ {xs : List α} {ys : List β} (i : Nat), Paired F xs ys → (xs[i]? = none ∧ ys[i]? = none) ∨ ∃ a b, xs[i]? = some a ∧ ys[i]? = some b ∧ F a b
  | _, _, _, .nil => .inl ⟨rfl, rfl⟩
  | _, _, 0, .cons h _ => .inr ⟨_, _, rfl, rfl, h⟩
  | _, _, i + 1, .cons _ t => by
    rcases Paired.at i t with h | ⟨a, b, h1, h2, h3⟩
    · exact .inl (by simpa using h)
    · exact .inr ⟨a, b, by simpa using h1, by simpa using h2, h3⟩
theorem pick2_rel {α β : Type} {F : α → β → Prop} {xs zs : List α} {ys ws : List β} (h1 : Paired F xs ys) (h2 : Paired F zs ws) : ∀ idx : List (Sum Nat Nat), Paired F (pick2 idx xs zs) (pick2 idx ys ws)
  | [] => .nil
  | .inl a :: idx => by
    have ih := pick2_rel h1 h2 idx
    unfold pick2 at ih ⊢
    rcases Paired.at a h1 with ⟨e1, e2⟩ | ⟨x, y, e1, e2, e3⟩
    · rw [List.filterMap_cons_none (by exact e1), List.filterMap_cons_none (by exact e2)]; exact ih
    · rw [List.filterMap_cons_some (by exact e1), List.filterMap_cons_some (by exact e2)]; exact .cons e3 ih
  | .inr a :: idx => by
    have ih := pick2_rel h1 h2 idx
    unfold pick2 at ih ⊢
    rcases Paired.at a h2 with ⟨e1, e2⟩ | ⟨x, y, e1, e2, e3⟩
    · rw [List.filterMap_cons_none (by exact e1), List.filterMap_cons_none (by exact e2)]; exact ih
    · rw [List.filterMap_cons_some (by exact e1), List.filterMap_cons_some (by exact e2)]; exact .cons e3 ih
theorem reps_paired {K : PySem.W.Frag} {H : Hp} : ∀ {ds : List D} {vs : List V}, Reps K H ds vs → Paired (Rep K H) ds vs
  | _, _, .nil => .nil
  | _, _, .cons h t => .cons h (reps_paired t)
theorem paired_reps {K : PySem.W.Frag} {H : Hp} : ∀ {ds : List D} {vs : List V}, Paired (Rep K H) ds vs → Reps K H ds vs
  | _, _, .nil => .nil
  | _, _, .cons h t => .cons h (paired_reps t)
/-- how a call with keywords binds -/
def KwB (K : PySem.W.Frag) (fd : FuncData) (ps : List Str) (n : Nat) (ks : List Str) (idx : List (Sum Nat Nat)) : Prop :=
  ∀ (s : Shared) (us ws : List Value), K.In s.heap → us.length = n → ws.length = ks.length → BindsTo s fd ⟨us, ks.zip ws⟩ (ps.zip (pick2 idx us ws))
theorem kwb_of {K : PySem.W.Frag} {x qual : Str} {st : Stmt} {f : Addr} {fd : FuncData} {ps : List Str} {n : Nat} {ks : List Str} {idx : List (Sum Nat Nat)} (F : Fun K x qual st f fd)
    (h : ∀ (kV doc pm : Value) (an : Option Addr) (cdv ct : Value) (us ws : List Value), us.length = n → ws.length = ks.length → bindArgs (PySem.W.fnOf x qual (defArgs st) (defBody st) (defScope st) .none kV doc pm an cdv ct) ⟨us, ks.zip ws⟩ = pure (ps.zip (pick2 idx us ws))) : KwB K fd ps n ks idx := by
  obtain ⟨oc, od, kV, doc, pm, an, cdv, ct, osl, rfl, lk, hcd⟩ := F.ex
  exact fun s us ws _ l1 l2 => .of_eq (h kV doc pm an cdv ct us ws l1 l2)
structure CalK (P : Program) (w : World) (K : PySem.W.Frag) (mg : Str → Option Value) (base : Heap) (k : Nat) (x : Str) (sp : SpD) (n : Nat) (ks : List Str) (idx : List (Sum Nat Nat)) : Prop where
  ex : ∃ (f : Addr) (fd : FuncData) (ps : List Str), FnD P w K mg base k f fd ps sp ∧ mg x = some (.ref f) ∧ PySem.W.keepIn K (.ref f) = true ∧ KwB K fd ps n ks idx
structure MakK (P : Program) (w : World) (K : PySem.W.Frag) (mg : Str → Option Value) (base : Heap) (k : Nat) (x : Str) (C : Addr) (sp : SpD) (n : Nat) (ks : List Str) (idx : List (Sum Nat Nat)) : Prop where
  ex : ∃ (f : Addr) (fd : FuncData) (ps : List Str), Mk K C f ∧ FnD P w K mg base k f fd ps sp ∧ mg x = some (.ref C) ∧ KwB K fd ps (n + 1) ks idx
structure MetK (P : Program) (w : World) (K : PySem.W.Frag) (mg : Str → Option Value) (base : Heap) (k : Nat) (C : Addr) (m : Str) (sp : SpD) (n : Nat) (ks : List Str) (idx : List (Sum Nat Nat)) : Prop where
  ex : ∃ (f : Addr) (fd : FuncData) (ps : List Str), Cls K C ∧ Meth K C m f ∧ FnD P w K mg base k f fd ps sp ∧ KwB K fd ps (n + 1) ks idx
abbrev DKw (X : Cx) (kws : List Keyword) (t : TAD) : Prop := PK X kws (emA X.K t)
theorem PK.le {X : Cx} {e : List Keyword} {t u : TA} (h : PK X e t) (k : ∀ σ H Q, u σ H Q → t σ H Q) : PK X e u := ⟨fun po pins s σ H Q I q => h.run po pins s σ H Q I (k _ _ _ q)⟩
section
variable {X : Cx}
theorem dk_nil : DKw X [] dNil := PK.le pk_nil fun σ H Q h => by
  obtain ⟨e, S, Q0, re, rs, ht, k⟩ := h
  exact k [] S _ H ht Post.refl rs .nil
theorem dk_cons {nm : Option Str} {e : Expr} {kpos : Pos} {kws : List Keyword} {te : TD} {t : TAD} (ha : DE X e te) (hr : DKw X kws t) : DKw X (⟨nm, e, kpos⟩ :: kws) (dCons te t) := PK.le (pk_cons ha hr) fun σ H Q h => by
  obtain ⟨e, S, Q0, re, rs, ht, k⟩ := h
  refine ⟨e, S, _, re, rs, ht, fun x S1 v1 H1 h1 p1 rs1 r1 => ?_⟩
  refine ⟨e, S1, _, re.mono p1.tk, rs1, h1, fun xs S2 vs H2 h2 p2 rs2 r2 => ?_⟩
  exact k _ S2 _ H2 h2 (p1.trans p2) rs2 (.cons (r1.mono p2.tk) r2)
end
def dCallK (n m : Nat) (sp : SpD) (idx : List (Sum Nat Nat)) (t tk : TAD) : TD := fun e S Q => t e S fun ds S1 => tk e S1 fun zs S2 => (ds.length = n ∧ zs.length = m) ∧ sp (pick2 idx ds zs) S2 Q
def dMakeK (C : Addr) (n m : Nat) (sp : SpD) (idx : List (Sum Nat Nat)) (t tk : TAD) : TD := fun e S Q => t e S fun ds S1 => tk e S1 fun zs S2 => (ds.length = n ∧ zs.length = m) ∧
  ∀ a, S2 a = none → sp (pick2 idx (.loc a :: ds) zs) (S2.put a (.ins C [])) fun d S3 => d = .non ∧ Q (.loc a) S3
section
variable {X : Cx} {k j n : Nat} {f C : Addr} {fd : FuncData} {ps ks : List Str} {sp : SpD} {idx : List (Sum Nat Nat)} {x : Str} {p pos : Pos} {e : Expr} {es : List Expr} {kws : List Keyword} {t tk : TAD}
theorem run_fndK {pins : List (Addr × Obj)} {σ : St} {H : Hp} {s : Shared} {Q : VK} {us ws : List Value} {vs zs : List V} (F : FnD X.prog X.w X.K X.mg X.base k f fd ps sp) (hr : RoomG k X.A) (hb : KwB X.K fd ps n ks idx)
    (I : Inv X pins σ H s) (r : Vals vs us) (rz : Vals zs ws) (l1 : vs.length = n) (l2 : zs.length = ks.length) (h : emSp X.K sp (pick2 idx vs zs) H Q) : wpAny (model X.prog X.w) X.A (call (.ref f) us (ks.zip ws)) (EP X pins σ Q) X.xe s := by
  refine wpAny_call (codeAny_mono (F.run X.A X.stack s H ⟨us, ks.zip ws⟩ (pick2 idx us ws) (pick2 idx vs zs) Q hr I.env0 (hb s us ws I.kIn (r.length.symm.trans l1) (rz.length.symm.trans l2)) (pick2_rel r rz idx) h) fun r s' hq => ?_)
  rcases r with _ | (_ | _ | _ | u)
  · exact hq.elim
  · exact False.elim hq
  · exact False.elim hq
  · exact False.elim hq
  · exact I.after hq
theorem em_callK {K : PySem.W.Frag} {m : Nat} {σ : St} {H : Hp} {Q : VK} (h : emE K (dCallK n m sp idx t tk) σ H Q) : emA K t σ H fun vs H1 => emA K tk σ H1 fun zs H2 => (vs.length = n ∧ zs.length = m) ∧ emSp K sp (pick2 idx vs zs) H2 Q := by
  obtain ⟨e, S, Q0, re, rs, ht, k⟩ := h
  refine ⟨e, S, _, re, rs, ht, fun ds S1 vs H1 q p rs1 r => ?_⟩
  refine ⟨e, S1, _, re.mono p.tk, rs1, q, fun zs S2 ws H2 q2 p2 rs2 r2 => ?_⟩
  refine ⟨⟨by rw [← r.length]; exact q2.1.1, by rw [← r2.length]; exact q2.1.2⟩, _, S2, Q0, paired_reps (pick2_rel (reps_paired (r.mono p2.tk)) (reps_paired r2) idx), rs2, q2.2, fun d S' v H' q' p' rs' r' => k d S' v H' q' ((p.trans p2).trans p') rs' r'⟩
theorem de_callK {lm : Nat} (c : CalK X.prog X.w X.K X.mg X.base k x sp n ks idx) (hr : RoomG j X.A) (hk : k ≤ j) (hg : Gl X x) (ha : DA X (e :: es) t) (hkw : DKw X kws tk)
    (hall : (backToKw pos (keywordEach kws X.env)).all (·.1.isSome) = true := by rfl) (hks : (backToKw pos (keywordEach kws X.env)).filterMap (·.1) = ks := by rfl)
    (hdb : (x == ("__debug__" : Str)) = false := by decide) (he : starEach (e :: es) X.env = (false, eval e X.env) :: starEach es X.env := by rfl)
    (hpl : ((backTo pos (starEach (e :: es) X.env)).any (·.1) || (backToKw pos (keywordEach kws X.env)).any (·.1.isNone)) = false := by rfl) (hlm : ks.length = lm := by rfl) : DE X (.Call (.Name x p) (e :: es) kws pos) (dCallK n lm sp idx t tk) := by
  subst hlm
  obtain ⟨f, fd, ps, F, hm, hkp, hb⟩ := c.ex
  refine ⟨fun pins s σ H Q I h => ?_⟩
  refine wpAny_Call_Name_kw (ld_glob I hg hm ?_ hdb)
  refine PySem.W.callWith_KW (h₀ := X.base) I.ok.mod.kin hkp hall (thn (ha.run pos pins s σ H _ I (em_callK h)) fun us s1 ⟨vs, H1, I1, r, q⟩ => ?_) hpl he
  refine thn (hkw.run pos pins s1 σ H1 _ I1 q) fun ws s2 ⟨zs, H2, I2, rz, l, q2⟩ => ⟨I2.kIn, ?_⟩
  rw [hks]
  exact run_fndK F (hr.mono hk) hb I2 r rz l.1 l.2 q2
theorem de_callK0 {lm : Nat} (c : CalK X.prog X.w X.K X.mg X.base k x sp 0 ks idx) (hr : RoomG j X.A) (hk : k ≤ j) (hg : Gl X x) (hkw : DKw X kws tk)
    (hall : (backToKw pos (keywordEach kws X.env)).all (·.1.isSome) = true := by rfl) (hks : (backToKw pos (keywordEach kws X.env)).filterMap (·.1) = ks := by rfl)
    (hdb : (x == ("__debug__" : Str)) = false := by decide)
    (hpl : ((backTo pos (starEach [] X.env)).any (·.1) || (backToKw pos (keywordEach kws X.env)).any (·.1.isNone)) = false := by rfl) (hlm : ks.length = lm := by rfl) : DE X (.Call (.Name x p) [] kws pos) (dCallK 0 lm sp idx dNil tk) := by
  subst hlm
  obtain ⟨f, fd, ps, F, hm, hkp, hb⟩ := c.ex
  refine ⟨fun pins s σ H Q I h => ?_⟩
  refine wpAny_Call_Name_kw (ld_glob I hg hm ?_ hdb)
  refine PySem.W.callWith_KW0 (h₀ := X.base) I.ok.mod.kin hkp hall ?_ hpl
  refine thn (hkw.run pos pins s σ H _ I (emA_nil (em_callK h))) fun ws s2 ⟨zs, H2, I2, rz, l, q2⟩ => ⟨I2.kIn, ?_⟩
  rw [hks]
  exact run_fndK (us := []) (vs := []) F (hr.mono hk) hb I2 .nil rz rfl l.2 q2
end
end QL
end L2
/-! len(x) by an own __len__ -/
namespace L2
namespace QL
open PySem PySem.Spec PyProof.Rows
open MeetsSeq MeetsSeq2 MeetsSeq3 SeqRoads2
def dLenO (C : Addr) (sp : SpD) (to : TD) : TD := fun e S Q => to e S fun o S1 => match o with
  | .loc a => match S1 a with
    | some (.ins C' fs) => C' = C ∧ sp [.loc a] S1 fun d S2 => match d with
      | .int i => (0 ≤ i ∧ i < 2 ^ 63) ∧ Q (.int i) S2
      | _ => False
    | _ => False
  | _ => False
section
variable {X : Cx} {k j : Nat} {f C : Addr} {fd : FuncData} {ps : List Str} {sp : SpD} {p pos : Pos} {a : Expr} {ta : TD}
theorem call_lenO (me : Meth X.K C "__len__" f) (F : FnD X.prog X.w X.K X.mg X.base k f fd ps sp) (hb : Binds X.K fd ps []) (hr : RoomG (k + 1) X.A) :
    CallR X (.builtin "len") (fun xs H Q => ∃ a dx fs, xs = [.ref a] ∧ H a = some (.ins C dx fs) ∧ emSp X.K sp [.ref a] H (fun v H' => ∃ i : Int, v = .int i ∧ (0 ≤ i ∧ i < 2 ^ 63) ∧ Q (.int i) H')) := by
  intro pins s σ H xs us Q I r h
  obtain ⟨a, dx, fs, rfl, ea, h⟩ := h
  obtain ⟨u, rfl, rx⟩ := vals1 r
  obtain rfl : u = Value.ref a := rx
  obtain ⟨mA, J, _⟩ := ins_get I.hok ea
  obtain ⟨od, J, _⟩ := J.look
  have hr1 : RoomG k X.A.in1 := ⟨hr.rm.in1, hr.gd⟩
  have e0 : Env0 X.prog X.w X.K X.mg X.base X.A.in1 X.stack s H := by
    have e := I.env0
    exact ⟨e.frames, e.mod, e.bs, e.bsz, e.funs, e.frf, e.hok, e.bare⟩
  have hl := emSp.len F h
  have run : wpAny (model X.prog X.w) X.A.in1 (call (.ref f) [.ref a]) (EP X pins σ fun v H' => ∃ i : Int, v = .int i ∧ (0 ≤ i ∧ i < 2 ^ 63) ∧ Q (.int i) H') X.xe s := by
    refine wpAny_call (codeAny_mono (F.run X.A.in1 X.stack s H ⟨[.ref a], []⟩ [.ref a] [.ref a] _ hr1 e0 (by
      have := hb s [.ref a] I.kIn (by simpa using hl)
      simpa using this) (.cons rfl .nil) h) fun r s' hq => ?_)
    rcases r with _ | (_ | _ | _ | u)
    · exact hq.elim
    · exact False.elim hq
    · exact False.elim hq
    · exact False.elim hq
    · exact I.after hq
  refine Calls.call_function_entry kind_len plain_len entry_len (args_len1 _) ?_
  unfold Builtin.«len»
  refine wpAny_bind (m := oneArg "len" _) (wpAny_pure ?_)
  refine wpAny_bind (m := callSpecial? (.ref a) (Str.ofString "__len__")) (PySem.W.special_fn I.kIn J me.at_ (beq_iff_eq.mp me.fn) (wpAny_mono run (fun r s' hr => ?_) fun _ _ y => y))
  obtain ⟨v, H', I', rv, i, rfl, hi, q⟩ := hr
  obtain ⟨t, rfl⟩ := rv
  refine wpAny_bind (wpAny_holding (wpAny_pure ?_))
  refine wpAny_bind (wpAny_letGo ?_)
  show wpAny _ _ (if i < 0 then _ else _) _ _ _
  rw [if_neg (by omega)]
  show wpAny _ _ (if i ≥ 2 ^ 63 then _ else _) _ _ _
  rw [if_neg (by omega)]
  exact wpAny_bind (wpAny_mkInt (wpAny_pure ⟨_, rfl, .int i, H', I'.tok _, ⟨_, rfl⟩, q⟩))
theorem de_lenO (c : MetD X.prog X.w X.K X.mg X.base k C "__len__" sp []) (hr : RoomG j X.A) (hk : k + 1 ≤ j) (hg : Gl X "len") (hm : X.mg "len" = none) (ha : DE X a ta)
    (he : starEach (a :: []) X.env = (false, eval a X.env) :: starEach [] X.env := by rfl) : DE X (.Call (.Name "len" p) [a] [] pos) (dLenO C sp ta) := by
  obtain ⟨f, fd, ps, ds, dvs, cl, me, F, hb, hd, hD⟩ := c.ex
  have hdv : dvs = [] := by
    have := (hD (fun _ => none)).length
    exact List.length_eq_zero_iff.mp (by simpa using this.symm)
  subst hdv
  cases hd
  refine PE.le ((c1_b (p := p) (pos := pos) (call_lenO me F hb (hr.mono hk)) hg hm PySem.boot_len (he := he)).to _ ha) fun σ H Q h => ?_
  obtain ⟨e, S, Q0, re, rs, h1, k⟩ := h
  refine ⟨e, S, _, re, rs, h1, fun d S1 v H1 q p rs1 r => ?_⟩
  cases r with
  | loc a =>
    dsimp only at q
    split at q
    · rename_i C' fs ex
      obtain ⟨rfl, q⟩ := q
      obtain ⟨dx, fq, e2, fr⟩ := rs1 _ _ ex
      refine ⟨a, dx, fq, rfl, e2, [.loc a], S1, _, .cons (.loc a) .nil, rs1, q, fun d2 S2 v2 H2 q2 p2 rs2 r2 => ?_⟩
      cases d2 with
      | int i =>
        cases r2
        exact ⟨i, rfl, q2.1, k _ S2 _ H2 q2.2 (p.trans p2) rs2 (.int i)⟩
      | _ => exact q2.elim
    · exact q.elim
  | _ => exact q.elim
end
end QL
end L2
/-! dicts: displays, copies, get, d[k] = v, walks and comprehensions over items -/
namespace L2
namespace QL
open PySem PySem.Spec PyProof.Rows
def keyD : D → Option Key
  | .int i => some (.inl i)
  | .str x => some (.inr x)
  | _ => none
def dKey : Key → D
  | .inl i => .int i
  | .inr x => .str x
def valD (kvs : List (Key × D)) (k : Key) : Option D := (kvs.find? fun kv => decide (kv.1 = k)).map (·.2)
def putD (kvs : List (Key × D)) (k : Key) (v : D) : List (Key × D) :=
  if (kvs.any fun kv => decide (kv.1 = k)) = true then kvs.map fun kv => if kv.1 = k then (kv.1, v) else kv else kvs ++ [(k, v)]
def mergeD (kvs more : List (Key × D)) : List (Key × D) := more.foldl (fun acc kv => putD acc kv.1 kv.2) kvs
theorem rep_key {K : PySem.W.Frag} {H : Hp} {d : D} {v : V} {k : Key} (r : Rep K H d v) (e : keyD d = some k) : v = kV k := by
  cases r <;> cases e <;> rfl
theorem key_rep {K : PySem.W.Frag} {H : Hp} (k : Key) : Rep K H (dKey k) (kV k) := by
  cases k
  · exact .int _
  · exact .str _
section
variable {K : PySem.W.Frag} {H : Hp}
def RepO (K : PySem.W.Frag) (H : Hp) : Option D → Option V → Prop
  | none, none => True
  | some d, some v => Rep K H d v
  | _, _ => False
theorem KVR.val : ∀ {x : List (Key × D)} {y : List (Key × V)} (k : Key), KVR K H x y → RepO K H (valD x k) (valV y k)
  | _, _, k, .nil => trivial
  | (a, d) :: x, (b, v) :: y, k, .cons h t => by
    obtain ⟨e, r⟩ := h
    have e : a = b := e
    subst e
    have ih := KVR.val (x := x) (y := y) k t
    by_cases hk : a = k
    · have e1 : valD ((a, d) :: x) k = some d := by simp [valD, List.find?_cons, hk]
      have e2 : valV ((a, v) :: y) k = some v := valV_pos hk
      rw [e1, e2]; exact r
    · have e1 : valD ((a, d) :: x) k = valD x k := by simp [valD, List.find?_cons, hk]
      have e2 : valV ((a, v) :: y) k = valV y k := valV_neg hk
      rw [e1, e2]; exact ih
theorem KVR.any : ∀ {x : List (Key × D)} {y : List (Key × V)} (k : Key), KVR K H x y → (x.any fun kv => decide (kv.1 = k)) = (y.any fun kv => decide (kv.1 = k))
  | _, _, k, .nil => rfl
  | (a, d) :: x, (b, v) :: y, k, .cons h t => by
    have e : a = b := h.1
    subst e
    rw [List.any_cons, List.any_cons, KVR.any (x := x) (y := y) k t]
theorem KVR.rep {d : D} {v : V} (r : Rep K H d v) : ∀ {x : List (Key × D)} {y : List (Key × V)} (k : Key), KVR K H x y → KVR K H (x.map fun kv => if kv.1 = k then (kv.1, d) else kv) (y.map fun kv => if kv.1 = k then (kv.1, v) else kv)
  | _, _, k, .nil => .nil
  | (a, d0) :: x, (b, v0) :: y, k, .cons h t => by
    obtain ⟨e, r0⟩ := h
    have e : a = b := e
    subst e
    refine .cons ?_ (KVR.rep r (x := x) (y := y) k t)
    by_cases hk : a = k
    · simp only [hk, if_true]; exact ⟨trivial, r⟩
    · simp only [hk, if_false]; exact ⟨trivial, r0⟩
theorem KVR.app {x x2 : List (Key × D)} {y y2 : List (Key × V)} (h : KVR K H x y) (h2 : KVR K H x2 y2) : KVR K H (x ++ x2) (y ++ y2) := by
  induction h with
  | nil => exact h2
  | cons a b ih => exact .cons a ih
theorem KVR.put {d : D} {v : V} {x : List (Key × D)} {y : List (Key × V)} (k : Key) (r : Rep K H d v) (h : KVR K H x y) : KVR K H (putD x k d) (putK y k v) := by
  unfold putD putK
  rw [h.any k]
  split
  · exact h.rep r k
  · exact h.app (.cons ⟨rfl, r⟩ .nil)
theorem KVR.merge : ∀ {m : List (Key × D)} {n : List (Key × V)}, KVR K H m n → ∀ {x : List (Key × D)} {y : List (Key × V)}, KVR K H x y → KVR K H (mergeD x m) (mergeK y n)
  | _, _, .nil, _, _, h => h
  | (a, d) :: m, (b, v) :: n, .cons h t, x, y, hx => by
    obtain ⟨e, r⟩ := h
    have e : a = b := e
    subst e
    exact KVR.merge (m := m) (n := n) t (KVR.put a r hx)
theorem KVR.length {x : List (Key × D)} {y : List (Key × V)} (h : KVR K H x y) : x.length = y.length := by
  induction h with
  | nil => rfl
  | cons a b ih => simp [ih]
theorem KVR.get {x : List (Key × D)} {y : List (Key × V)} (h : KVR K H x y) : ∀ {i : Nat} {k : Key} {d : D}, x[i]? = some (k, d) → ∃ v, y[i]? = some (k, v) ∧ Rep K H d v := by
  induction h with
  | nil => intro i k d e; simp at e
  | cons a b ih =>
    intro i k d e
    cases i with
    | zero =>
      simp at e
      subst e
      rename_i u _ _
      obtain ⟨e1, r⟩ := a
      refine ⟨u.2, ?_, r⟩
      simp at e1
      simp [e1]
    | succ i => exact ih (by simpa using e)
end

/-! displays -/
def dPairs : List (TD × TD) → DEnv → Sto → (List (D × D) → Sto → Prop) → Prop
  | [], _, S, Q => Q [] S
  | (tk, tv) :: r, e, S, Q => tk e S fun x S1 => tv e S1 fun y S2 => dPairs r e S2 fun ps S3 => Q ((x, y) :: ps) S3
def keysD : List (D × D) → Option (List (Key × D))
  | [] => some []
  | (x, y) :: r => match keyD x, keysD r with
    | some k, some ks => some ((k, y) :: ks)
    | _, _ => none
def dDisp (ts : List (TD × TD)) : TD := fun e S Q => dPairs ts e S fun ps S1 => match keysD ps with
  | some kvs => ∀ a, S1 a = none → Q (.loc a) (S1.put a (.dic (mergeD [] kvs)))
  | none => False
def PRs (K : PySem.W.Frag) (H : Hp) (x : List (D × D)) (y : List (V × V)) : Prop := Paired (fun (a : D × D) (b : V × V) => Rep K H a.1 b.1 ∧ Rep K H a.2 b.2) x y
theorem PRs.kvr {K : PySem.W.Frag} {H : Hp} : ∀ {x : List (D × D)} {y : List (V × V)} {kvs : List (Key × D)}, PRs K H x y → keysD x = some kvs → ∃ q, KVR K H kvs q ∧ y = q.map (fun kv => (kV kv.1, kv.2))
  | _, _, kvs, .nil, e => by cases e; exact ⟨[], .nil, rfl⟩
  | (a, b) :: x, (c, d) :: y, kvs, .cons h t, e => by
    unfold keysD at e
    cases e1 : keyD a with
    | none => rw [e1] at e; cases e
    | some k =>
      cases e2 : keysD x with
      | none => rw [e1, e2] at e; cases e
      | some ks =>
        rw [e1, e2] at e; cases e
        obtain ⟨q, q1, q2⟩ := PRs.kvr (x := x) (y := y) t e2
        refine ⟨(k, d) :: q, .cons ⟨rfl, h.2⟩ q1, ?_⟩
        rw [List.map_cons, ← q2]
        have : c = kV k := rep_key h.1 e1
        rw [this]
theorem KVR.len {K : PySem.W.Frag} {H : Hp} {x : List (D × D)} {y : List (V × V)} (h : PRs K H x y) : x.length = y.length := by
  induction h with
  | nil => rfl
  | cons a b ih => simp [ih]
theorem em_pairs {K : PySem.W.Frag} : ∀ {ts : List (TD × TD)} {e : DEnv} {S : Sto} {H : Hp} {σ : St} {Q0 : List (D × D) → Sto → Prop} {Q : List (V × V) → Hp → Prop}, RelE K H e σ → RelS K S H → dPairs ts e S Q0 →
    (∀ ps S' vs H', Q0 ps S' → Post K S H S' H' → RelS K S' H' → PRs K H' ps vs → ps.length = ts.length → Q vs H') → tPairs (ts.map fun t => (emE K t.1, emE K t.2)) σ H Q
  | [], e, S, H, σ, Q0, Q, re, rs, h, k => k [] S [] H h Post.refl rs .nil rfl
  | (tk, tv) :: r, e, S, H, σ, Q0, Q, re, rs, h, k => by
    refine ⟨e, S, _, re, rs, h, fun x S1 v1 H1 h1 p1 rs1 r1 => ?_⟩
    refine ⟨e, S1, _, re.mono p1.tk, rs1, h1, fun y S2 v2 H2 h2 p2 rs2 r2 => ?_⟩
    refine em_pairs (re.mono (p1.trans p2).tk) rs2 h2 fun ps S3 vs H3 q p3 rs3 r3 hl => ?_
    exact k _ S3 _ H3 q ((p1.trans p2).trans p3) rs3 (.cons ⟨r1.mono (p2.trans p3).tk, r2.mono p3.tk⟩ r3) (by simp [hl])
theorem new_dic {K : PySem.W.Frag} {S : Sto} {H : Hp} {p : Addr} {x : List (Key × D)} {q : List (Key × V)} (rs : RelS K S H) (f : Free (H p)) (r : KVR K H x q) : RelS K (S.put p (.dic x)) (upd H p (.dK q)) :=
  rs.put f ⟨q, upd_same, r.mono (TK.upd f)⟩
section
variable {X : Cx} {pos : Pos}
abbrev DPs (X : Cx) (pos : Pos) (ks : List (Option Expr)) (vs : List Expr) (ts : List (TD × TD)) : Prop := PPs X pos ks vs (ts.map fun t => (emE X.K t.1, emE X.K t.2))
theorem dps_nil : DPs X pos [] [] [] := pps_nil
theorem dps_cons {k v : Expr} {ks : List (Option Expr)} {vs : List Expr} {tk tv : TD} {ts : List (TD × TD)} (hk : DE X k tk) (hv : DE X v tv) (hr : DPs X pos ks vs ts) : DPs X pos (some k :: ks) (v :: vs) ((tk, tv) :: ts) := pps_cons hk hv hr
theorem de_disp {ks : List (Option Expr)} {vs : List Expr} {ts : List (TD × TD)} (h : DPs X pos ks vs ts) (ht : ts.length ≤ 15) (hall : ks.all (·.isSome) = true) (hl : ks.length = vs.length) (h0 : ks ≠ []) (h15 : ks.length ≤ 15) : DE X (.Dict ks vs pos) (dDisp ts) :=
  PE.le (pe_disp h hall hl h0 h15) fun σ H Q h => by
    obtain ⟨e, S, Q0, re, rs, h1, k⟩ := h
    intro p hp
    have f : Free (H p) := by rw [hp]; trivial
    have nS := rs.none_of hp
    refine em_pairs (re.mono (TK.upd f)) (rs.upd f nS) h1 fun ps S' vs H' q pp rs' r hl => ?_
    split at q
    · rename_i kvs ek
      have hH := pp.frame p _ nS upd_same
      have nS' := pp.dom p nS (by rw [upd_same]; simp)
      obtain ⟨qv, kv, ev⟩ := r.kvr ek
      have f' : Free (H' p) := by rw [hH]; trivial
      refine ⟨hH, qv, ev, ?_, ?_⟩
      · have := KVR.len r
        rw [ev, List.length_map] at this
        omega
      · have pl : Post X.K S H S (upd H p (.dK [])) := Post.lay hp
        refine k _ _ _ _ (q p nS') ?_ (new_dic rs' f' (KVR.merge kv .nil)) (.loc p)
        have p2 := pl.trans pp
        refine ⟨p2.tk.trans (TK.upd f'), fun x u n ex => by rw [upd_ne (ne_of_none ex hp)]; exact p2.frame x u n ex, fun x n ex => ?_⟩
        rw [put_ne (fun z => ex (by rw [z]; exact hp))]
        exact p2.dom x n ex
    · exact q.elim
def dDisp0 : TD := fun _ S Q => ∀ a, S a = none → Q (.loc a) (S.put a (.dic []))
theorem de_disp0 : DE X (.Dict [] [] pos) dDisp0 := PE.le pe_dnewK fun σ H Q h => by
  obtain ⟨e, S, Q0, re, rs, h1, k⟩ := h
  intro p hp
  have f : Free (H p) := by rw [hp]; trivial
  exact k _ _ _ _ (h1 p (rs.none_of hp)) (Post.new hp) (new_dic rs f .nil) (.loc p)

/-! dict(d) -/
def dDictC (t : TD) : TD := fun e S Q => t e S fun x S1 => match x with
  | .loc d => match S1 d with
    | some (.dic kvs) => ∀ a, S1 a = none → Q (.loc a) (S1.put a (.dic kvs))
    | _ => False
  | _ => False
theorem de_dictC {x : Expr} {t : TD} {p : Pos} (hg : Gl X "dict") (hm : X.mg "dict" = none) (ha : DE X x t) (he : starEach (x :: []) X.env = (false, eval x X.env) :: starEach [] X.env := by rfl) : DE X (.Call (.Name "dict" p) [x] [] pos) (dDictC t) :=
  PE.le (pe_callTy (he := he) (hpl := by rfl) call_dictD hg hm (by decide +kernel) (pa_cons ha pa_nil he)) fun σ H Q h => by
    obtain ⟨e, S, Q0, re, rs, h1, k⟩ := h
    refine ⟨e, S, _, re, rs, h1, fun d S1 v H1 q p rs1 r => ?_⟩
    cases r with
    | loc d =>
      dsimp only at q
      split at q
      · rename_i kvs e1
        obtain ⟨qv, a1, b1⟩ := rs1 _ _ e1
        refine ⟨d, qv, rfl, .inl a1, fun p' hp => ?_⟩
        have f : Free (H1 p') := by rw [hp]; trivial
        exact k _ _ _ _ (q p' (rs1.none_of hp)) (p.trans (Post.new hp)) (new_dic rs1 f b1) (.loc p')
      · exact q.elim
    | _ => exact q.elim

/-! d.get(k, x) -/
def dGet2 (to ti tx : TD) : TD := fun e S Q => to e S fun o S1 => match o with
  | .loc d => match S1 d with
    | some (.dic _) => ti e S1 fun y S2 => tx e S2 fun z S3 => match S3 d, keyD y with
      | some (.dic kvs), some k => Q ((valD kvs k).getD z) S3
      | _, _ => False
    | _ => False
  | _ => False
theorem de_get2 {o a b : Expr} {to ti tx : TD} {apos cpos : Pos} (hu : X.A.units + 1 < cLine) (ho : DE X o to) (ha : DE X a ti) (hb : DE X b tx) (m : M2 X o "get" apos a b cpos) : DE X (.Call (.Attribute o "get" apos) [a, b] [] cpos) (dGet2 to ti tx) :=
  PE.le (pe_dget2 hu ho ha hb m) fun σ H Q h => by
    obtain ⟨e, S, Q0, re, rs, h1, k⟩ := h
    refine ⟨e, S, _, re, rs, h1, fun d S1 v H1 q p rs1 r => ?_⟩
    cases r with
    | loc d =>
      dsimp only at q
      split at q
      · rename_i kv0 e0
        obtain ⟨q0, a0, b0⟩ := rs1 _ _ e0
        refine ⟨d, rfl, .inl ⟨q0, .inl a0⟩, e, S1, _, re.mono p.tk, rs1, q, fun y S2 v2 H2 h2 p2 rs2 r2 => ?_⟩
        refine ⟨e, S2, _, re.mono (p.trans p2).tk, rs2, h2, fun z S3 v3 H3 h3 p3 rs3 r3 => ?_⟩
        split at h3
        · rename_i kvs kk e1 e2
          obtain ⟨qv, a1, b1⟩ := rs3 _ _ e1
          obtain rfl := rep_key r2 e2
          refine ⟨_, DGet.k a1, k _ S3 _ H3 h3 ((p.trans p2).trans p3) rs3 ?_⟩
          have rv := KVR.val kk b1
          cases ed : valD kvs kk with
          | none =>
            cases ev : valV qv kk with
            | none => exact r3
            | some w => rw [ed, ev] at rv; exact rv.elim
          | some dd =>
            cases ev : valV qv kk with
            | none => rw [ed, ev] at rv; exact rv.elim
            | some w => rw [ed, ev] at rv; exact rv
        · exact h3.elim
      · exact q.elim
    | _ => exact q.elim
/-! d[k] -/
def dGetK (to ti : TD) : TD := fun e S Q => to e S fun o S1 => ti e S1 fun y S2 => match o with
  | .loc d => match S2 d, keyD y with
    | some (.dic kvs), some k => match valD kvs k with
      | some z => Q z S2
      | none => False
    | _, _ => False
  | _ => False
theorem de_getK {o a : Expr} {to ti : TD} (hu : X.A.units + 1 < cLine) (ho : DE X o to) (ha : DE X a ti) (hs : NoSl a) : DE X (.Subscript o a pos) (dGetK to ti) :=
  PE.le (pe_dget hu ho ha hs) fun σ H Q h => by
    obtain ⟨e, S, Q0, re, rs, h1, k⟩ := h
    refine ⟨e, S, _, re, rs, h1, fun d S1 v H1 q p rs1 r => ?_⟩
    refine ⟨e, S1, _, re.mono p.tk, rs1, q, fun y S2 v2 H2 h2 p2 rs2 r2 => ?_⟩
    cases r with
    | loc d =>
      dsimp only at h2
      split at h2
      · rename_i kvs kk e1 e2
        obtain ⟨qv, a1, b1⟩ := rs2 _ _ e1
        obtain rfl := rep_key r2 e2
        have rv := KVR.val kk b1
        split at h2
        · rename_i z ez
          rw [ez] at rv
          cases ev : valV qv kk with
          | none => rw [ev] at rv; exact rv.elim
          | some w => rw [ev] at rv; exact ⟨d, w, rfl, by rw [← ev]; exact DGet.k a1, k _ S2 _ H2 h2 (p.trans p2) rs2 rv⟩
        · exact h2.elim
      · exact h2.elim
    | _ => exact h2.elim

/-! d[k] = v -/
def dSubK (te to ti : TD) : TSD := fun D0 e S => te e S fun v S1 => to e S1 fun o S2 => ti e S2 fun i S3 => match o with
  | .loc d => match S3 d, keyD i with
    | some (.dic kvs), some k => kvs.length < sizeLine ∧ D0.nx e (S3.put d (.dic (putD kvs k v)))
    | _, _ => False
  | _ => False
theorem ds_subK {o i v : Expr} {to ti te : TD} {pos' : Pos} (hu : X.A.units + 1 < cLine) (he : DE X v te) (ho : DE X o to) (hi : DE X i ti) (hs : swapsWith v (some (.Subscript o i pos')) pos.line X.env = pure false := by rfl) :
    DS X (.Assign [.Subscript o i pos'] v pos) (dSubK te to ti) :=
  PS.le (ps_dput hu ho hi he hs) fun D1 σ H h => by
    obtain ⟨e, S, D0, re, rs, ht, k⟩ := h
    refine ⟨e, S, _, re, rs, ht, fun d S1 v H1 h1 p1 rs1 r1 => ?_⟩
    refine ⟨e, S1, _, re.mono p1.tk, rs1, h1, fun od S2 ov H2 h2 p2 rs2 r2 => ?_⟩
    refine ⟨e, S2, _, re.mono (p1.trans p2).tk, rs2, h2, fun id S3 iv H3 h3 p3 rs3 r3 => ?_⟩
    have pp := (p1.trans p2).trans p3
    cases r2 with
    | loc q =>
      dsimp only at h3
      split at h3
      · rename_i kvs kk e1 e2
        obtain ⟨qv, a1, b1⟩ := rs3 _ _ e1
        obtain rfl := rep_key r3 e2
        have f : Free (H3 q) := by rw [a1]; trivial
        have rd := r1.mono (p2.trans p3).tk
        refine ⟨q, _, rfl, DPut.k a1 (by rw [← KVR.length b1]; exact h3.1), ?_⟩
        exact k.nx e _ σ _ h3.2 (pp.trans (Post.write rs3 e1)) ((re.mono pp.tk).mono (TK.upd f)) (rs3.cell e1 ⟨_, upd_same, (KVR.put kk rd b1).mono (TK.upd f)⟩)
      · exact h3.elim
    | _ => exact h3.elim
end
end QL
end L2
/-! walks over the items of a dict -/
namespace L2
namespace QL
open PySem PySem.Spec PyProof.Rows
def delS (S : Sto) (d : Addr) : Sto := fun a => if a = d then none else S a
theorem delS_eq {S : Sto} {d : Addr} : delS S d d = none := if_pos rfl
theorem delS_ne {S : Sto} {d a : Addr} (h : a ≠ d) : delS S d a = S a := if_neg h
def kvD (kv : Key × D) : D := .tup [dKey kv.1, kv.2]
theorem TK.updF {K : PySem.W.Frag} {H : Hp} {p : Addr} {o : HO} (n1 : ∀ u, H p ≠ some (.tup u)) (n2 : ∀ o u, H p ≠ some (.frz o (.tup u))) (n3 : ∀ o u, H p ≠ some (.frz o (.lst u))) : TK K H (L2.upd H p o) := by
  constructor
  · intro a xs h
    rcases h with h | h
    · left
      rcases h with h | ⟨o', h⟩
      · exact .inl (by rw [upd_ne (fun z => n1 _ (z ▸ h))]; exact h)
      · exact .inr ⟨o', by rw [upd_ne (fun z => n2 _ _ (z ▸ h))]; exact h⟩
    · exact .inr h
  · intro a xs h
    rcases h with ⟨o', h⟩ | h
    · exact .inl ⟨o', by rw [upd_ne (fun z => n3 _ _ (z ▸ h))]; exact h⟩
    · exact .inr h
theorem CellAt.updT {K : PySem.W.Frag} {H : Hp} {p a : Addr} {o : HO} {c : Cell} (tk : TK K H (L2.upd H p o)) (ne : a ≠ p) (h : CellAt K H a c) : CellAt K (L2.upd H p o) a c := by
  cases c with
  | lst ds => obtain ⟨vs, h1, h2⟩ := h; exact ⟨vs, by rw [upd_ne ne]; exact h1, h2.mono tk⟩
  | dic kvs => obtain ⟨q, h1, h2⟩ := h; exact ⟨q, by rw [upd_ne ne]; exact h1, h2.mono tk⟩
  | ins C fs => obtain ⟨dx, q, h1, h2⟩ := h; exact ⟨dx, q, by rw [upd_ne ne]; exact h1, h2.mono tk⟩
theorem lockS {K : PySem.W.Frag} {S : Sto} {H : Hp} {d : Addr} {o : HO} (rs : RelS K S H) (f : Free (H d)) : RelS K (delS S d) (upd H d o) := fun a c e => by
  by_cases ha : a = d
  · subst ha; rw [delS_eq] at e; cases e
  · rw [delS_ne ha] at e
    exact (rs a c e).upd f ha
theorem unlockS {K : PySem.W.Frag} {S S' : Sto} {H H' : Hp} {d : Addr} {od : Obj} {kvs : List (Key × D)} {q : List (Key × V)} (e2 : S d = some (.dic kvs)) (a1 : H d = some (.dK q)) (b1 : KVR K H kvs q)
    (p : Post K (delS S d) (upd H d (.frz od (.dK q))) S' H') (rs' : RelS K S' H') :
    H' d = some (.frz od (.dK q)) ∧ Post K S H (S'.put d (.dic kvs)) (upd H' d (.dK q)) ∧ RelS K (S'.put d (.dic kvs)) (upd H' d (.dK q)) ∧ TK K H' (upd H' d (.dK q)) := by
  have hd : H' d = some (.frz od (.dK q)) := p.frame d _ delS_eq upd_same
  have tk : TK K H' (upd H' d (.dK q)) := TK.updF (H := H') (p := d) (fun u => by rw [hd]; simp) (fun o u => by rw [hd]; simp) (fun o u => by rw [hd]; simp)
  have f : Free (H d) := by rw [a1]; trivial
  have tk0 : TK K H (upd H' d (.dK q)) := ((TK.upd f).trans p.tk).trans tk
  refine ⟨hd, ⟨tk0, fun a o n e => ?_, fun a n e => ?_⟩, fun a c e => ?_, tk⟩
  · have ne : a ≠ d := fun z => by rw [z, e2] at n; cases n
    rw [upd_ne ne]
    exact p.frame a o (by rw [delS_ne ne]; exact n) (by rw [upd_ne ne]; exact e)
  · have ne : a ≠ d := fun z => by rw [z, e2] at n; cases n
    rw [put_ne ne]
    exact p.dom a (by rw [delS_ne ne]; exact n) (by rw [upd_ne ne]; exact e)
  · by_cases ha : a = d
    · subst ha; rw [put_eq] at e; cases e
      exact ⟨q, upd_same, b1.mono tk0⟩
    · rw [put_ne ha] at e
      exact (rs' a c e).updT tk ha
def dForItems (i : Nat) (t : Tgt) (tb : TSD) : TSD := fun D0 e S => match e[i]? with
  | some (some (.loc d)) => match S d with
    | some (.dic kvs) => forRun t tb (fun _ => True) { nx := fun e' S' => D0.nx e' (S'.put d (.dic kvs)), rt := fun v S' => D0.rt v (S'.put d (.dic kvs)), bk := fun e' S' => D0.bk e' (S'.put d (.dic kvs)), ct := fun e' S' => D0.ct e' (S'.put d (.dic kvs)) } (kvs.map kvD) e (delS S d)
    | _ => False
  | _ => False
theorem em_forItems {K : PySem.W.Frag} {i : Nat} {t : Tgt} {tb : TSD} {D1 : Ends} {σ : St} {H : Hp} (h : emS K (dForItems i t tb) D1 σ H) : tLock (tFor (iItems (tVar i)) (gOf K t) (emS K tb)) D1 σ H := by
  obtain ⟨e, S, D0, re, rs, ht, k0⟩ := h
  unfold dForItems at ht
  split at ht
  · rename_i d e1
    split at ht
    · rename_i kvs e2
      obtain ⟨q, a1, b1⟩ := rs _ _ e2
      refine ⟨d, .dK q, a1, trivial, fun od => ?_⟩
      have f : Free (H d) := by rw [a1]; trivial
      have re1 := re.mono (TK.upd (K := K) (o := .frz od (.dK q)) f)
      have rs1 := lockS (o := .frz od (.dK q)) rs f
      obtain ⟨v, ev, rv⟩ := re1.get e1
      cases rv
      obtain ⟨D0', hD0, ht⟩ : ∃ D0' : EndsD, D0' = { nx := fun e' S' => D0.nx e' (S'.put d (.dic kvs)), rt := fun v S' => D0.rt v (S'.put d (.dic kvs)), bk := fun e' S' => D0.bk e' (S'.put d (.dic kvs)), ct := fun e' S' => D0.ct e' (S'.put d (.dic kvs)) } ∧ forRun t tb (fun _ => True) D0' (kvs.map kvD) e (delS S d) := ⟨_, rfl, ht⟩
      have k : EndsOk K (delS S d) (upd H d (.frz od (.dK q))) D0'
          ⟨fun σ' H' => H' d = some (.frz od (.dK q)) ∧ D1.nx σ' (upd H' d (.dK q)), fun v H' => H' d = some (.frz od (.dK q)) ∧ D1.rt v (upd H' d (.dK q)), fun σ' H' => H' d = some (.frz od (.dK q)) ∧ D1.bk σ' (upd H' d (.dK q)), fun σ' H' => H' d = some (.frz od (.dK q)) ∧ D1.ct σ' (upd H' d (.dK q))⟩ := by
        subst hD0
        refine ⟨fun e' S' σ' H' n p re' rs' => ?_, fun d' S' v' H' n p r' rs' => ?_, fun e' S' σ' H' n p re' rs' => ?_, fun e' S' σ' H' n p re' rs' => ?_⟩
        · obtain ⟨x1, x2, x3, x4⟩ := unlockS e2 a1 b1 p rs'
          exact ⟨x1, k0.nx _ _ _ _ n x2 (re'.mono x4) x3⟩
        · obtain ⟨x1, x2, x3, x4⟩ := unlockS e2 a1 b1 p rs'
          exact ⟨x1, k0.rt _ _ _ _ n x2 (r'.mono x4) x3⟩
        · obtain ⟨x1, x2, x3, x4⟩ := unlockS e2 a1 b1 p rs'
          exact ⟨x1, k0.bk _ _ _ _ n x2 (re'.mono x4) x3⟩
        · obtain ⟨x1, x2, x3, x4⟩ := unlockS e2 a1 b1 p rs'
          exact ⟨x1, k0.ct _ _ _ _ n x2 (re'.mono x4) x3⟩
      refine ⟨.ref d, ev, d, od, q, rfl, upd_same, ?_⟩
      generalize hH1 : upd H d (.frz od (.dK q)) = H1 at *
      have hd1 : H1 d = some (.frz od (.dK q)) := by rw [← hH1]; exact upd_same
      have hbl := KVR.length b1
      refine ⟨fun j m σ' H' => ∃ e' S', RelE K H' e' σ' ∧ RelS K S' H' ∧ Post K (delS S d) H1 S' H' ∧ j ≤ q.length ∧ m = q.length - j ∧ forRun t tb (fun _ => True) D0' ((kvs.map kvD).drop j) e' S', ⟨_, e, _, re1, rs1, Post.refl, Nat.zero_le _, rfl, ht⟩, ?_⟩
      rintro j m σ' H' ⟨e', S', re', rs', p', hi, rfl, run⟩
      have hd' : H' d = some (.frz od (.dK q)) := p'.frame d _ delS_eq hd1
      by_cases hl : j = q.length
      · subst hl
        rw [List.drop_eq_nil_of_le (by simp [hbl])] at run
        exact .inl ⟨⟨hd', Nat.le_refl _⟩, k.nx e' S' σ' H' run.2 p' re' rs'⟩
      · have hlt : j < kvs.length := by omega
        obtain ⟨kk, dd, hd⟩ : ∃ kk dd, kvs[j]? = some (kk, dd) := ⟨kvs[j].1, kvs[j].2, by simp [hlt]⟩
        obtain ⟨vv, hv, rv⟩ := KVR.get b1 hd
        have ed : (kvs.map kvD).drop j = kvD (kk, dd) :: (kvs.map kvD).drop (j + 1) := by
          rw [List.drop_eq_getElem_cons (by simpa using hlt)]
          have : (kvs.map kvD)[j]'(by simpa using hlt) = kvD (kk, dd) := by
            rw [List.getElem_map]
            have q2 := List.getElem?_eq_getElem hlt
            rw [hd] at q2
            rw [← Option.some.inj q2]
          rw [this]
        rw [ed] at run
        refine .inr ⟨⟨hd', by omega⟩, fun σ'' H'' => ∃ e'' S'', RelE K H'' e'' σ'' ∧ RelS K S'' H'' ∧ Post K (delS S d) H1 S'' H'' ∧ forRun t tb (fun _ => True) D0' ((kvs.map kvD).drop (j + 1)) e'' S'', ?_, fun x H2 yl => ?_⟩
        · rintro σ'' H'' ⟨e'', S'', a, b, c, f⟩
          exact ⟨q.length - (j + 1), by omega, e'', S'', a, b, c, by omega, rfl, f⟩
        · obtain ⟨T, k', v', hk', rfl, hT, rfl⟩ := yl
          rw [hv] at hk'; cases hk'
          have tk1 : TK K H H1 := by rw [← hH1]; exact TK.upd f
          obtain ⟨p2, rs2, r2⟩ := pair_yld rs' hT (key_rep kk) (rv.mono (tk1.trans p'.tk))
          have run := run.2
          split at run
          · rename_i e2' eb
            refine gOf_ok t _ _ e' e2' σ' _ r2 (re'.mono p2.tk) eb fun σ3 re3 _ => ?_
            refine ⟨e2', S', _, re3, rs2, run, ⟨fun e4 S4 σ4 H4 f p4 re4 rs4 => ?_, fun d4 S4 v4 H4 f p4 r4 rs4 => ?_, fun e4 S4 σ4 H4 f p4 re4 rs4 => ?_, fun e4 S4 σ4 H4 f p4 re4 rs4 => ?_⟩⟩
            · obtain ⟨S5, sb, f⟩ := f
              exact ⟨e4, S5, re4, rs4.sub sb, ((p'.trans p2).trans p4).sub sb, f⟩
            · exact k.rt d4 S4 v4 H4 f ((p'.trans p2).trans p4) r4 rs4
            · exact k.nx e4 S4 σ4 H4 f ((p'.trans p2).trans p4) re4 rs4
            · obtain ⟨S5, sb, f⟩ := f
              exact ⟨e4, S5, re4, rs4.sub sb, ((p'.trans p2).trans p4).sub sb, f⟩
          · exact run.elim
    · exact ht.elim
  · exact ht.elim
theorem ds_forItems {X : Cx} {pos : Pos} {i : Nat} {x : Str} {elts : List Expr} {kk : Nat} {tpos vpos apos cpos : Pos} {body : List Stmt} {t : Tgt} {tb : TSD} (hp : PassesOwn (model X.prog X.w) X.A X.env X.xe) (hc : X.calm = true)
    (hN : X.N[i]? = some x) (hv : Vis X.env.scope x) (hg : PG X (.Tuple elts kk tpos) (gOf X.K t)) (hb : DSs X body tb)
    (hd : (x == ("__debug__" : Str)) = false := by decide) (hcd : (x == ("__classdict__" : Str)) = false := by decide)
    (hbase : attributeBase (.Name x vpos) "items" X.env (eval (.Name x vpos) X.env) = eval (.Name x vpos) X.env := by rfl) (hline : (apos.endLine == cpos.line) = true := by rfl)
    (hs : ∀ z, foldedSetIterable (.Call (.Attribute (.Name x vpos) "items" apos) [] [] cpos) X.env z = pure z := by intro _; rfl) :
    DS X (.For (.Tuple elts kk tpos) (.Call (.Attribute (.Name x vpos) "items" apos) [] [] cpos) body [] pos) (dForItems i t tb) :=
  PS.le (ps_lock (ps_for hp hc (pi_items (pe_var hN hv hd hcd) hbase hline) hg hb hs)) fun _ _ _ h => em_forItems h
/-! {k: v for .. in d.items()} -/
def dcRun (t : Tgt) (tk tv : TD) (e0 : DEnv) (Q : List (Key × D) → Sto → Prop) : List D → List (Key × D) → Sto → Prop
  | [], acc, S => Q acc S
  | x :: r, acc, S => match bT t x e0 with
    | some e' => tk e' S fun y S1 => tv e' S1 fun z S2 => match keyD y with
      | some k => ∃ S3, Sb S3 S2 ∧ dcRun t tk tv e0 Q r (putD acc k z) S3
      | none => False
    | none => False
def dDcItems (i : Nat) (t : Tgt) (tk tv : TD) (vs : List Nat) : TD := fun e S Q => match e[i]? with
  | some (some (.loc d)) => match S d with
    | some (.dic kvs) => kvs.length ≤ sizeLine ∧ dcRun t tk tv (wipeD e vs) (fun acc S' => ∀ a, S' a = none → a ≠ d → Q (.loc a) ((S'.put d (.dic kvs)).put a (.dic acc))) (kvs.map kvD) [] (delS S d)
    | _ => False
  | _ => False
theorem length_putD (kvs : List (Key × D)) (k : Key) (v : D) : (putD kvs k v).length ≤ kvs.length + 1 := by
  unfold putD
  split
  · simp
  · simp
theorem em_dcItems {K : PySem.W.Frag} {i : Nat} {t : Tgt} {tk tv : TD} {vs : List Nat} (hv : t.own vs = true) {σ : St} {H : Hp} {Q : VK} (h : emE K (dDcItems i t tk tv vs) σ H Q) :
    tLockE (tDc (iItems (tVar i)) (gOf K t) (emT K dYes) (emE K tk) (emE K tv) vs) σ H Q := by
  obtain ⟨e, S, Q0, re, rs, ht, k0⟩ := h
  unfold dDcItems at ht
  split at ht
  · rename_i d e1
    split at ht
    · rename_i kvs e2
      obtain ⟨hsz, ht⟩ := ht
      obtain ⟨Qd, hQd, ht⟩ : ∃ Qd : List (Key × D) → Sto → Prop, (∀ acc S', Qd acc S' → ∀ a, S' a = none → a ≠ d → Q0 (.loc a) ((S'.put d (.dic kvs)).put a (.dic acc))) ∧ dcRun t tk tv (wipeD e vs) Qd (kvs.map kvD) [] (delS S d) := ⟨_, fun _ _ h => h, ht⟩
      obtain ⟨q, a1, b1⟩ := rs _ _ e2
      refine ⟨d, .dK q, a1, trivial, fun od => ?_⟩
      have f : Free (H d) := by rw [a1]; trivial
      have re1 := re.mono (TK.upd (K := K) (o := .frz od (.dK q)) f)
      have rs1 := lockS (o := .frz od (.dK q)) rs f
      obtain ⟨v, ev, rv⟩ := re1.get e1
      cases rv
      have k := fun {S' H'} (p : Post K (delS S d) (upd H d (.frz od (.dK q))) S' H') rs' => unlockS (S := S) (H := H) e2 a1 b1 p rs'
      refine ⟨.ref d, ev, d, od, q, rfl, upd_same, fun D hD => ?_⟩
      generalize hH1 : upd H d (.frz od (.dK q)) = H1 at *
      have hd1 : H1 d = some (.frz od (.dK q)) := by rw [← hH1]; exact upd_same
      have hDd : D ≠ d := fun z => by rw [z, hd1] at hD; cases hD
      have nD : delS S d D = none := rs1.none_of hD
      have hbl := KVR.length b1
      refine ⟨fun j m H' => ∃ S' acc us, RelS K S' H' ∧ Post K (delS S d) H1 S' H' ∧ S' D = none ∧ H' D = some (.dK us) ∧ KVR K H' acc us ∧ acc.length ≤ j ∧ j ≤ q.length ∧ m = q.length - j ∧
        dcRun t tk tv (wipeD e vs) Qd ((kvs.map kvD).drop j) acc S',
        ⟨_, delS S d, [], [], rs1.upd (by rw [hD]; trivial) nD, Post.lay hD, nD, upd_same, .nil, Nat.le_refl _, Nat.zero_le _, rfl, ht⟩, ?_⟩
      rintro j m H' ⟨S', acc, us, rs', p', nD', hu, ru, ha, hi, rfl, run⟩
      have hd' : H' d = some (.frz od (.dK q)) := p'.frame d _ delS_eq hd1
      by_cases hl : j = q.length
      · subst hl
        rw [List.drop_eq_nil_of_le (by simp [hbl])] at run
        obtain ⟨x1, x2, x3, x4⟩ := k p' rs'
        refine .inl ⟨⟨hd', Nat.le_refl _⟩, x1, k0 _ _ _ _ (hQd _ _ run D nD' hDd) ⟨x2.tk, x2.frame, fun a n ex => ?_⟩ (fun a c ea => ?_) (.loc D)⟩
        · have ne : a ≠ D := fun z => by
            rw [z] at ex
            rw [← hH1, upd_ne hDd] at hD
            exact ex hD
          rw [put_ne ne]
          exact x2.dom a n ex
        · by_cases hb : a = D
          · subst hb
            rw [put_eq] at ea; cases ea
            exact ⟨us, by rw [upd_ne hDd]; exact hu, ru.mono x4⟩
          · rw [put_ne hb] at ea
            exact x3 a c ea
      · have hlt : j < kvs.length := by omega
        obtain ⟨kk, dd, hd⟩ : ∃ kk dd, kvs[j]? = some (kk, dd) := ⟨kvs[j].1, kvs[j].2, by simp [hlt]⟩
        obtain ⟨vv, hv1, rv⟩ := KVR.get b1 hd
        have ed : (kvs.map kvD).drop j = kvD (kk, dd) :: (kvs.map kvD).drop (j + 1) := by
          rw [List.drop_eq_getElem_cons (by simpa using hlt)]
          have : (kvs.map kvD)[j]'(by simpa using hlt) = kvD (kk, dd) := by
            rw [List.getElem_map]
            have q2 := List.getElem?_eq_getElem hlt
            rw [hd] at q2
            rw [← Option.some.inj q2]
          rw [this]
        rw [ed] at run
        refine .inr ⟨⟨hd', by omega⟩, fun H'' => ∃ S'' acc' us', RelS K S'' H'' ∧ Post K (delS S d) H1 S'' H'' ∧ S'' D = none ∧ H'' D = some (.dK us') ∧ KVR K H'' acc' us' ∧ acc'.length ≤ j + 1 ∧
          dcRun t tk tv (wipeD e vs) Qd ((kvs.map kvD).drop (j + 1)) acc' S'', ?_, fun x H2 yl => ?_⟩
        · rintro H'' ⟨S'', acc', us', b1, b2, b3, b4, b5, b6, b7⟩
          exact ⟨q.length - (j + 1), by omega, S'', acc', us', b1, b2, b3, b4, b5, b6, by omega, rfl, b7⟩
        · obtain ⟨T, k', v', hk', rfl, hT, rfl⟩ := yl
          rw [hv1] at hk'; cases hk'
          have tk1 : TK K H H1 := by rw [← hH1]; exact TK.upd f
          obtain ⟨p2, rs2, r2⟩ := pair_yld rs' hT (key_rep kk) (rv.mono (tk1.trans p'.tk))
          have hu2 := p2.frame D _ nD' hu
          unfold dcRun at run
          split at run
          · rename_i e3 eb
            have rw0 := (re1.mono (p'.trans p2).tk).wipe vs
            refine gOf_ok t _ _ (wipeD e vs) e3 (wipe σ vs) _ r2 rw0 eb fun σ3 re3 o3 => ⟨(o3 vs hv).trans wipe_wipe, ?_⟩
            refine ⟨e3, S', fun b S2 => b = true ∧ S2 = S', re3, rs2, ⟨rfl, rfl⟩, fun b S4 H4 f4 p4 rs4 => ?_⟩
            obtain ⟨rfl, rfl⟩ := f4
            refine iteT ⟨e3, S4, _, re3.mono p4.tk, rs4, run, fun yy S5 v5 H5 f5 p5 rs5 r5 => ?_⟩
            refine ⟨e3, S5, _, re3.mono (p4.trans p5).tk, rs5, f5, fun zz S6 v6 H6 f6 p6 rs6 r6 => ?_⟩
            have nD4 := p4.dom D nD' (by rw [hu2]; simp)
            have hu4 := p4.frame D _ nD' hu2
            have nD5 := p5.dom D nD4 (by rw [hu4]; simp)
            have hu5 := p5.frame D _ nD4 hu4
            have nD6 := p6.dom D nD5 (by rw [hu5]; simp)
            have hu6 := p6.frame D _ nD5 hu5
            split at f6
            · rename_i kk2 ek
              obtain ⟨S7, sb, f7⟩ := f6
              obtain rfl := rep_key r5 ek
              have fr : Free (H6 D) := by rw [hu6]; trivial
              have rl := KVR.length ru
              refine ⟨us, kk2, rfl, hu6, by omega, S7, putD acc kk2 zz, putK us kk2 v6, (rs6.sub sb).upd fr (sb.free nD6), (((((p'.trans p2).trans p4).trans p5).trans p6).inner hD fr).sub sb, sb.free nD6, upd_same, (KVR.put kk2 r6 (ru.mono (((p2.trans p4).trans p5).trans p6).tk)).mono (TK.upd fr), ?_, f7⟩
              have := length_putD acc kk2 zz
              omega
            · exact f6.elim
          · exact run.elim
    · exact ht.elim
  · exact ht.elim
theorem de_dcItems {X : Cx} {pos : Pos} {i : Nat} {x : Str} {elts : List Expr} {kk : Nat} {tpos vpos apos cpos : Pos} {kx vx : Expr} {scope : Scope} {own : List (Str × Nat)} {t : Tgt} {tk tv : TD} (hc : X.calm = true) (hN : X.N.Nodup)
    (hi : X.N[i]? = some x) (hvis : Vis X.env.scope x) (ok : BlkOk X.N X.env.scope scope own) (hv : t.own (own.map (·.2)) = true)
    (hg : ∀ (s : Shared) (H : Hp) (C : Addr) (cl : List (Str × Addr)) (fp : List Addr), PG (X.blk s H scope (compEnvC scope cl C X.env) fp) (.Tuple elts kk tpos) (gOf X.K t))
    (hk : ∀ (s : Shared) (H : Hp) (C : Addr) (cl : List (Str × Addr)) (fp : List Addr), DE (X.blk s H scope (compEnvC scope cl C X.env) fp) kx tk)
    (he : ∀ (s : Shared) (H : Hp) (C : Addr) (cl : List (Str × Addr)) (fp : List Addr), DE (X.blk s H scope (compEnvC scope cl C X.env) fp) vx tv)
    (hd : (x == ("__debug__" : Str)) = false := by decide) (hcd : (x == ("__classdict__" : Str)) = false := by decide)
    (hbase : attributeBase (.Name x vpos) "items" X.env (eval (.Name x vpos) X.env) = eval (.Name x vpos) X.env := by rfl) (hline : (apos.endLine == cpos.line) = true := by rfl)
    (hs : ∀ z, foldedSetIterable (.Call (.Attribute (.Name x vpos) "items" apos) [] [] cpos) X.env z = pure z := by intro _; rfl) :
    DE X (.DictComp kx vx [⟨.Tuple elts kk tpos, .Call (.Attribute (.Name x vpos) "items" apos) [] [] cpos, [], 0⟩] scope pos) (dDcItems i t tk tv (own.map (·.2))) :=
  PE.le (pe_lock (pe_dc (wi := iItems (tVar i)) (tt := emT X.K dYes) (tk := emE X.K tk) (tv := emE X.K tv) hc hN (pi_items (pe_var hi hvis hd hcd) hbase hline) ok hg (fun _ _ _ _ _ => dts_nil) hk he hs)) fun _ _ _ h => em_dcItems hv h
/-! a list, again and again -/
def rdRepL : RD := fun x y S Q => match x, y with
  | .loc p, .int k => match S p with
    | some (.lst xs) => (k < 2 ^ 63 ∧ -(2 ^ 63) ≤ k ∧ xs.length * k.toNat ≤ sizeLine) ∧ ∀ a, S a = none → Q (.loc a) (S.put a (.lst (List.replicate k.toNat xs).flatten))
    | _ => False
  | _, _ => False
theorem od_repL {K : PySem.W.Frag} : OpD K rRep rdRepL := by
  intro d1 d2 S Q0 v1 v2 H Q rs r1 r2 h k
  unfold rdRepL at h
  split at h
  · rename_i p n
    cases r1; cases r2
    split at h
    · rename_i xs e1
      obtain ⟨vs, a1, b1⟩ := rs _ _ e1
      obtain ⟨⟨h0, h1, h2⟩, h⟩ := h
      refine ⟨_, _, vs, rfl, rfl, a1, h1, h0, by rw [← b1.length]; exact h2, fun q hq => ?_⟩
      exact k _ _ _ _ (h q (rs.none_of hq)) (Post.new hq) (new_lst rs hq (b1.rep _)) (.loc q)
    · exact h.elim
  · exact h.elim
theorem de_repL {X : Cx} {a b : Expr} {ta tb : TD} {pos : Pos} (ha : DE X a ta) (hb : DE X b tb) : DE X (.BinOp a .Mult b pos) (dBin rdRepL ta tb) := de_op op_rep od_repL ha hb
end QL
end L2
/-! keywords: making, methods -/
namespace L2
namespace QL
open PySem PySem.Spec PyProof.Rows
section
variable {X : Cx} {k j n : Nat} {f C : Addr} {fd : FuncData} {ps ks : List Str} {sp : SpD} {idx : List (Sum Nat Nat)} {x m : Str} {p pos apos : Pos} {e o : Expr} {es : List Expr} {kws : List Keyword} {t tk : TAD} {to : TD}
theorem run_madeK {pins : List (Addr × Obj)} {σ : St} {H : Hp} {s : Shared} {Q : VK} {us ws : List Value} {vs zs : List V} (M : Mk X.K C f) (F : FnD X.prog X.w X.K X.mg X.base k f fd ps sp) (hr : RoomG (k + 1) X.A) (hb : KwB X.K fd ps (n + 1) ks idx)
    (I : Inv X pins σ H s) (r : Vals vs us) (rz : Vals zs ws) (l1 : vs.length = n) (l2 : zs.length = ks.length)
    (h : ∀ x dx, H x = none → H dx = none → dx ≠ x → emSp X.K sp (pick2 idx (.ref x :: vs) zs) (upd (upd H dx (.own x)) x (.ins C dx [])) fun v H2 => v = .non ∧ Q (.ref x) H2) :
    wpAny (model X.prog X.w) X.A (call (.ref C) us (ks.zip ws)) (EP X pins σ Q) X.xe s := by
  have hq := h (s.heap.objs.size + 1) s.heap.objs.size (I.hok.fresh (Nat.le_succ _)) (I.hok.fresh (Nat.le_refl _)) (Nat.ne_of_lt (Nat.lt_succ_self _))
  have I2 := Inv.made (C := C) I
  have r1 : Vals (V.ref (s.heap.objs.size + 1) :: vs) (Value.ref (s.heap.objs.size + 1) :: us) := .cons rfl r
  have r2 := pick2_rel r1 rz idx
  have n1 : (Value.ref (s.heap.objs.size + 1) :: us).length = n + 1 := by
    rw [List.length_cons, ← r.length, l1]
  refine wpAny_call (make_map (f := f) I.kIn M.makes M.init (beq_iff_eq.mp M.fn) (codeAny_mono (F.run _ X.stack _ _ ⟨Value.ref (s.heap.objs.size + 1) :: us, ks.zip ws⟩ (pick2 idx (Value.ref (s.heap.objs.size + 1) :: us) ws) _ _ (hr.make C us (ks.zip ws))
    (I2.env0.make C us (ks.zip ws)) (hb _ (Value.ref (s.heap.objs.size + 1) :: us) ws I2.kIn n1 (rz.length.symm.trans l2)) r2 hq) fun r s' hq' => ?_))
  rcases r with _ | (_ | _ | _ | u)
  · exact hq'.elim
  · exact False.elim hq'
  · exact False.elim hq'
  · exact False.elim hq'
  · obtain ⟨v, H', I3, rv, ev, q3⟩ := I2.after hq'
    subst ev
    exact ⟨rv, ⟨V.ref (s.heap.objs.size + 1), H', I3, rfl, q3⟩⟩
theorem em_makeK {K : PySem.W.Frag} {m : Nat} {σ : St} {H : Hp} {Q : VK} (h : emE K (dMakeK C n m sp idx t tk) σ H Q) :
    emA K t σ H fun vs H1 => emA K tk σ H1 fun zs H2 => (vs.length = n ∧ zs.length = m) ∧ ∀ x dx, H2 x = none → H2 dx = none → dx ≠ x → emSp K sp (pick2 idx (.ref x :: vs) zs) (upd (upd H2 dx (.own x)) x (.ins C dx [])) fun v H3 => v = .non ∧ Q (.ref x) H3 := by
  obtain ⟨e, S, Q0, re, rs, ht, k⟩ := h
  refine ⟨e, S, _, re, rs, ht, fun ds S1 vs H1 q p rs1 r => ?_⟩
  refine ⟨e, S1, _, re.mono p.tk, rs1, q, fun zs S2 ws H2 q2 p2 rs2 r2 => ?_⟩
  refine ⟨⟨by rw [← r.length]; exact q2.1.1, by rw [← r2.length]; exact q2.1.2⟩, fun x dx hx hdx ne => ?_⟩
  have n1 : S2 x = none := rs2.none_of hx
  have f0 : Free (H2 dx) := by rw [hdx]; trivial
  have hx2 : (upd H2 dx (.own x)) x = none := by rw [upd_ne (Ne.symm ne)]; exact hx
  have f1 : Free ((upd H2 dx (.own x)) x) := by rw [hx2]; trivial
  have rs3 : RelS K S2 (upd H2 dx (.own x)) := rs2.upd f0 (rs2.none_of hdx)
  have p3 : Post K S2 H2 (S2.put x (.ins C [])) (upd (upd H2 dx (.own x)) x (.ins C dx [])) := (Post.lay hdx).trans (Post.new hx2)
  refine ⟨_, S2.put x (.ins C []), _, paired_reps (pick2_rel (reps_paired (.cons (.loc x) (r.mono (p2.trans p3).tk))) (reps_paired (r2.mono p3.tk)) idx), rs3.put f1 ⟨dx, [], upd_same, .nil⟩, q2.2 x n1, fun d S' v H' q' p' rs' r' => ?_⟩
  obtain ⟨rfl, q'⟩ := q'
  cases r'
  exact ⟨rfl, k _ S' _ H' q' ((p.trans p2).trans (p3.trans p')) rs' (.loc x)⟩
theorem de_makeK {lm : Nat} (c : MakK X.prog X.w X.K X.mg X.base k x C sp n ks idx) (hr : RoomG j X.A) (hk : k + 1 ≤ j) (hg : Gl X x) (ha : DA X (e :: es) t) (hkw : DKw X kws tk)
    (hall : (backToKw pos (keywordEach kws X.env)).all (·.1.isSome) = true := by rfl) (hks : (backToKw pos (keywordEach kws X.env)).filterMap (·.1) = ks := by rfl)
    (hdb : (x == ("__debug__" : Str)) = false := by decide) (he : starEach (e :: es) X.env = (false, eval e X.env) :: starEach es X.env := by rfl)
    (hpl : ((backTo pos (starEach (e :: es) X.env)).any (·.1) || (backToKw pos (keywordEach kws X.env)).any (·.1.isNone)) = false := by rfl) (hlm : ks.length = lm := by rfl) : DE X (.Call (.Name x p) (e :: es) kws pos) (dMakeK C n lm sp idx t tk) := by
  subst hlm
  obtain ⟨f, fd, ps, M, F, hm, hb⟩ := c.ex
  refine ⟨fun pins s σ H Q I h => ?_⟩
  refine wpAny_Call_Name_kw (ld_glob I hg hm ?_ hdb)
  refine PySem.W.callWith_KW (h₀ := X.base) I.ok.mod.kin M.kp hall (thn (ha.run pos pins s σ H _ I (em_makeK h)) fun us s1 ⟨vs, H1, I1, r, q⟩ => ?_) hpl he
  refine thn (hkw.run pos pins s1 σ H1 _ I1 q) fun ws s2 ⟨zs, H2, I2, rz, l, q2⟩ => ⟨I2.kIn, ?_⟩
  rw [hks]
  exact run_madeK M F (hr.mono hk) hb I2 r rz l.1 l.2 q2
theorem de_makeK0 {lm : Nat} (c : MakK X.prog X.w X.K X.mg X.base k x C sp 0 ks idx) (hr : RoomG j X.A) (hk : k + 1 ≤ j) (hg : Gl X x) (hkw : DKw X kws tk)
    (hall : (backToKw pos (keywordEach kws X.env)).all (·.1.isSome) = true := by rfl) (hks : (backToKw pos (keywordEach kws X.env)).filterMap (·.1) = ks := by rfl)
    (hdb : (x == ("__debug__" : Str)) = false := by decide)
    (hpl : ((backTo pos (starEach [] X.env)).any (·.1) || (backToKw pos (keywordEach kws X.env)).any (·.1.isNone)) = false := by rfl) (hlm : ks.length = lm := by rfl) : DE X (.Call (.Name x p) [] kws pos) (dMakeK C 0 lm sp idx dNil tk) := by
  subst hlm
  obtain ⟨f, fd, ps, M, F, hm, hb⟩ := c.ex
  refine ⟨fun pins s σ H Q I h => ?_⟩
  refine wpAny_Call_Name_kw (ld_glob I hg hm ?_ hdb)
  refine PySem.W.callWith_KW0 (h₀ := X.base) I.ok.mod.kin M.kp hall ?_ hpl
  refine thn (hkw.run pos pins s σ H _ I (emA_nil (em_makeK h))) fun ws s2 ⟨zs, H2, I2, rz, l, q2⟩ => ⟨I2.kIn, ?_⟩
  rw [hks]
  exact run_madeK (us := []) (vs := []) M F (hr.mono hk) hb I2 .nil rz rfl l.2 q2
/-! o.m(e, .., k = v, ..) -/
def dMethK (C : Addr) (m : Str) (n l : Nat) (sp : SpD) (idx : List (Sum Nat Nat)) (to : TD) (t tk : TAD) : TD := fun e S Q => to e S fun o S1 => match o with
  | .loc a => match S1 a with
    | some (.ins C' fs) => (C' = C ∧ fs.lookup m = none) ∧ t e S1 fun ds S2 => tk e S2 fun zs S3 => (ds.length = n ∧ zs.length = l) ∧ sp (pick2 idx (.loc a :: ds) zs) S3 Q
    | _ => False
  | _ => False
theorem em_methK {K : PySem.W.Frag} {l : Nat} {σ : St} {H : Hp} {Q : VK} (h : emE K (dMethK C m n l sp idx to t tk) σ H Q) :
    emE K to σ H fun x H1 => ∃ a dx fs, x = .ref a ∧ H1 a = some (.ins C dx fs) ∧ fs.lookup m = none ∧ emA K t σ H1 fun vs H2 => emA K tk σ H2 fun zs H3 => (vs.length = n ∧ zs.length = l) ∧ emSp K sp (pick2 idx (.ref a :: vs) zs) H3 Q := by
  obtain ⟨e, S, Q0, re, rs, ht, k⟩ := h
  refine ⟨e, S, _, re, rs, ht, fun d S1 v H1 q p rs1 r => ?_⟩
  cases r with
  | loc a =>
    dsimp only at q
    split at q
    · rename_i C' fs e1
      obtain ⟨⟨rfl, hl⟩, q⟩ := q
      obtain ⟨dx, fq, e2, fr⟩ := rs1 _ _ e1
      refine ⟨a, dx, fq, rfl, e2, ?_, e, S1, _, re.mono p.tk, rs1, q, fun ds S2 vs H2 q2 p2 rs2 r2 => ?_⟩
      · clear e1 e2 q
        induction fr with
        | nil => rfl
        | cons h t ih =>
          rename_i a b _ _
          obtain ⟨g, x⟩ := a
          obtain ⟨g', x'⟩ := b
          obtain ⟨hg, _⟩ := h
          dsimp only at hg
          subst hg
          by_cases hm : (m == g) = true
          · simp [List.lookup, hm] at hl
          · simp only [Bool.not_eq_true] at hm
            simp only [List.lookup, hm] at hl ⊢
            exact ih hl
      · refine ⟨e, S2, _, re.mono (p.trans p2).tk, rs2, q2, fun zs S3 ws H3 q3 p3 rs3 r3 => ?_⟩
        refine ⟨⟨by rw [← r2.length]; exact q3.1.1, by rw [← r3.length]; exact q3.1.2⟩, _, S3, Q0, paired_reps (pick2_rel (reps_paired (.cons (.loc a) (r2.mono p3.tk))) (reps_paired r3) idx), rs3, q3.2, fun d S' v H' q' p' rs' r' => k d S' v H' q' (((p.trans p2).trans p3).trans p') rs' r'⟩
    · exact q.elim
  | _ => exact q.elim
theorem run_fndKM {pins : List (Addr × Obj)} {σ : St} {H : Hp} {s : Shared} {Q : VK} {us ws : List Value} {vs zs : List V} (F : FnD X.prog X.w X.K X.mg X.base k f fd ps sp) (hr : RoomG k X.A) (hb : KwB X.K fd ps (n + 1) ks idx) {a : Addr}
    (I : Inv X pins σ H s) (r : Vals vs us) (rz : Vals zs ws) (l1 : vs.length = n) (l2 : zs.length = ks.length) (h : emSp X.K sp (pick2 idx (.ref a :: vs) zs) H Q) : wpAny (model X.prog X.w) X.A (call (.ref f) (.ref a :: us) (ks.zip ws)) (EP X pins σ Q) X.xe s :=
  run_fndK (n := n + 1) (vs := .ref a :: vs) F hr hb I (.cons rfl r) rz (by simp [l1]) l2 h
theorem de_methK {lm : Nat} {pl : Sem Bool} (c : MetK X.prog X.w X.K X.mg X.base k C m sp n ks idx) (hr : RoomG j X.A) (hk : k ≤ j) (ho : DE X o to) (ha : DA X (e :: es) t) (hkw : DKw X kws tk)
    (hall : (backToKw pos (keywordEach kws X.env)).all (·.1.isSome) = true := by rfl) (hks : (backToKw pos (keywordEach kws X.env)).filterMap (·.1) = ks := by rfl)
    (hst : starEach (e :: es) X.env = (false, eval e X.env) :: starEach es X.env := by rfl) (hpl : ((backTo pos (starEach (e :: es) X.env)).any (·.1) || (backToKw pos (keywordEach kws X.env)).any (·.1.isNone)) = false := by rfl)
    (ht : eval (.Call (.Attribute o m apos) (e :: es) kws pos) X.env = (do
      let ov ← eval o X.env
      standAt apos.atName
      let (f, first) ← holding [ov] (getMethod ov m pl)
      callWith pos f first (backTo pos (starEach (e :: es) X.env)) (backToKw pos (keywordEach kws X.env))) := by rfl) (hlm : ks.length = lm := by rfl) : DE X (.Call (.Attribute o m apos) (e :: es) kws pos) (dMethK C m n lm sp idx to t tk) := by
  subst hlm
  obtain ⟨f, fd, ps, cl, me, F, hb⟩ := c.ex
  refine ⟨fun pins s σ H Q I h => ?_⟩
  refine PySem.W.methodCall_KW (pl := pl) (thn (ho.run pins s σ H _ I (em_methK h)) fun u s1 ⟨x, H1, I1, rx, a, dx, fs, ex, ea, l, q⟩ => ?_) ht
  subst ex
  obtain rfl : u = Value.ref a := rx
  refine getmeth_ok I1 ea cl me l ?_
  refine PySem.W.callWith_KW (first := [.ref a]) (h₀ := X.base) I.ok.mod.kin me.kp hall (thn (ha.run pos pins s1 σ H1 _ I1 q) fun us s2 ⟨vs, H2, I2, r, q2⟩ => ?_) hpl hst
  refine thn (hkw.run pos pins s2 σ H2 _ I2 q2) fun ws s3 ⟨zs, H3, I3, rz, l, q3⟩ => ⟨I3.kIn, ?_⟩
  rw [hks]
  exact run_fndKM F (hr.mono hk) hb I3 r rz l.1 l.2 q3
theorem de_methK0 {lm : Nat} {pl : Sem Bool} (c : MetK X.prog X.w X.K X.mg X.base k C m sp 0 ks idx) (hr : RoomG j X.A) (hk : k ≤ j) (ho : DE X o to) (hkw : DKw X kws tk)
    (hall : (backToKw pos (keywordEach kws X.env)).all (·.1.isSome) = true := by rfl) (hks : (backToKw pos (keywordEach kws X.env)).filterMap (·.1) = ks := by rfl)
    (hpl : ((backTo pos (starEach [] X.env)).any (·.1) || (backToKw pos (keywordEach kws X.env)).any (·.1.isNone)) = false := by rfl)
    (ht : eval (.Call (.Attribute o m apos) [] kws pos) X.env = (do
      let ov ← eval o X.env
      standAt apos.atName
      let (f, first) ← holding [ov] (getMethod ov m pl)
      callWith pos f first (backTo pos (starEach [] X.env)) (backToKw pos (keywordEach kws X.env))) := by rfl) (hlm : ks.length = lm := by rfl) : DE X (.Call (.Attribute o m apos) [] kws pos) (dMethK C m 0 lm sp idx to dNil tk) := by
  subst hlm
  obtain ⟨f, fd, ps, cl, me, F, hb⟩ := c.ex
  refine ⟨fun pins s σ H Q I h => ?_⟩
  refine PySem.W.methodCall_KW (pl := pl) (thn (ho.run pins s σ H _ I (em_methK h)) fun u s1 ⟨x, H1, I1, rx, a, dx, fs, ex, ea, l, q⟩ => ?_) ht
  subst ex
  obtain rfl : u = Value.ref a := rx
  refine getmeth_ok I1 ea cl me l ?_
  refine PySem.W.callWith_KW0 (first := [.ref a]) (h₀ := X.base) I.ok.mod.kin me.kp hall ?_ hpl
  refine thn (hkw.run pos pins s1 σ H1 _ I1 (emA_nil q)) fun ws s3 ⟨zs, H3, I3, rz, l, q3⟩ => ⟨I3.kIn, ?_⟩
  rw [hks]
  exact run_fndKM (us := []) (vs := []) F (hr.mono hk) hb I3 .nil rz rfl l.2 q3
end
/-! y = {k: v for .. in d.items()} -/
section
variable {X : Cx}
theorem dsw_true {kx vx : Expr} {gs : List Comprehension} {sco : Scope} {pp py : Pos} {y : Str} {l : Nat} {ev : Env} (e1 : ev.scope.kind = .function) (e2 : ev.scope.names.lookup y = some .local) (e3 : (py.line == pp.line) = true)
    (e4 : (sco.names.any fun (n, k) => n == y && (k == .local || k == .cell)) = false) : swapsWith (.DictComp kx vx gs sco pp) (some (.Name y py)) l ev = pure true := by
  have a1 : ev.kindOf y = some .local := e2
  have a2 : ev.blockKind = .function := by
    unfold Env.blockKind
    rw [e1]
    rfl
  unfold swapsWith
  simp only [a2, a1, e4, Expr.pos, e3]
  rfl
theorem ps_setDc {i : Nat} {y : Str} {py : Pos} {kx vx tg it : Expr} {ifs : List Expr} {sco : Scope} {own : List (Str × Nat)} {pp sp2 : Pos} {wi : TI} {g : TG} {tt : TT} {tk tv : TE} (hc : X.calm = true) (hN : X.N.Nodup) (hy : X.N[i]? = some y)
    (hyl : X.env.scope.names.lookup y = some .local) (hsw : swapsWith (.DictComp kx vx [⟨tg, it, ifs, 0⟩] sco pp) (some (.Name y py)) sp2.line X.env = pure true) (hi : PI X tg it wi) (ok : BlkOk X.N X.env.scope sco own)
    (pg : ∀ (s : Shared) (H : Hp) (C : Addr) (cl : List (Str × Addr)) (fp : List Addr), PG (X.blk s H sco (compEnvC sco cl C X.env) fp) tg g)
    (pt : ∀ (s : Shared) (H : Hp) (C : Addr) (cl : List (Str × Addr)) (fp : List Addr), PTs (X.blk s H sco (compEnvC sco cl C X.env) fp) ifs tt)
    (pk : ∀ (s : Shared) (H : Hp) (C : Addr) (cl : List (Str × Addr)) (fp : List Addr), PE (X.blk s H sco (compEnvC sco cl C X.env) fp) kx tk)
    (pv : ∀ (s : Shared) (H : Hp) (C : Addr) (cl : List (Str × Addr)) (fp : List Addr), PE (X.blk s H sco (compEnvC sco cl C X.env) fp) vx tv) (hs : ∀ z, foldedSetIterable it X.env z = pure z) :
    PS X (.Assign [.Name y py] (.DictComp kx vx [⟨tg, it, ifs, 0⟩] sco pp) sp2) (tAsg (tDc wi g tt tk tv (own.map (·.2))) (gName i)) := by
  refine ⟨fun pins s σ H D I q0 => ?_⟩
  rw [exec_Assign_Name_used _ _ _ _ hsw]
  refine wpAny_bind (wpAny_standAt (wpAny_bind ?_))
  show wpAny _ X.A (do
    let _ ← comprehension (.DictComp kx vx [⟨tg, it, ifs, 0⟩] sco pp) sco X.env (firstIterPos [⟨tg, it, ifs, 0⟩] pp) newDict false (eval it X.env) (some (assign (.Name y py) X.env))) _ _ s
  have q1 : tDc wi g tt tk tv (own.map (·.2)) σ H (fun x H1 => gName i x σ H1 D.nx) := q0
  refine wpAny_bind (thn (dc_core (Qf := fun _ s' => SP X pins D .next s') hc hN I hi ok pg pt pk pv hs q1 fun L C s' m H' I' q hn f => ?_) fun _ s' z => wpAny_pure (wpAny_pure z))
  show wpAny _ _ (assign (.Name y py) X.env (.ref L)) _ _ _
  refine wpAny_assign_Name (store_ok2 (v := V.ref L) I' hN hy (.inl hyl) rfl (fun s2 I2 ⟨a, sb, ha⟩ => ?_) (.inr hyl))
  obtain ⟨f0, f1, f2, f3, f4, f5⟩ := f
  have ne : C ≠ a := by
    rcases ha with z | z
    · intro e; rw [z] at e; exact f1 e
    · intro e; exact f4 y a z e.symm
  exact ⟨m, hn.sameBut sb ne, fun h3 sb3 => ⟨_, H', I2.turned (t' := s2.toks) (fun b o hb e => (sb3.2 b hb).trans e) f0 f1 f3 f4 f5, q⟩⟩
theorem ds_setDcItems {pos spos py : Pos} {j i : Nat} {y x : Str} {elts : List Expr} {kk : Nat} {tpos vpos apos cpos : Pos} {kx vx : Expr} {sco : Scope} {own : List (Str × Nat)} {t : Tgt} {tk tv : TD} (hc : X.calm = true) (hN : X.N.Nodup)
    (hy : X.N[j]? = some y) (hyl : X.env.scope.names.lookup y = some .local)
    (hsw : swapsWith (.DictComp kx vx [⟨.Tuple elts kk tpos, .Call (.Attribute (.Name x vpos) "items" apos) [] [] cpos, [], 0⟩] sco pos) (some (.Name y py)) spos.line X.env = pure true)
    (hi : X.N[i]? = some x) (hvis : Vis X.env.scope x) (ok : BlkOk X.N X.env.scope sco own) (hv : t.own (own.map (·.2)) = true)
    (hg : ∀ (s : Shared) (H : Hp) (C : Addr) (cl : List (Str × Addr)) (fp : List Addr), PG (X.blk s H sco (compEnvC sco cl C X.env) fp) (.Tuple elts kk tpos) (gOf X.K t))
    (hk : ∀ (s : Shared) (H : Hp) (C : Addr) (cl : List (Str × Addr)) (fp : List Addr), DE (X.blk s H sco (compEnvC sco cl C X.env) fp) kx tk)
    (he : ∀ (s : Shared) (H : Hp) (C : Addr) (cl : List (Str × Addr)) (fp : List Addr), DE (X.blk s H sco (compEnvC sco cl C X.env) fp) vx tv)
    (hd : (x == ("__debug__" : Str)) = false := by decide) (hcd : (x == ("__classdict__" : Str)) = false := by decide)
    (hbase : attributeBase (.Name x vpos) "items" X.env (eval (.Name x vpos) X.env) = eval (.Name x vpos) X.env := by rfl) (hline : (apos.endLine == cpos.line) = true := by rfl)
    (hs : ∀ z, foldedSetIterable (.Call (.Attribute (.Name x vpos) "items" apos) [] [] cpos) X.env z = pure z := by intro _; rfl) :
    DS X (.Assign [.Name y py] (.DictComp kx vx [⟨.Tuple elts kk tpos, .Call (.Attribute (.Name x vpos) "items" apos) [] [] cpos, [], 0⟩] sco pos) spos) (dAsg (dDcItems i t tk tv (own.map (·.2))) (.nm j)) :=
  PS.le (ps_lock (ps_setDc (wi := iItems (tVar i)) (tt := emT X.K dYes) (tk := emE X.K tk) (tv := emE X.K tv) hc hN hy hyl hsw (pi_items (pe_var hi hvis hd hcd) hbase hline) ok hg (fun _ _ _ _ _ => dts_nil) hk he hs)) fun D1 σ H h => by
    have q := em_asg (te := dDcItems i t tk tv (own.map (·.2))) (tt := .nm j) h
    obtain ⟨d, u, h1, h2, h3⟩ := em_dcItems hv q
    exact ⟨d, u, h1, h2, h3⟩
end
end QL
end L2
/-! small stores: what a def does not know of, it leaves as it was -/
namespace L2
namespace QL
open PySem PySem.Spec PyProof.Rows
def Sto.minus (S h : Sto) : Sto := fun a => match h a with
  | none => S a
  | some _ => none
def Sto.join (h F : Sto) : Sto := fun a => match h a with
  | none => F a
  | some c => some c
theorem minus_self (S : Sto) : S.minus S = fun _ => none := by
  funext a; unfold Sto.minus
  cases h : S a <;> rfl
theorem join_none (h : Sto) : h.join (fun _ => none) = h := by
  funext a; unfold Sto.join
  cases h a <;> rfl
theorem minus_some {S h : Sto} {a : Addr} {c : Cell} (e : S.minus h a = some c) : h a = none ∧ S a = some c := by
  unfold Sto.minus at e
  cases q : h a with
  | none => rw [q] at e; exact ⟨rfl, e⟩
  | some d => rw [q] at e; cases e
theorem minus_none {S h : Sto} {a : Addr} (q : h a = none) : S.minus h a = S a := by unfold Sto.minus; rw [q]
theorem minus_in {S h : Sto} {a : Addr} {c : Cell} (q : h a = some c) : S.minus h a = none := by unfold Sto.minus; rw [q]
theorem join_some {h F : Sto} {a : Addr} {c : Cell} (q : h a = some c) : h.join F a = some c := by unfold Sto.join; rw [q]
theorem join_else {h F : Sto} {a : Addr} (q : h a = none) : h.join F a = F a := by unfold Sto.join; rw [q]
/-- the promise, with a frame -/
structure frm (sp : SpD) (ds : List D) (S : Sto) (Q : DK) : Prop where
  ex : ∃ h, Sb h S ∧ sp ds h fun d h' => (∀ a, h' a ≠ none → S.minus h a = none) → Q d (h'.join (S.minus h))
theorem frm_id {sp : SpD} {ds : List D} {S : Sto} {Q : DK} (h : sp ds S fun d h' => Q d (h'.join (S.minus S))) : frm sp ds S Q := by
  refine ⟨⟨S, Sb.refl S, ?_⟩⟩
  have e : (fun d h' => (∀ a, h' a ≠ none → S.minus S a = none) → Q d (Sto.join h' (S.minus S))) = fun d h' => Q d (Sto.join h' (S.minus S)) := by
    funext d h'
    exact propext ⟨fun g => g fun a _ => by rw [minus_self], fun g _ => g⟩
  rw [e]
  exact h
theorem join_minus_self (h' S : Sto) : h'.join (S.minus S) = h' := by rw [minus_self, join_none]
/-- where the promise does not look at the end but hands it on -/
theorem frm_of {sp : SpD} {ds : List D} {S : Sto} {Q : DK} (h : sp ds S Q) : frm sp ds S Q := frm_id (by
  have e : (fun d h' => Q d (Sto.join h' (S.minus S))) = Q := by funext d h'; rw [join_minus_self]
  rw [e]; exact h)
theorem CellAt.keep {K : PySem.W.Frag} {S : Sto} {H H' : Hp} {S' : Sto} {a : Addr} {c : Cell} (p : Post K S H S' H') (n : S a = none) (h : CellAt K H a c) : CellAt K H' a c := by
  cases c with
  | lst ds => obtain ⟨vs, h1, h2⟩ := h; exact ⟨vs, p.frame a _ n h1, h2.mono p.tk⟩
  | dic kvs => obtain ⟨q, h1, h2⟩ := h; exact ⟨q, p.frame a _ n h1, h2.mono p.tk⟩
  | ins C fs => obtain ⟨dx, q, h1, h2⟩ := h; exact ⟨dx, q, p.frame a _ n h1, h2.mono p.tk⟩
theorem emSp_frm {K : PySem.W.Frag} {sp : SpD} {vs : List V} {H : Hp} {Q : VK} (h : emSp K (frm sp) vs H Q) : emSp K sp vs H Q := by
  obtain ⟨ds, S, Q0, r, rs, ⟨⟨h0, sb, hsp⟩⟩, k⟩ := h
  refine ⟨ds, h0, _, r, rs.sub sb, hsp, fun d h' v H' q p rs' r' => ?_⟩
  have dj : ∀ a, h' a ≠ none → S.minus h0 a = none := fun a ne => by
    cases q0 : h0 a with
    | some c => exact minus_in q0
    | none =>
      rw [minus_none q0]
      cases qs : S a with
      | none => rfl
      | some c => exact absurd (p.dom a q0 (rs a c qs).there) ne
  refine k d _ v H' (q dj) ⟨p.tk, fun a o n e => ?_, fun a n e => ?_⟩ (fun a c e => ?_) r'
  · have n0 : h0 a = none := sb.free n
    exact p.frame a o n0 e
  · have n0 : h0 a = none := sb.free n
    rw [join_else (p.dom a n0 e), minus_none n0]
    exact n
  · cases qa : h' a with
    | some d0 => rw [join_some qa] at e; cases e; exact rs' a _ qa
    | none =>
      rw [join_else qa] at e
      obtain ⟨n0, e⟩ := minus_some e
      exact (rs a c e).keep p n0
theorem FnD.frame {P : Program} {w : World} {K : PySem.W.Frag} {mg : Str → Option Value} {base : Heap} {k : Nat} {f : Addr} {fd : FuncData} {ps : List Str} {sp : SpD} (F : FnD P w K mg base k f fd ps sp) : FnD P w K mg base k f fd ps (frm sp) :=
  ⟨fun ds S Q ⟨⟨_, _, h⟩⟩ => F.len ds _ _ h, fun A outer s H args us vs Q hr e0 hb r h => F.run A outer s H args us vs Q hr e0 hb r (emSp_frm h)⟩
/-! assertions side by side -/
abbrev HP := Sto → Prop
inductive Star : List HP → Sto → Prop
  | nil {S : Sto} : Star [] S
  | cons {P : HP} {L : List HP} {S : Sto} (h : Sto) (p : P h) (sb : Sb h S) (r : Star L (S.minus h)) : Star (P :: L) S
def cell (a : Addr) (c : Cell) : HP := fun h => h a = some c
theorem minus_mono {S S' h : Sto} (s : Sb S S') : Sb (S.minus h) (S'.minus h) := fun a c e => by
  obtain ⟨n, e⟩ := minus_some e
  rw [minus_none n]
  exact s a c e
theorem minus_sb (S h : Sto) : Sb (S.minus h) S := fun a c e => (minus_some e).2
theorem Star.mono {L : List HP} {S : Sto} (h : Star L S) : ∀ {S' : Sto}, Sb S S' → Star L S' := by
  induction h with
  | nil => exact fun _ => .nil
  | cons h p sb r ih => exact fun s => .cons h p (sb.trans s) (ih (minus_mono s))
theorem Star.swap {P Q : HP} {L : List HP} {S : Sto} (h : Star (P :: Q :: L) S) : Star (Q :: P :: L) S := by
  cases h with
  | cons h1 p1 s1 r =>
    cases r with
    | cons h2 p2 s2 r =>
      refine .cons h2 p2 (s2.trans (minus_sb _ _)) (.cons h1 p1 (fun a c e => ?_) (r.mono fun a c e => ?_))
      · cases q : h2 a with
        | none => rw [minus_none q]; exact s1 a c e
        | some d => exact absurd (s2 a d q) (by rw [minus_in e]; simp)
      · obtain ⟨n2, e⟩ := minus_some e
        obtain ⟨n1, e⟩ := minus_some e
        rw [minus_none n1, minus_none n2]; exact e
theorem Star.perm {L L' : List HP} (p : L.Perm L') : ∀ {S : Sto}, Star L S → Star L' S := by
  induction p with
  | nil => exact fun h => h
  | cons x _ ih => intro S h; cases h with | cons h p sb r => exact .cons h p sb (ih r)
  | swap x y l => exact fun h => h.swap
  | trans _ _ ih1 ih2 => exact fun h => ih2 (ih1 h)
theorem Star.to (L1 : List HP) {P : HP} {L2 : List HP} {S : Sto} (h : Star (L1 ++ P :: L2) S) : Star (P :: (L1 ++ L2)) S := h.perm List.perm_middle
theorem Star.back (L1 : List HP) {P : HP} {L2 : List HP} {S : Sto} (h : Star (P :: (L1 ++ L2)) S) : Star (L1 ++ P :: L2) S := h.perm List.perm_middle.symm
theorem Star.drop {P : HP} {L : List HP} {S : Sto} (h : Star (P :: L) S) : Star L S := by
  cases h with | cons h p sb r => exact r.mono (minus_sb _ _)
theorem Star.left {L1 L2 : List HP} {S : Sto} (h : Star (L1 ++ L2) S) : Star L1 S := by
  have h2 := h.perm List.perm_append_comm
  clear h
  induction L2 with
  | nil => exact h2
  | cons P L2 ih => exact ih h2.drop
theorem Star.right (L1 : List HP) {L2 : List HP} {S : Sto} (h : Star (L1 ++ L2) S) : Star L2 S := by
  induction L1 with
  | nil => exact h
  | cons P L1 ih => exact ih h.drop
theorem Star.first {P : HP} {L : List HP} {S : Sto} (h : Star (P :: L) S) : ∃ h0, P h0 ∧ Sb h0 S := by
  cases h with | cons h p sb r => exact ⟨h, p, sb⟩
theorem Star.at1 {a : Addr} {c : Cell} {L : List HP} {S : Sto} (h : Star (cell a c :: L) S) : S a = some c := by
  obtain ⟨h0, p, sb⟩ := h.first
  exact sb a c p
/-- the cell at a place of the list -/
theorem Star.get (L1 : List HP) {a : Addr} {c : Cell} {L2 : List HP} {S : Sto} (h : Star (L1 ++ cell a c :: L2) S) : S a = some c := (h.to L1).at1
theorem Star.upd {P P' : HP} {L : List HP} {S S' : Sto} (h : Star (P :: L) S) (g : ∀ h0, P h0 → Sb h0 S → ∃ h', P' h' ∧ Sb h' S' ∧ ∀ a c, h0 a = none → S a = some c → S' a = some c ∧ h' a = none) : Star (P' :: L) S' := by
  cases h with
  | cons h0 p sb r =>
    obtain ⟨h', p', sb', fr⟩ := g h0 p sb
    refine .cons h' p' sb' (r.mono fun a c e => ?_)
    obtain ⟨n, e⟩ := minus_some e
    obtain ⟨e1, e2⟩ := fr a c n e
    rw [minus_none e2]; exact e1
def one (a : Addr) (c : Cell) : Sto := fun b => if b = a then some c else none
theorem one_eq {a : Addr} {c : Cell} : one a c a = some c := if_pos rfl
theorem one_ne {a b : Addr} {c : Cell} (h : b ≠ a) : one a c b = none := if_neg h
theorem one_sb {S : Sto} {a : Addr} {c : Cell} : Sb (one a c) (S.put a c) := fun b d e => by
  by_cases hb : b = a
  · subst hb; rw [one_eq] at e; cases e; exact put_eq
  · rw [one_ne hb] at e; cases e
theorem Star.put1 {a : Addr} {c c' : Cell} {L : List HP} {S : Sto} (h : Star (cell a c :: L) S) : Star (cell a c' :: L) (S.put a c') := by
  refine h.upd fun h0 p sb => ⟨one a c', one_eq, one_sb, fun b d n e => ?_⟩
  have hb : b ≠ a := fun z => by
    subst z
    have p : h0 b = some c := p
    rw [p] at n; cases n
  exact ⟨by rw [put_ne hb]; exact e, one_ne hb⟩
theorem Star.put (L1 : List HP) {a : Addr} {c c' : Cell} {L2 : List HP} {S : Sto} (h : Star (L1 ++ cell a c :: L2) S) : Star (L1 ++ cell a c' :: L2) (S.put a c') := (h.to L1).put1.back L1
theorem Star.new1 {a : Addr} {L : List HP} {S : Sto} (h : Star L S) (n : S a = none) (c : Cell) : Star (cell a c :: L) (S.put a c) := by
  refine .cons (one a c) one_eq one_sb (h.mono fun b d e => ?_)
  have hb : b ≠ a := fun z => by subst z; rw [n] at e; cases e
  rw [minus_none (one_ne hb), put_ne hb]; exact e
/-- a new cell, at the end of the list -/
theorem Star.new {a : Addr} {L : List HP} {S : Sto} (h : Star L S) (n : S a = none) (c : Cell) : Star (L ++ [cell a c]) (S.put a c) := by
  have := h.new1 n c
  exact this.perm (List.perm_append_comm (l₁ := [cell a c]) (l₂ := L))
/-- a def is called that knows the thing at the list's head -/
theorem frm_at {sp : SpD} {ds : List D} {S : Sto} {Q : DK} {P : HP} (L1 : List HP) {L2 : List HP} (hs : Star (L1 ++ P :: L2) S)
    (h : ∀ h0, P h0 → ∀ Q' : DK, (∀ d h', (∀ S2, (∀ P' : HP, P' h' → Star (L1 ++ P' :: L2) S2) → Q d S2) → Q' d h') → sp ds h0 Q') : frm sp ds S Q := by
  have hs' := hs.to L1
  cases hs' with
  | cons h0 p sb r =>
    refine ⟨⟨h0, sb, h h0 p _ fun d h' q dj => q _ fun P' p' => ?_⟩⟩
    refine Star.back L1 (.cons h' p' (fun a c e => join_some e) (r.mono fun a c e => ?_))
    have n : h' a = none := by
      cases q : h' a with
      | none => rfl
      | some d => exact absurd (dj a (by rw [q]; simp)) (by rw [e]; simp)
    rw [minus_none n, join_else n]; exact e
/-- nothing is known -/
def bas (S0 : Sto) : HP := fun h => Sb S0 h
theorem star_bas (S : Sto) : Star [bas S] S := .cons S (Sb.refl S) (Sb.refl S) .nil
theorem Star.sb {S0 : Sto} {L : List HP} {S : Sto} (h : Star (bas S0 :: L) S) : Sb S0 S := by
  obtain ⟨h0, p, sb⟩ := h.first
  exact Sb.trans p sb
end QL
end L2
/-! any of ints, in a list or a tuple -/
namespace L2
namespace QL
open PySem PySem.Spec PyProof.Rows
theorem truth_ints {prog : Program} {w : World} {A : Around} {ns : List Int} {its : List Value} (r : Vals (ns.map V.int) its) :
    TruthOf prog w A (fun i v => its.toArray[i]? = some v) (fun i => (ns.map fun n => n != 0).getD i false) := fun i v s Q E hv hq => by
  have hv' : its[i]? = some v := by simpa using hv
  have key : ∀ {ns : List Int} {its : List Value} {i : Nat}, Vals (ns.map V.int) its → its[i]? = some v → ∃ n, ns[i]? = some n ∧ RelV (V.int n) v := by
    intro ns
    induction ns with
    | nil => intro its i r e; cases r; simp at e
    | cons n ns ih =>
      intro its i r e
      cases r with
      | cons h t =>
        cases i with
        | zero => simp at e; subst e; exact ⟨n, rfl, h⟩
        | succ i => obtain ⟨m, h1, h2⟩ := ih t (by simpa using e); exact ⟨m, by simpa using h1, h2⟩
  obtain ⟨n, hn, t, rfl⟩ := key r hv'
  have e : (ns.map fun n => n != 0).getD i false = (n != 0) := by
    rw [List.getD_eq_getElem?_getD, List.getElem?_map, hn]; rfl
  have hq' : Q ((ns.map fun n => n != 0).getD i false) s := hq
  rw [e] at hq'
  exact PyProof.Rows.truthy_int hq'
theorem any_rng (ns : List Int) : (List.range (ns.map fun n => n != 0).length).any (fun i => (ns.map fun n => n != 0).getD i false) = ns.any fun n => n != 0 := by
  rw [any_range, List.any_map]; rfl
def rAnyI (K : PySem.W.Frag) : List V → Hp → VK → Prop := fun vs H Q => ∃ (a : Addr) (ns : List Int), vs = [V.ref a] ∧ (SqL K H a (ns.map V.int) ∨ SqT K H a (ns.map V.int)) ∧ Q (.bl (ns.any fun n => n != 0)) H
theorem cr_anyI {X : Cx} (hc : X.calm = true) : CallR X (.builtin "any") (rAnyI X.K) := by
  intro pins s σ H vs us Q I r h
  obtain ⟨a, ns, rfl, hs, q⟩ := h
  rw [Vals.ref1 r]
  rcases hs with hs | hs
  · obtain ⟨its, rv, hl, _⟩ := I.list hs
    refine call_any_walk (iter_any hl.isList fun s₂ e2 st hne => ?_)
    subst e2
    refine ⟨_, _, _, _, _, _, _, rfl, Walks.list (A := X.A.in1) (I.ok.hd hc) _ a hne its.toArray, st, truth_ints rv, fun h' tk hk => ?_⟩
    refine ⟨.bl _, H, I.kept fun b o eo => hk b o (fun hm => ?_) (Heap.get?_push_of_some _ eo), ?_, q⟩
    · rcases List.mem_cons.mp hm with e1 | hm
      · subst e1; exact absurd (Heap.lt_size eo) (Nat.lt_irrefl _)
      · cases hm
    · show Value.bool _ = Value.bool _
      have e := any_rng ns
      have hl2 := rv.length
      rw [List.length_map] at e hl2
      rw [← e, List.size_toArray, ← hl2]
  · obtain ⟨its, rv, hl, _⟩ := I.tuple hs
    have hl : s.heap.IsTuple a its.toArray := hl
    have hlt : a < s.heap.objs.size := by obtain ⟨_, e, _⟩ := hl; exact Heap.lt_size e
    refine call_any_walk (wpAny_pyIter_tuple hl ?_)
    refine ⟨_, _, _, _, _, _, _, rfl, Walks.tuple (A := X.A.in1) (I.ok.hd hc) _ a (Nat.ne_of_lt hlt) its.toArray, ⟨⟨_, Heap.get?_push_size _ rfl, rfl, rfl⟩, hl.push _⟩, truth_ints rv, fun h' tk hk => ?_⟩
    refine ⟨.bl _, H, I.kept fun b o eo => hk b o (fun hm => ?_) (Heap.get?_push_of_some _ eo), ?_, q⟩
    · rcases List.mem_cons.mp hm with e1 | hm
      · subst e1; exact absurd (Heap.lt_size eo) (Nat.lt_irrefl _)
      · cases hm
    · show Value.bool _ = Value.bool _
      have e := any_rng ns
      have hl2 := rv.length
      rw [List.length_map] at e hl2
      rw [← e, List.size_toArray, ← hl2]
def rdAnyI : RLD := fun xs S Q => ∃ ns : List Int, xs = ns.map D.int ∧ Q (.bl (ns.any fun n => n != 0)) S
section
variable {X : Cx} {a : Expr} {p pos : Pos} {K : PySem.W.Frag}
theorem lr_anyI : LstR K rdAnyI (fun x H Q => rAnyI K [x] H Q) := fun a xs vs S H Q0 Q g rr rs h k => by
  obtain ⟨ns, rfl, h⟩ := h
  rw [rr.ints] at g
  exact ⟨a, ns, rfl, .inl g, k _ S _ H h Post.refl rs (.bl _)⟩
theorem tr_anyI : TupR K rdAnyI (fun x H Q => rAnyI K [x] H Q) := fun a xs vs S H Q0 Q g rr rs h k => by
  obtain ⟨ns, rfl, h⟩ := h
  rw [rr.ints] at g
  exact ⟨a, ns, rfl, .inr g, k _ S _ H h Post.refl rs (.bl _)⟩
theorem c_anyI (hc : X.calm = true) (hg : Gl X "any") (hm : X.mg "any" = none) (he : starEach (a :: []) X.env = (false, eval a X.env) :: starEach [] X.env := by rfl) : C1 X a (.Call (.Name "any" p) [a] [] pos) (fun x H Q => rAnyI X.K [x] H Q) := c1_b (cr_anyI hc) hg hm boot_any (he := he)
/-- bools or ints -/
def rAnyM (K : PySem.W.Frag) : List V → Hp → VK → Prop := fun vs H Q => rAny K vs H Q ∨ rAnyI K vs H Q
theorem cr_anyM (hc : X.calm = true) : CallR X (.builtin "any") (rAnyM X.K) := by
  intro pins s σ H vs us Q I r h
  rcases h with h | h
  · exact cr_any hc pins s σ H vs us Q I r h
  · exact cr_anyI hc pins s σ H vs us Q I r h
def rdAnyM : RLD := fun xs S Q => rdAny xs S Q ∨ rdAnyI xs S Q
theorem lr_anyM : LstR K rdAnyM (fun x H Q => rAnyM K [x] H Q) := fun a xs vs S H Q0 Q g rr rs h k => by
  rcases h with h | h
  · exact .inl (lr_any a xs vs S H Q0 Q g rr rs h k)
  · exact .inr (lr_anyI a xs vs S H Q0 Q g rr rs h k)
theorem c_anyM (hc : X.calm = true) (hg : Gl X "any") (hm : X.mg "any" = none) (he : starEach (a :: []) X.env = (false, eval a X.env) :: starEach [] X.env := by rfl) : C1 X a (.Call (.Name "any" p) [a] [] pos) (fun x H Q => rAnyM X.K [x] H Q) := c1_b (cr_anyM hc) hg hm boot_any (he := he)
end
end QL
end L2
/-! a list of lists, and the empty list -/
namespace L2
namespace QL
open PySem PySem.Spec PyProof.Rows
def rdEqE (g : Bool → Bool) : RD := fun x y S Q => match x, y with
  | .loc p, .loc q => match S p, S q with
    | some (.lst xs), some (.lst []) => (∀ x ∈ xs, ∃ r ys, x = .loc r ∧ S r = some (.lst ys) ∧ ∀ y ∈ ys, fine 50 y) ∧ Q (.bl (g (decide (xs.length = 0)))) S
    | _, _ => False
  | _, _ => False
def rdEE : RD := rdEqE fun b => b
def rdNeE : RD := rdEqE fun b => !b
theorem dp_lsts {K : PySem.W.Frag} {S : Sto} {H : Hp} (rs : RelS K S H) : ∀ (xs : List D) (vs : List V), Reps K H xs vs → (∀ x ∈ xs, ∃ r ys, x = .loc r ∧ S r = some (.lst ys) ∧ ∀ y ∈ ys, fine 50 y) →
    ∃ ds : List PyData, DpAll K H vs ds ∧ ds.length = xs.length ∧ PyData.canLayAll0 ds = true ∧ PyData.depthAll ds ≤ 52
  | [], _, .nil, _ => ⟨[], .nil, rfl, rfl, by simp [PyData.depthAll]⟩
  | x :: xs, _, .cons h r, f => by
    obtain ⟨ds, a, b, c, d⟩ := dp_lsts rs xs _ r fun y hy => f y (List.mem_cons_of_mem _ hy)
    obtain ⟨p, ys, rfl, e, fy⟩ := f x List.mem_cons_self
    cases h
    obtain ⟨vs, a1, b1⟩ := rs _ _ e
    refine ⟨.list (toPys ys) :: ds, .cons (.lst (.of a1) (reps_dp _ (fun d hd => fine_dp 50 d (fy d hd)) _ b1)) a, by simp [b], ?_, ?_⟩
    · show (PyData.canLay0 (.list (toPys ys)) && PyData.canLayAll0 ds) = true
      rw [c, Bool.and_true]
      exact lay_all ys fun y hy => (fine_lay 50 y (fy y hy)).1
    · have q := deep_all ys 51 fun y hy => (fine_lay 50 y (fy y hy)).2
      simp only [PyData.depthAll, PyData.depth]
      omega
theorem em_eqE {K : PySem.W.Frag} {g : Bool → Bool} {d1 d2 : D} {S : Sto} {Q0 : DK} {v1 v2 : V} {H : Hp} {Q : VK} (rs : RelS K S H) (r1 : Rep K H d1 v1) (r2 : Rep K H d2 v2) (h : rdEqE g d1 d2 S Q0)
    (k : ∀ d S' v H', Q0 d S' → Post K S H S' H' → RelS K S' H' → Rep K H' d v → Q v H') : (∃ d e, Dp K H v1 d ∧ Dp K H v2 e ∧ SeqAt.shaped d = true ∧ SeqAt.shaped e = true ∧ Q (.bl (g (PyData.eqv d e))) H) ∨ (scal v1 v2 = true ∧ Q (.bl (g (decide (v1 = v2)))) H) := by
  unfold rdEqE at h
  split at h
  · cases r1; cases r2
    split at h
    · rename_i xs e1 e2
      obtain ⟨vs, a, b⟩ := rs _ _ e1
      obtain ⟨ds, p1, p2, p3, p4⟩ := dp_lsts rs _ _ b h.1
      obtain ⟨a2, b2⟩ := dp_lst rs e2 (fun _ h => by cases h)
      refine .inl ⟨.list ds, _, .lst (.of a) p1, a2, ?_, b2, ?_⟩
      · unfold SeqAt.shaped
        rw [Bool.and_eq_true]
        refine ⟨p3, decide_eq_true ?_⟩
        simp only [PyData.depth]
        omega
      · have e : PyData.eqv (.list ds) (.list (toPys [])) = decide (xs.length = 0) := by
          cases ds with
          | nil => cases xs with
            | nil => rfl
            | cons x xs => cases p2
          | cons d ds => cases xs with
            | nil => cases p2
            | cons x xs => rfl
        rw [e]
        exact k _ S _ H h.2 Post.refl rs (.bl _)
    · exact h.elim
  · exact h.elim
theorem od_eE {K : PySem.W.Frag} : OpD K (rEqA K) rdEE := fun _ _ _ _ _ _ _ _ rs r1 r2 h k => em_eqE rs r1 r2 h k
theorem od_neE {K : PySem.W.Frag} : OpD K (rNeA K) rdNeE := fun _ _ _ _ _ _ _ _ rs r1 r2 h k => em_eqE rs r1 r2 h k
theorem cr_reprS {X : Cx} : CallR X (.builtin "repr") (fun xs H Q => ∃ x, xs = [.str x] ∧ (reprText x).length ≤ sizeLine ∧ Q (.str (reprText x)) H) := by
  intro pins s σ H xs us Q I r h
  obtain ⟨x, rfl, hz, q⟩ := h
  obtain ⟨u, rfl, t, rfl⟩ := vals1 r
  exact PySem.P.repr_of_str ⟨.str _, H, I.tok _, ⟨_, rfl⟩, q⟩ hz
def dReprS (ta : TD) : TD := fun e S Q => ta e S fun x S1 => match x with
  | .str s => (reprText s).length ≤ sizeLine ∧ Q (.str (reprText s)) S1
  | _ => False
theorem de_reprS {X : Cx} {a : Expr} {ta : TD} {p pos : Pos} (hc : X.calm = true) (hg : Gl X "repr") (hm : X.mg "repr" = none) (ha : DE X a ta) (he : starEach (a :: []) X.env = (false, eval a X.env) :: starEach [] X.env := by rfl) : DE X (.Call (.Name "repr" p) [a] [] pos) (dReprS ta) :=
  PE.le ((c1_b (p := p) (pos := pos) cr_reprS hg hm boot_repr (he := he)).to _ ha) fun σ H Q h => by
    obtain ⟨e, S, Q0, re, rs, h1, k⟩ := h
    refine ⟨e, S, _, re, rs, h1, fun d S1 v H1 q p rs1 r => ?_⟩
    cases r with
    | str s => exact ⟨s, rfl, q.1, k _ S1 _ H1 q.2 p rs1 (.str _)⟩
    | _ => exact q.elim
theorem reprw (r : Str) (h : r = "new" ∨ r = "contradiction" ∨ r = "implied") : (reprText r).length ≤ sizeLine := by
  rw [sizeLine_eq]
  rcases h with rfl | rfl | rfl <;> decide +kernel
end QL
end L2
/-! sorted(x) of a list of texts; a list unpacked into names -/
namespace L2
namespace QL
open PySem PySem.Spec PyProof.Rows
theorem reps_strs {K : PySem.W.Frag} {H : Hp} : ∀ ks : List Str, Reps K H (ks.map D.str) (ks.map V.str)
  | [] => .nil
  | k :: ks => .cons (.str k) (reps_strs ks)
def rdSortS : RLD := fun xs S Q => ∃ ks : List Str, xs = ks.map D.str ∧ ks.length < 64 ∧ ∀ (ys : List Str) (p : Addr), ys.Perm ks → sortedS ys = true → S p = none → Q (.loc p) (S.put p (.lst (ys.map D.str)))
theorem lr_sortS {K : PySem.W.Frag} : LstR K rdSortS (fun x H Q => rSortedS K [x] H Q) := fun a xs vs S H Q0 Q g rr rs h k => by
  obtain ⟨ns, rfl, h64, q⟩ := h
  rw [rr.strs] at g
  exact ⟨a, ns, rfl, g, h64, fun ys p h1 h2 hp => k _ _ _ _ (q ys p h1 h2 (rs.none_of hp)) (Post.new hp) (new_lst rs hp (reps_strs ys)) (.loc p)⟩
section
variable {X : Cx} {a : Expr} {p pos : Pos}
theorem c_sortS (hg : Gl X "sorted") (hm : X.mg "sorted" = none) (he : starEach (a :: []) X.env = (false, eval a X.env) :: starEach [] X.env := by rfl) : C1 X a (.Call (.Name "sorted" p) [a] [] pos) (fun x H Q => rSortedS X.K [x] H Q) := c1_b cr_sortedS hg hm boot_sorted (he := he)
def dAsgL (te : TD) (ts : Tgts) : TSD := fun D0 e S => te e S fun d S1 => match lstD S1 d with
  | some xs => match bTs ts xs e with
    | some e' => D0.nx e' S1
    | none => False
  | none => False
theorem ds_asgL {es : List Expr} {k : Nat} {pos' : Pos} {e : Expr} {te : TD} {ts : Tgts} (hc : X.calm = true) (he : DE X e te) (hg : PGs X es (gsOf X.K ts)) (hl : (assignEach es X.env).length = ts.len := by rfl) (hf : List.findIdx? (fun x => x.fst) (assignEach es X.env) = none := by rfl)
    (hs : swapsWithSole [.Tuple es k pos'] e pos.line X.env = pure false := by rfl) (hw : swappedStores [.Tuple es k pos'] e X.env = pure none := by rfl)
    (h1 : (assignEach [.Tuple es k pos'] X.env).map (·.2) = [assign (.Tuple es k pos') X.env] := by rfl) : DS X (.Assign [.Tuple es k pos'] e pos) (dAsgL te ts) :=
  PS.le (ps_asg he (pg_lst hc hg hl hf) hs hw h1) fun D1 σ H h => by
    obtain ⟨e, S, D0, re, rs, ht, k⟩ := h
    refine ⟨e, S, _, re, rs, ht, fun d S' v H' q p rs' r => ?_⟩
    split at q
    · rename_i xs ex
      split at q
      · rename_i e' eb
        obtain ⟨a, vs, rfl, sq, rr⟩ := lst_sql rs' r ex
        exact ⟨a, vs, rfl, sq, by rw [← rr.length]; exact bTs_len ts xs e e' eb, gsOf_ok ts xs vs e e' σ _ rr (re.mono p.tk) eb fun σ' re' _ => k.nx e' S' σ' H' q p re' rs'⟩
      · exact q.elim
    · exact q.elim
end
section
variable {prog : Program} {w : World} {A : Around} {E : Value → Shared → Prop} {s : Shared}
/-- max(x) of a tuple of ints -/
theorem max_tup {xs : Array (Int × Tok)} {t : Addr} {Q : Value → Shared → Prop} (hh : A.handled = none) (ht : s.heap.IsTuple t (intItems xs)) (hne : 0 < xs.size)
    (h : ∀ v h' tk, (intItems xs)[argBest (fun i j => decide (numAt xs i > numAt xs j)) (xs.size - 1)]? = some v → (∀ b o, s.heap.get? b = some o → h'.get? b = some o) → Q v { s with heap := h', toks := tk }) :
    wpAny (model prog w) A (call (.builtin "max") [.ref t]) Q E s := by
  obtain ⟨o, ho, hc, n, hd⟩ := id ht
  have hlt : t < s.heap.objs.size := Heap.lt_size ho
  refine call_max_walk (wpAny_pyIter_tuple ht ?_)
  refine ⟨_, _, _, _, _, _, _, rfl, Walks.tuple (A := A.in1) hh _ t (Nat.ne_of_lt hlt) (intItems xs), ⟨⟨_, Heap.get?_push_size _ rfl, rfl, rfl⟩, ht.at fun o e => Heap.get?_push_of_some _ e⟩, fun b hb => ?_, by simpa [intItems] using hne, CmpOf.ints_gt (numAt xs) (fun _ _ => intItems_at), fun v h' tk hP hk => ?_⟩
  · rcases List.mem_cons.mp hb with rfl | hb
    · exact Heap.lt_size (Heap.get?_push_size _ rfl)
    · obtain rfl := List.mem_singleton.mp hb
      exact Heap.lt_size (Heap.get?_push_of_some _ ho)
  · refine h v h' tk (by simpa [intItems] using hP) fun b o e => hk b o (fun hm => ?_) (Heap.get?_push_of_some _ e)
    exact absurd (Heap.lt_size e) ((List.mem_singleton.mp hm) ▸ Nat.lt_irrefl _)
end
theorem mem_getD_at {l : List Int} {a : Int} (h : a ∈ l) : ∃ j, j < l.length ∧ l.getD j 0 = a := by
  obtain ⟨j, hj, e⟩ := List.getElem_of_mem h
  exact ⟨j, hj, by rw [List.getD_eq_getElem?_getD, List.getElem?_eq_getElem hj]; exact e⟩
def rMaxA (K : PySem.W.Frag) : List V → Hp → VK → Prop := fun vs H Q => ∃ (a : Addr) (ns : List Int), vs = [V.ref a] ∧ (SqL K H a (ns.map V.int) ∨ SqT K H a (ns.map V.int)) ∧ 0 < ns.length ∧ ∀ m, m ∈ ns → (∀ y, y ∈ ns → y ≤ m) → Q (.int m) H
theorem cr_maxA {X : Cx} (hc : X.calm = true) : CallR X (.builtin "max") (rMaxA X.K) := by
  intro pins s σ H vs us Q I r h
  obtain ⟨a, ns, rfl, hs, hne, q⟩ := h
  rcases hs with hs | hs
  · exact cr_max hc pins s σ H [.ref a] us Q I r ⟨a, ns, rfl, hs, hne, q⟩
  · obtain ⟨its, rv, hl, _⟩ := I.tuple hs
    rw [Vals.ref1 r]
    obtain ⟨xs, e⟩ := rv.ints.allInts.items
    have hn : numsOf (intItems xs).toList = ns := by rw [← e]; exact rv.ints.numsOf
    rw [nums_intItems] at hn
    subst hn
    rw [e] at hl
    have hsz : 0 < xs.size := by simpa using hne
    refine max_tup (I.ok.hd hc) hl hsz fun v h' tk hv hk => ?_
    obtain ⟨t, rfl⟩ := intItems_at hv
    obtain ⟨h1, h2⟩ := argBest_gt (numAt xs) (xs.size - 1)
    refine ⟨.int _, H, I.kept hk, ⟨_, rfl⟩, q _ ?_ fun a ha => ?_⟩
    · rw [numAt_eq]; exact PySem.getD_mem (by rw [List.length_map, Array.length_toList]; omega)
    · obtain ⟨j, hj, rfl⟩ := mem_getD_at ha
      rw [List.length_map, Array.length_toList] at hj
      rw [← numAt_eq]; exact h2 j (by omega)
theorem lr_maxA {K : PySem.W.Frag} : LstR K rdMax (fun x H Q => rMaxA K [x] H Q) := fun a xs vs S H Q0 Q g rr rs h k => by
  obtain ⟨ns, rfl, hl, q⟩ := h
  rw [rr.ints] at g
  exact ⟨a, ns, rfl, .inl g, hl, fun m h1 h2 => k _ S _ H (q m h1 h2) Post.refl rs (.int _)⟩
theorem tr_maxA {K : PySem.W.Frag} : TupR K rdMax (fun x H Q => rMaxA K [x] H Q) := fun a xs vs S H Q0 Q g rr rs h k => by
  obtain ⟨ns, rfl, hl, q⟩ := h
  rw [rr.ints] at g
  exact ⟨a, ns, rfl, .inr g, hl, fun m h1 h2 => k _ S _ H (q m h1 h2) Post.refl rs (.int _)⟩
section
variable {X : Cx} {a : Expr} {p pos : Pos}
theorem c_maxA (hc : X.calm = true) (hg : Gl X "max") (hm : X.mg "max" = none) (he : starEach (a :: []) X.env = (false, eval a X.env) :: starEach [] X.env := by rfl) : C1 X a (.Call (.Name "max" p) [a] [] pos) (fun x H Q => rMaxA X.K [x] H Q) := c1_b (cr_maxA hc) hg hm boot_max (he := he)
end
end QL
end L2
/-! x[::-1] of a tuple -/
namespace L2
namespace QL
open PySem PySem.Spec PyProof.Rows
section
variable {prog : Program} {w : World} {A : Around} {E : Value → Shared → Prop} {s : Shared}
theorem places_rev (n : Nat) : Builtin.Slice.slicePlaces ((n : Int) - 1) (-1) (-1) = n := by
  unfold Builtin.Slice.slicePlaces
  have h1 : ¬ ((-1 : Int) > 0) := by omega
  rw [if_neg h1]
  by_cases h : (n : Int) - 1 > -1
  · rw [if_pos h]
    have : ((n : Int) - 1 - -1 - 1) / -(-1) + 1 = n := by
      rw [show -(-1 : Int) = 1 by decide, Int.ediv_one]; omega
    rw [this]; omega
  · rw [if_neg h]; show (0 : Int).toNat = n; omega
theorem fm_map {α β : Type} {f : α → Option β} {g : α → β} : ∀ (l : List α), (∀ x ∈ l, f x = some (g x)) → l.filterMap f = l.map g
  | [], _ => rfl
  | x :: l, h => by
    rw [List.filterMap_cons, h x List.mem_cons_self, fm_map l fun y hy => h y (List.mem_cons_of_mem _ hy)]
    rfl
theorem pick_rev (xs : Array Value) : ((List.range xs.size).filterMap fun (m : Nat) => xs[(((xs.size : Int) - 1) + (m : Int) * (-1)).toNat]?).toArray = xs.toList.reverse.toArray := by
  have e : (List.range xs.size).filterMap (fun (m : Nat) => xs[(((xs.size : Int) - 1) + (m : Int) * (-1)).toNat]?) = xs.toList.reverse := by
    rw [fm_map (g := fun m => xs.toList.getD (xs.size - 1 - m) .none) _ fun m hm => ?_]
    · refine List.ext_getElem (by simp) fun i h1 h2 => ?_
      have hi : i < xs.size := by simpa using h1
      rw [List.getElem_map, List.getElem_range, List.getElem_reverse, List.getD_eq_getElem?_getD, List.getElem?_eq_getElem (by rw [Array.length_toList]; omega)]
      simp
    · have hm := List.mem_range.mp hm
      have : (((xs.size : Int) - 1) + (m : Int) * (-1)).toNat = xs.size - 1 - m := by omega
      rw [this, Array.getElem?_eq_getElem (by omega), List.getD_eq_getElem?_getD, List.getElem?_eq_getElem (by rw [Array.length_toList]; omega)]
      simp
  rw [e]
theorem sliceApplied_rev {sl : Addr} {vl vu vs : Value} {n : Nat} {Q : Int × Int × Nat → Shared → Prop} (hs : s.heap.IsSliceOf sl vl vu vs) (pl : IsPart vl none) (pu : IsPart vu none) (ps : IsPart vs (some (-1)))
    (h : Q ((n : Int) - 1, -1, n) s) : wpAny (model prog w) A (Builtin.Slice.sliceApplied (.ref sl) (pure (n : Int))) Q E s := by
  obtain ⟨os, hos, hcs, hds⟩ := id hs
  unfold Builtin.Slice.sliceApplied Builtin.Slice.sliceFields
  refine wpAny_bind (wpAny_bind (wpAny_field hos hds (x := vl) rfl (wpAny_bind (wpAny_field hos hds (x := vu) rfl (wpAny_bind (wpAny_field hos hds (x := vs) rfl (wpAny_pure ?_)))))))
  refine wpAny_bind (HT.slicePart_ ps ?_)
  show wpAny _ _ (if ((-1 : Int) == 0) = true then _ else _) _ _ s
  rw [if_neg (by decide)]
  refine wpAny_bind (HT.slicePart_ pl (wpAny_bind (HT.slicePart_ pu (wpAny_bind (wpAny_pure ?_)))))
  show wpAny _ _ (match Builtin.Slice.sliceAdjust none none (-1) (n : Int) with | (lo, hi) => pure (lo, (-1 : Int), Builtin.Slice.slicePlaces lo hi (-1))) _ _ s
  have e : Builtin.Slice.sliceAdjust none none (-1) (n : Int) = ((n : Int) - 1, -1) := by
    unfold Builtin.Slice.sliceAdjust
    have h1 : ((-1 : Int) < 0) := by omega
    simp only [h1, if_true]
  rw [e]
  show wpAny _ _ (pure ((n : Int) - 1, (-1 : Int), Builtin.Slice.slicePlaces ((n : Int) - 1) (-1) (-1))) _ _ s
  rw [places_rev]
  exact wpAny_pure h
theorem getItem_tuple_rev {t sl : Addr} {items : Array Value} {vl vu vs : Value} {Q : Value → Shared → Prop} (ht : IsTup s.heap t items) (hs : s.heap.IsSliceOf sl vl vu vs) (pl : IsPart vl none) (pu : IsPart vu none) (ps : IsPart vs (some (-1)))
    (h : Q (.ref s.heap.objs.size) { s with heap := s.heap.push { cls := .type "tuple", data := .seq items.toList.reverse.toArray } })
    (hsz : items.size ≤ sizeLine) : wpAny (model prog w) A (getItem (.ref t) (.ref sl)) Q E s := by
  have htake : sizeOk (.seq items.toList.reverse.toArray) := by
    show items.toList.reverse.toArray.size ≤ sizeLine
    rw [List.size_toArray, List.length_reverse, Array.length_toList]
    exact hsz
  obtain ⟨os, hos, hcs, hds⟩ := id hs
  have hTs : s.TypeIs (.ref sl) "slice" := ⟨os, hos, hcs⟩
  unfold getItem
  try with_reducible refine wpAny_holding ?_
  first | refine wpAny_bind (wpAny_pure ?_) | skip
  refine wpAny_bind (wpAny_sequenceKey ht.typeIs (by decide) ?_)
  refine wpAny_bind (wpAny_callSpecial?_slot (name := Str.ofString "__getitem__") ht.typeIs PyProof.Rows.slot_tuple_getitem
    (wpAny_call_entry PyProof.Rows.slot_tuple_getitem ht.typeIs entry_tuple_getitem ?_ (args_tuple_getitem _ _)))
  show wpAny _ _ (Builtin.Tuple.tupleItemsOf (.ref t) >>= _) _ _ s
  refine wpAny_bind (tupleItemsOf_ ht ?_)
  refine wpAny_bind (wpAny_typeOf hTs ?_)
  rw [if_pos (by decide)]
  refine wpAny_bind (sliceApplied_rev hs pl pu ps ?_)
  have hno : ¬ (((((items.size : Int) - 1) == 0 && (-1 : Int) == 1 && items.size == items.size) = true)) := by
    intro q
    rw [Bool.and_eq_true, Bool.and_eq_true] at q
    exact absurd (eq_of_beq q.1.2) (by decide)
  show wpAny _ _ (if (((items.size : Int) - 1) == 0 && (-1 : Int) == 1 && items.size == items.size) = true then _ else _) _ _ s
  rw [if_neg hno, pick_rev]
  first
    | exact wpAny_bind (m := Builtin.Tuple.tupleExact _) (wpAny_newObj_type (wpAny_pure ⟨_, rfl, wpAny_pure h⟩) htake)
    | exact wpAny_bind (m := Builtin.Tuple.tupleExact _) (wpAny_newObj_type (wpAny_bind (wpAny_pure (wpAny_pure ⟨_, rfl, wpAny_pure h⟩))) htake)
    | exact wpAny_bind (wpAny_bind (m := Builtin.Tuple.tupleExact _) (wpAny_newObj_type (wpAny_pure (wpAny_pure ⟨_, rfl, wpAny_pure h⟩)) htake))
    | exact wpAny_bind (wpAny_bind (m := Builtin.Tuple.tupleExact _) (wpAny_newObj_type (wpAny_pure ⟨_, rfl, wpAny_pure h⟩) htake))
end
def tRevT (K : PySem.W.Frag) (te : TE) : TE := fun σ H Q => te σ H fun x H1 => ∃ a xs, x = .ref a ∧ SqT K H1 a xs ∧ ∀ p, H1 p = none → Q (.ref p) (upd H1 p (.tup xs.reverse))
theorem pe_revT {X : Cx} {e : Expr} {te : TE} {k : Nat} {p1 p2 p3 pos : Pos} (he : PE X e te) : PE X (.Subscript e (.Slice none none (some (.UnaryOp .USub (.Constant (.int 1) k p1) p2)) p3) pos) (tRevT X.K te) := by
  refine ⟨fun pins s σ H Q I h => ?_⟩
  refine Subscript_ (thn (he.run pins s σ H _ I h) fun v s1 ⟨x, H1, I1, r1, q1⟩ => ?_)
  obtain ⟨a, xs, ex, hx, q⟩ := q1
  subst ex
  cases r1
  have hst : PO X (some (.UnaryOp .USub (.Constant (.int 1) k p1) p2)) (tPart (tUn (rU fun i => .int (-i)) (tC (.int 1)))) := po_some (pe_un un_neg pe_int)
  refine wpAny_Slice (thn (po_none.run pins s1 σ H1 (fun o H2 => o = none ∧ H2 = H1) I1 ⟨rfl, rfl⟩) fun vl s2 ⟨l, H2, I2, pl, el, e2⟩ => ?_)
  subst el e2
  refine thn (po_none.run pins s2 σ H2 (fun o H3 => o = none ∧ H3 = H2) I2 ⟨rfl, rfl⟩) fun vu s3 ⟨u, H3, I3, pu, eu, e3⟩ => ?_
  subst eu e3
  refine thn (hst.run pins s3 σ H3 (fun o H4 => o = some (-1) ∧ H4 = H3) I3 ⟨1, rfl, -1, rfl, rfl, rfl⟩) fun vs s4 ⟨o, H4, I4, ps, eo, e4⟩ => ?_
  subst eo e4
  have I5 : Inv X pins σ H4 { s4 with heap := s4.heap.push { cls := .type "slice", data := .fields #[vl, vu, vs] } } := I4.kept (t' := s4.toks) fun b ob q => Heap.get?_push_of_some _ q
  obtain ⟨its, r, ht, hz⟩ := I5.tuple hx
  have hlen := r.length
  show wpAny (model X.prog X.w) X.A (subscriptTail e (.Slice none none (some (.UnaryOp .USub (.Constant (.int 1) k p1) p2)) p3) (.ref a) (.ref s4.heap.objs.size)) (EP X pins σ Q) X.xe { s4 with heap := s4.heap.push { cls := .type "slice", data := .fields #[vl, vu, vs] } }
  refine tail_any (ops := [.ref a, .ref s4.heap.objs.size]) ht.typeIs (PyProof.Rows.slot_tuple_getitem.lookup) ?_ (by with_unfolding_all rfl)
  refine getItem_tuple_rev ht (Heap.IsSliceOf.new _ vl vu vs) pl pu ps ?_ (by rw [List.size_toArray]; omega)
  refine ⟨.ref _, _, I5.laid (t' := s4.toks) (o := .tup xs.reverse) (fun b ob q => Heap.get?_push_of_some _ q) (Nat.le_refl _) ?_, rfl, q _ (I5.hok.fresh (Nat.le_refl _))⟩
  exact ⟨by rw [List.length_reverse]; exact hz, _, r.reverse, IsTup.new _ _⟩
theorem Reps.reverse {K : PySem.W.Frag} {H : Hp} : ∀ {ds : List D} {vs : List V}, Reps K H ds vs → Reps K H ds.reverse vs.reverse
  | [], _, .nil => .nil
  | d :: ds, _, .cons h t => by
    rw [List.reverse_cons, List.reverse_cons]
    exact (Reps.reverse t).append (.cons h .nil)
def dRevT (te : TD) : TD := fun e S Q => te e S fun x S1 => match x with
  | .tup xs => Q (.tup xs.reverse) S1
  | _ => False
theorem de_revT {X : Cx} {a : Expr} {te : TD} {k : Nat} {p1 p2 p3 pos : Pos} (ha : DE X a te) : DE X (.Subscript a (.Slice none none (some (.UnaryOp .USub (.Constant (.int 1) k p1) p2)) p3) pos) (dRevT te) :=
  PE.le (pe_revT ha) fun σ H Q h => by
    obtain ⟨e, S, Q0, re, rs, ht, kk⟩ := h
    refine ⟨e, S, _, re, rs, ht, fun d S1 v H1 q p rs1 r => ?_⟩
    cases r with
    | tup hq rr =>
      refine ⟨_, _, rfl, hq, fun l hl => ?_⟩
      have f : Free (H1 l) := by rw [hl]; trivial
      exact kk _ S1 _ _ q (p.trans (Post.lay hl)) (rs1.upd f (rs1.none_of hl)) (.tup (.of upd_same) (rr.reverse.mono (TK.upd f)))
    | _ => exact q.elim
end QL
end L2
/-! x.count(text) of a list of texts; x[::-1] of a list -/
namespace L2
namespace QL
open PySem PySem.Spec PyProof.Rows
def rCntS (K : PySem.W.Frag) : V → List V → Hp → VK → Prop := fun x xs H Q => ∃ (p : Addr) (ks : List Str) (k : Str), x = .ref p ∧ xs = [.str k] ∧ SqL K H p (ks.map V.str) ∧ Q (.int (ks.count k : Nat)) H
theorem count_strs (k : Str) : ∀ {its : List Value} {ks : List Str}, StrsAre its ks → its.countP (isStrOf k) = ks.count k
  | _, _, .nil => rfl
  | _, _, .cons n t h => by
    rw [List.countP_cons, List.count_cons, count_strs k h]
    rfl
theorem mt_lcountS {X : Cx} : MtR X "list.count" (rCntS X.K) := by
  intro pins s σ H x xs v us Q I rx rxs h
  obtain ⟨p, ks, k, rfl, rfl, hs, q⟩ := h
  cases rx
  obtain ⟨u, rfl, ru⟩ := rxs.one
  obtain ⟨t, rfl⟩ := ru
  obtain ⟨its, rv, ⟨⟨cls, dd, data, sl⟩, n, ho, hc, hdn, hd⟩, hlen⟩ := I.list hs
  simp only at hc hd
  subst hc hd
  have hi := rv.strs
  refine call_meets PySem.F.slot_list_count ⟨_, ho, rfl⟩ PySem.F.entry_list_count (PySem.F.args_list_count_2 _ _)
    (SeqAt.list_countAt p its.toArray n dd sl (.str k t) (isStrOf k)) ⟨ho, fun y hy => (eq_isStrOf k t hi y (by simpa using hy)).at _ _, ?_⟩
  have ec : its.toArray.toList.countP (isStrOf k) = ks.count k := count_strs k hi
  refine ⟨.int (ks.count k : Nat), H, I.tok _, ⟨s.toks, ?_⟩, q⟩
  show Value.int ((its.toArray.toList.countP (isStrOf k) : Nat) : Int) s.toks = Value.int ((ks.count k : Nat) : Int) s.toks
  rw [ec]
def dCntS (to te : TD) : TD := fun e S Q => to e S fun o S1 => match o with
  | .loc p => match S1 p with
    | some (.lst _) => te e S1 fun y S2 => match S2 p with
      | some (.lst xs) => ∃ (ks : List Str) (k : Str), xs = ks.map D.str ∧ y = .str k ∧ Q (.int (ks.count k : Nat)) S2
      | _ => False
    | _ => False
  | _ => False
section
variable {X : Cx} {o a : Expr} {to te : TD} {apos pos : Pos}
theorem de_cntS (ho : DE X o to) (ha : DE X a te) (hbase : attributeBase o "count" X.env (eval o X.env) = eval o X.env := by rfl) (hline : (apos.endLine == pos.line) = true := by rfl) (hs : starEach [a] X.env = (false, eval a X.env) :: starEach [] X.env := by rfl)
    (hfew : ((backTo pos (starEach [a] X.env)).all (fun x => !x.1) && (backToKw pos (keywordEach [] X.env)).all (fun x => x.1.isSome)
      && decide (([a] : List Expr).length + ([] : List Keyword).length + (if ([] : List Keyword).isEmpty then 0 else 1) < 30)) = true := by rfl) :
    DE X (.Call (.Attribute o "count" apos) [a] [] pos) (dCntS to te) :=
  PE.le (pe_bm PySem.F.plainAttrs_list PySem.F.slot_list_count PySem.F.type_list_count mt_lcountS ho (pa_cons ha pa_nil hs) hbase hfew hline hs) fun σ H Q h => by
    obtain ⟨e, S, Q0, re, rs, h1, kk⟩ := h
    refine ⟨e, S, _, re, rs, h1, fun d S1 v H1 q p rs1 r => ?_⟩
    cases r with
    | loc a =>
      dsimp only at q
      split at q
      · rename_i xs0 e0
        obtain ⟨vs0, a0, _⟩ := rs1 _ _ e0
        refine ⟨.inl ⟨rfl, _, SqL.of a0⟩, e, S1, _, re.mono p.tk, rs1, q, fun y S2 w H2 q2 p2 rs2 r2 => ?_⟩
        split at q2
        · rename_i xs e1
          obtain ⟨vs, a1, b1⟩ := rs2 _ _ e1
          obtain ⟨ks, k, rfl, rfl, q3⟩ := q2
          rw [b1.strs] at a1
          cases r2
          exact ⟨_, ks, k, rfl, rfl, SqL.of a1, kk _ _ _ _ q3 (p.trans p2) rs2 (.int _)⟩
        · exact q2.elim
      · exact q.elim
    | _ => exact q.elim
def dRevL (te : TD) : TD := fun e S Q => te e S fun x S1 => match lstD S1 x with
  | some xs => ∀ a, S1 a = none → Q (.loc a) (S1.put a (.lst xs.reverse))
  | none => False
theorem de_revL {X : Cx} {a : Expr} {te : TD} {k : Nat} {p1 p2 p3 pos : Pos} (ha : DE X a te) : DE X (.Subscript a (.Slice none none (some (.UnaryOp .USub (.Constant (.int 1) k p1) p2)) p3) pos) (dRevL te) :=
  PE.le (pe_revL ha) fun σ H Q h => by
    obtain ⟨e, S, Q0, re, rs, ht, kk⟩ := h
    refine ⟨e, S, _, re, rs, ht, fun d S1 v H1 q p rs1 r => ?_⟩
    split at q
    · rename_i xs ex
      obtain ⟨l, vs, rfl, sq, rr⟩ := lst_sql rs1 r ex
      refine ⟨l, vs, rfl, sq, fun a hl => ?_⟩
      exact kk _ _ _ _ (q a (rs1.none_of hl)) (p.trans (Post.new hl)) (new_lst rs1 hl rr.reverse) (.loc a)
    · exact q.elim
end
end QL
end L2
/-! list(range(n)) -/
namespace L2
namespace QL
open PySem PySem.Spec PyProof.Rows
def dLstRg (ta : TD) : TD := fun e S Q => ta e S fun x S1 => match x with
  | .int n => (0 ≤ n ∧ n ≤ 100000) ∧ ∀ a, S1 a = none → Q (.loc a) (S1.put a (.lst (rngD 0 n.toNat)))
  | _ => False
theorem reps_rng {K : PySem.W.Frag} {H : Hp} (n : Int) : Reps K H (rngD 0 n.toNat) (rgV 0 n) := by
  have e : rngD 0 n.toNat = ((List.range n.toNat).map fun (k : Nat) => (0 : Int) + k).map D.int := by unfold rngD; rw [List.map_map]; rfl
  have e2 : rgV 0 n = ((List.range n.toNat).map fun (k : Nat) => (0 : Int) + k).map V.int := by unfold rgV; rw [List.map_map, Int.sub_zero]; rfl
  rw [e, e2]
  exact Reps.of_ints _
theorem de_lstRg {X : Cx} {a : Expr} {ta : TD} {p p2 pos pos2 : Pos} (hc : X.calm = true) (hg : Gl X "list") (hm : X.mg "list" = none) (hg2 : Gl X "range") (hm2 : X.mg "range" = none) (ha : DE X a ta) (he : starEach (a :: []) X.env = (false, eval a X.env) :: starEach [] X.env := by rfl) : DE X (.Call (.Name "list" p) [.Call (.Name "range" p2) [a] [] pos2] [] pos) (dLstRg ta) :=
  PE.le (pe_listRg hc hg hm (prg_1 hg2 hm2 ha (na := he))) fun σ H Q h => by
    obtain ⟨e, S, Q0, re, rs, ht, kk⟩ := h
    refine ⟨e, S, _, re, rs, ht, fun d S1 v H1 q p rs1 r => ?_⟩
    cases r with
    | int n =>
      obtain ⟨⟨h0, h1⟩, q⟩ := q
      refine ⟨n, rfl, RgOk.of_le (Int.le_refl _) (by omega) (by omega) h0, fun a hl => ?_⟩
      exact kk _ _ _ _ (q a (rs1.none_of hl)) (p.trans (Post.new hl)) (new_lst rs1 hl (reps_rng n)) (.loc a)
    | _ => exact q.elim
end QL
end L2
/-! defs with default values, all arguments given -/
namespace L2
namespace QL
open PySem PySem.Spec PyProof.Rows
structure FunV (K : PySem.W.Frag) (x qual : Str) (st : Stmt) (m : Nat) (f : Addr) (fd : FuncData) : Prop where
  ex : ∃ (oc : Value) (od : Option Addr) (T : Addr) (kV doc pm : Value) (an : Option Addr) (cdv ct : Value) (osl : Array (Option Value)) (o : Obj) (its : List Value) (n : Nat),
    fd = PySem.W.fnOf x qual (defArgs st) (defBody st) (defScope st) (.ref T) kV doc pm an cdv ct ∧ K.lookup f = some ⟨oc, od, .func fd, osl⟩ ∧ PySem.W.codeIn K cdv qual = true ∧ K.lookup T = some o ∧ o.data = .seq its.toArray n ∧ its.length = m
  kp : PySem.W.keepIn K (.ref f) = true
theorem FunV.binds {K : PySem.W.Frag} {x qual : Str} {st : Stmt} {m : Nat} {f : Addr} {fd : FuncData} {ps : List Str} (F : FunV K x qual st m f fd)
    (h : ∀ (T : Addr) (kV doc pm : Value) (an : Option Addr) (cdv ct : Value) (us its : List Value), us.length = ps.length → its.length = m →
      ∃ k, bindArgs (PySem.W.fnOf x qual (defArgs st) (defBody st) (defScope st) (.ref T) kV doc pm an cdv ct) ⟨us, []⟩ = seqItems? (.ref T) >>= k ∧ k (some its.toArray) = pure (ps.zip us)) : Binds K fd ps [] := by
  obtain ⟨oc, od, T, kV, doc, pm, an, cdv, ct, osl, o, its, n, rfl, lk, hcd, lT, oT, hm⟩ := F.ex
  intro s us X hlen
  rw [List.append_nil] at hlen ⊢
  obtain ⟨k, e1, e2⟩ := h T kV doc pm an cdv ct us its hlen hm
  refine BindsTo.of_looks fun M => ?_
  rw [e1]
  exact looks_items X lT oT (.of_pure e2)
theorem fun_mkV {K : PySem.W.Frag} {x qual : Str} {st : Stmt} {f T : Addr} {oc tc : Value} {od an td : Option Addr} {osl ts : Array (Option Value)} {kV doc pm cdv ct : Value} {its : List Value} {n : Nat} (l : K.lookup f = some ⟨oc, od, .func (PySem.W.fnOf x qual (defArgs st) (defBody st) (defScope st) (.ref T) kV doc pm an cdv ct), osl⟩)
    (c : PySem.W.codeIn K cdv qual = true) (k : PySem.W.keepIn K (.ref f) = true) (t : K.lookup T = some ⟨tc, td, .seq its.toArray n, ts⟩) : FunV K x qual st its.length f (PySem.W.fnOf x qual (defArgs st) (defBody st) (defScope st) (.ref T) kV doc pm an cdv ct) := ⟨⟨oc, od, T, kV, doc, pm, an, cdv, ct, osl, _, its, n, rfl, l, c, t, rfl, rfl⟩, k⟩
theorem fnd_ofV {P : Program} {w : World} {K : PySem.W.Frag} {mg : Str → Option Value} {base : Heap} {k : Nat} {f : Addr} {x qual : Str} {st : Stmt} {m : Nat} {fd : FuncData} {N ps : List Str} {sp : SpD} {tb : TSD} (F : FunV K x qual st m f fd) (S : FnScope N ps (defScope st))
    (len : ∀ ds S Q, sp ds S Q → ds.length = ps.length)
    (hbody : ∀ (A : Around) (outer : List Env) (s : Shared) (H : Hp) (cdv : Value), RoomG k (A.deeper (envOfC qual (defScope st) s.heap.objs.size f cdv)) → DSs (cxOf CX0 P w K mg base N qual (defScope st) f cdv A outer s H noE).nox (defBody st) tb)
    (plain : ∀ ds S Q0, sp ds S Q0 → tb (bodyEnds Q0) (startD N ds) S) : FnD P w K mg base (k + 1) f fd ps sp := by
  obtain ⟨oc, od, T, kV, doc, pm, an, cdv, ct, osl, o, its, n, rfl, lk, hcd, _, _, _⟩ := F.ex
  refine ⟨len, fun A outer s H args us vs Q hr e0 hb r hsp => ?_⟩
  obtain ⟨ds, S0, Q0, hreps, rs, hq, kk⟩ := hsp
  have hl : vs.length = ps.length := by rw [← hreps.length]; exact len ds S0 Q0 hq
  have KX : K.In s.heap := e0.mod.kin.keeps fun b o e => (e0.bs b o e).1
  have lim : s.heap.NoLimit := e0.mod.nolimit.keeps fun b o e => (e0.bs b o e).1
  have hkind : ∀ y ∈ ps.zip us, (defScope st).names.lookup y.1 = some .local ∨ ((defScope st).names.lookup y.1 = some .cell ∧ ((cellsFrom (s.heap.objs.size + 1) (defScope st).names []).lookup y.1).isSome = true) := fun ⟨n, v⟩ hy => by
    rcases S.par n (List.of_mem_zip hy).1 with q | q
    · exact .inl q
    · exact .inr ⟨q, PySem.W.cellsFrom_some _ _ _ (.inl q)⟩
  refine codeAny_call_function hr.rm.depth (KX _ _ lk) rfl S.co S.gen rfl (PySem.W.codeRec_of KX hcd) (hb _ _ _ _ ?_)
  refine wpAny_newFunctionEnv_cells S.kind hkind fun env he s1 x => ?_
  subst he
  refine ⟨lim.keeps x.toInCall.keep, codeAny_func ?_⟩
  have I : Inv (cxOf CX0 P w K mg base N qual (defScope st) f cdv A outer s H noE) [] (start N vs) H s1 := inv_start S hr.rm.hd e0 hl r x
  have fin : ∀ {d S' S2 v H'}, Q0 d S2 → Sb S2 S' → Post K S0 H S' H' → RelS K S' H' → Rep K H' d v → Q v H' := fun {d S' S2 v H'} q sb p rs' rp => kk d S2 v H' q (p.sub sb) (rs'.sub sb) rp
  refine wpAny_mono ((PSs.nox (hbody A outer s H cdv (hr.deeper _))).run [] s1 (start N vs) H { nx := fun _ H' => Q .non H', rt := Q } I
    ⟨startD N ds, S0, bodyEnds Q0, RelE.start hreps, rs, plain ds S0 Q0 hq, ⟨fun e' S' σ' H' q p re rs' => ?_, fun d S' v H' q p rp rs' => ?_, fun _ _ _ _ q => q.elim, fun _ _ _ _ q => q.elim⟩⟩) (fun fl s' hs => ?_) fun e s' hs => hs
  · obtain ⟨S2, sb, q⟩ := q
    exact fin q sb p rs' .non
  · obtain ⟨S2, sb, q⟩ := q
    exact fin q sb p rs' rp
  · have fin : ∀ {σ' : St} {H' : Hp} {v : V} {u : Value}, Inv (cxOf CX0 P w K mg base N qual (defScope st) f cdv A outer s H noE) [] σ' H' s' → RelV v u → Q v H' → CE outer P w H s Q u s' :=
      fun {σ' H' v u} J rv q => ⟨v, H', J.os, J.bare, J.base, J.hok, rv, q⟩
    cases fl with
    | ret u =>
      obtain ⟨v, σ', H', J, rv, q⟩ := hs
      exact fin J rv q
    | next =>
      obtain ⟨σ', H', J, q⟩ := hs
      exact fin (v := V.non) (u := Value.none) J rfl q
    | brk =>
      obtain ⟨_, _, _, q⟩ := hs
      exact False.elim q
    | cont =>
      obtain ⟨_, _, _, q⟩ := hs
      exact False.elim q
end QL
end L2
namespace L2
namespace QL
open PySem PySem.Spec PyProof.Rows
/-! the end over a head by facts: the Hook with further names of one def -/
abbrev AlX : Type := Bool × He.AlD
def obsX (al : List (Str × Str)) (bs : List (PySem.W.Frag → Bool)) (fa : List He.Fa) (fn : List He.DefD) (K : PySem.W.Frag) : AlX := ((al.all fun p => He.eqO (PySem.W.nsIn K mainGlobals p.2) (some (some (.ref (He.ga K p.1))))) && bs.all (fun b => b K), He.obsD fa fn K)
def SaysX (al : List (Str × Str)) (bs : List (PySem.W.Frag → Bool)) (fa : List He.Fa) (fn : List He.DefD) (K : PySem.W.Frag) : Prop := obsX al bs fa fn K = (true, He.valD fn)
/-- the addresses that the module's names reach: functions, classes, their methods, what these name -/
def refsSeq (g : Addr → Option Obj) (v : Value) : List Addr := match v with
  | .ref T => (match g T with
    | some ⟨_, _, .seq its _, _⟩ => its.toList.flatMap He.refV
    | _ => [])
  | _ => []
def refsFn (g : Addr → Option Obj) (o : Option Obj) : List Addr := match o with
  | some ⟨_, _, .func fd, _⟩ => He.refV fd.code ++ (He.refV fd.defaults ++ (refsSeq g fd.defaults ++ He.refV fd.kwdefaults))
  | _ => []
def refsDict (o : Option Obj) : List Addr := match o with
  | some ⟨_, _, .dict es _, _⟩ => es.toList.flatMap fun e => He.refV e.val
  | _ => []
def refsTop (g : Addr → Option Obj) (a : Addr) : List Addr := match g a with
  | some ⟨_, _, .func fd, _⟩ => He.refV fd.code ++ (He.refV fd.defaults ++ He.refV fd.kwdefaults)
  | some ⟨_, _, .cls cd, _⟩ => cd.ns :: ((refsDict (g cd.ns)).flatMap fun m => m :: refsFn g (g m))
  | _ => []
def asX (g : Addr → Option Obj) : List Addr := mainGlobals :: ((refsDict (g mainGlobals)).flatMap fun a => a :: refsTop g a)
def obsXG (al : List (Str × Str)) (bs : List (PySem.W.Frag → Bool)) (fa : List He.Fa) (fn : List He.DefD) (g : Addr → Option Obj) : AlX := obsX al bs fa fn (He.frG g (asX g))
def hookX (al : List (Str × Str)) (bs : List (PySem.W.Frag → Bool)) (fa : List He.Fa) (fn : List He.DefD) : PySem.W.Hook where
  α := AlX
  obs := fun s => obsXG al bs fa fn s.heap.get?
  val := fun _ => (true, He.valD fn)
  says := fun _ h => ∃ K : PySem.W.Frag, K.In h ∧ SaysX al bs fa fn K
  of := fun _ _ e => ⟨_, He.frG_in, e⟩
  keeps := fun _ _ _ ⟨K, hK, c⟩ k => ⟨K, PySem.W.Frag.In.keeps hK k, c⟩
theorem obsXG_eq {al : List (Str × Str)} {bs : List (PySem.W.Frag → Bool)} {fa : List He.Fa} {fn : List He.DefD} {g : Addr → Option Obj} {s : Shared} (h : ∀ a, g a = s.heap.get? a) : obsXG al bs fa fn g = (hookX al bs fa fn).obs s := by
  have e : g = s.heap.get? := funext h
  rw [e] <;> rfl
section
variable {al : List (Str × Str)} {bs : List (PySem.W.Frag → Bool)} {fa : List He.Fa} {fn : List He.DefD} {K : PySem.W.Frag}
theorem SaysX.says (c : SaysX al bs fa fn K) : He.SaysD fa fn K := congrArg (fun z : AlX => z.2) c
theorem SaysX.also (c : SaysX al bs fa fn K) (i : Nat) {p : Str × Str} (h : al[i]? = some p) : PySem.W.nsIn K mainGlobals p.2 = some (some (.ref (He.ga K p.1))) := by
  have c1 : (al.all fun p => He.eqO (PySem.W.nsIn K mainGlobals p.2) (some (some (.ref (He.ga K p.1))))) = true := (Bool.and_eq_true_iff.mp (show ((al.all fun p => He.eqO (PySem.W.nsIn K mainGlobals p.2) (some (some (.ref (He.ga K p.1))))) && bs.all (fun b => b K)) = true from congrArg (fun z : AlX => z.1) c)).1
  exact He.eqO_ok (List.all_eq_true.mp c1 p (List.mem_of_getElem? h))
theorem SaysX.more (c : SaysX al bs fa fn K) (i : Nat) {b : PySem.W.Frag → Bool} (h : bs[i]? = some b) : b K = true :=
  List.all_eq_true.mp (Bool.and_eq_true_iff.mp (show ((al.all fun p => He.eqO (PySem.W.nsIn K mainGlobals p.2) (some (some (.ref (He.ga K p.1))))) && bs.all (fun b => b K)) = true from congrArg (fun z : AlX => z.1) c)).2 b (List.mem_of_getElem? h)
theorem def_raw (c : He.SaysD fa fn K) (i : Nat) {d : He.DefD} (h : fn[i]? = some d) (e : d.dfl = []) :
    ∃ (oc : Value) (od : Option Addr) (kV doc pm : Value) (an : Option Addr) (cdv ct : Value) (osl : Array (Option Value)),
      K.lookup (He.fAd K d.at_) = some ⟨oc, od, .func (PySem.W.fnOf d.name d.qual d.params d.body d.scope .none kV doc pm an cdv ct), osl⟩ ∧ PySem.W.codeIn K cdv d.qual = true ∧ PySem.W.keepIn K (.ref (He.fAd K d.at_)) = true := by
  obtain ⟨fd, ⟨⟨oc, od, dV, kV, doc, pm, an, cdv, ct, osl, rfl, lk, hc, hD, hK⟩, kp⟩⟩ := c.def_ i h
  rcases hD with ⟨_, rfl⟩ | ⟨hne, _⟩
  · exact ⟨oc, od, kV, doc, pm, an, cdv, ct, osl, lk, hc, kp⟩
  · exact absurd (by unfold He.DefD.dvs; rw [e]; rfl) hne
theorem def_rawK (c : He.SaysD fa fn K) (i : Nat) {d : He.DefD} (h : fn[i]? = some d) (e : d.dfl = []) {nm : Str} {v : He.Dv} (ek : d.kwd = [(nm, v)]) :
    ∃ (oc : Value) (od : Option Addr) (Dk : Addr) (u doc pm : Value) (an : Option Addr) (cdv ct : Value) (osl : Array (Option Value)),
      K.lookup (He.fAd K d.at_) = some ⟨oc, od, .func (PySem.W.fnOf d.name d.qual d.params d.body d.scope .none (.ref Dk) doc pm an cdv ct), osl⟩ ∧ PySem.W.codeIn K cdv d.qual = true ∧ PySem.W.keepIn K (.ref (He.fAd K d.at_)) = true ∧
      PySem.W.nsIn K Dk nm = some (some u) ∧ RelV (v.v K) u := by
  obtain ⟨fd, ⟨⟨oc, od, dV, kV, doc, pm, an, cdv, ct, osl, rfl, lk, hc, hD, hK⟩, kp⟩⟩ := c.def_ i h
  rcases hD with ⟨_, rfl⟩ | ⟨hne, _⟩
  · have e2 : d.kws K = [(nm, v.v K)] := by unfold He.DefD.kws; rw [ek]; rfl
    rw [e2] at hK
    rcases hK with e3 | ⟨D, rfl, hq⟩
    · cases e3
    · obtain ⟨u, t, r⟩ := hq (nm, v.v K) (List.mem_singleton.mpr rfl)
      exact ⟨oc, od, D, u, doc, pm, an, cdv, ct, osl, lk, hc, kp, t, r⟩
  · exact absurd (by unfold He.DefD.dvs; rw [e]; rfl) hne
theorem def_rawV (c : He.SaysD fa fn K) (i : Nat) {d : He.DefD} (h : fn[i]? = some d) (m : Nat) (e : d.dfl.length = m + 1) :
    ∃ (oc : Value) (od : Option Addr) (T : Addr) (kV doc pm : Value) (an : Option Addr) (cdv ct : Value) (osl : Array (Option Value)) (tc : Value) (td : Option Addr) (its : List Value) (n : Nat) (ts : Array (Option Value)),
      K.lookup (He.fAd K d.at_) = some ⟨oc, od, .func (PySem.W.fnOf d.name d.qual d.params d.body d.scope (.ref T) kV doc pm an cdv ct), osl⟩ ∧ PySem.W.codeIn K cdv d.qual = true ∧ PySem.W.keepIn K (.ref (He.fAd K d.at_)) = true ∧
      its.length = m + 1 ∧ K.lookup T = some ⟨tc, td, .seq its.toArray n, ts⟩ ∧ Vals (d.dvs K) its := by
  obtain ⟨fd, ⟨⟨oc, od, dV, kV, doc, pm, an, cdv, ct, osl, rfl, lk, hc, hD, hK⟩, kp⟩⟩ := c.def_ i h
  rcases hD with ⟨e2, _⟩ | ⟨_, T, o, its, n, rfl, lT, oT, rT⟩
  · have : (d.dvs K).length = m + 1 := by unfold He.DefD.dvs; rw [List.length_map]; exact e
    rw [e2] at this
    cases this
  · have hl : its.length = m + 1 := by
      rw [← rT.length]
      unfold He.DefD.dvs
      rw [List.length_map]
      exact e
    obtain ⟨tc, td, dt, ts⟩ := o
    cases oT
    exact ⟨oc, od, T, kV, doc, pm, an, cdv, ct, osl, tc, td, its, n, ts, lk, hc, kp, hl, lT, rT⟩
/-- a default that is the empty tuple -/
def emptyTupB (at_ : Str × Option Str) (i : Nat) (K : PySem.W.Frag) : Bool := match K.lookup (He.dflAt at_ i K) with
  | some ⟨.type c, _, .seq its _, _⟩ => decide (c = "tuple") && decide (its = #[])
  | _ => false
theorem emptyTup_ok {at_ : Str × Option Str} {i : Nat} (h : emptyTupB at_ i K = true) (H : Hp) : Rep K H (.tup []) (.ref (He.dflAt at_ i K)) := by
  unfold emptyTupB at h
  cases q : K.lookup (He.dflAt at_ i K) with
  | none => rw [q] at h; cases h
  | some o =>
    obtain ⟨oc, od, dt, osl⟩ := o
    rw [q] at h
    cases oc with
    | type c =>
      cases dt with
      | seq its n =>
        obtain ⟨h1, h2⟩ := Bool.and_eq_true_iff.mp (show (decide (c = "tuple") && decide (its = #[])) = true from h)
        have e2 := of_decide_eq_true h2
        subst e2
        exact .tup (.inr ⟨_, #[], n, q, congrArg Value.type (of_decide_eq_true h1), rfl, by simp, .nil⟩) .nil
      | _ => cases h
    | _ => cases dt <;> cases h
theorem vals_refs : ∀ {as : List Addr} {its : List Value}, Vals (as.map V.ref) its → its = as.map Value.ref
  | [], [], _ => rfl
  | a :: as, u :: us, h => by
    cases h with
    | cons r t =>
      have e : u = Value.ref a := r
      rw [e, vals_refs t]
      rfl
theorem int_raw {x : Str} {i : Int} (c : (He.Fa.int x i).ok K = true) : ∃ t, PySem.W.nsIn K mainGlobals x = some (some (.int i t)) := by
  have c2 : (match PySem.W.nsIn K mainGlobals x with
    | some (some (.int j _)) => decide (j = i)
    | _ => false) = true := c
  cases e : PySem.W.nsIn K mainGlobals x with
  | none =>
    rw [e] at c2
    cases c2
  | some o =>
    rw [e] at c2
    cases o with
    | none => cases c2
    | some v =>
      cases v with
      | int j t =>
        have ej : j = i := of_decide_eq_true c2
        rw [ej]
        exact ⟨t, rfl⟩
      | _ => cases c2
theorem str_raw {x z : Str} (c : (He.Fa.str x z).ok K = true) : ∃ t, PySem.W.nsIn K mainGlobals x = some (some (.str z t)) := by
  have c2 : (match PySem.W.nsIn K mainGlobals x with
    | some (some (.str j _)) => decide (j = z)
    | _ => false) = true := c
  cases e : PySem.W.nsIn K mainGlobals x with
  | none =>
    rw [e] at c2
    cases c2
  | some o =>
    rw [e] at c2
    cases o with
    | none => cases c2
    | some v =>
      cases v with
      | str j t =>
        have ej : j = z := of_decide_eq_true c2
        rw [ej]
        exact ⟨t, rfl⟩
      | _ => cases c2
end
theorem funV_len {K : PySem.W.Frag} {x qual : Str} {st : Stmt} {m n : Nat} {f : Addr} {fd : FuncData} (F : FunV K x qual st m f fd) (e : m = n) : FunV K x qual st n f fd := by
  subst e
  exact F
theorem walk_ofDE {l : PySem.W.OpenLaw} {n k : Nat} {q : Program} {loose : List Str} {XP : (Str → Option Value) → Heap → Prop} {YP : World → Heap → Prop} {d : DefRec} {sp : SpD} {x : Str}
    (hn : l.most = some n) (hn2 : n ≤ sizeLine) (hdf : d.params.defaults = []) (hr : RoomG k callerA)
    (F : ∀ (w : World) (mg : Str → Option Value) (fa : Addr) (h : Heap), YP w h → h.Ns mainGlobals mg → mg d.name = some (.ref fa) →
      ∃ (K : PySem.W.Frag) (fd : FuncData), K.In h ∧ (∀ (s : Shared) (u : Value), BindsTo s fd ⟨[u], []⟩ [(x, u)]) ∧ ∀ base : Heap, K.In base → base.Ns mainGlobals mg → FnD l.prog w K mg base k fa fd [x] sp)
    (hsp : ∀ ns : List Int, ns.length ≤ n → sp [.rol (ns.map D.int)] (fun _ => none) (fun d _ => d = .bl true)) : PySem.W.WalkO q loose XP YP l.row.toRowW d [] (fun f vs => PySem.call f vs) := by
  refine Att.attach_call hn hdf fun w s₀ s₁ mg mb fa o pm cd doc a vs ns G Y ho hd hcd hmg hobj hints hlen hg => ?_
  obtain ⟨K, fd, KX, hb, hF⟩ := F w mg fa _ Y G.T.g hmg
  exact law_callD KX G.T.g G.T.b G.T.builtins G.T.nolimit hg hobj hints (Nat.le_trans hlen hn2) hr hF hb (hsp ns hlen)
end QL
end L2
/-! an own exception class over any built-in one; its __init__ calls the base's, then stores one field -/
namespace PySem
namespace OXB
open PySem.W PySem.Calls PyProof.Rows PySem.HandSPX
section
open Builtin Builtin.ObjectAttr
variable {prog : Program} {w : World} {A : Around} {R : Result → Shared → Prop} {hp : Heap} {g : Array GenState} {d : Drawn} {t : Nat} {os : OsState}
theorem put_new {K : W.Frag} {name : Str} {tk : Tok} {v : Value} {x C : Addr} {fv : Array Value} {cd : ClassData} {B : String} {bmB : List Value} (SB : StoreFacts B bmB "object.__setattr__" "object")
    (KI : K.In hp) (hx : hp.get? x = some { cls := .ref C, data := .fields fv }) (hcd : W.clsIn K C = some cd) (hm : cd.mro = .ref C :: bmB) (hh : cd.hasDict = true) (ha : W.findIn K (.ref C) name = some none)
    (hq : ∀ h' tk' dx, (∀ b o, b ≠ x → hp.get? b = some o → h'.get? b = some o) → hp.objs.size ≤ dx → dx ≠ x → h'.get? x = some { cls := .ref C, dict := some dx, data := .fields fv } →
      h'.Ns1 dx (fun y => if y = name then some v else none) → R (.ok (.ret .none)) ⟨h', g, d, tk', os⟩) :
    codeAny (model prog w) A (.call (.builtin "object.__setattr__") ⟨[.ref x, .str name tk, v], []⟩) R ⟨hp, g, d, t, os⟩ := by
  have II : W.InstAt hp x { cls := .ref C, data := .fields fv } C none := ⟨hx, rfl, rfl, trivial⟩
  have hxs : x ≠ hp.objs.size := Nat.ne_of_lt (Heap.lt_size hx)
  have SO := F.store_object
  have hob : (Value.ref C :: bmB).contains (.type "object") = true := by rw [List.contains_cons, SB.hasOwner, Bool.or_true]
  have inO : W.mroIn K C (.type "object") = some true := by
    unfold W.mroIn
    rw [hcd, Option.bind_some, hm, if_neg (show ¬ (List.isEmpty (Value.ref C :: bmB) = true) from Bool.false_ne_true), hob]
  have isO : W.Looks (model prog w) hp (isInstance (.ref x) (.type "object")) true := II.type.andThen (W.looks_mroIn KI inO)
  refine codeAny_call_builtin SO.slot.plain SO.entry (@W.check_slot (model prog w) _ _ ⟨hp, g, d, t, os⟩ "object.__setattr__" "object" "__setattr__" (.ref x) [.str name tk, v] [] _ SO.kind SO.split isO (SO.args (.ref x) (.str name tk) v) ?_)
  have hmr : W.Looks (model prog w) hp (mroOf (.ref C)) cd.mro := (W.looks_clsIn KI hcd).andThen .now
  have noTaker : W.Looks (model prog w) hp (storeTaker? none) none := .now
  have goes : refuseLoop (.ref x) "__setattr__" cd.mro = pure () := by
    rw [hm, refuseLoop_ref]
    exact SB.passes _
  rw [W.osa_eq, refuse_eq]
  refine wpAny_bind (wpAny_bind (II.type.at (wpAny_bind (hmr.at ?_))))
  rw [goes]
  refine wpAny_pure (wpAny_bind (II.type.at (wpAny_bind ((W.looks_findIn KI ha).at (wpAny_bind (noTaker.at ?_))))))
  have hcls : W.Looks (model prog w) hp (classData C) cd := W.looks_clsIn KI hcd
  obtain ⟨nm, bs, mro, ns, qn, hd, sn, sb, ab, col, del⟩ := cd
  dsimp only at hh
  subst hh
  show wpAny _ _ (storeInOwnDict (.ref x) (.ref C) (.str name tk) name v false) _ _ _
  unfold storeInOwnDict ownDictForStores
  repeat (first | with_reducible refine HandSPX.store_in_new ?_ ?_ | with_reducible refine wpAny_loadPart_at hx ?_ | with_reducible refine hcls.at ?_ | wp_step)
  · exact ⟨_, #[], _, (Heap.get?_update_ne _ _ _ _ hxs.symm).trans (Heap.get?_push_at rfl rfl), rfl, fun e he => absurd he (by simp), fun _ => rfl⟩
  · intro h' tk' hn' hs
    have old : (hp.push { cls := .type "dict", data := .dict #[] }).get? x = some { cls := .ref C, data := .fields fv } := Heap.get?_push_of_some _ hx
    refine hq h' tk' hp.objs.size (fun b o hb ho => ?_) (Nat.le_refl _) hxs.symm ?_ hn'
    · exact (hs.2 b (Nat.ne_of_lt (Heap.lt_size ho))).trans ((Heap.get?_update_ne _ _ _ _ hb).trans (Heap.get?_push_of_some _ ho))
    · exact (hs.2 x hxs).trans (Heap.get?_update_self _ old rfl)
end
/-- what an own class takes from the built-in one that makes its instances -/
structure NewF (newId : String) (bmB : List Value) : Prop where
  ex : ∃ (B initId : String) (bm : List Value), ExcBaseFacts B newId initId bm ∧ bmB.contains (.type B) = true ∧ bmB.contains (.type "AttributeError") = false ∧ bmB.contains (.type "NameError") = false
/-- the base's __init__ -/
structure InitF (B initId : String) (bmB : List Value) : Prop where
  init : Slot B "__init__" initId
  entry : entryFor table initId = some Builtin.«BaseException.__init__»
  split : splitId initId = some (B, "__init__")
  kind : builtinKind initId = some .slot
  row : Manifest.signature? initId = some ⟨.positional, "*", B, .self, [⟨"args", .varPos, false⟩]⟩
  noStar : (B != "*") = true
  hasB : bmB.contains (.type B) = true
theorem NewF.of {B newId initId : String} {bm : List Value} (F : ExcBaseFacts B newId initId bm) : NewF newId bm := ⟨_, _, _, F, F.hasB, F.noAttr, F.noName⟩
theorem InitF.of {B newId initId : String} {bm : List Value} (F : ExcBaseFacts B newId initId bm) : InitF B initId bm := ⟨F.init, F.initEntry, F.initSplit, F.initKind, F.initRow, F.noStar, F.hasB⟩
section
open Builtin Builtin.ObjectAttr
variable {prog : Program} {w : World} {A : Around} {E : Value → Shared → Prop} {R : Result → Shared → Prop} {h : Heap} {g : Array GenState} {d : Drawn} {t : Nat} {os : OsState}
variable {nm q : Str} {C N : Addr} {bs bm bmB : List Value} {hdct : Bool} {sn : List Str} {sub : List Value} {ab : Bool} {col : Option Bool} {dd : Option Addr} {k0 k1 k2 k3 k5 : Option Value} {B newId initId : String}
theorem init_call (F : InitF B initId bmB) (hT : ∀ X : String, bm.contains (.type X) = bmB.contains (.type X)) {e t0 : Addr} {rest : List Value}
    (hC : h.get? C = some (excClassObj nm q C N bs bm hdct sn sub ab col dd k0 k1 k2 k3 k5 newId)) (he : h.get? e = some (excO C t0)) (hrest : rest.length ≤ sizeLine)
    (hq : ∀ h' t1, (∀ b o, b ≠ e → h.get? b = some o → h'.get? b = some o) → h'.get? e = some (excO C t1) → R (.ok (.ret .none)) ⟨h', g, d, t, os⟩) :
    codeAny (model prog w) A (.call (.builtin initId) ⟨.ref e :: rest, []⟩) R ⟨h, g, d, t, os⟩ := by
  have chk : ∀ {M : Model} {A' : Around} {E' : Value → Shared → Prop} {Q : Unit → Shared → Prop}, Q () ⟨h, g, d, t, os⟩ → wpAny M A' (checkBuiltinCall initId ⟨.ref e :: rest, []⟩) Q E' ⟨h, g, d, t, os⟩ := by
    intro M A' E' Q hq
    have hcB : (Value.ref C :: bm).contains (.type B) = true := by rw [List.contains_cons, hT, F.hasB, Bool.or_true]
    have hshort := F.noStar
    simp only [checkBuiltinCall, F.kind, F.split, F.row]
    repeat (first | (with_reducible refine wpAny_loadPart_at he ?_; rw [show (excO C t0).cls = Value.ref C from rfl]) | with_reducible refine wpAny_loadPart_at hC ?_ | (with_reducible refine wpAny_isSubtype_exc hC ?_; rw [hcB]) | wp_step)
    refine wpAny_onRaise ?_
    rw [show ∀ (a b : String) (n : Nat), Bind.check ⟨.positional, "*", B, .self, [⟨"args", .varPos, false⟩]⟩ a b n (List.map (fun x => x.fst) ({ pos := Value.ref e :: rest } : Args).kw) = pure () from
      fun a b n => check_star_args _ _ _ _ _ _]
    exact wpAny_pure hq
  refine codeAny_call_builtin F.init.plain F.entry (chk ?_)
  wp_walk
  refine hq _ h.objs.size (fun b o hb ho => ?_) ?_
  · rw [Heap.get?_update_other _ _ (Ne.symm hb)]
    exact Heap.get?_push_of_some _ ho
  · rw [Heap.get?_update_self _ (Heap.get?_push_of_some _ he) rfl]
    rfl
theorem make_call (F : NewF newId bmB) (hT : ∀ X : String, bm.contains (.type X) = bmB.contains (.type X)) {rest : List Value} {fI : Addr}
    (hC : h.get? C = some (excClassObj nm q C N bs bm hdct sn sub ab col dd k0 k1 k2 k3 k5 newId))
    (hi : W.Looks (model prog w) h (typeLookup (.ref C) "__init__") (some (.ref fI))) (hb : ∀ self, W.Looks (model prog w) h (bindSpecial (.ref fI) self) (.ref fI, [self])) (hrest : rest.length ≤ sizeLine)
    (hq : codeAny (model prog w) (A.under (.builtin "type.__call__" ⟨.ref C :: rest, []⟩)) (.call (.ref fI) ⟨.ref (h.objs.size + 1) :: rest, []⟩) (W.InitBack (h.objs.size + 1) R)
      ⟨(h.push (W.kdv_tup rest)).push (excO C h.objs.size), g, d, t, os⟩) :
    codeAny (model prog w) A (.call (.ref C) ⟨rest, []⟩) R ⟨h, g, d, t, os⟩ := by
  obtain ⟨B, initId, bm0, F, hB, hA, hN⟩ := F.ex
  have hcB : (Value.ref C :: bm).contains (.type B) = true := by rw [List.contains_cons, hT, hB, Bool.or_true]
  have hcA : (Value.ref C :: bm).contains (.type "AttributeError") = false := by rw [List.contains_cons, hT, hA]; rfl
  have hcN : (Value.ref C :: bm).contains (.type "NameError") = false := by rw [List.contains_cons, hT, hN]; rfl
  have hcC : (Value.ref C :: bm).contains (.ref C) = true := by simp
  have chk : ∀ {M : Model} {A' : Around} {E' : Value → Shared → Prop} {Q : Unit → Shared → Prop}, Q () ⟨h, g, d, t, os⟩ → wpAny M A' (checkBuiltinCall newId ⟨.ref C :: rest, []⟩) Q E' ⟨h, g, d, t, os⟩ := by
    intro M A' E' Q hq
    have hstar := F.noStar
    simp only [checkBuiltinCall, F.newKind, F.newSplit, F.newRow]
    repeat (first | refine wpAny_loadPart_at hC ?_ | (refine wpAny_isSubtype_exc hC ?_; rw [hcB]) | refine wpAny_staticBase_exc hC ?_ | refine wpAny_madeBy_exc hC ?_ | simp only [bne_self_eq_false, Bool.false_eq_true, if_false] | wp_step)
    exact hq
  have made : ∀ {A' : Around} {R' : Result → Shared → Prop}, R' (.ok (.ret (.ref (h.objs.size + 1)))) ⟨(h.push (W.kdv_tup rest)).push (excO C h.objs.size), g, d, t, os⟩ → codeAny (model prog w) A' (.builtin newId ⟨.ref C :: rest, []⟩) R' ⟨h, g, d, t, os⟩ := by
    intro A' R' hq
    have hends := F.ends
    refine codeAny_builtinAt F.entry ?_
    unfold Builtin.«BaseException.__new__»
    refine wpAt_bind ?_
    show wpAt _ _ _ (stack >>= _) _ _ _
    refine wpAt_bind (wpAt_stack fun p below => wpAt_of_wpAny ?_)
    wp_walk
    refine wpAt_of_wpAny ?_
    rw [F.owner]
    repeat (first | with_reducible refine wpAny_madeHere_exc F.canon hC ?_ | with_reducible refine wpAny_loadPart_at hC ?_ | (with_reducible refine wpAny_isSubtype_exc hC ?_; first | rw [hcB] | rw [hcA] | rw [hcN]) | wp_step)
    show R' _ _
    rw [Heap.size_push]
    exact hq
  have body : ∀ {A' : Around} {E' : Value → Shared → Prop} {Q : Fin → Shared → Prop}, codeAny (model prog w) A' (.call (.ref fI) ⟨.ref (h.objs.size + 1) :: rest, []⟩)
      (fun r s' => match r with | .ok (.ret v) => v = .none ∧ Q (.done (.ret (.ref (h.objs.size + 1)))) s' | .ok _ => False | .error e => E' e s')
      ⟨(h.push (W.kdv_tup rest)).push (excO C h.objs.size), g, d, t, os⟩ → wpAny (model prog w) A' (Builtin.«type.__call__» ⟨.ref C :: rest, []⟩) Q E' ⟨h, g, d, t, os⟩ := by
    intro A' E' Q hq
    repeat (first | with_reducible refine wpAny_loadPart_at hC ?_ | with_reducible refine wpAny_madeBy_exc hC ?_ | wp_step)
    refine codeAny_call_builtin_code (Code.quiet_builtin _ F.quiet) (chk ?_)
    refine made ?_
    show wpAny _ _ _ _ _ _
    have k : ∀ b o, h.get? b = some o → ((h.push (W.kdv_tup rest)).push (excO C h.objs.size)).get? b = some o := fun b o e => Heap.get?_push_of_some _ (Heap.get?_push_of_some _ e)
    have hC₁ := k _ _ hC
    have hget : ((h.push (W.kdv_tup rest)).push (excO C h.objs.size)).get? (h.objs.size + 1) = some (excO C h.objs.size) := by heap_get
    have i1 := hi.keeps k
    have b1 := (hb (.ref (h.objs.size + 1))).keeps k
    unfold isInstance
    repeat (first | with_reducible refine wpAny_loadPart_at hget ?_ | (with_reducible refine wpAny_isSubtype_exc hC₁ ?_; rw [hcC]) | wp_step)
    show wpAny _ _ (typeLookup (.ref C) _) _ _ _
    refine i1.at ?_
    refine wpAny_holding (wpAny_bind (b1.at ?_))
    refine wpAny_bind (wpAny_call (codeAny_mono hq fun r s' z => ?_))
    rcases r with e | (v | _ | _ | _) <;> first | exact z | exact z.elim | skip
    obtain ⟨rfl, z⟩ := z
    first
      | exact wpAny_pure (wpAny_pure z)
      | (wp_walk; exact z)
  have f1 := tc_lookup
  have f2 := tc_bind (.ref C)
  have hTy : (⟨h, g, d, t, os⟩ : Shared).TypeIs (.ref C) "type" := ⟨_, hC, rfl⟩
  refine codeAny_of_tree ?_
  show wpAny _ _ (callAny (.ref C) _) _ _ _
  repeat (any_goals (first | assumption | with_reducible refine wpAny_loadPart_at hC ?_ | wp_step))
  refine ⟨rfl, ?_⟩
  refine codeAny_call_builtin_at (Code.quiet_builtin _ (by decide +kernel)) entry_typeCall (wpAny_check_type_call_sub hC (body ?_))
  refine codeAny_mono hq fun r s' z => ?_
  rcases r with e | (v | _ | _ | _) <;> exact z
end
end OXB
end PySem
namespace L2
namespace QL
open PySem PySem.Spec PyProof.Rows
/-- the class at C stands over a built-in exception -/
structure OxC (K : PySem.W.Frag) (C : Addr) (bmB : List Value) (newId : String) : Prop where
  made : PySem.W.excInitIn K C bmB newId = true
  cd : ∃ cd, PySem.W.clsIn K C = some cd ∧ cd.mro = .ref C :: bmB ∧ cd.hasDict = true
  sa : PySem.W.findIn K (.ref C) "__setattr__" = some (some (.builtin "object.__setattr__"))
  exC : PySem.W.subIn K (.ref C) (.type "BaseException") = some true
  tyC : PySem.W.typeIn K (.ref C) = some (.type "type")
  kC : PySem.W.keepIn K (.ref C) = true
def oxB (bmB : List Value) (newId : String) (x : Str) (K : PySem.W.Frag) : Bool :=
  PySem.W.excInitIn K (He.ga K x) bmB newId && ((PySem.W.clsIn K (He.ga K x)).any (fun cd => decide (cd.mro = .ref (He.ga K x) :: bmB) && cd.hasDict) && (decide (PySem.W.findIn K (.ref (He.ga K x)) "__setattr__" = some (some (.builtin "object.__setattr__"))) &&
    (decide (PySem.W.subIn K (.ref (He.ga K x)) (.type "BaseException") = some true) && (decide (PySem.W.typeIn K (.ref (He.ga K x)) = some (.type "type")) && PySem.W.keepIn K (.ref (He.ga K x))))))
theorem oxB_ok {bmB : List Value} {newId : String} {x : Str} {K : PySem.W.Frag} (h : oxB bmB newId x K = true) : OxC K (He.ga K x) bmB newId := by
  obtain ⟨h1, h⟩ := Bool.and_eq_true_iff.mp h
  obtain ⟨h2, h⟩ := Bool.and_eq_true_iff.mp h
  obtain ⟨h3, h⟩ := Bool.and_eq_true_iff.mp h
  obtain ⟨h4, h⟩ := Bool.and_eq_true_iff.mp h
  obtain ⟨h5, h6⟩ := Bool.and_eq_true_iff.mp h
  refine ⟨h1, ?_, of_decide_eq_true h3, of_decide_eq_true h4, of_decide_eq_true h5, h6⟩
  cases e : PySem.W.clsIn K (He.ga K x) with
  | none => rw [e] at h2; cases h2
  | some cd =>
    rw [e] at h2
    obtain ⟨a, b⟩ := Bool.and_eq_true_iff.mp (show (decide (cd.mro = .ref (He.ga K x) :: bmB) && cd.hasDict) = true from h2)
    exact ⟨cd, rfl, of_decide_eq_true a, b⟩
section
variable {X : Cx} {pins : List (Addr × Obj)} {σ : St} {H : Hp} {s : Shared} {a C : Addr} {f : Str} {y : V} {u : Value} {Q : Unit → Shared → Prop} {E : Value → Shared → Prop} {A : Around} {B newId initId : String} {bmB : List Value}
/-- self.f = y, an exception's only field -/
theorem ox_put (SB : StoreFacts B bmB "object.__setattr__" "object") (T : OxC X.K C bmB newId) (I : Inv X pins σ H s) (e : H a = some (exo a C none)) (hno : PySem.W.findIn X.K (.ref C) f = some none) (ry : RelV y u)
    (h : ∀ dx s', H dx = none → dx ≠ a → Inv X pins σ (upd (upd H dx (exd dx [(f, y)])) a (exo a C (some dx))) s' → Q () s') : wpAny (model X.prog X.w) A (setAttr (.ref a) f u) Q E s := by
  obtain ⟨cd, hcl, hm, hh⟩ := T.cd
  obtain ⟨t1, ho⟩ := exo_at I.hok e
  obtain ⟨hp, g, d, t, os⟩ := s
  refine PySem.W.set_plain I.kIn (ox := { cls := .ref C, dict := none, data := .fields #[.ref t1, .none, .none, .none, .bool false, .none] }) (od := none) ⟨ho, rfl, rfl, trivial⟩ T.sa ?_
  refine PySem.OXB.put_new SB I.kIn ho hcl hm hh hno (fun h' tk' dx k dn dne hx hn => ?_)
  have hnd : H dx = none := I.hok.fresh dn
  have nd : ∀ {b : Addr} {o : Obj}, hp.get? b = some o → b ≠ dx := fun {b o} q => Nat.ne_of_lt (Nat.lt_of_lt_of_le (Heap.lt_size q) dn)
  have na : ∀ {b : Addr}, H b = none → b ≠ a := fun {b} n z => by rw [z, e] at n; cases n
  have un : Un X.fs [] H (upd (upd H dx (exd dx [(f, y)])) a (exo a C (some dx))) hp h' := {
    keep := fun b o q n _ _ => k b o (na n) q
    slot := fun b o q n _ _ => ⟨o.slots, k b o (na n) q⟩
    free := fun b o q n _ => by rw [upd_ne (na n), upd_ne (nd q)]; exact n
    there := fun b o q _ => by
      by_cases hb : b = a
      · exact ⟨_, by rw [hb]; exact hx⟩
      · exact ⟨o, k b o hb q⟩
    tups := fun b xs q => by rw [upd_ne (at_ne e q exo_tup), upd_ne (ne_of_none q hnd)]; exact q
    frzs := fun b o v q => by rw [upd_ne (at_ne e q exo_frz), upd_ne (ne_of_none q hnd)]; exact q
    tbls := fun b ps q => ⟨#[], by rw [upd_ne (at_ne e q exo_tbl), upd_ne (ne_of_none q hnd), q]; simp⟩ }
  refine h dx _ hnd dne (I.un (t' := tk') un fun b o q => ?_)
  by_cases hb : b = a
  · subst hb
    rw [upd_same] at q
    cases q
    exact exo_ok hx
  · rw [upd_ne hb] at q
    by_cases hd : b = dx
    · subst hd
      rw [upd_same] at q
      cases q
      exact exd_ok hn (relO_put (fs := []) ry fun g => True.intro)
    · rw [upd_ne hd] at q
      exact (I.hok b o q).stay (fun c v hc z => k c v (hc.elim (fun hc => by rw [hc]; exact hb) (fun hc => at_ne e hc exo_own)) z)
        (fun c hc => by rw [upd_ne (at_ne e hc exo_own), upd_ne (ne_of_none hc hnd)]; exact hc) (fun c xs hc => by rw [upd_ne (at_ne e hc exo_tup), upd_ne (ne_of_none hc hnd)]; exact hc)
/-- the base's __init__ -/
theorem ox_init {us : List Value} {Q : Value → Shared → Prop} (FB : PySem.OXB.InitF B initId bmB) (T : OxC X.K C bmB newId) (I : Inv X pins σ H s) (e : H a = some (exo a C none)) (hl : us.length ≤ sizeLine) (h : ∀ s', Inv X pins σ H s' → Q .none s') :
    wpAny (model X.prog X.w) A (call (.builtin initId) (.ref a :: us)) Q E s := by
  obtain ⟨nm, N, qn, bs, bm, hdct, sn, sub, ab, col, dd, k0, k1, k2, k3, k5, hC, hbm⟩ := PySem.W.excInit_of I.kIn T.made
  obtain ⟨t1, ho⟩ := exo_at I.hok e
  obtain ⟨hp, g, d, t, os⟩ := s
  refine wpAny_call (PySem.OXB.init_call FB hbm hC ho hl fun h' t2 k hx => ?_)
  have J := I.write (t' := t) (x := a) (e := a) (o := exo a C none) (by rw [e]; exact True.intro) (.inl rfl) k ⟨_, hx⟩ (exo_ok hx)
  have eu : upd H a (exo a C none) = H := by
    funext b
    by_cases hb : b = a
    · rw [hb, upd_same, e]
    · rw [upd_ne hb]
  rw [eu] at J
  exact h _ J
end
end QL
end L2
/-! making an own exception -/
namespace L2
namespace QL
open PySem PySem.Spec PyProof.Rows
/-- what is known of a built-in exception class -/
structure BaseX (B : String) (xB : Str) (newId initId : String) (bmB : List Value) : Prop where
  FB : PySem.OXB.InitF B initId bmB
  FN : PySem.OXB.NewF newId bmB
  SB : StoreFacts B bmB "object.__setattr__" "object"
  bt : bootBuiltins xB = some (.type B)
  ty : typeOf (.type B) = pure (.type "type")
  st : Manifest.isStub B = false
  hi : PySem.W.handedIn (.builtin initId) = true
  n1 : xB ≠ "__name__"
  n2 : (xB == ("__debug__" : Str)) = false
  fi : ∀ K : PySem.W.Frag, PySem.W.findCls K (.type B) (.type "type") "__init__" = some (.val (.builtin initId))
/-- B.__init__(self, ..) -/
def tXinit (K : PySem.W.Frag) (bmB : List Value) (newId : String) (ta : TA) : TE := fun σ H Q => ta σ H fun vs H1 => ∃ (a C : Addr) (ws : List V), vs = .ref a :: ws ∧ ws.length ≤ 1000 ∧ OxC K C bmB newId ∧ H1 a = some (exo a C none) ∧ Q .non H1
/-- self.f = e, once -/
def tXput (K : PySem.W.Frag) (bmB : List Value) (newId : String) (f : Str) (to te : TE) : TS := fun D σ H => te σ H fun y H1 => to σ H1 fun x H2 => ∃ a C : Addr, x = .ref a ∧ OxC K C bmB newId ∧ PySem.W.findIn K (.ref C) f = some none ∧
  H2 a = some (exo a C none) ∧ ∀ dx, H2 dx = none → dx ≠ a → D.nx σ (upd (upd H2 dx (exd dx [(f, y)])) a (exo a C (some dx)))
/-- C(e, ..) of a class with an own __init__ -/
def tXmk (C : Addr) (sp : Sp) (ta : TA) : St → Hp → XK → Prop := fun σ H Q => ta σ H fun vs H1 => vs.length ≤ 1000 ∧ ∀ a, H1 a = none → sp (.ref a :: vs) (upd H1 a (exo a C none))
  (fun v H2 => v = .non ∧ ∃ (d : Addr) (fs : List (Str × V)), H2 a = some (exo a C (some d)) ∧ H2 d = some (exd d fs) ∧ H1 d = none ∧ Q (.ref C) (some d) (upd (del H2 a) d (.xd fs))) (fun _ _ _ => False)
section
variable {X : Cx} {o e : Expr} {es : List Expr} {to te : TE} {ta : TA} {f xB : Str} {p p' p1 p2 pos : Pos} {B newId initId : String} {bmB : List Value}
theorem pe_xinit {pl : Sem Bool} (b : BaseX B xB newId initId bmB) (hg : Gl X xB) (hm : X.mg xB = none) (ha : PA X (e :: es) ta)
    (hc : eval (.Call (.Attribute (.Name xB p1) "__init__" p2) (e :: es) [] pos) X.env = (do
      let ov ← eval (.Name xB p1) X.env
      standAt p2.atName
      let (f, first) ← holding [ov] (getMethod ov "__init__" pl)
      callWith pos f first (backTo pos (starEach (e :: es) X.env)) (backToKw pos (keywordEach [] X.env))) := by rfl)
    (he : starEach (e :: es) X.env = (false, eval e X.env) :: starEach es X.env := by rfl) (hpl : (backTo pos (starEach es X.env)).any (·.1) = false := by rfl) :
    PE X (.Call (.Attribute (.Name xB p1) "__init__" p2) (e :: es) [] pos) (tXinit X.K bmB newId ta) := by
  refine ⟨fun pins s σ H Q I h => ?_⟩
  refine PySem.W.methodCall_KW (ld_blt I hg hm b.bt ?_ b.n1 b.n2) hc
  obtain ⟨m, fr⟩ := I.fr
  refine PySem.W.method_type fr I.ok.mod.kin b.ty b.st (b.fi X.K) b.hi ?_
  show wpAny _ _ (callWith pos (Value.builtin initId) [] (backTo pos (starEach (e :: es) X.env)) []) _ _ _
  refine PyProof.Rows.callWith_method1 (thn (ha.run pos pins _ σ H _ (I.tok _) h) fun us s1 ⟨vs, H1, I1, r1, a, C, ws, ev, hl, T, ea, q⟩ => ?_) he hpl
  subst ev
  cases r1 with
  | @cons _ u0 _ ur ra rw' =>
    obtain rfl : u0 = Value.ref a := ra
    have hlen : ur.length ≤ sizeLine := by rw [← Paired.length rw', sizeLine_eq]; omega
    exact ox_init b.FB T I1 ea hlen fun s' J => ⟨.non, H1, J, rfl, q⟩
theorem ps_xput (b : BaseX B xB newId initId bmB) (ho : PE X o to) (he : PE X e te) (hs : swapsWith e (some (.Attribute o f p')) pos.line X.env = pure false := by rfl) : PS X (.Assign [.Attribute o f p'] e pos) (tXput X.K bmB newId f to te) := by
  refine ⟨fun pins s σ H D I h => ?_⟩
  refine plainObj_wpAny_Assign_Attribute (thn (he.run pins s σ H _ I h) fun v s1 ⟨y, H1, I1, r1, q1⟩ => thn (ho.run pins s1 σ H1 _ I1 q1) fun u s2 ⟨x, H2, I2, r2, a, C, ex, T, hno, ea, q⟩ => ?_) hs
  subst ex
  obtain rfl : u = Value.ref a := r2
  exact ox_put b.SB T I2 ea hno r1 fun dx s' n ne J => ⟨σ, _, J, q dx n ne⟩
theorem pmk_x {CX : CXT} {x : Str} {C fI : Addr} {k : Nat} {fd : FuncData} {ps : List Str} {sp : Sp} (b : BaseX B xB newId initId bmB) (T : OxC X.K C bmB newId) (iC : PySem.W.findIn X.K (.ref C) "__init__" = some (some (.ref fI))) (tI : PySem.W.typeIn X.K (.ref fI) = some (.type "function"))
    (F1 : FnOk X.prog X.w X.K X.mg X.base CX k fI fd ps sp) (hr : Room (k + 1) X.A) (hb : Binds X.K fd ps []) (hx : Passes CX X (fun _ _ _ => False)) (hg : Gl X x) (hm : X.mg x = some (.ref C)) (ha : PA X (e :: es) ta)
    (hdb : (x == ("__debug__" : Str)) = false := by decide) (he : starEach (e :: es) X.env = (false, eval e X.env) :: starEach [] X.env := by rfl) (hpl : (backTo pos (starEach [] X.env)).any (·.1) = false := by rfl) (hes : es = [] := by rfl) :
    PMk X (.Call (.Name x p) (e :: es) [] pos) (tXmk C sp ta) := by
  subst hes
  intro pins s σ H Q I h
  refine wpAny_Call_Name_kw (ld_glob I hg hm ?_ hdb)
  refine PySem.W.callWith_K (h₀ := X.base) I.ok.mod.kin T.kC (thn (ha.run pos pins s σ H _ I h) fun us s1 ⟨vs, H1, I1, r1, hz, q1⟩ => ⟨I1.kIn, ?_⟩) he hpl
  show wpAny _ _ (call (.ref C) us) _ _ _
  obtain ⟨nm, N, qn, bs, bm, hdct, sn, sub, ab, col, dd, k0, k1, k2, k3, k5, hC, hbm⟩ := PySem.W.excInit_of I1.kIn T.made
  obtain ⟨hp, g, dr, tk, os⟩ := s1
  have hsz : hp.objs.size ≤ hp.objs.size + 1 := Nat.le_succ _
  have hn : H1 (hp.objs.size + 1) = none := I1.hok.fresh hsz
  have hq := q1 (hp.objs.size + 1) hn
  have kk : ∀ b o, hp.get? b = some o → ((hp.push (PySem.W.kdv_tup us)).push (PySem.HandSPX.excO C hp.objs.size)).get? b = some o := fun b o e => Heap.get?_push_of_some _ (Heap.get?_push_of_some _ e)
  have hget : ((hp.push (PySem.W.kdv_tup us)).push (PySem.HandSPX.excO C hp.objs.size)).get? (hp.objs.size + 1) = some (PySem.HandSPX.excO C hp.objs.size) := by heap_get
  have I2 : Inv X pins σ (upd H1 (hp.objs.size + 1) (exo (hp.objs.size + 1) C none)) ⟨(hp.push (PySem.W.kdv_tup us)).push (PySem.HandSPX.excO C hp.objs.size), g, dr, tk, os⟩ :=
    I1.laid (t' := tk) (a := hp.objs.size + 1) (o := exo (hp.objs.size + 1) C none) (h' := (hp.push (PySem.W.kdv_tup us)).push (PySem.HandSPX.excO C hp.objs.size)) kk hsz (exo_ok hget)
  have r2 : Vals (V.ref (hp.objs.size + 1) :: vs) (Value.ref (hp.objs.size + 1) :: us) := .cons rfl r1
  have hl : (Value.ref (hp.objs.size + 1) :: us).length = ps.length := by
    have e := r2.length
    rw [F1.len _ _ _ _ hq] at e
    exact e.symm
  have hus : us.length ≤ sizeLine := by rw [← Paired.length r1, sizeLine_eq]; omega
  have hb2 := hb _ (Value.ref (hp.objs.size + 1) :: us) I2.kIn (by rw [List.append_nil]; exact hl)
  rw [List.append_nil] at hb2
  refine wpAny_call (PySem.OXB.make_call b.FN hbm hC (PySem.W.looks_findIn I1.kIn iC) (fun self => PySem.W.bind_fn I1.kIn self tI) hus
    (codeAny_mono (F1.run _ X.stack _ _ ⟨Value.ref (hp.objs.size + 1) :: us, []⟩ (Value.ref (hp.objs.size + 1) :: us) _ _ (fun _ _ _ => False) (hr.make C us []) (I2.env0.make C us []) hb2 r2 hq) fun r s' hq' => ?_))
  cases r with
  | error er => exact hx pins σ _ _ er s' I2 hq'
  | ok fl =>
    cases fl with
    | ret u =>
      obtain ⟨v, H2, os2, bare2, un2, hok2, rv, ev, d, fs, ea, ed, hd1, q2⟩ := hq'
      subst ev
      obtain ⟨h2, g2, d2, t2, os'⟩ := s'
      exact ⟨rv, mk_end (raises_own T.exC T.tyC) I1 hsz kk un2 hok2 os2 bare2 ea ed hd1 q2⟩
    | next => exact False.elim hq'
    | brk => exact False.elim hq'
    | cont => exact False.elim hq'
end
theorem base_LookupError : BaseX "LookupError" "LookupError" "LookupError.__new__" "LookupError.__init__" [.type "LookupError", .type "Exception", .type "BaseException", .type "object"] where
  FB := .of PySem.F.excBase_LookupError
  FN := .of PySem.F.excBase_LookupError
  SB := PySem.F.store_LookupError
  bt := by first | rfl | decide +kernel | kernel_rfl
  ty := by kernel_rfl
  st := by decide +kernel
  hi := by decide +kernel
  n1 := by decide
  n2 := by decide
  fi := fun K => by kernel_rfl
end QL
end L2
/-! functions that may raise -/
namespace L2
namespace QL
open PySem PySem.Spec PyProof.Rows
/-- a def's promise with an exit by an exception -/
structure FnZ (P : Program) (w : World) (K : PySem.W.Frag) (mg : Str → Option Value) (base : Heap) (k : Nat) (f : Addr) (fd : FuncData) (ps : List Str) (sp : Sp) : Prop where
  len : ∀ vs H Q E, sp vs H Q E → vs.length = ps.length
  run : ∀ (A : Around) (outer : List Env) (s : Shared) (H : Hp) (args : Args) (us : List Value) (vs : List V) (Q : VK) (E : XK), RoomG k A → Env0 P w K mg base A outer s H → BindsTo s fd args (ps.zip us) → Vals vs us → sp vs H Q E →
    codeAny (model P w) A (.call (.ref f) args) (CR (L2.CX P w) outer P w H s Q E) s
theorem FnZ.mono {P : Program} {w : World} {K : PySem.W.Frag} {mg : Str → Option Value} {base : Heap} {j k : Nat} {f : Addr} {fd : FuncData} {ps : List Str} {sp : Sp} (F : FnZ P w K mg base j f fd ps sp) (h : j ≤ k) : FnZ P w K mg base k f fd ps sp :=
  ⟨F.len, fun A outer s H args us vs Q E hr => F.run A outer s H args us vs Q E (hr.mono h)⟩
/-- the promise over data: it raises, the state then, the fields -/
abbrev SpX := List D → Sto → (List (Str × D) → Sto → Prop) → Prop
inductive FRel (K : PySem.W.Frag) (H : Hp) : List (Str × D) → List (Str × V) → Prop where
  | nil : FRel K H [] []
  | cons {f : Str} {d : D} {v : V} {fs : List (Str × D)} {gs : List (Str × V)} : Rep K H d v → FRel K H fs gs → FRel K H ((f, d) :: fs) ((f, v) :: gs)
def emX (K : PySem.W.Frag) (C : Addr) (spx : SpX) (vs : List V) (H : Hp) (E : XK) : Prop :=
  ∃ ds S X0, Reps K H ds vs ∧ RelS K S H ∧ spx ds S X0 ∧ ∀ fs gs S' d H', X0 fs S' → Post K S H S' H' → RelS K S' H' → FRel K H' fs gs → S' d = none → H' d = some (.xd gs) → E (.ref C) (some d) H'
def spZ (K : PySem.W.Frag) (C : Addr) (spx : SpX) : Sp := fun vs H _ E => emX K C spx vs H E
theorem fnz_of {P : Program} {w : World} {K : PySem.W.Frag} {mg : Str → Option Value} {base : Heap} {k : Nat} {f : Addr} {name qual : Str} {params : Arguments} {body : List Stmt} {scope : Scope} {dV kV doc pm cdv ct oc : Value} {an od : Option Addr}
    {osl : Array (Option Value)} {N ps : List Str} {sp : Sp} (lk : K.lookup f = some ⟨oc, od, .func (PySem.W.fnOf name qual params body scope dV kV doc pm an cdv ct), osl⟩) (hcd : PySem.W.codeIn K cdv qual = true) (S : FnScope N ps scope)
    (len : ∀ vs H Q E, sp vs H Q E → vs.length = ps.length)
    (hbody : ∀ (A : Around) (outer : List Env) (s : Shared) (H : Hp) (vs : List V) (Q : VK) (E : XK), RoomG k (A.deeper (envOfC qual scope s.heap.objs.size f cdv)) → sp vs H Q E →
      ∃ t, PSs (cxOf (L2.CX P w) P w K mg base N qual scope f cdv A outer s H E) body t ∧ t { nx := fun _ H' => Q .non H', rt := Q } (start N vs) H) :
    FnZ P w K mg base (k + 1) f (PySem.W.fnOf name qual params body scope dV kV doc pm an cdv ct) ps sp := by
  refine ⟨len, fun A outer s H args us vs Q E hr e0 hb r hsp => ?_⟩
  have hl := len _ _ _ _ hsp
  have KI : K.In s.heap := e0.mod.kin.keeps fun b o e => (e0.bs b o e).1
  have lim : s.heap.NoLimit := e0.mod.nolimit.keeps fun b o e => (e0.bs b o e).1
  have hkind : ∀ y ∈ ps.zip us, scope.names.lookup y.1 = some .local ∨ (scope.names.lookup y.1 = some .cell ∧ ((cellsFrom (s.heap.objs.size + 1) scope.names []).lookup y.1).isSome = true) := fun ⟨n, v⟩ hy =>
    (S.par n (List.of_mem_zip hy).1).elim .inl fun q => .inr ⟨q, PySem.W.cellsFrom_some _ _ _ (.inl q)⟩
  refine codeAny_call_function hr.rm.depth (KI _ _ lk) rfl S.co S.gen rfl (PySem.W.codeRec_of KI hcd) (hb _ _ _ _ ?_)
  refine wpAny_newFunctionEnv_cells S.kind hkind fun env he s1 x => ?_
  subst he
  refine ⟨lim.keeps x.toInCall.keep, codeAny_func ?_⟩
  obtain ⟨t, ht, hq⟩ := hbody A outer s H vs Q E (hr.deeper _) hsp
  have I : Inv (cxOf (L2.CX P w) P w K mg base N qual scope f cdv A outer s H E) [] (start N vs) H s1 := inv_start S hr.rm.hd e0 hl r x
  refine wpAny_mono (ht.run [] s1 (start N vs) H _ I hq) (fun fl s' hs => ?_) fun e s' hs => hs
  cases fl with
  | ret u =>
    obtain ⟨v, σ', H', J, rv, q⟩ := hs
    exact ⟨v, H', J.os, J.bare, J.base, J.hok, rv, q⟩
  | next =>
    obtain ⟨σ', H', J, q⟩ := hs
    exact ⟨.non, H', J.os, J.bare, J.base, J.hok, rfl, q⟩
  | brk =>
    obtain ⟨_, _, _, q⟩ := hs
    exact q.elim
  | cont =>
    obtain ⟨_, _, _, q⟩ := hs
    exact q.elim
/-- what leaves a def that runs in this context -/
theorem takes_cx {P : Program} {w : World} {K : PySem.W.Frag} {mg : Str → Option Value} {base : Heap} {N : List Str} {qual : Str} {scope : Scope} {f : Addr} {cd : Value} {A : Around} {outer : List Env} {s : Shared} {H : Hp} {E : XK} :
    Takes (cxOf (L2.CX P w) P w K mg base N qual scope f cd A outer s H E) (fun cls d _ H => E cls d H) := takes_of rfl rfl rfl (E₁ := _) rfl
section
variable {X : Cx} {W : WX} {k : Nat} {f C : Addr} {fd : FuncData} {ps : List Str} {sp : Sp} {x m : Str} {p pos apos : Pos} {e o : Expr} {es : List Expr} {ta : TE} {t : TA}
theorem run_fnz {pins : List (Addr × Obj)} {σ : St} {H : Hp} {s : Shared} {Q : VK} {us : List Value} {vs : List V} (F : FnZ X.prog X.w X.K X.mg X.base k f fd ps sp) (hr : RoomG k X.A) (hb : Binds X.K fd ps []) (tk : Takes X W)
    (I : Inv X pins σ H s) (r : Vals vs us) (h : sp vs H Q (fun cls d H' => W cls d σ H')) : wpAny (model X.prog X.w) X.A (call (.ref f) us) (EP X pins σ Q) X.xe s := by
  have hl : us.length = ps.length := by rw [← r.length]; exact F.len _ _ _ _ h
  have hb2 := hb s us I.kIn (by rw [List.append_nil]; exact hl)
  rw [List.append_nil] at hb2
  refine wpAny_call (codeAny_mono (F.run X.A X.stack s H ⟨us, []⟩ us vs Q _ hr I.env0 hb2 r h) fun r s' hq => ?_)
  cases r with
  | error e => exact tk e s' (XE.of_call I (fun cls d H' h => h) hq)
  | ok fl =>
    cases fl with
    | ret u => exact I.after hq
    | next => exact hq.elim
    | brk => exact hq.elim
    | cont => exact hq.elim
def tCallZ (sp : Sp) (W : WX) (t : TA) : TE := fun σ H Q => t σ H fun vs H1 => sp vs H1 Q (fun cls d H' => W cls d σ H')
def tMethZ (C : Addr) (m : Str) (sp : Sp) (W : WX) (ta : TE) (t : TA) : TE := fun σ H Q => ta σ H fun x H1 => ∃ a dx fs, x = .ref a ∧ H1 a = some (.ins C dx fs) ∧ fs.lookup m = none ∧
  t σ H1 fun vs H2 => sp (x :: vs) H2 Q (fun cls d H' => W cls d σ H')
theorem pe_callZ (F : FnZ X.prog X.w X.K X.mg X.base k f fd ps sp) (hr : RoomG k X.A) (hg : Gl X x) (hm : X.mg x = some (.ref f)) (hk : PySem.W.keepIn X.K (.ref f) = true) (hb : Binds X.K fd ps []) (tk : Takes X W)
    (ha : PA X (e :: es) t) (hdb : (x == ("__debug__" : Str)) = false := by decide) (he : starEach (e :: es) X.env = (false, eval e X.env) :: starEach es X.env := by rfl) (hpl : (backTo pos (starEach es X.env)).any (·.1) = false := by rfl) :
    PE X (.Call (.Name x p) (e :: es) [] pos) (tCallZ sp W t) := by
  refine ⟨fun pins s σ H Q I h => ?_⟩
  refine wpAny_Call_Name_kw (ld_glob I hg hm ?_ hdb)
  exact PySem.W.callWith_K (h₀ := X.base) I.ok.mod.kin hk (thn (ha.run pos pins s σ H _ I h) fun us s1 ⟨vs, H1, I1, r, q⟩ => ⟨I1.kIn, run_fnz F hr hb tk I1 r q⟩) he hpl
theorem pe_methZ {pl : Sem Bool} (he : PE X o ta) (c : Cls X.K C) (hm : Meth X.K C m f) (F : FnZ X.prog X.w X.K X.mg X.base k f fd ps sp) (hr : RoomG k X.A) (hb : Binds X.K fd ps []) (tk : Takes X W) (ha : PA X (e :: es) t)
    (hst : starEach (e :: es) X.env = (false, eval e X.env) :: starEach es X.env := by rfl) (hpl : (backTo pos (starEach es X.env)).any (·.1) = false := by rfl)
    (ht : eval (.Call (.Attribute o m apos) (e :: es) [] pos) X.env = (do
      let ov ← eval o X.env
      standAt apos.atName
      let (f, first) ← holding [ov] (getMethod ov m pl)
      callWith pos f first (backTo pos (starEach (e :: es) X.env)) (backToKw pos (keywordEach [] X.env))) := by rfl) :
    PE X (.Call (.Attribute o m apos) (e :: es) [] pos) (tMethZ C m sp W ta t) := by
  refine ⟨fun pins s σ H Q I h => ?_⟩
  refine PySem.W.methodCall_KW (pl := pl) (thn (he.run pins s σ H _ I h) fun u s1 ⟨x, H1, I1, rx, a, dx, fs, ex, ea, l, q⟩ => ?_) ht
  subst ex
  obtain rfl : u = Value.ref a := rx
  refine getmeth_ok I1 ea c hm l ?_
  exact PySem.W.callWith_K (first := [.ref a]) (h₀ := X.base) I.ok.mod.kin hm.kp (thn (ha.run pos pins s1 σ H1 _ I1 q) fun us s2 ⟨vs, H2, I2, r, q2⟩ => ⟨I2.kIn, run_fnz (us := .ref a :: us) (vs := .ref a :: vs) F hr hb tk I2 (.cons rfl r) q2⟩) hst hpl
end
/-- two promises -/
theorem FnD.or {P : Program} {w : World} {K : PySem.W.Frag} {mg : Str → Option Value} {base : Heap} {k : Nat} {f : Addr} {fd : FuncData} {ps : List Str} {sp1 sp2 : SpD} (F : FnD P w K mg base k f fd ps sp1) (G : FnD P w K mg base k f fd ps sp2) :
    FnD P w K mg base k f fd ps (fun ds S Q => sp1 ds S Q ∨ sp2 ds S Q) :=
  ⟨fun ds S Q h => h.elim (F.len ds S Q) (G.len ds S Q), fun A outer s H args us vs Q hr e0 hb r ⟨ds, S, Q0, h1, h2, h3, h4⟩ =>
    h3.elim (fun h => F.run A outer s H args us vs Q hr e0 hb r ⟨ds, S, Q0, h1, h2, h, h4⟩) fun h => G.run A outer s H args us vs Q hr e0 hb r ⟨ds, S, Q0, h1, h2, h, h4⟩⟩
/-- a def's promise over data, its body by hand -/
theorem fnd_ofH {P : Program} {w : World} {K : PySem.W.Frag} {mg : Str → Option Value} {base : Heap} {k : Nat} {f : Addr} {name qual : Str} {params : Arguments} {body : List Stmt} {scope : Scope} {dV kV doc pm cdv ct oc : Value} {an od : Option Addr}
    {osl : Array (Option Value)} {N ps : List Str} {sp : SpD} (lk : K.lookup f = some ⟨oc, od, .func (PySem.W.fnOf name qual params body scope dV kV doc pm an cdv ct), osl⟩) (hcd : PySem.W.codeIn K cdv qual = true) (S : FnScope N ps scope)
    (len : ∀ ds S Q, sp ds S Q → ds.length = ps.length)
    (hbody : ∀ (A : Around) (outer : List Env) (s : Shared) (H : Hp) (vs : List V) (Q : VK), RoomG k (A.deeper (envOfC qual scope s.heap.objs.size f cdv)) → emSp K sp vs H Q →
      ∃ t, PSs (cxOf CX0 P w K mg base N qual scope f cdv A outer s H noE) body t ∧ t { nx := fun _ H' => Q .non H', rt := Q } (start N vs) H) :
    FnD P w K mg base (k + 1) f (PySem.W.fnOf name qual params body scope dV kV doc pm an cdv ct) ps sp := by
  refine ⟨len, fun A outer s H args us vs Q hr e0 hb r hsp => ?_⟩
  have hl : vs.length = ps.length := by
    obtain ⟨ds, S0, Q0, hreps, _, hq, _⟩ := hsp
    rw [← hreps.length]
    exact len ds S0 Q0 hq
  have KI : K.In s.heap := e0.mod.kin.keeps fun b o e => (e0.bs b o e).1
  have lim : s.heap.NoLimit := e0.mod.nolimit.keeps fun b o e => (e0.bs b o e).1
  have hkind : ∀ y ∈ ps.zip us, scope.names.lookup y.1 = some .local ∨ (scope.names.lookup y.1 = some .cell ∧ ((cellsFrom (s.heap.objs.size + 1) scope.names []).lookup y.1).isSome = true) := fun ⟨n, v⟩ hy =>
    (S.par n (List.of_mem_zip hy).1).elim .inl fun q => .inr ⟨q, PySem.W.cellsFrom_some _ _ _ (.inl q)⟩
  refine codeAny_call_function hr.rm.depth (KI _ _ lk) rfl S.co S.gen rfl (PySem.W.codeRec_of KI hcd) (hb _ _ _ _ ?_)
  refine wpAny_newFunctionEnv_cells S.kind hkind fun env he s1 x => ?_
  subst he
  refine ⟨lim.keeps x.toInCall.keep, codeAny_func ?_⟩
  obtain ⟨t, ht, hq⟩ := hbody A outer s H vs Q (hr.deeper _) hsp
  have I : Inv (cxOf CX0 P w K mg base N qual scope f cdv A outer s H noE) [] (start N vs) H s1 := inv_start S hr.rm.hd e0 hl r x
  refine wpAny_mono (ht.run [] s1 (start N vs) H _ I hq) (fun fl s' hs => ?_) fun e s' hs => hs
  cases fl with
  | ret u =>
    obtain ⟨v, σ', H', J, rv, q⟩ := hs
    exact ⟨v, H', J.os, J.bare, J.base, J.hok, rv, q⟩
  | next =>
    obtain ⟨σ', H', J, q⟩ := hs
    exact ⟨.non, H', J.os, J.bare, J.base, J.hok, rfl, q⟩
  | brk =>
    obtain ⟨_, _, _, q⟩ := hs
    exact q.elim
  | cont =>
    obtain ⟨_, _, _, q⟩ := hs
    exact q.elim
end QL
end L2
/-! raise, try: over data -/
namespace L2
namespace QL
open PySem PySem.Spec PyProof.Rows
/-- the class of the name x: its instances have one field f -/
structure ExcOk (K : PySem.W.Frag) (mg : Str → Option Value) (x f : Str) (bmB : List Value) (newId : String) (C fI : Addr) : Prop where
  gC : mg x = some (.ref C)
  ox : OxC K C bmB newId
  iC : PySem.W.findIn K (.ref C) "__init__" = some (some (.ref fI))
  tI : PySem.W.typeIn K (.ref fI) = some (.type "function")
  nf : PySem.W.findIn K (.ref C) f = some none
  xf : XfC K C
  ex : PySem.W.exmOne K (.ref C) (.ref C) = some true
/-- what its __init__ does -/
def spInit (C : Addr) (f : Str) : Sp := fun vs H Q _ => ∃ a y, vs = [.ref a, y] ∧ H a = some (exo a C none) ∧ ∀ dx, H dx = none → dx ≠ a → Q .non (upd (upd H dx (exd dx [(f, y)])) a (exo a C (some dx)))
theorem pa_up {X : Cx} {es : List Expr} {t : TA} (h : PA X es t) : PA X es (fun σ H Q => ∃ Q', t σ H Q' ∧ ∀ vs H1, Q' vs H1 → Q vs H1) :=
  ⟨fun pos pins s σ H Q I ⟨Q', a, b⟩ => wpAny_mono (h.run pos pins s σ H Q' I a) (fun us s1 ⟨vs, H1, I1, r, q⟩ => ⟨vs, H1, I1, r, b vs H1 q⟩) fun _ _ z => z⟩
def tMk1 (C : Addr) (f : Str) (ta : TA) : St → Hp → XK → Prop := fun σ H Q => ta σ H fun vs H1 => ∃ y, vs = [y] ∧ ∀ d, H1 d = none → Q (.ref C) (some d) (upd H1 d (.xd [(f, y)]))
section
variable {X : Cx} {W : WX} {e : Expr} {ta : TA} {x f xB : Str} {p pos : Pos} {C fI : Addr} {fd : FuncData} {B newId initId : String} {bmB : List Value} {i1 i2 : Str}
theorem pmk_one (b : BaseX B xB newId initId bmB) (T : ExcOk X.K X.mg x f bmB newId C fI) (F1 : FnOk X.prog X.w X.K X.mg X.base CX0 1 fI fd [i1, i2] (spInit C f)) (hr : Room 2 X.A) (hb : Binds X.K fd [i1, i2] []) (hg : Gl X x) (ha : PA X [e] ta)
    (hdb : (x == ("__debug__" : Str)) = false := by decide) (he : starEach [e] X.env = (false, eval e X.env) :: starEach [] X.env := by rfl) (hpl : (backTo pos (starEach [] X.env)).any (·.1) = false := by rfl) :
    PMk X (.Call (.Name x p) [e] [] pos) (tMk1 C f ta) := by
  intro pins s σ H Q I h
  refine pmk_x (es := []) b T.ox T.iC T.tI F1 hr hb pass0 hg T.gC (pa_up ha) hdb he hpl rfl pins s σ H Q I ⟨_, h, ?_⟩
  have mono : ∀ vs H1, (∃ y, vs = [y] ∧ ∀ d, H1 d = none → Q (.ref C) (some d) (upd H1 d (.xd [(f, y)]))) → (vs.length ≤ 1000 ∧ ∀ a, H1 a = none → spInit C f (.ref a :: vs) (upd H1 a (exo a C none))
      (fun v H2 => v = .non ∧ ∃ (d : Addr) (fs : List (Str × V)), H2 a = some (exo a C (some d)) ∧ H2 d = some (exd d fs) ∧ H1 d = none ∧ Q (.ref C) (some d) (upd (del H2 a) d (.xd fs))) (fun _ _ _ => False)) := by
    rintro vs H1 ⟨y, rfl, q⟩
    refine ⟨by simp, fun a ha => ⟨a, y, rfl, upd_same, fun dx hd hne => ⟨rfl, dx, [(f, y)], upd_same, ?_, ?_, ?_⟩⟩⟩
    · rw [upd_ne hne, upd_same]
    · rw [upd_ne hne] at hd
      exact hd
    · have hd1 : H1 dx = none := by rw [upd_ne hne] at hd; exact hd
      have eq : upd (del (upd (upd (upd H1 a (exo a C none)) dx (exd dx [(f, y)])) a (exo a C (some dx))) a) dx (.xd [(f, y)]) = upd H1 dx (.xd [(f, y)]) := by
        funext z
        by_cases z1 : z = dx
        · rw [z1, upd_same, upd_same]
        · rw [upd_ne z1, upd_ne z1]
          by_cases z2 : z = a
          · rw [z2, del_same, ha]
          · rw [del_ne z2, upd_ne z2, upd_ne z1, upd_ne z2]
      rw [eq]
      exact q dx hd1
  exact mono
/-- a call whose arguments raise -/
theorem pe_callN {es : List Expr} {f0 : Addr} {t : TA} (hg : Gl X x) (hm : X.mg x = some (.ref f0)) (hk : PySem.W.keepIn X.K (.ref f0) = true) (ha : PA X (e :: es) t)
    (hdb : (x == ("__debug__" : Str)) = false := by decide) (he : starEach (e :: es) X.env = (false, eval e X.env) :: starEach es X.env := by rfl) (hpl : (backTo pos (starEach es X.env)).any (·.1) = false := by rfl) :
    PE X (.Call (.Name x p) (e :: es) [] pos) (fun σ H _ => t σ H fun _ _ => False) := by
  refine ⟨fun pins s σ H Q I h => ?_⟩
  refine wpAny_Call_Name_kw (ld_glob I hg hm ?_ hdb)
  exact PySem.W.callWith_K (h₀ := X.base) I.ok.mod.kin hk (thn (ha.run pos pins s σ H _ I h) fun us s1 ⟨vs, H1, I1, r, q⟩ => q.elim) he hpl
theorem init_runS {K : PySem.W.Frag} {C a : Addr} {f : Str} {y : V} {H : Hp} {Q : VK} {z : Str} (T : OxC K C bmB newId) (nf : PySem.W.findIn K (.ref C) f = some none) (e : H a = some (exo a C none))
    (q : ∀ dx, H dx = none → dx ≠ a → Q .non (upd (upd H dx (exd dx [(f, y)])) a (exo a C (some dx)))) :
    tSeq (tDrop (tXinit K bmB newId (tCons (tVar 0) (tCons (tC (.str z)) tNil)))) (tXput K bmB newId f (tVar 0) (tVar 1)) { nx := fun _ H' => Q .non H', rt := Q } [some (.ref a), some y] H :=
  ⟨_, rfl, a, C, [.str z], rfl, by simp, T, e, _, rfl, _, rfl, a, C, rfl, T, nf, e, q⟩
theorem init_runV {K : PySem.W.Frag} {C a : Addr} {f : Str} {y : V} {H : Hp} {Q : VK} (T : OxC K C bmB newId) (nf : PySem.W.findIn K (.ref C) f = some none) (e : H a = some (exo a C none))
    (q : ∀ dx, H dx = none → dx ≠ a → Q .non (upd (upd H dx (exd dx [(f, y)])) a (exo a C (some dx)))) :
    tSeq (tDrop (tXinit K bmB newId (tCons (tVar 0) (tCons (tVar 1) tNil)))) (tXput K bmB newId f (tVar 0) (tVar 1)) { nx := fun _ H' => Q .non H', rt := Q } [some (.ref a), some y] H :=
  ⟨_, rfl, _, rfl, a, C, [y], rfl, by simp, T, e, _, rfl, _, rfl, a, C, rfl, T, nf, e, q⟩
/-- try: the body as it runs through -/
theorem ds_tryN {body : List Stmt} {h₀ : ExceptHandler} {hs : List ExceptHandler} {t : TSD} (h : DSs X.nox body t) : DS X (.Try body (h₀ :: hs) [] [] pos) t := ps_try_thru0 h
end
end QL
end L2
/-! a method whose last parameters are left to their default values -/
namespace L2
namespace QL
open PySem PySem.Spec PyProof.Rows
theorem metd_dfl {P : Program} {w : World} {K : PySem.W.Frag} {mg : Str → Option Value} {base : Heap} {k : Nat} {m y qual : Str} {sp : SpD} {f T C : Addr} {st : Stmt} {ps : List Str} {tc : Value} {an td : Option Addr} {kV doc pm cdv ct : Value} {ts : Array (Option Value)} {tn : Nat} {its : List Value} {dvs : List V} {dds : List D} (n : Nat)
    (G : FnD P w K mg base k f (PySem.W.fnOf y qual (defArgs st) (defBody st) (defScope st) (.ref T) kV doc pm an cdv ct) ps sp) (cl : Cls K C) (me : Meth K C m f)
    (t : K.lookup T = some ⟨tc, td, .seq its.toArray tn, ts⟩) (r : Vals dvs its) (hn : n + its.length = ps.length)
    (h : ∀ (T2 : Addr) (kV doc pm : Value) (an : Option Addr) (cdv ct : Value) (us : List Value), us.length = n →
      ∃ kk, bindArgs (PySem.W.fnOf y qual (defArgs st) (defBody st) (defScope st) (.ref T2) kV doc pm an cdv ct) ⟨us, []⟩ = seqItems? (.ref T2) >>= kk ∧ kk (some its.toArray) = pure (ps.zip (us ++ its))) (hD : ∀ H, Reps K H dds dvs) : MetD P w K mg base k C m sp dds := by
  have b : Binds K (PySem.W.fnOf y qual (defArgs st) (defBody st) (defScope st) (.ref T) kV doc pm an cdv ct) ps its := by
    intro s us X hlen
    obtain ⟨kk, e1, e2⟩ := h T kV doc pm an cdv ct us (by rw [List.length_append] at hlen; omega)
    refine BindsTo.of_looks fun M => ?_
    rw [e1]
    exact looks_items X t rfl (.of_pure e2)
  exact ⟨⟨f, _, ps, its, dvs, cl, me, G, b, r, hD⟩⟩
end QL
end L2
/-! code that raises, over data: W takes the exception of the class at EC -/
namespace L2
namespace QL
open PySem PySem.Spec PyProof.Rows
abbrev FX := List (Str × D)
abbrev XD := DEnv → Sto → (FX → Sto → Prop) → Prop
def XOk (K : PySem.W.Frag) (S : Sto) (H : Hp) (X0 : FX → Sto → Prop) (C : Addr) (W : WX) (σ : St) : Prop :=
  ∀ fs gs S' d H', X0 fs S' → Post K S H S' H' → RelS K S' H' → FRel K H' fs gs → S' d = none → H' d = some (.xd gs) → W (.ref C) (some d) σ H'
theorem XOk.after {K : PySem.W.Frag} {S S1 : Sto} {H H1 : Hp} {X0 : FX → Sto → Prop} {C : Addr} {W : WX} {σ : St} (k : XOk K S H X0 C W σ) (p : Post K S H S1 H1) : XOk K S1 H1 X0 C W σ :=
  fun fs gs S' d H' q p' => k fs gs S' d H' q (p.trans p')
def emR (K : PySem.W.Frag) (C : Addr) (W : WX) (t : XD) (σ : St) (H : Hp) : Prop := ∃ e S X0, RelE K H e σ ∧ RelS K S H ∧ t e S X0 ∧ XOk K S H X0 C W σ
section
variable {X : Cx} {EC : Addr} {W : WX}
abbrev XE_ (X : Cx) (EC : Addr) (W : WX) (e : Expr) (t : XD) : Prop := PE X e (fun σ H _ => emR X.K EC W t σ H)
abbrev XA_ (X : Cx) (EC : Addr) (W : WX) (es : List Expr) (t : XD) : Prop := PA X es (fun σ H _ => emR X.K EC W t σ H)
abbrev XS_ (X : Cx) (EC : Addr) (W : WX) (st : Stmt) (t : XD) : Prop := PS X st (fun _ σ H => emR X.K EC W t σ H)
abbrev XSs_ (X : Cx) (EC : Addr) (W : WX) (sts : List Stmt) (t : XD) : Prop := PSs X sts (fun _ σ H => emR X.K EC W t σ H)
variable {e o : Expr} {es : List Expr} {t t1 : XD} {st : Stmt} {rest a b : List Stmt} {pos p apos : Pos}
theorem xs_ret (h : XE_ X EC W e t) : XS_ X EC W (.Return (some e) pos) t := PS.le (ps_ret h) fun _ _ _ q => q
theorem xss_here {u : TS} (h : XS_ X EC W st t) (hu : PSs X rest u) : XSs_ X EC W (st :: rest) t := PSs.le (pss_cons h hu) fun _ _ _ q => q
theorem xss_one (h : XS_ X EC W st t) : XSs_ X EC W [st] t := PSs.le (pss_one h) fun _ _ _ q => q
def xIfT (tt : TTD) (ta : XD) : XD := fun e S X0 => tt e S fun b S1 => b = true ∧ ta e S1 X0
theorem xs_ifT {c : Expr} {tt : TTD} {u : TS} (hc : DT X c tt) (ha : XSs_ X EC W a t) (hb : PSs X b u) : XS_ X EC W (.If c a b pos) (xIfT tt t) :=
  PS.le (ps_if hc ha hb) fun D σ H ⟨e, S, X0, re, rs, ht, k⟩ => ⟨e, S, _, re, rs, ht, fun b S' H' q p rs' => by
    show (if b = true then emR X.K EC W t σ H' else u D σ H')
    rw [if_pos q.1]; exact ⟨e, S', X0, re.mono p.tk, rs', q.2, k.after p⟩⟩
def xThen (t0 : TSD) (t : XD) : XD := fun e S X0 => t0 { nx := fun e' S' => t e' S' X0, rt := fun _ _ => False } e S
theorem xss_then {t0 : TSD} (h1 : DS X st t0) (h2 : XSs_ X EC W rest t) (hW : ∀ c d σ σ' H, W c d σ H → W c d σ' H) : XSs_ X EC W (st :: rest) (xThen t0 t) :=
  PSs.le (pss_cons h1 h2) fun D σ H ⟨e, S, X0, re, rs, ht, k⟩ => ⟨e, S, _, re, rs, ht, ⟨fun e' S' σ' H' q p re' rs' => ⟨e', S', X0, re', rs', q, fun fs gs S2 d H2 q2 p2 a1 a2 a3 a4 => hW _ _ _ _ _ (k fs gs S2 d H2 q2 (p.trans p2) a1 a2 a3 a4)⟩,
    fun _ _ _ _ q => q.elim, fun _ _ _ _ q => q.elim, fun _ _ _ _ q => q.elim⟩⟩
theorem xa_here {u : TA} (h : XE_ X EC W e t) (hr : PA X es u) (he : starEach (e :: es) X.env = (false, eval e X.env) :: starEach es X.env := by rfl) : XA_ X EC W (e :: es) t := PA.le (pa_cons h hr he) fun _ _ _ q => q
def xThenA (t0 : TD) (t : XD) : XD := fun e S X0 => t0 e S fun _ S1 => t e S1 X0
theorem xa_then {t0 : TD} (h : DE X e t0) (hr : XA_ X EC W es t) (he : starEach (e :: es) X.env = (false, eval e X.env) :: starEach es X.env := by rfl) : XA_ X EC W (e :: es) (xThenA t0 t) :=
  PA.le (pa_cons h hr he) fun σ H Q ⟨e, S, X0, re, rs, ht, k⟩ => ⟨e, S, _, re, rs, ht, fun d S' v H' q p rs' r => ⟨e, S', X0, re.mono p.tk, rs', q, k.after p⟩⟩
theorem xe_args {x : Str} {f0 : Addr} (hg : Gl X x) (hm : X.mg x = some (.ref f0)) (hk : PySem.W.keepIn X.K (.ref f0) = true) (ha : XA_ X EC W (e :: es) t)
    (hdb : (x == ("__debug__" : Str)) = false := by decide) (he : starEach (e :: es) X.env = (false, eval e X.env) :: starEach es X.env := by rfl) (hpl : (backTo pos (starEach es X.env)).any (·.1) = false := by rfl) :
    XE_ X EC W (.Call (.Name x p) (e :: es) [] pos) t := pe_callN hg hm hk ha hdb he hpl
theorem xe_bin {a b : Expr} {op : Operator} {u : TE} {r : R2} (ho : OpR X (binaryOp op) r) (h : XE_ X EC W a t) (hb : PE X b u) : XE_ X EC W (.BinOp a op b pos) t := PE.le (pe_op ho h hb) fun _ _ _ q => q
def xMk (f : Str) (t : TAD) : XD := fun e S X0 => t e S fun ds S1 => ∃ y, ds = [y] ∧ X0 [(f, y)] S1
theorem xs_raise {x f xB i1 i2 : Str} {C fI : Addr} {fd : FuncData} {B newId initId : String} {bmB : List Value} {t : TAD} {pos' : Pos} (hc : X.calm = true) (tk : Takes X W) (b : BaseX B xB newId initId bmB) (T : ExcOk X.K X.mg x f bmB newId C fI)
    (F1 : FnOk X.prog X.w X.K X.mg X.base CX0 1 fI fd [i1, i2] (spInit C f)) (hr : Room 2 X.A) (hb : Binds X.K fd [i1, i2] []) (hg : Gl X x) (ha : DA X [e] t)
    (hdb : (x == ("__debug__" : Str)) = false := by decide) (he : starEach [e] X.env = (false, eval e X.env) :: starEach [] X.env := by rfl) (hpl : (backTo pos (starEach [] X.env)).any (·.1) = false := by rfl) :
    XS_ X C W (.Raise (some (.Call (.Name x p) [e] [] pos)) none pos') (xMk f t) :=
  PS.le (ps_raise hc tk (pmk_one b T F1 hr hb hg ha hdb he hpl)) fun D σ H ⟨e, S, X0, re, rs, ht, k⟩ => ⟨e, S, _, re, rs, ht, fun ds S1 vs H1 q p rs1 r => by
    obtain ⟨y, rfl, q⟩ := q
    obtain ⟨v, rfl, r1⟩ := reps_one r
    refine ⟨v, rfl, fun d hd => ?_⟩
    have fr : Free (H1 d) := by rw [hd]; trivial
    exact k [(f, y)] [(f, v)] S1 d _ q (p.trans (Post.lay hd)) (rs1.upd fr (rs1.none_of hd)) (.cons (r1.mono (TK.upd fr)) .nil) (rs1.none_of hd) upd_same⟩
/-- a method that raises -/
def xMeth (C : Addr) (m : Str) (spx : SpX) (to : TD) (t : TAD) : XD := fun e S X0 => to e S fun d S1 => match d with
  | .loc a => match S1 a with
    | some (.ins C' fs) => (C' = C ∧ fs.lookup m = none) ∧ t e S1 (fun ds S2 => spx (.loc a :: ds) S2 X0)
    | _ => False
  | _ => False
theorem xe_meth {pl : Sem Bool} {k j : Nat} {C f : Addr} {m : Str} {fd : FuncData} {ps : List Str} {spx : SpX} {to : TD} {t : TAD} (c : Cls X.K C) (hm : Meth X.K C m f) (F : FnZ X.prog X.w X.K X.mg X.base k f fd ps (spZ X.K EC spx)) (hb : Binds X.K fd ps []) (hr : RoomG j X.A) (hk : k ≤ j) (tk : Takes X W)
    (ho : DE X o to) (ha : DA X (e :: es) t)
    (hst : starEach (e :: es) X.env = (false, eval e X.env) :: starEach es X.env := by rfl) (hpl : (backTo pos (starEach es X.env)).any (·.1) = false := by rfl)
    (ht : eval (.Call (.Attribute o m apos) (e :: es) [] pos) X.env = (do
      let ov ← eval o X.env
      standAt apos.atName
      let (f, first) ← holding [ov] (getMethod ov m pl)
      callWith pos f first (backTo pos (starEach (e :: es) X.env)) (backToKw pos (keywordEach [] X.env))) := by rfl) :
    XE_ X EC W (.Call (.Attribute o m apos) (e :: es) [] pos) (xMeth C m spx to t) :=
  PE.le (pe_methZ ho c hm F (hr.mono hk) hb tk ha hst hpl ht) fun σ H Q ⟨e, S, X0, re, rs, h, k⟩ => ⟨e, S, _, re, rs, h, fun d S1 v H1 q p rs1 r => by
    cases r with
    | loc a =>
      dsimp only at q
      split at q
      · rename_i C' fs e1
        obtain ⟨⟨rfl, hl⟩, q⟩ := q
        obtain ⟨dx, fq, e2, fr⟩ := rs1 _ _ e1
        refine ⟨a, dx, fq, rfl, e2, ?_, e, S1, _, re.mono p.tk, rs1, q, fun ds S2 vs H2 q2 p2 rs2 r2 => ⟨_, S2, X0, .cons (.loc a) r2, rs2, q2, fun fs gs S' d H' q3 p3 a1 a2 a4 a5 => k fs gs S' d H' q3 ((p.trans p2).trans p3) a1 a2 a4 a5⟩⟩
        clear e1 e2 q
        induction fr with
        | nil => rfl
        | cons h t ih =>
          rename_i a b _ _
          obtain ⟨g, x⟩ := a
          obtain ⟨g', x'⟩ := b
          obtain ⟨hg, _⟩ := h
          dsimp only at hg
          subst hg
          by_cases hm : (m == g) = true
          · simp [List.lookup, hm] at hl
          · simp only [Bool.not_eq_true] at hm
            simp only [List.lookup, hm] at hl ⊢
            exact ih hl
      · exact q.elim
    | _ => exact q.elim⟩
end
/-- a def that raises, by its body over data -/
theorem fnx_of {P : Program} {w : World} {K : PySem.W.Frag} {mg : Str → Option Value} {base : Heap} {k : Nat} {f EC : Addr} {name qual : Str} {params : Arguments} {body : List Stmt} {scope : Scope} {dV kV doc pm cdv ct oc : Value} {an od : Option Addr}
    {osl : Array (Option Value)} {N ps : List Str} {spx : SpX} {t : XD} (lk : K.lookup f = some ⟨oc, od, .func (PySem.W.fnOf name qual params body scope dV kV doc pm an cdv ct), osl⟩) (hcd : PySem.W.codeIn K cdv qual = true) (S : FnScope N ps scope)
    (len : ∀ ds S X0, spx ds S X0 → ds.length = ps.length)
    (hbody : ∀ (A : Around) (outer : List Env) (s : Shared) (H : Hp) (E : XK), RoomG k (A.deeper (envOfC qual scope s.heap.objs.size f cdv)) →
      XSs_ (cxOf (L2.CX P w) P w K mg base N qual scope f cdv A outer s H E) EC (fun cls d _ H => E cls d H) body t)
    (plain : ∀ ds S X0, spx ds S X0 → t (startD N ds) S X0) : FnZ P w K mg base (k + 1) f (PySem.W.fnOf name qual params body scope dV kV doc pm an cdv ct) ps (spZ K EC spx) := by
  refine fnz_of lk hcd S (fun vs H Q E ⟨ds, S, X0, r, _, q, _⟩ => by rw [← r.length]; exact len ds S X0 q) fun A outer s H vs Q E hr h => ⟨_, hbody A outer s H E hr, ?_⟩
  obtain ⟨ds, S, X0, r, rs, q, k⟩ := h
  exact ⟨startD N ds, S, X0, RelE.start r, rs, plain ds S X0 q, fun fs gs S' d H' q' p rs' fr sd hd => k fs gs S' d H' q' p rs' fr sd hd⟩
end QL
end L2
/-! try: the body raises, the clause takes it -/
namespace L2
namespace QL
open PySem PySem.Spec PyProof.Rows
theorem RelE.len {K : PySem.W.Frag} {H : Hp} : ∀ {e : DEnv} {σ : St}, RelE K H e σ → e.length = σ.length
  | [], [], _ => rfl
  | none :: e, _ :: σ, h => congrArg Nat.succ (RelE.len (e := e) (σ := σ) h)
  | some _ :: e, some _ :: σ, h => congrArg Nat.succ (RelE.len (e := e) (σ := σ) h.2)
  | some _ :: _, none :: _, h => h.elim
  | [], _ :: _, h => h.elim
  | some _ :: _, [], h => h.elim
  | none :: _, [], h => h.elim
theorem RelE.forgetX {K : PySem.W.Frag} {H : Hp} (x : Option V) : ∀ {e : DEnv} {σ : St} (i : Nat), RelE K H e σ → RelE K H (e.set i none) (σ.set i x)
  | [], [], _, _ => trivial
  | none :: e, _ :: σ, 0, h => h
  | some _ :: e, some _ :: σ, 0, h => h.2
  | none :: e, _ :: σ, i + 1, h => RelE.forgetX (e := e) (σ := σ) x i h
  | some _ :: e, some _ :: σ, i + 1, h => ⟨h.1, RelE.forgetX (e := e) (σ := σ) x i h.2⟩
  | some _ :: _, none :: _, _, h => h.elim
  | [], _ :: _, _, h => h.elim
  | some _ :: _, [], _, h => h.elim
  | none :: _, [], _, h => h.elim
theorem FRel.lookup {K : PySem.W.Frag} {H : Hp} {f : Str} {v : D} : ∀ {fs : List (Str × D)} {gs : List (Str × V)}, FRel K H fs gs → fs.lookup f = some v → ∃ u, gs.lookup f = some u ∧ Rep K H v u
  | _, _, .nil, h => by cases h
  | _, _, .cons (f := g) (fs := fs) (gs := gs) r t, h => by
    rw [List.lookup_cons] at h ⊢
    cases q : (f == g) with
    | true =>
      rw [q] at h
      cases h
      exact ⟨_, rfl, r⟩
    | false =>
      rw [q] at h
      exact FRel.lookup t h
/-- an except suite over data: fs the fields of the exception at a, that stands in slot i -/
def emSu (K : PySem.W.Frag) (EC : Addr) (i : Nat) (t : FX → TSD) (a : Addr) (cls : Value) (d : Option Addr) : TS := fun D1 σ H => ∃ e S D0 fs gs dd, cls = .ref EC ∧ d = some dd ∧ RelE K H e σ ∧ σ[i]? = some (some (.ref a)) ∧ RelS K S H ∧ FRel K H fs gs ∧ S dd = none ∧ H dd = some (.xd gs) ∧
  t fs D0 e S ∧ EndsOk K S H D0 D1
def xTry (t : XD) (i : Nat) (ts : FX → TSD) : TSD := fun D0 e S => i < e.length ∧ t e S fun fs S1 => ts fs { nx := fun e' S' => D0.nx (e'.set i none) S', rt := D0.rt, bk := fun e' S' => D0.bk (e'.set i none) S', ct := fun e' S' => D0.ct (e'.set i none) S' } (e.set i none) S1
section
variable {X : Cx} {x n : Str} {EC : Addr} {i : Nat} {body suite : List Stmt} {b₀ : Stmt} {np pos pos' : Pos} {t : XD} {ts : FX → TSD}
theorem ds_tryX (hs : X.stack = X.env :: X.outer) (hf : X.env.frame = some X.env.locals) (hN : X.N.Nodup) (hi : X.N[i]? = some n) (hln : X.env.kindOf n = some .local) (hc : Names X x (.ref EC)) (ex : PySem.W.exmOne X.K (.ref EC) (.ref EC) = some true)
    (hb : ∀ (W : WX) (pn : List (Addr × Obj)) (xe : Value → Shared → Prop), Takes (X.tr pn xe) W → XSs_ (X.tr pn xe) EC W body t)
    (hsu : ∀ (a : Addr) (oe : Obj) (cls : Value) (d : Option Addr) (pn : List (Addr × Obj)), Zc cls d oe → (∃ vs, oe.data = .fields vs) → PSs (X.suite a ((a, oe) :: pn)) (b₀ :: suite) (emSu X.K EC i ts a cls d)) :
    DS X (.Try body [.ExceptHandler (some (.Name x np)) (some n) (b₀ :: suite) pos'] [] [] pos) (xTry t i ts) :=
  PS.le (ps_try_as (Wout := fun c d σ H => False) (tb := fun W _ σ H => emR X.K EC W t σ H) (ts := emSu X.K EC i ts) hs hf hN hi hln hc (fun u s' ⟨_, _, _, _, _, _, _, _, _, _, _, _, _, _, _, _, w⟩ => w.elim) (fun W pn xe tk _ => hb W pn xe tk) hsu) fun D σ H ⟨e, S, D0, re, rs, ⟨hl, ht⟩, k⟩ =>
    ⟨e, S, _, re, rs, ht, fun fs gs S' d H' q p rs' fr sd hd => ⟨true, ex, fun _ a ha => ⟨e.set i none, S', _, fs, gs, d, rfl, rfl, RelE.forgetX _ i (re.mono p.tk), by
      rw [List.getElem?_set_self (by rw [← re.len]; exact hl)], rs', fr, sd, hd, q, ⟨fun e' S2 σ' H2 q2 p2 re2 rs2 => k.nx _ _ _ _ q2 (p.trans p2) (RelE.forgetX _ i re2) rs2, fun d2 S2 v H2 q2 p2 rp rs2 => k.rt _ _ _ _ q2 (p.trans p2) rp rs2,
      fun e' S2 σ' H2 q2 p2 re2 rs2 => k.bk _ _ _ _ q2 (p.trans p2) (RelE.forgetX _ i re2) rs2, fun e' S2 σ' H2 q2 p2 re2 rs2 => k.ct _ _ _ _ q2 (p.trans p2) (RelE.forgetX _ i re2) rs2⟩⟩, fun h => nomatch h⟩⟩
/-- a def's promise over data, its context with an exit for exceptions of the body -/
theorem fnd_ofB {P : Program} {w : World} {K : PySem.W.Frag} {mg : Str → Option Value} {base : Heap} {k : Nat} {f : Addr} {name qual : Str} {params : Arguments} {body : List Stmt} {scope : Scope} {dV kV doc pm cdv ct oc : Value} {an od : Option Addr}
    {osl : Array (Option Value)} {N ps : List Str} {sp : SpD} {tb : TSD} (lk : K.lookup f = some ⟨oc, od, .func (PySem.W.fnOf name qual params body scope dV kV doc pm an cdv ct), osl⟩) (hcd : PySem.W.codeIn K cdv qual = true) (S : FnScope N ps scope)
    (len : ∀ ds S Q, sp ds S Q → ds.length = ps.length)
    (hbody : ∀ (A : Around) (outer : List Env) (s : Shared) (H : Hp), RoomG k (A.deeper (envOfC qual scope s.heap.objs.size f cdv)) → DSs (cxOf CX0 P w K mg base N qual scope f cdv A outer s H noE) body tb)
    (plain : ∀ ds S Q0, sp ds S Q0 → tb (bodyEnds Q0) (startD N ds) S) : FnD P w K mg base (k + 1) f (PySem.W.fnOf name qual params body scope dV kV doc pm an cdv ct) ps sp :=
  fnd_ofH lk hcd S len fun A outer s H vs Q hr ⟨ds, S0, Q0, hreps, rs, hq, kk⟩ => ⟨_, hbody A outer s H hr, startD N ds, S0, bodyEnds Q0, RelE.start hreps, rs, plain ds S0 Q0 hq,
    ⟨fun e' S' σ' H' q p re rs' => by
      obtain ⟨S2, sb, q⟩ := q
      exact kk .non S2 .non H' q (p.sub sb) (rs'.sub sb) .non, fun d S' v H' q p rp rs' => by
      obtain ⟨S2, sb, q⟩ := q
      exact kk d S2 v H' q (p.sub sb) (rs'.sub sb) rp, fun _ _ _ _ q => q.elim, fun _ _ _ _ q => q.elim⟩⟩
def tyFnB (x : Str) (K : PySem.W.Frag) : Bool := decide (PySem.W.typeIn K (.ref (He.ma K (He.ga K x) "__init__")) = some (.type "function"))
def xfBx (x : Str) (K : PySem.W.Frag) : Bool := xfB K (He.ga K x)
/-- return ("w", e.f) -/
def xRetF (w f : Str) : FX → TSD := fun fs D _ S => ∃ v, fs.lookup f = some v ∧ D.rt (.tup [.str w, v]) S
theorem su_retF {a : Addr} {oe : Obj} {cls : Value} {d : Option Addr} {pn : List (Addr × Obj)} {w f : Str} {j1 kk} {p1 p2 p3 p4 p5 : Pos} (hz : Zc cls d oe) (hf : ∃ vs, oe.data = .fields vs) (T : XfC X.K EC) (hno : PySem.W.findIn X.K (.ref EC) f = some none)
    (hi : X.N[i]? = some n) (hv : Vis X.env.scope n) (hd : (n == ("__debug__" : Str)) = false := by decide) (hcd : (n == ("__classdict__" : Str)) = false := by decide) :
    PSs (X.suite a ((a, oe) :: pn)) [.Return (some (.Tuple [.Constant (.str w) j1 p1, .Attribute (.Name n p3) f p2] kk p4)) p5] (emSu X.K EC i (xRetF w f) a cls d) :=
  PSs.le (pss_one (ps_ret (pe_tup (pa_cons pe_str (pa_cons (pe_xf T hno hz hf (pe_var (i := i) hi hv hd hcd)) pa_nil))))) fun D σ H ⟨e, S, D0, fs, gs, dd, e1, e2, re, es, rs, fr, sd, hdd, ⟨v, hl, q⟩, k⟩ => by
    obtain ⟨u, hu, ru⟩ := fr.lookup hl
    refine ⟨_, es, rfl, e1, dd, gs, u, e2, hdd, hu, by simp [sizeLine_eq], fun p hp => ?_⟩
    have free : Free (H p) := by rw [hp]; trivial
    exact k.rt _ S _ _ q (Post.lay hp) (.tup (.inl (.inl upd_same)) (.cons (.str w) (.cons (ru.mono (TK.upd free)) .nil))) (rs.upd free (rs.none_of hp))
end
end QL
end L2
/-! isinstance of a caught exception that has fields; list(range(a, b)) -/
namespace PySem
namespace OXB
open PySem.W PySem.F
theorem initF_KeyError : InitF "KeyError" "KeyError.__init__" [.type "KeyError", .type "LookupError", .type "Exception", .type "BaseException", .type "object"] where
  init := .of (owner := "KeyError") (n := "__init__") (by rw [typeLookup_type, builtinLookup_eq_fast]; kernel_rfl) (by decide +kernel) (by decide +kernel) (by decide +kernel)
    (by first | exact .inl (by decide +kernel) | exact .inr (by decide +kernel)) (by rw [isSubtype_type]; kernel_rfl)
  entry := entryFor_alias (id' := "BaseException.__init__") (by rw [fastTable_eq_tree]; kernel_rfl) (by first | rfl | decide +kernel) (by decide +kernel) (by rw [fastTable_eq_tree]; kernel_rfl)
  split := by kernel_rfl
  kind := by kernel_rfl
  row := by kernel_rfl
  noStar := by decide +kernel
  hasB := by decide +kernel
theorem newF_KeyError : NewF "LookupError.__new__" [.type "KeyError", .type "LookupError", .type "Exception", .type "BaseException", .type "object"] :=
  ⟨"LookupError", _, _, PySem.F.excBase_LookupError, by decide +kernel, by decide +kernel, by decide +kernel⟩
theorem storeF_KeyError : StoreFacts "KeyError" [.type "KeyError", .type "LookupError", .type "Exception", .type "BaseException", .type "object"] "object.__setattr__" "object" where
  mro := by kernel_rfl
  slot := .of (owner := "object") (n := "__setattr__") (by rw [typeLookup_type, builtinLookup_eq_fast]; kernel_rfl) (by decide +kernel) (by decide +kernel) (by decide +kernel)
    (by first | exact .inl (by decide +kernel) | exact .inr (by decide +kernel)) (by rw [isSubtype_type]; kernel_rfl)
  entry := entry_object_sa
  kind := by decide +kernel
  split := by decide +kernel
  hasOwner := by decide +kernel
  args := fun a b c => by unfold argsOk; kernel_rfl
  passes := fun self => by kernel_rfl
end OXB
end PySem
namespace L2
namespace QL
open PySem PySem.Spec PyProof.Rows
section
variable {prog : Program} {w : World} {A : Around} {E : Value → Shared → Prop} {s : Shared} {K : PySem.W.Frag} {x D : Addr} {ox : Obj} {od : Option Obj}
theorem findObj_dataD {C : Addr} {name : Str} {a g : Value} (hc : (PySem.W.clsIn K C).isSome = true) (ha : PySem.W.findIn K (.ref C) name = some (some a)) (hg : PySem.W.specialIn K a "__get__" = some (some g)) (ht : PySem.W.takesIn K a = some true) : PySem.W.findObj K C od name = some (.bind g a) := by
  obtain ⟨cd, hc⟩ := Option.isSome_iff_exists.mp hc
  unfold PySem.W.findObj
  rw [hc, Option.bind_some, ha, Option.bind_some]
  simp [hg, ht]
theorem clsD (C : ExcC K D) : ∃ cd, PySem.W.clsIn K D = some cd := by
  have h := C.hd
  unfold PySem.W.hasDictIn at h
  cases e : PySem.W.clsIn K D with
  | none => rw [e] at h; cases h
  | some cd => exact ⟨cd, rfl⟩
/-- e.__class__ -/
theorem class_ofD {Q : Option Value → Shared → Prop} (C : ExcC K D) (X : K.In s.heap) (I : PySem.W.InstAt s.heap x ox D od) (h : Q (some (.ref D)) { s with toks := s.toks + 1 }) : wpAny (model prog w) A (getAttr? (.ref x) "__class__") Q E s := by
  have hcl : (PySem.W.clsIn K D).isSome = true := by
    obtain ⟨cd, e⟩ := clsD C
    rw [e]; rfl
  have hf : PySem.W.findObj K D od "__class__" = some (.bind (.builtin "getset_descriptor.__get__") (.builtin "object.__class__")) := findObj_dataD hcl C.ha C.hn C.ht
  obtain ⟨hp, g, d, t, os⟩ := s
  have L0 := I.type (M := model prog w)
  have L1 := PySem.W.looks_findIn (M := model prog w) X C.hg
  have L2 := PySem.W.looks_findIn (M := model prog w) X C.hk
  have L3 := PySem.W.looks_find (M := model prog w) X I hf
  have sub : PySem.W.Looks (model prog w) hp (isInstance (.ref x) (.type "BaseException")) true := L0.andThen (PySem.W.looks_subIn X C.hs)
  have hx0 : (false && onTheHeap (Value.builtin "BaseException.__getattribute__")) = false := rfl
  have hx2 : (Value.builtin "BaseException.__getattribute__" == Value.builtin "object.__getattribute__") = false := by decide +kernel
  have hx1 : (onTheHeap (Value.ref D) && Value.builtin "BaseException.__getattribute__" == Value.builtin "object.__getattribute__") = false := by rw [hx2]; rfl
  unfold getAttr? getAttrBy? getAttrBy
  refine wpAny_bind (wpAny_mkText (wpAny_bind (wpAny_attempt (wpAny_holding (wpAny_bind (L0.at (wpAny_bind (L1.at ?_))))))))
  show wpAny _ _ (if (onTheHeap (Value.ref D) && Value.builtin "BaseException.__getattribute__" == Value.builtin "object.__getattribute__") = true then _ else _) _ _ _
  rw [hx1, if_neg Bool.false_ne_true]
  unfold getAttrByItsOwn hookBefore
  refine wpAny_bind ?_
  rw [if_pos (show onTheHeap (Value.ref D) = true from rfl)]
  refine L2.at ?_
  refine wpAny_bind (wpAny_attempt (wpAny_holding ?_))
  unfold callGetattribute
  rw [hx0, if_neg Bool.false_ne_true]
  unfold boundAndCalled
  rw [PySem.F.excAttr_ValueError.ga.bind (.ref x)]
  refine wpAny_bind (wpAny_pure ?_)
  show wpAny _ _ (call (.builtin "BaseException.__getattribute__") [.ref x, .str "__class__" t]) _ _ _
  refine wpAny_call (codeAny_call_builtin PySem.F.excAttr_ValueError.ga.plain PySem.F.entry_bexc_ga ?_)
  refine @PySem.W.check_slot (model prog w) _ _ ⟨hp, g, d, t + 1, os⟩ "BaseException.__getattribute__" "BaseException" "__getattribute__" (.ref x) [.str "__class__" t] [] _ (by decide +kernel) (by decide +kernel) sub (PySem.F.args_bexc_ga (.ref x) (.str "__class__" t)) ?_
  unfold Builtin.«object.__getattribute__»
  refine wpAny_bind (wpAny_of_eq (a := ((Value.ref x : Value), [Value.str "__class__" t])) (by first | rfl | (simp only [slotArgs]; rfl)) ?_)
  refine wpAny_bind (wpAny_pure (wpAny_bind (L0.at (wpAny_bind (L3.at ?_)))))
  show wpAny _ _ (holding [Value.builtin "object.__class__"] (call (.builtin "getset_descriptor.__get__") [.builtin "object.__class__", .ref x, .ref D]) >>= ret) _ _ _
  refine wpAny_bind (wpAny_holding (wpAny_call (PySem.W.class_get (s := ⟨hp, g, d, t + 1, os⟩) (ox := ox) (od := od) X I C.hm ?_)))
  refine wpAny_pure ?_
  show wpAny _ _ (handedOut (.ref D)) _ _ _
  rw [PySem.W.handedOut_of (v := .ref D) rfl]
  first
    | exact wpAny_pure (wpAny_pure h)
    | exact wpAny_pure h
    | exact wpAny_pure (wpAny_bind (wpAny_pure (wpAny_pure h)))
theorem kitx_excD (C : ExcC K D) : PySem.W.KitX K (.ref x) (.ref D) (fun h => ∃ od, PySem.W.InstAt h x ox D od) where
  ty := fun _ _ _ ⟨_, I⟩ => I.type
  it := fun _ _ X _ => by
    obtain ⟨cdD, hcD⟩ := clsD C
    unfold PySem.W.clsIn at hcD
    split at hcD
    · rename_i c' d' cd' sl' ho
      intro A' Q' E' s' k q
      unfold isType loadHead
      exact wpAny_bind (wpAny_loadPart (k _ _ (X _ _ ho)) (wpAny_pure q))
    · cases hcD
  ne := fun h tp dd its n sl X htp => by
    obtain ⟨cdD, hcD⟩ := clsD C
    refine Bool.eq_false_iff.mpr fun q => ?_
    have e : D = tp := Value.ref.inj (beq_iff_eq.mp q)
    subst e
    unfold PySem.W.clsIn at hcD
    split at hcD
    · rename_i c' d' cd' sl' ho
      have z := (X _ _ ho).symm.trans htp
      cases z
    · cases hcD
  ca := fun X ⟨_, I⟩ k => class_ofD C X I k
end
/-- isinstance(e, c), e the exception that the suite holds, with fields -/
def rIsED (K : PySem.W.Frag) (D a dd : Addr) : List V → Hp → VK → Prop := fun xs H Q => ∃ (c : V) (cv : Value) (b : Bool) (gs : List (Str × V)), xs = [.ref a, c] ∧ (∀ u, RelV c u → u = cv) ∧ PySem.W.kitOne K (.ref D) cv = some b ∧ H dd = some (.xd gs) ∧ Q (.bl b) H
theorem call_isED {X : Cx} {a D dd : Addr} {oe : Obj} {pn : List (Addr × Obj)} (C : ExcC X.K D) (hz : Zc (.ref D) (some dd) oe) (hf : ∃ vs, oe.data = .fields vs) : CallR (X.suite a ((a, oe) :: pn)) (.builtin "isinstance") (rIsED X.K D a dd) := by
  intro pins s σ H xs us Q I r h
  obtain ⟨c, cv, b, gs, rfl, hcv, e, ea, q⟩ := h
  cases r with
  | cons rx rr =>
    cases rr with
    | cons rt rr =>
      cases rr
      cases rx
      have ec := hcv _ rt
      subst ec
      obtain ⟨hget, _⟩ := I.pin (a, oe) (List.mem_append.mpr (.inl List.mem_cons_self))
      obtain ⟨vs, hv⟩ := hf
      have hx : ObjOk X.prog X.w H s.heap dd (.xd gs) := I.hok dd _ ea
      obtain ⟨mA, hns, hr⟩ := hx
      obtain ⟨od, ho, hl⟩ := lookIn_ns hns
      have J : PySem.W.InstAt s.heap a oe D (some od) := ⟨hget, hz.1, by unfold PySem.W.notCls; rw [hv] <;> rfl, by rw [hz.2]; exact ho⟩
      exact PySem.W.kia_one (kitx_excD C) I.kIn ⟨_, J⟩ e (fun z => nomatch z) fun tk => ⟨.bl b, H, I.kept (t' := tk) fun _ _ z => z, rfl, q⟩
/-- a test in a suite: isinstance(e, T) -/
def tIsX (i : Nat) (a EC : Addr) (cls : Value) (d : Option Addr) (b : Bool) : TT := fun σ H Q => cls = .ref EC ∧ σ[i]? = some (some (V.ref a)) ∧ (∃ (dd : Addr) (gs : List (Str × V)), d = some dd ∧ H dd = some (.xd gs)) ∧ Q b H
section
variable {X : Cx} {a EC : Addr} {oe : Obj} {cls : Value} {d : Option Addr} {pn : List (Addr × Obj)} {i : Nat} {n : Str} {pos p1 p2 p3 p4 p5 p6 p7 p8 p9 : Pos}
theorem pt_isX {b : Bool} {xT : Str} {T : String} (C : ExcC X.K EC) (hz : Zc cls d oe) (hf : ∃ vs, oe.data = .fields vs) (hg : Gl X "isinstance") (hm : X.mg "isinstance" = none) (hgT : Gl X xT) (hmT : X.mg xT = none) (hvT : bootBuiltins xT = some (.type T)) (hk : PySem.W.kitOne X.K (.ref EC) (.type T) = some b)
    (hi : X.N[i]? = some n) (hv : Vis X.env.scope n) (hd : (n == ("__debug__" : Str)) = false := by decide) (hcd : (n == ("__classdict__" : Str)) = false := by decide) (hnT : xT ≠ "__name__" := by decide) (hdT : (xT == ("__debug__" : Str)) = false := by decide) :
    PT (X.suite a ((a, oe) :: pn)) (.Call (.Name "isinstance" p1) [.Name n p2, .Name xT p3] [] pos) (tIsX i a EC cls d b) := by
  refine ⟨fun pins s σ H Q I h => ?_⟩
  obtain ⟨ec, hs, ⟨dd, gs, ed, he⟩, q⟩ := h
  subst ec
  subst ed
  have P := pt_val (pe_callB (X := X.suite a ((a, oe) :: pn)) (p := p1) (pos := pos) (call_isED C hz hf) hg hm PyProof.Rows.boot_isinstance (pa_cons (pe_var (i := i) (pos := p2) hi hv hd hcd) (pa_cons (pe_bltn (v := .ty T) (pos := p3) hgT hmT hvT rfl hnT hdT) pa_nil)))
  exact P.run pins s σ H Q I ⟨_, hs, _, .type T, b, gs, rfl, fun u r => r, hk, he, b, rfl, q⟩
/-- return ("w", e.f) if .. else .., the test holds -/
theorem su_retIf {t : TT} {test : Expr} {w f z : Str} {j1 kk j2} (hz : Zc cls d oe) (hf : ∃ vs, oe.data = .fields vs) (T : XfC X.K EC) (hno : PySem.W.findIn X.K (.ref EC) f = some none) (ht : PT (X.suite a ((a, oe) :: pn)) test t)
    (htt : ∀ σ H (Q : Bool → Hp → Prop), cls = .ref EC → σ[i]? = some (some (V.ref a)) → (∃ (dd : Addr) (gs : List (Str × V)), d = some dd ∧ H dd = some (.xd gs)) → Q true H → t σ H Q)
    (hi : X.N[i]? = some n) (hv : Vis X.env.scope n) (hd : (n == ("__debug__" : Str)) = false := by decide) (hcd : (n == ("__classdict__" : Str)) = false := by decide) :
    PSs (X.suite a ((a, oe) :: pn)) [.Return (some (.IfExp test (.Tuple [.Constant (.str w) j1 p1, .Attribute (.Name n p3) f p2] kk p4) (.Constant (.str z) j2 p6) p7)) p5] (emSu X.K EC i (xRetF w f) a cls d) :=
  PSs.le (pss_one (ps_ret (pe_ifExp ht (pe_tup (pa_cons pe_str (pa_cons (pe_xf T hno hz hf (pe_var (i := i) hi hv hd hcd)) pa_nil))) pe_str))) fun D σ H ⟨e, S, D0, fs, gs, dd, e1, e2, re, es, rs, fr, sd, hdd, ⟨v, hl, q⟩, k⟩ => by
    obtain ⟨u, hu, ru⟩ := fr.lookup hl
    refine htt _ _ _ e1 es ⟨dd, gs, e2, hdd⟩ ?_
    show (if true = true then _ else _)
    rw [if_pos rfl]
    refine ⟨_, es, rfl, e1, dd, gs, u, e2, hdd, hu, by simp [sizeLine_eq], fun p hp => ?_⟩
    have free : Free (H p) := by rw [hp]; trivial
    exact k.rt _ S _ _ q (Post.lay hp) (.tup (.inl (.inl upd_same)) (.cons (.str w) (.cons (ru.mono (TK.upd free)) .nil))) (rs.upd free (rs.none_of hp))
theorem tIsX_and {σ : St} {H : Hp} {Q : Bool → Hp → Prop} (h0 : cls = .ref EC) (h1 : σ[i]? = some (some (V.ref a))) (h2 : ∃ (dd : Addr) (gs : List (Str × V)), d = some dd ∧ H dd = some (.xd gs)) (q : Q true H) :
    tAnd (tIsX i a EC cls d true) (tNot (tIsX i a EC cls d false)) σ H Q := by
  refine ⟨h0, h1, h2, ?_⟩
  show (if true = true then _ else _)
  rw [if_pos rfl]
  exact ⟨h0, h1, h2, q⟩
end
/-! facts of the head -/
def exC_B (x : Str) (K : PySem.W.Frag) : Bool := decide (PySem.W.findIn K (.ref (He.ga K x)) "__getattribute__" = some (some (.builtin "BaseException.__getattribute__"))) && (decide (PySem.W.findIn K (.ref (He.ga K x)) "__getattr__" = some none) && (decide (PySem.W.subIn K (.ref (He.ga K x)) (.type "BaseException") = some true) &&
  (PySem.W.hasDictIn K (He.ga K x) && (decide (PySem.W.findIn K (.ref (He.ga K x)) "__class__" = some (some (.builtin "object.__class__"))) && (decide (PySem.W.specialIn K (.builtin "object.__class__") "__get__" = some (some (.builtin "getset_descriptor.__get__"))) &&
  (decide (PySem.W.takesIn K (.builtin "object.__class__") = some true) && decide (PySem.W.mroIn K (He.ga K x) (.type "object") = some true)))))))
theorem exC_ok {x : Str} {K : PySem.W.Frag} (h : exC_B x K = true) : ExcC K (He.ga K x) := by
  obtain ⟨h1, h⟩ := Bool.and_eq_true_iff.mp h
  obtain ⟨h2, h⟩ := Bool.and_eq_true_iff.mp h
  obtain ⟨h3, h⟩ := Bool.and_eq_true_iff.mp h
  obtain ⟨h4, h⟩ := Bool.and_eq_true_iff.mp h
  obtain ⟨h5, h⟩ := Bool.and_eq_true_iff.mp h
  obtain ⟨h6, h⟩ := Bool.and_eq_true_iff.mp h
  obtain ⟨h7, h8⟩ := Bool.and_eq_true_iff.mp h
  exact ⟨of_decide_eq_true h1, of_decide_eq_true h2, of_decide_eq_true h3, h4, of_decide_eq_true h5, of_decide_eq_true h6, of_decide_eq_true h7, of_decide_eq_true h8⟩
def kitB (x : Str) (T : String) (b : Bool) (K : PySem.W.Frag) : Bool := decide (PySem.W.kitOne K (.ref (He.ga K x)) (.type T) = some b)
/-! list(range(a, b)) -/
def dLstRg2 (ta tb : TD) : TD := fun e S Q => ta e S fun x S1 => tb e S1 fun y S2 => match x, y with
  | .int i, .int j => (-100000 ≤ i ∧ i ≤ j ∧ j ≤ 100000) ∧ ∀ a, S2 a = none → Q (.loc a) (S2.put a (.lst (rngD i (j - i).toNat)))
  | _, _ => False
theorem reps_rng2 {K : PySem.W.Frag} {H : Hp} (i j : Int) : Reps K H (rngD i (j - i).toNat) (rgV i j) := by
  have e : rngD i (j - i).toNat = ((List.range (j - i).toNat).map fun (k : Nat) => i + (k : Int)).map D.int := by unfold rngD; rw [List.map_map]; rfl
  have e2 : rgV i j = ((List.range (j - i).toNat).map fun (k : Nat) => i + (k : Int)).map V.int := by unfold rgV; rw [List.map_map]; rfl
  rw [e, e2]
  exact Reps.of_ints _
theorem de_lstRg2 {X : Cx} {a b : Expr} {ta tb : TD} {p p2 pos pos2 : Pos} (hc : X.calm = true) (hg : Gl X "list") (hm : X.mg "list" = none) (hg2 : Gl X "range") (hm2 : X.mg "range" = none) (ha : DE X a ta) (hb : DE X b tb) (he : starEach [a, b] X.env = (false, eval a X.env) :: starEach [b] X.env := by rfl)
    (he2 : starEach [b] X.env = (false, eval b X.env) :: starEach [] X.env := by rfl) (hp : (backTo pos2 (starEach [b] X.env)).any (·.1) = false := by rfl) (hna : starEach [(.Call (.Name "range" p2) [a, b] [] pos2)] X.env = (false, eval (.Call (.Name "range" p2) [a, b] [] pos2) X.env) :: starEach [] X.env := by rfl) : DE X (.Call (.Name "list" p) [.Call (.Name "range" p2) [a, b] [] pos2] [] pos) (dLstRg2 ta tb) :=
  PE.le (pe_listRg hc hg hm (prg_2 hg2 hm2 ha hb (na := he) (nb := he2) (hp := hp)) (na := hna)) fun σ H Q h => by
    obtain ⟨e, S, Q0, re, rs, ht, kk⟩ := h
    refine ⟨e, S, _, re, rs, ht, fun d S1 v H1 q p rs1 r => ?_⟩
    refine ⟨e, S1, _, re.mono p.tk, rs1, q, fun d2 S2 v2 H2 q2 p2 rs2 r2 => ?_⟩
    match d, d2, r, r2, q2 with
    | .int i, .int j, .int _, .int _, ⟨⟨h0, h1, h2⟩, q2⟩ =>
      exact ⟨i, j, rfl, rfl, ⟨by omega, by omega, by omega, by omega, by omega⟩, fun a hl => kk _ _ _ _ (q2 a (rs2.none_of hl)) ((p.trans p2).trans (Post.new hl)) (new_lst rs2 hl (reps_rng2 i j)) (.loc a)⟩
theorem base_KeyError : BaseX "KeyError" "KeyError" "LookupError.__new__" "KeyError.__init__" [.type "KeyError", .type "LookupError", .type "Exception", .type "BaseException", .type "object"] where
  FB := PySem.OXB.initF_KeyError
  FN := PySem.OXB.newF_KeyError
  SB := PySem.OXB.storeF_KeyError
  bt := by first | rfl | decide +kernel | kernel_rfl
  ty := by kernel_rfl
  st := by decide +kernel
  hi := by decide +kernel
  n1 := by decide
  n2 := by decide
  fi := fun K => by kernel_rfl
end QL
end L2
namespace L2
namespace QL
open PySem PySem.Spec PyProof.Rows
def top (i : Nat) : Stmt := PySem.Challenge.pw_quietlookup_k25_copies_and_versions.main.body.getD i (.Pass ⟨0, 0, 0, 0⟩)
abbrev s__law_pen : Stmt := top 7
abbrev s__law_prime : Stmt := top 8
abbrev s__law_fresh : Stmt := top 9
abbrev s__law_draw : Stmt := top 10
abbrev s__law_small_prime : Stmt := top 11
abbrev s__law_vector : Stmt := top 12
abbrev s_Copy___init__ : Stmt := inClass (top 5) 0
abbrev s_Copy___len__ : Stmt := inClass (top 5) 1
abbrev s_Copy_last_version : Stmt := inClass (top 5) 3
abbrev s_Copy_update : Stmt := inClass (top 5) 2
abbrev s__law_updated : Stmt := top 13
abbrev s_Copy_entries : Stmt := inClass (top 5) 4
abbrev s__law_table : Stmt := top 14
abbrev s__law_version_right : Stmt := top 15
abbrev s_law : Stmt := top 16
abbrev s_UnknownVersion___init__ : Stmt := inClass (top 2) 0
abbrev s_UnknownEntry___init__ : Stmt := inClass (top 3) 0
def hd1 : He.DefD := ⟨("_law_pen", none), "_law_pen", "_law_pen", defArgs s__law_pen, defBody s__law_pen, defScope s__law_pen, [], []⟩
def hd2 : He.DefD := ⟨("_law_prime", none), "_law_prime", "_law_prime", defArgs s__law_prime, defBody s__law_prime, defScope s__law_prime, [], []⟩
def hd3 : He.DefD := ⟨("_law_fresh", none), "_law_fresh", "_law_fresh", defArgs s__law_fresh, defBody s__law_fresh, defScope s__law_fresh, [], []⟩
def hd4 : He.DefD := ⟨("_law_draw", none), "_law_draw", "_law_draw", defArgs s__law_draw, defBody s__law_draw, defScope s__law_draw, [], []⟩
def hd5 : He.DefD := ⟨("_law_small_prime", none), "_law_small_prime", "_law_small_prime", defArgs s__law_small_prime, defBody s__law_small_prime, defScope s__law_small_prime, [], []⟩
def hd6 : He.DefD := ⟨("_law_vector", none), "_law_vector", "_law_vector", defArgs s__law_vector, defBody s__law_vector, defScope s__law_vector, [], []⟩
def hd7 : He.DefD := ⟨("Copy", some "__init__"), "__init__", "Copy.__init__", defArgs s_Copy___init__, defBody s_Copy___init__, defScope s_Copy___init__, [], []⟩
def hd8 : He.DefD := ⟨("Copy", some "__len__"), "__len__", "Copy.__len__", defArgs s_Copy___len__, defBody s_Copy___len__, defScope s_Copy___len__, [], []⟩
def hd9 : He.DefD := ⟨("Copy", some "last_version"), "last_version", "Copy.last_version", defArgs s_Copy_last_version, defBody s_Copy_last_version, defScope s_Copy_last_version, [], []⟩
def hd10 : He.DefD := ⟨("Copy", some "update"), "update", "Copy.update", defArgs s_Copy_update, defBody s_Copy_update, defScope s_Copy_update, [], []⟩
def hd11 : He.DefD := ⟨("_law_updated", none), "_law_updated", "_law_updated", defArgs s__law_updated, defBody s__law_updated, defScope s__law_updated, [], []⟩
def hd12 : He.DefD := ⟨("Copy", some "entries"), "entries", "Copy.entries", defArgs s_Copy_entries, defBody s_Copy_entries, defScope s_Copy_entries, [], []⟩
def hd13 : He.DefD := ⟨("_law_table", none), "_law_table", "_law_table", defArgs s__law_table, defBody s__law_table, defScope s__law_table, [], []⟩
def hd14 : He.DefD := ⟨("_law_version_right", none), "_law_version_right", "_law_version_right", defArgs s__law_version_right, defBody s__law_version_right, defScope s__law_version_right, [], []⟩
def hd15 : He.DefD := ⟨("law", none), "law", "law", defArgs s_law, defBody s_law, defScope s_law, [], []⟩
def hd16 : He.DefD := ⟨("UnknownVersion", some "__init__"), "__init__", "UnknownVersion.__init__", defArgs s_UnknownVersion___init__, defBody s_UnknownVersion___init__, defScope s_UnknownVersion___init__, [], []⟩
def hd17 : He.DefD := ⟨("UnknownEntry", some "__init__"), "__init__", "UnknownEntry.__init__", defArgs s_UnknownEntry___init__, defBody s_UnknownEntry___init__, defScope s_UnknownEntry___init__, [], []⟩
def hFa0 : List He.Fa := [.glo "Copy", .keep "Copy", .mkr "Copy", .cls "Copy", .noat "Copy" "q", .noat "Copy" "tables", .glo "_law_pen", .glo "_law_prime", .glo "_law_fresh", .glo "_law_draw", .glo "_law_small_prime", .glo "_law_vector", .meth "Copy" "__init__", .meth "Copy" "__len__", .meth "Copy" "last_version", .meth "Copy" "update", .glo "_law_updated", .meth "Copy" "entries", .glo "_law_table", .glo "_law_version_right"]
def hFa1 : List He.Fa := [.glo "law", .meth "UnknownVersion" "__init__", .glo "UnknownVersion", .noat "UnknownVersion" "version", .exm "UnknownVersion" "UnknownVersion" true, .meth "UnknownEntry" "__init__", .glo "UnknownEntry", .noat "UnknownEntry" "entry", .exm "UnknownEntry" "UnknownEntry" true, .free "KeyError", .free "LookupError", .free "isinstance", .free "len", .free "list", .free "max", .free "min", .free "range", .free "repr", .free "tuple"]
def hFa : List He.Fa := hFa0 ++ hFa1
def hFn0 : List He.DefD := [hd1, hd2, hd3, hd4, hd5, hd6, hd7, hd8, hd9, hd10, hd11, hd12, hd13, hd14, hd15, hd16, hd17]
def hFn : List He.DefD := hFn0
def hAl0 : List (Str × Str) := []
def hAl : List (Str × Str) := hAl0
def hBs0 : List (PySem.W.Frag → Bool) := [oxB [.type "LookupError", .type "Exception", .type "BaseException", .type "object"] "LookupError.__new__" "UnknownVersion", tyFnB "UnknownVersion", xfBx "UnknownVersion", exC_B "UnknownVersion", kitB "UnknownVersion" "LookupError" true, kitB "UnknownVersion" "KeyError" false, oxB [.type "KeyError", .type "LookupError", .type "Exception", .type "BaseException", .type "object"] "LookupError.__new__" "UnknownEntry", tyFnB "UnknownEntry", xfBx "UnknownEntry", exC_B "UnknownEntry", kitB "UnknownEntry" "KeyError" true]
def hBs : List (PySem.W.Frag → Bool) := hBs0
def hNames0 : List Str := ["_wall", "__name__", "UnknownVersion", "UnknownEntry", "Copy", "_law_pen", "_law_prime", "_law_fresh", "_law_draw", "_law_small_prime", "_law_vector", "_law_updated", "_law_table", "_law_version_right"]
def hNames : List Str := hNames0
abbrev hR : PySem.W.OpenRow := PySem.W.OpenLaw.row PySem.Challenge.rw_quietlookup_k25_copies_and_versions
abbrev hK : PySem.W.Hook := hookX hAl hBs hFa hFn
def hOb (s : PySem.W.SharedT) : AlX := obsXG hAl hBs hFa hFn (HandSHeadRun.getT s)
theorem hOb_eq (s : PySem.W.SharedT) : hOb s = hK.obs s.abs := obsXG_eq (HandSHeadRun.getT_eq s)
theorem hRun (w : World) : HandSHeadRun.RunEq hR (PySem.W.view hR.prog [16]) hK hOb 20000 hNames w := by
  intro os
  kernel_rfl
/-! readings of the text -/
def nm__law_pen : List Str := ["_law_script"]
def tb__law_pen : TSD :=
  (dRet (dLst (dCons (dQ1 rdNew (dSl (dV 0) dNoPart (dPart (dC (.int 63))))) (dCons (dC (.int 0)) (dCons (dC (.int 0)) dNil)))))
def nm__law_prime : List Str := ["_law_at", "_law_some"]
def tb__law_prime : TSD :=
  (dSeq (dAsg (dLst (dCons (dC (.int 2147483647)) (dCons (dC (.int 2147483629)) (dCons (dC (.int 2147483587)) (dCons (dC (.int 2147483579)) (dCons (dC (.int 2147483563)) (dCons (dC (.int 2147483549)) (dCons (dC (.int 2147483543)) dNil)))))))) (.nm 1))
  (dRet (dBin rdIx (dBin rdAdd (dV 1) (dLst (dCons (dC (.int 2147483497)) (dCons (dC (.int 2147483489)) dNil)))) (dBin rdMod (dV 0) (dC (.int 9))))))
def nm__law_fresh : List Str := ["_law_pen_here", "_law_at", "_law_cell", "_law_one", "_law_two", "_law_high"]
def tb__law_fresh (sp__law_prime : SpD) : TSD :=
  (dSeq (dAsg (dBin rdIx (dV 0) (dC (.int 1))) (.nm 1))
  (dSeq (dSub (dBin rdAdd (dV 1) (dC (.int 1))) (dV 0) (dC (.int 1)))
  (dSeq (dAsg (dC (.int 0)) (.nm 2))
  (dSeq (dIfS (dB (dBin rdNe (dBin rdIx (dV 0) (dC (.int 0))) (dLst dNil))) (dAsg (dBin rdIx (dBin rdIx (dV 0) (dC (.int 0))) (dBin rdMod (dV 1) (dLen (dBin rdIx (dV 0) (dC (.int 0)))))) (.nm 2)) dNext)
  (dSeq (dIfS (dAnd (dB (dBin rdLt (dV 1) (dLen (dBin rdIx (dV 0) (dC (.int 0)))))) (dB (dBin rdGe (dV 2) (dBin rdPow (dC (.int 10)) (dC (.int 18)))))) (dRet (dV 2)) dNext)
  (dSeq (dAsg (dBin rdMod (dBin rdAdd (dBin rdAdd (dBin rdMod (dV 2) (dC (.int 2147483477))) (dBin rdMul (dC (.int 104729)) (dV 1))) (dC (.int 47))) (dCall sp__law_prime [] (dCons (dV 1) dNil))) (.nm 3))
  (dSeq (dAsg (dBin rdMul (dBin rdMod (dBin rdMul (dBin rdMul (dV 3) (dV 3)) (dV 3)) (dCall sp__law_prime [] (dCons (dBin rdAdd (dV 1) (dC (.int 4))) dNil))) (dBin rdAdd (dV 1) (dC (.int 3)))) (.nm 3))
  (dSeq (dAsg (dBin rdMod (dBin rdAdd (dBin rdAdd (dBin rdAdd (dBin rdMul (dV 3) (dV 3)) (dBin rdMul (dC (.int 69621)) (dV 1))) (dBin rdMod (dV 2) (dC (.int 65537)))) (dC (.int 1))) (dCall sp__law_prime [] (dCons (dBin rdAdd (dV 1) (dC (.int 2))) dNil))) (.nm 4))
  (dSeq (dAsg (dBin rdMod (dBin rdAdd (dBin rdMul (dBin rdMul (dV 4) (dV 4)) (dV 4)) (dV 3)) (dCall sp__law_prime [] (dCons (dBin rdAdd (dV 1) (dC (.int 7))) dNil))) (.nm 5))
  (dRet (dBin rdAdd (dBin rdMul (dV 5) (dC (.int 2147483647))) (dBin rdMod (dBin rdMul (dV 4) (dBin rdAdd (dV 1) (dC (.int 1)))) (dC (.int 2147483629))))))))))))))
def nm__law_draw : List Str := ["_law_pen_here", "_law_many", "_law_digit"]
def tb__law_draw (sp__law_fresh : SpD) : TSD :=
  (dSeq (dIfS (dB (dBin rdLt (dBin rdIx (dV 0) (dC (.int 2))) (dV 1))) (dSub (dCall sp__law_fresh [] (dCons (dV 0) dNil)) (dV 0) (dC (.int 2))) dNext)
  (dSeq (dAsg (dBin rdMod (dBin rdIx (dV 0) (dC (.int 2))) (dV 1)) (.nm 2))
  (dSeq (dSub (dBin rdDiv (dBin rdIx (dV 0) (dC (.int 2))) (dV 1)) (dV 0) (dC (.int 2)))
  (dRet (dV 2)))))
def nm__law_small_prime : List Str := ["_law_pen_here"]
def tb__law_small_prime (sp__law_draw : SpD) : TSD :=
  (dRet (dBin rdIx (dLst (dCons (dC (.int 2)) (dCons (dC (.int 3)) (dCons (dC (.int 5)) (dCons (dC (.int 7)) (dCons (dC (.int 11)) (dCons (dC (.int 101)) dNil))))))) (dCall sp__law_draw [] (dCons (dV 0) (dCons (dC (.int 6)) dNil)))))
def nm__law_vector : List Str := ["_law_pen_here", "_law_q", "_law_count", "_law_k"]
def tb__law_vector (sp__law_draw : SpD) : TSD :=
  (dRet (dLcK rdTup (dIRng1 (dCons (dV 2) dNil)) (.nm 3) dYes (dCall sp__law_draw [] (dCons (dV 0) (dCons (dV 1) dNil))) [3]))
def nm_Copy___init__ : List Str := ["self", "table", "q"]
def tb_Copy___init__ (C_Copy : Addr) : TSD :=
  (dSeq (dFldS C_Copy "q" (dV 0) (dV 2))
  (dFldS C_Copy "tables" (dV 0) (dLst (dCons (dV 1) dNil))))
def nm_Copy___len__ : List Str := ["self"]
def tb_Copy___len__ (C_Copy : Addr) : TSD :=
  (dRet (dLen (dBin rdIx (dFld C_Copy "tables" (dV 0)) (dC (.int 0)))))
def nm_Copy_last_version : List Str := ["self"]
def tb_Copy_last_version (C_Copy : Addr) : TSD :=
  (dRet (dBin rdSub (dLen (dFld C_Copy "tables" (dV 0))) (dC (.int 1))))
def nm_Copy_update : List Str := ["self", "entry", "amount", "table", "changed"]
def tb_Copy_update (C_Copy : Addr) (sp_Copy___len__ : SpD) (sp_Copy_last_version : SpD) : TSD :=
  (dSeq (dIfS (dNot (dB (dChain rdLe rdLt (dC (.int 0)) (dV 1) (dLenO C_Copy sp_Copy___len__ (dV 0))))) dNever dNext)
  (dSeq (dAsg (dBin rdIx (dFld C_Copy "tables" (dV 0)) (dNeg (dC (.int 1)))) (.nm 3))
  (dSeq (dAsg (dBin rdMod (dBin rdAdd (dBin rdIx (dV 3) (dV 1)) (dV 2)) (dFld C_Copy "q" (dV 0))) (.nm 4))
  (dSeq (dDrop (dApp (dFld C_Copy "tables" (dV 0)) (dBin rdAdd (dBin rdAdd (dSl (dV 3) dNoPart (dPart (dV 1))) (dTup (dCons (dV 4) dNil))) (dSl (dV 3) (dPart (dBin rdAdd (dV 1) (dC (.int 1)))) dNoPart))))
  (dRet (dMeth C_Copy "last_version" sp_Copy_last_version [] (dV 0) dNil))))))
def nm__law_updated : List Str := ["_law_copy", "_law_entry", "_law_amount", "e"]
def tb__law_updated (C_Copy : Addr) (sp_Copy_update : SpD) : TSD :=
  (dRet (dMeth C_Copy "update" sp_Copy_update [] (dV 0) (dCons (dV 1) (dCons (dV 2) dNil))))
def nm_Copy_entries : List Str := ["self", "version"]
def tb_Copy_entries (C_Copy : Addr) : TSD :=
  (dSeq (dIfS (dNot (dB (dChain rdLe rdLt (dC (.int 0)) (dV 1) (dLen (dFld C_Copy "tables" (dV 0)))))) dNever dNext)
  (dRet (dBin rdIx (dFld C_Copy "tables" (dV 0)) (dV 1))))
def nm__law_table : List Str := ["_law_copy", "_law_version", "e"]
def tb__law_table (C_Copy : Addr) (sp_Copy_entries : SpD) : TSD :=
  (dRet (dMeth C_Copy "entries" sp_Copy_entries [] (dV 0) (dCons (dV 1) dNil)))
def nm__law_version_right : List Str := ["_law_copy", "_law_versions", "_law_version", "_law_due"]
def tb__law_version_right (C_Copy : Addr) (sp__law_table : SpD) (sp_Copy_last_version : SpD) : TSD :=
  (dSeq (dAsg (dIf (dB (dChain rdLe rdLt (dC (.int 0)) (dV 2) (dLen (dV 1)))) (dBin rdIx (dV 1) (dV 2)) (dTup (dCons (dC (.str "version")) (dCons (dV 2) dNil)))) (.nm 3))
  (dRet (dAndV (dBin rdEq (dRepr (dCall sp__law_table [] (dCons (dV 0) (dCons (dV 2) dNil)))) (dRepr (dV 3))) (dBin rdEq (dMeth C_Copy "last_version" sp_Copy_last_version [] (dV 0) dNil) (dBin rdSub (dLen (dV 1)) (dC (.int 1)))))))
def nm_law : List Str := ["_law_script", "_law_pen_here", "_law_turn", "_law_q", "_law_size", "_law_table_here", "_law_copy", "_law_other", "_law_versions", "_law_often", "_law_entry", "_law_amount", "_law_due", "_law_last", "_law_version", "_law_order"]
def tb_law (C_Copy : Addr) (sp__law_pen : SpD) (sp__law_small_prime : SpD) (sp__law_draw : SpD) (sp__law_vector : SpD) (sp_Copy___init__ : SpD) (sp__law_updated : SpD) (sp__law_version_right : SpD) (sp_Copy___len__ : SpD) (sp_Copy_last_version : SpD) (sp_Copy_entries : SpD) : TSD :=
  (dSeq (dAsg (dCall sp__law_pen [] (dCons (dV 0) dNil)) (.nm 1))
  (dSeq (dFor (dIRng1 (dCons (dFn fMax2 (dCons (dC (.int 3)) (dCons (dFn fMin2 (dCons (dC (.int 6)) (dCons (dLen (dV 0)) dNil))) dNil))) dNil)) (.nm 2) (dSeq (dPar 3 4 (dCons (dCall sp__law_small_prime [] (dCons (dV 1) dNil)) (dCons (dBin rdAdd (dC (.int 1)) (dCall sp__law_draw [] (dCons (dV 1) (dCons (dC (.int 8)) dNil)))) dNil)))
  (dSeq (dAsg (dCall sp__law_vector [] (dCons (dV 1) (dCons (dV 3) (dCons (dV 4) dNil)))) (.nm 5))
  (dSeq (dPar3 6 7 8 (dCons (dMake C_Copy sp_Copy___init__ [] (dCons (dV 5) (dCons (dV 3) dNil))) (dCons (dMake C_Copy sp_Copy___init__ [] (dCons (dV 5) (dCons (dV 3) dNil))) (dCons (dLst (dCons (dV 5) dNil)) dNil))))
  (dSeq (dFor (dIRng1 (dCons (dCall sp__law_draw [] (dCons (dV 1) (dCons (dC (.int 20)) dNil))) dNil)) (.nm 9) (dSeq (dPar 10 11 (dCons (dBin rdSub (dCall sp__law_draw [] (dCons (dV 1) (dCons (dBin rdAdd (dV 4) (dC (.int 2))) dNil))) (dC (.int 1))) (dCons (dCall sp__law_draw [] (dCons (dV 1) (dCons (dV 3) dNil))) dNil)))
  (dSeq (dAsg (dTup (dCons (dC (.str "entry")) (dCons (dV 10) dNil))) (.nm 12))
  (dSeq (dIfS (dB (dChain rdLe rdLt (dC (.int 0)) (dV 10) (dV 4))) (dSeq (dAsg (dBin rdIx (dV 8) (dNeg (dC (.int 1)))) (.nm 13))
  (dSeq (dDrop (dApp (dV 8) (dBin rdAdd (dBin rdAdd (dSl (dV 13) dNoPart (dPart (dV 10))) (dTup (dCons (dBin rdMod (dBin rdAdd (dBin rdIx (dV 13) (dV 10)) (dV 11)) (dV 3)) dNil))) (dSl (dV 13) (dPart (dBin rdAdd (dV 10) (dC (.int 1)))) dNoPart))))
  (dAsg (dBin rdSub (dLen (dV 8)) (dC (.int 1))) (.nm 12)))) dNext)
  (dSeq (dIfS (dB (dBin rdNe (dRepr (dCall sp__law_updated [] (dCons (dV 6) (dCons (dV 10) (dCons (dV 11) dNil))))) (dRepr (dV 12)))) (dRet (dC (.bl false))) dNext)
  (dSeq (dAsg (dBin rdSub (dCall sp__law_draw [] (dCons (dV 1) (dCons (dBin rdAdd (dLen (dV 8)) (dC (.int 2))) dNil))) (dC (.int 1))) (.nm 14))
  (dIfS (dOr (dNot (dTru (dCall sp__law_version_right [] (dCons (dV 6) (dCons (dV 8) (dCons (dV 14) dNil)))))) (dB (dBin rdNe (dLenO C_Copy sp_Copy___len__ (dV 6)) (dV 4)))) (dRet (dC (.bl false))) dNext)))))))
  (dSeq (dAsg (dLstRg2 (dNeg (dC (.int 1))) (dBin rdAdd (dLen (dV 8)) (dC (.int 1)))) (.nm 15))
  (dSeq (dFor (dISeq (dBin rdAdd (dBin rdAdd (dV 15) (dRevL (dV 15))) (dSl (dV 15) (dPart (dC (.int 1))) dNoPart))) (.nm 14) (dIfS (dNot (dTru (dCall sp__law_version_right [] (dCons (dV 6) (dCons (dV 8) (dCons (dV 14) dNil)))))) (dRet (dC (.bl false))) dNext))
  (dIfS (dOr (dB (dBin rdNe (dMeth C_Copy "last_version" sp_Copy_last_version [] (dV 7) dNil) (dC (.int 0)))) (dB (dBin rdNe (dMeth C_Copy "entries" sp_Copy_entries [] (dV 7) (dCons (dC (.int 0)) dNil)) (dV 5)))) (dRet (dC (.bl false))) dNext))))))))
  (dRet (dC (.bl true)))))
abbrev MQ (q a b : Int) : Prop := ∃ k : Int, a - b = q * k
theorem MQ.refl (q a : Int) : MQ q a a := ⟨0, by grind⟩
theorem MQ.symm {q a b : Int} : MQ q a b → MQ q b a := fun ⟨k, h⟩ => ⟨-k, by grind⟩
theorem MQ.trans {q a b c : Int} : MQ q a b → MQ q b c → MQ q a c := fun ⟨k, h⟩ ⟨l, h'⟩ => ⟨k + l, by grind⟩
theorem MQ.of {q a b : Int} (h : a % q = b % q) : MQ q a b := ⟨a / q - b / q, by
  have h1 := Int.mul_ediv_add_emod a q
  have h2 := Int.mul_ediv_add_emod b q
  grind⟩
namespace MQ
theorem of_eq {q a b : Int} (h : a = b) : MQ q a b := h ▸ refl q a
end MQ
abbrev at_ (xs : List Int) (j : Nat) : Int := xs.getD j 0
theorem at_lt {xs : List Int} {j : Nat} (h : j < xs.length) : at_ xs j = xs[j] := by simp [at_, List.getD_eq_getElem?_getD, h]
theorem at_ge {xs : List Int} {j : Nat} (h : xs.length ≤ j) : at_ xs j = 0 := by simp [at_, List.getD_eq_getElem?_getD, h]
structure RowQ (q : Int) (n : Nat) (xs : List Int) : Prop where
  len : xs.length = n
  res : ∀ x ∈ xs, 0 ≤ x ∧ x < q
theorem RowQ.at {q : Int} {n : Nat} {xs : List Int} (hq : 0 < q) (h : RowQ q n xs) (j : Nat) : 0 ≤ at_ xs j ∧ at_ xs j < q := by
  by_cases hj : j < xs.length
  · rw [at_lt hj]; exact h.res _ (List.getElem_mem hj)
  · rw [at_ge (by omega)]; exact ⟨Int.le_refl 0, hq⟩
def sp_law : SpD := spLaw 63
theorem law_start (ns : List Int) (h : ns.length ≤ 63) : sp_law [.rol (ns.map D.int)] (fun _ => none) (fun d _ => d = .bl true) := ⟨ns, rfl, h, fun _ => rfl⟩
theorem len_law : ∀ ds S Q, sp_law ds S Q → ds.length = ["_law_script"].length := by rintro ds S Q ⟨ns, rfl, h⟩; rfl

def sp__law_prime : SpD := fun ds S Q => ∃ i : Int, ds = [.int i] ∧ ∀ v : Int, 2147483489 ≤ v → v ≤ 2147483647 → Q (.int v) S
theorem len__law_prime : ∀ ds S Q, sp__law_prime ds S Q → ds.length = ["_law_at"].length := by rintro ds S Q ⟨i, rfl, h⟩; rfl
theorem nine (i : Int) : ∃ v : Int, atI [D.int 2147483647, D.int 2147483629, D.int 2147483587, D.int 2147483579, D.int 2147483563, D.int 2147483549, D.int 2147483543, D.int 2147483497, D.int 2147483489] (i % 9) = some (.int v) ∧ 2147483489 ≤ v ∧ v ≤ 2147483647 := by
  have h0 : 0 ≤ i % 9 := Int.emod_nonneg _ (by decide)
  have h1 : i % 9 < 9 := Int.emod_lt_of_pos _ (by decide)
  generalize i % 9 = k at h0 h1
  have h : k = 0 ∨ k = 1 ∨ k = 2 ∨ k = 3 ∨ k = 4 ∨ k = 5 ∨ k = 6 ∨ k = 7 ∨ k = 8 := by omega
  rcases h with rfl | rfl | rfl | rfl | rfl | rfl | rfl | rfl | rfl <;> exact ⟨_, rfl, by decide, by decide⟩
theorem p__law_prime : ∀ ds S Q0, sp__law_prime ds S Q0 → tb__law_prime (bodyEnds Q0) (startD nm__law_prime ds) S := by
  rintro ds S Q0 ⟨i, rfl, h⟩
  refine seq_ fun N hN => ?_
  iterate 7 ((try conv => whnf); (try simp only [put_eq, seqD, lstD]))
  refine ⟨by decide, fun a ha => hN _ _ ?_⟩
  clear hN N
  iterate 7 ((try conv => whnf); (try simp only [put_eq, seqD, lstD]))
  refine ⟨by decide, fun b hb => ?_⟩
  have hb' := put_none hb
  iterate 7 ((try conv => whnf); (try simp only [put_ne hb'.1.symm, put_eq, seqD, lstD]))
  refine ⟨by decide, fun c hc => ?_⟩
  iterate 7 ((try conv => whnf); (try simp only [put_eq, seqD, lstD]))
  refine ⟨by decide, ?_⟩
  obtain ⟨v, e, h1, h2⟩ := nine i
  simp only [List.cons_append, List.nil_append]
  iterate 7 ((try conv => whnf); (try simp only [e, put_eq, seqD, lstD]))
  exact ⟨S, (((Sb.refl S).put ha _).put hb'.2 _).put (put_none (put_none hc).2).2 _, h v h1 h2⟩
def sp__law_fresh : SpD := fun ds S Q => ∃ p q b, ds = [.loc p] ∧ Pen b p q S ∧ b ≤ 1000000 ∧ ∀ (v : Int) (S' : Sto), Pen (b + 1) p q S' → Ext p S S' → Q (.int v) S'
theorem len__law_fresh : ∀ ds S Q, sp__law_fresh ds S Q → ds.length = ["_law_pen_here"].length := by rintro ds S Q ⟨p, q, b, rfl, h⟩; rfl
theorem p__law_fresh : ∀ ds S Q0, sp__law_fresh ds S Q0 → tb__law_fresh (frm sp__law_prime) (bodyEnds Q0) (startD nm__law_fresh ds) S := by
  rintro ds S Q0 ⟨p, q, b, rfl, hp, hb, h⟩
  obtain ⟨i, st, h1, h4, h5⟩ := hp.ex
  refine seq_ fun N hN => ?_
  iterate 7 ((try conv => whnf); (try simp only [h1, put_eq, seqD, lstD]))
  refine hN _ _ ?_; clear hN N; refine seq_ fun N hN => ?_
  iterate 7 ((try conv => whnf); (try simp only [h1, put_eq, seqD, lstD]))
  suffices main : ∀ S1 : Sto, S1 = S.put p (.lst [.loc q, .int (i + 1), .int st]) → N [some (.loc p), some (.int i), none, none, none, none] S1 by exact main _ rfl
  intro S1 hS1
  refine hN _ _ ?_; clear hN N
  have hp1 : Pen (b + 1) p q S1 := by rw [hS1]; exact hp.set (.refl _ _) (by omega) (by omega)
  have key : ∀ (v : Int) (S' : Sto), Sb S1 S' → ∃ S2, Sb S2 S' ∧ Q0 (.int v) S2 := fun v S' sb =>
    ⟨_, sb, h v _ hp1 (by rw [hS1]; exact Ext.put)⟩
  have g1 : S1 p = some (.lst [.loc q, .int (i + 1), .int st]) := by rw [hS1]; exact put_eq
  obtain ⟨cs, g2⟩ := hp1.sc
  clear h h1 hp hS1 hp1
  refine seq_ fun N hN => ?_
  iterate 7 ((try conv => whnf); (try simp only [put_eq, seqD, lstD]))
  refine hN _ _ ?_; clear hN N; refine seq_ fun N hN => ?_
  have join : ∀ (c : Int) (S' : Sto), Sb S1 S' → N [some (.loc p), some (.int i), some (.int c), none, none, none] S' := by
    intro c S' sb
    refine hN _ _ ?_; clear hN N; refine seq_ fun N hN => ?_
    have f1 := sb _ _ g1
    have f2 := sb _ _ g2
    have join2 : N [some (.loc p), some (.int i), some (.int c), none, none, none] S' := by
      clear f1 f2
      refine hN _ _ ?_; clear hN N; refine seq_ fun N hN => ?_
      iterate 7 ((try conv => whnf); (try simp only [put_eq, seqD, lstD]))
      refine ⟨by decide, ?_⟩
      iterate 7 ((try conv => whnf); (try simp only [put_eq, seqD, lstD]))
      refine ⟨cmul_l (by decide), ?_⟩
      iterate 7 ((try conv => whnf); (try simp only [put_eq, seqD, lstD]))
      refine frm_of ⟨_, rfl, fun v1 a1 b1 => ⟨by omega, ?_⟩⟩
      have c1 := abs31 (v := c % 2147483477 + 104729 * i + 47) (show 0 < v1 by omega) (by omega)
      generalize (c % 2147483477 + 104729 * i + 47) % v1 = one at c1
      refine hN _ _ ?_; clear hN N; refine seq_ fun N hN => ?_
      iterate 7 ((try conv => whnf); (try simp only [put_eq, seqD, lstD]))
      refine ⟨cmul_l c1, ?_⟩
      iterate 7 ((try conv => whnf); (try simp only [put_eq, seqD, lstD]))
      refine ⟨cmul_r c1, ?_⟩
      iterate 7 ((try conv => whnf); (try simp only [put_eq, seqD, lstD]))
      refine frm_of ⟨_, rfl, fun v2 a2 b2 => ⟨by omega, ?_⟩⟩
      have c2 := abs31 (v := one * one * one) (show 0 < v2 by omega) (by omega)
      generalize one * one * one % v2 = t at c2
      iterate 7 ((try conv => whnf); (try simp only [put_eq, seqD, lstD]))
      refine ⟨cmul_l c2, ?_⟩
      have c3 : (t * (i + 3)).natAbs < 2 ^ (64 + 21) := wide_lt (by omega) (by omega)
      generalize t * (i + 3) = u at c3
      refine hN _ _ ?_; clear hN N; refine seq_ fun N hN => ?_
      iterate 7 ((try conv => whnf); (try simp only [put_eq, seqD, lstD]))
      refine ⟨cmul_w c3 c3 (by decide) (by decide) (by decide), ?_⟩
      iterate 7 ((try conv => whnf); (try simp only [put_eq, seqD, lstD]))
      refine ⟨cmul_l (by decide), ?_⟩
      iterate 7 ((try conv => whnf); (try simp only [put_eq, seqD, lstD]))
      refine ⟨by decide, ?_⟩
      iterate 7 ((try conv => whnf); (try simp only [put_eq, seqD, lstD]))
      refine frm_of ⟨_, rfl, fun v3 a3 b3 => ⟨by omega, ?_⟩⟩
      have c4 := abs31 (v := u * u + 69621 * i + c % 65537 + 1) (show 0 < v3 by omega) (by omega)
      generalize (u * u + 69621 * i + c % 65537 + 1) % v3 = w at c4
      refine hN _ _ ?_; clear hN N; refine seq_ fun N hN => ?_
      iterate 7 ((try conv => whnf); (try simp only [put_eq, seqD, lstD]))
      refine ⟨cmul_l c4, ?_⟩
      iterate 7 ((try conv => whnf); (try simp only [put_eq, seqD, lstD]))
      refine ⟨cmul_r c4, ?_⟩
      iterate 7 ((try conv => whnf); (try simp only [put_eq, seqD, lstD]))
      refine frm_of ⟨_, rfl, fun v4 a4 b4 => ⟨by omega, ?_⟩⟩
      refine hN _ _ ?_; clear hN N
      iterate 7 ((try conv => whnf); (try simp only [put_eq, seqD, lstD]))
      refine ⟨cmul_r (by decide), ?_⟩
      iterate 7 ((try conv => whnf); (try simp only [put_eq, seqD, lstD]))
      refine ⟨cmul_l c4, ?_⟩
      iterate 7 ((try conv => whnf); (try simp only [put_eq, seqD, lstD]))
      refine ⟨by decide, ?_⟩
      exact key _ _ sb
    iterate 7 ((try conv => whnf); (try simp only [f1, f2, put_eq, seqD, lstD]))
    cases hd : decide (i < ((cs.map D.int).length : Int)) with
    | false => exact join2
    | true =>
      iterate 7 ((try conv => whnf); (try simp only [put_eq, seqD, lstD]))
      refine ⟨by decide, ?_⟩
      iterate 7 ((try conv => whnf); (try simp only [put_eq, seqD, lstD]))
      cases hd2 : decide ((10 : Int) ^ (18 : Int).toNat ≤ c) with
      | false => exact join2
      | true => exact key _ _ sb
  iterate 7 ((try conv => whnf); (try simp only [g1, g2, put_eq, seqD, lstD]))
  refine ⟨by decide, fun a ha => ?_⟩
  have sb : Sb S1 (S1.put a (.lst [])) := (Sb.refl S1).put ha _
  iterate 7 ((try conv => whnf); (try simp only [at_new g2 ha, put_eq, seqD, lstD]))
  refine ⟨⟨fine_ints _ _, fun x hx => by cases hx⟩, ?_⟩
  rw [eqv_ints_nil]
  cases cs with
  | nil => exact join _ _ sb
  | cons c0 cs =>
    iterate 7 ((try conv => whnf); (try simp only [at_new g1 ha, at_new g2 ha, put_eq, seqD, lstD]))
    have n0 : (0 : Int) < ((List.map D.int (c0 :: cs)).length : Int) := by simp
    refine ⟨n0, ?_⟩
    have z0 := Int.emod_nonneg i (show ((List.map D.int (c0 :: cs)).length : Int) ≠ 0 by omega)
    have z1 := Int.emod_lt_of_pos i n0
    have e := atI_of z0 z1
    rw [List.getElem_map] at e
    iterate 7 ((try conv => whnf); (try simp only [at_new g2 ha, e, put_eq, seqD, lstD]))
    exact join _ _ sb
def sp__law_draw : SpD := fun ds S Q => ∃ p q b m, ds = [.loc p, .int m] ∧ (0 < m ∧ m < 2 ^ 64) ∧ Pen b p q S ∧ b ≤ 1000000 ∧ ∀ (v : Int) (S' : Sto), 0 ≤ v → v < m → Pen (b + 1) p q S' → Ext p S S' → Q (.int v) S'
theorem len__law_draw : ∀ ds S Q, sp__law_draw ds S Q → ds.length = ["_law_pen_here", "_law_many"].length := by rintro ds S Q ⟨p, q, b, m, rfl, h⟩; rfl
theorem p__law_draw : ∀ ds S Q0, sp__law_draw ds S Q0 → tb__law_draw (frm sp__law_fresh) (bodyEnds Q0) (startD nm__law_draw ds) S := by
  rintro ds S Q0 ⟨p, q, b, m, rfl, ⟨m0, m1⟩, hp, hb, h⟩
  obtain ⟨i, st, h1, h4, h5⟩ := hp.ex
  refine seq_ fun N hN => ?_
  have join : ∀ S' : Sto, Pen (b + 1) p q S' → Ext p S S' → N [some (.loc p), some (.int m), none] S' := by
    intro S' hp' hs
    obtain ⟨i, st, f1, f4, f5⟩ := hp'.ex
    refine hN _ _ ?_; clear hN N; refine seq_ fun N hN => ?_
    iterate 7 ((try conv => whnf); (try simp only [f1, put_eq, seqD, lstD]))
    refine ⟨m0, ?_⟩
    refine hN _ _ ?_; clear hN N; refine seq_ fun N hN => ?_
    iterate 7 ((try conv => whnf); (try simp only [f1, put_eq, seqD, lstD]))
    refine ⟨cdiv m0 m1, ?_⟩
    iterate 7 ((try conv => whnf); (try simp only [f1, put_eq, seqD, lstD]))
    refine hN _ _ ?_; clear hN N
    exact ⟨_, Sb.refl _, h (st % m) _ (Int.emod_nonneg _ (by omega)) (Int.emod_lt_of_pos _ m0) (hp'.set (.refl _ _) f4 f5) (hs.trans Ext.put)⟩
  iterate 7 ((try conv => whnf); (try simp only [h1, put_eq, seqD, lstD]))
  cases hd : decide (st < m) with
  | false => exact join S (hp.le (Nat.le_succ b)) (Ext.refl p S)
  | true =>
    iterate 7 ((try conv => whnf); (try simp only [h1, put_eq, seqD, lstD]))
    refine frm_of ⟨p, q, b, rfl, hp, hb, fun v S' hp' hs => ?_⟩
    obtain ⟨i', st', f1, f4, f5⟩ := hp'.ex
    iterate 7 ((try conv => whnf); (try simp only [f1, put_eq, seqD, lstD]))
    exact join _ (hp'.set (.refl _ _) f4 f5) (hs.trans Ext.put)
def sp__law_pen : SpD := fun ds S Q => ∃ ns : List Int, ds = [.rol (ns.map D.int)] ∧ ∀ p q S', S p = none → S q = none → Pen 0 p q S' → Sb S S' → Q (.loc p) S'
theorem len__law_pen : ∀ ds S Q, sp__law_pen ds S Q → ds.length = ["_law_script"].length := by rintro ds S Q ⟨ns, rfl, h⟩; rfl
theorem p__law_pen : ∀ ds S Q0, sp__law_pen ds S Q0 → tb__law_pen (bodyEnds Q0) (startD nm__law_pen ds) S := by
  rintro ds S Q0 ⟨ns, rfl, h⟩
  iterate 7 ((try conv => whnf); (try simp only [put_eq, seqD, lstD]))
  rw [cut_map]
  generalize cutD ns none (some 63) = cs
  intro a ha
  iterate 7 ((try conv => whnf); (try simp only [put_eq, seqD, lstD]))
  intro q hq
  have hq' := put_none hq
  iterate 7 ((try conv => whnf); (try simp only [put_eq, seqD, lstD]))
  refine ⟨(Nat.le_of_ble_eq_true rfl), fun p hp => ?_⟩
  have hp' := put_none hp
  have hp2 := put_none hp'.2
  refine ⟨_, Sb.refl _, h p q _ hp2.2 hq'.2 ⟨⟨0, 0, put_eq, by decide, by decide⟩, ⟨cs, ?_⟩, hp'.1.symm⟩ (((Sb.refl S).put ha _).put hq'.2 _ |>.put hp2.2 _)⟩
  rw [put_ne hp'.1.symm, put_eq]

def penC (b : Nat) (p q : Addr) : HP := Pen b p q
theorem star_penC {b : Nat} {p q : Addr} {S : Sto} (h : Pen b p q S) : Star [penC b p q] S := .cons S h (Sb.refl _) .nil
theorem penendC {b : Nat} {p pq : Addr} {L : List HP} {S : Sto} {Q : Sto → Prop} (hs : Star (penC b p pq :: L) S) (h : ∀ S', Pen b p pq S' → Q S') : ∃ S', Sb S' S ∧ Q S' := by
  obtain ⟨h0, hp, sb⟩ := hs.first
  exact ⟨h0, sb, h h0 hp⟩
theorem use_draw {b : Nat} {S : Sto} {Q : DK} {p q : Addr} {m : Int} (L1 : List HP) {L2 : List HP} (hs : Star (L1 ++ penC b p q :: L2) S) (hb : b ≤ 1000000) (hm : 0 < m ∧ m < 2 ^ 64) (h : ∀ v S2, 0 ≤ v → v < m → Star (L1 ++ penC (b + 1) p q :: L2) S2 → Q (.int v) S2) : frm sp__law_draw [.loc p, .int m] S Q :=
  frm_at L1 hs fun h0 hp Q' k => ⟨p, q, b, m, rfl, hm, hp, hb, fun v h' v0 v1 hp' _ => k _ _ fun S2 hs2 => h v S2 v0 v1 (hs2 (penC (b + 1) p q) hp')⟩
def sp__law_small_prime : SpD := fun ds S Q => ∃ p q b, ds = [.loc p] ∧ Pen b p q S ∧ b ≤ 900000 ∧ ∀ (v : Int) (S' : Sto), 2 ≤ v → v ≤ 101 → Pen (b + 1) p q S' → Q (.int v) S'
theorem len__law_small_prime : ∀ ds S Q, sp__law_small_prime ds S Q → ds.length = ["_law_pen_here"].length := by rintro ds S Q ⟨p, q, b, rfl, h⟩; rfl
theorem use_small_prime {S : Sto} {Q : DK} {b : Nat} {p pq : Addr} (L1 : List HP) {L2 : List HP} (hs : Star (L1 ++ penC b p pq :: L2) S) (hb : b ≤ 900000) (h : ∀ v S2, 2 ≤ v → v ≤ 101 → Star (L1 ++ penC (b + 1) p pq :: L2) S2 → Q (.int v) S2) : frm sp__law_small_prime [.loc p] S Q :=
  frm_at L1 hs fun h0 hp Q' k => ⟨p, pq, b, rfl, hp, hb, fun v h' v0 v1 hp' => k _ _ fun S2 hs2 => h v S2 v0 v1 (hs2 (penC (b + 1) p pq) hp')⟩
theorem p__law_small_prime : ∀ ds S Q0, sp__law_small_prime ds S Q0 → tb__law_small_prime (frm sp__law_draw) (bodyEnds Q0) (startD nm__law_small_prime ds) S := by
  rintro ds S Q0 ⟨p, q, b, rfl, hp, hb, h⟩
  have hs := star_penC hp
  iterate 7 ((try conv => whnf); (try simp only [put_eq, seqD, lstD]))
  refine ⟨by decide, fun a ha => ?_⟩
  have hs := hs.new ha (.lst [D.int 2, D.int 3, D.int 5, D.int 7, D.int 11, D.int 101])
  iterate 7 ((try conv => whnf); (try simp only [put_eq, seqD, lstD]))
  refine use_draw [] hs (by omega) (by decide) fun v S' v0 v1 hs => ?_
  have f := hs.get [_]
  have e : ∃ w, atI [D.int 2, D.int 3, D.int 5, D.int 7, D.int 11, D.int 101] v = some (.int w) ∧ 2 ≤ w ∧ w ≤ 101 := by
    have c : v = 0 ∨ v = 1 ∨ v = 2 ∨ v = 3 ∨ v = 4 ∨ v = 5 := by omega
    rcases c with rfl | rfl | rfl | rfl | rfl | rfl <;> exact ⟨_, rfl, by decide, by decide⟩
  obtain ⟨w, e, w0, w1⟩ := e
  iterate 7 ((try conv => whnf); (try simp only [f, put_eq, seqD, lstD]))
  iterate 7 ((try conv => whnf); (try simp only [e, put_eq, seqD, lstD]))
  exact penendC hs fun S' hp' => h w S' w0 w1 hp'
def sp__law_vector : SpD := fun ds S Q => ∃ (p pq : Addr) (b : Nat) (q : Int) (n : Nat), ds = [.loc p, .int q, .int n] ∧ (0 < q ∧ q < 2 ^ 64) ∧ n ≤ 1000 ∧ Pen b p pq S ∧ b ≤ 900000 ∧ ∀ vs S', RowQ q n vs → Pen (b + n) p pq S' → Q (.tup (vs.map D.int)) S'
theorem len__law_vector : ∀ ds S Q, sp__law_vector ds S Q → ds.length = ["_law_pen_here", "_law_q", "_law_count"].length := by rintro ds S Q ⟨p, pq, b, q, n, rfl, h⟩; rfl
theorem use_vector {S : Sto} {Q : DK} {b : Nat} {p pq : Addr} {q : Int} {n : Nat} (L1 : List HP) {L2 : List HP} (hs : Star (L1 ++ penC b p pq :: L2) S) (hb : b ≤ 900000) (hq : 0 < q ∧ q < 2 ^ 64) (hn : n ≤ 1000) (h : ∀ vs S2, RowQ q n vs → Star (L1 ++ penC (b + n) p pq :: L2) S2 → Q (.tup (vs.map D.int)) S2) : frm sp__law_vector [.loc p, .int q, .int n] S Q :=
  frm_at L1 hs fun h0 hp Q' k => ⟨p, pq, b, q, n, rfl, hq, hn, hp, hb, fun vs h' hv hp' => k _ _ fun S2 hs2 => h vs S2 hv (hs2 (penC (b + n) p pq) hp')⟩
theorem p__law_vector : ∀ ds S Q0, sp__law_vector ds S Q0 → tb__law_vector (frm sp__law_draw) (bodyEnds Q0) (startD nm__law_vector ds) S := by
  rintro ds S Q0 ⟨p, pq, b, q, n, rfl, hq, hn, hp, hb, h⟩
  iterate 7 ((try conv => whnf); (try simp only [put_eq, seqD, lstD]))
  refine ⟨by omega, ?_⟩
  refine lcRun_rng (fun i acc S' => ∃ vs : List Int, acc = vs.map D.int ∧ vs.length = i ∧ (∀ v ∈ vs, 0 ≤ v ∧ v < q) ∧ Star [penC (b + i) p pq] S') ?_ ?_ ⟨[], rfl, rfl, (fun _ h => nomatch h), star_penC hp⟩
  · rintro i acc S1 N hi ⟨vs, rfl, hl, hv, hs⟩ hN
    refine ⟨trivial, ?_⟩
    iterate 7 ((try conv => whnf); (try simp only [put_eq, seqD, lstD]))
    refine use_draw [] hs (by omega) ⟨hq.1, by omega⟩ fun v S2 v0 v1 hs2 => ⟨S2, Sb.refl _, hN _ _ ⟨vs ++ [v], by simp, by simp [hl], ?_, hs2⟩⟩
    intro w hw
    rcases List.mem_append.mp hw with hw | hw
    · exact hv w hw
    · rw [List.mem_singleton.mp hw]; exact ⟨v0, v1⟩
  · rintro acc S1 ⟨vs, rfl, hl, hv, hs⟩
    have hi : b + (n : Int).toNat = b + n := by omega
    rw [hi] at hs
    exact ⟨trivial, penendC hs fun S' hp' => h vs S' ⟨by omega, hv⟩ hp'⟩
structure CopyAt (C a t : Addr) (q : Int) (tabs : List (List Int)) (S : Sto) : Prop where
  ins : S a = some (.ins C [("q", .int q), ("tables", .loc t)])
  lst : S t = some (.lst (tabs.map fun xs => .tup (xs.map D.int)))
  ne : a ≠ t
def sp_Copy___init__ (C : Addr) : SpD := fun ds S Q => ∃ (a : Addr) (q : Int) (tab : List Int), ds = [.loc a, .tup (tab.map D.int), .int q] ∧ S a = some (.ins C []) ∧ ∀ t S', S t = none → CopyAt C a t q [tab] S' → Ext a S S' → Q .non S'
theorem len_Copy___init__ (C : Addr) : ∀ ds S Q, sp_Copy___init__ C ds S Q → ds.length = ["self", "table", "q"].length := by rintro ds S Q ⟨a, q, tab, rfl, h⟩; rfl
theorem p_Copy___init__ (C : Addr) : ∀ ds S Q0, sp_Copy___init__ C ds S Q0 → tb_Copy___init__ C (bodyEnds Q0) (startD nm_Copy___init__ ds) S := by
  rintro ds S Q0 ⟨a, q, tab, rfl, ha, h⟩
  refine seq_ fun N hN => ?_
  iterate 7 ((try conv => whnf); (try simp only [ha, put_eq, seqD, lstD]))
  refine ⟨⟨trivial, by decide⟩, ?_⟩
  refine hN _ _ ?_; clear hN N
  iterate 7 ((try conv => whnf); (try simp only [put_eq, seqD, lstD]))
  refine ⟨(Nat.le_of_ble_eq_true rfl), fun t ht => ?_⟩
  have ht' := put_none ht
  iterate 7 ((try conv => whnf); (try simp only [put_ne ht'.1.symm, put_eq, seqD, lstD]))
  refine ⟨⟨trivial, by show (1 : Nat) < 1000; decide⟩, ?_⟩
  refine ⟨_, Sb.refl _, h t _ ht'.2 ⟨put_eq, ?_, ht'.1.symm⟩ fun b c hb e => ?_⟩
  · rw [put_ne ht'.1, put_eq]; rfl
  · rw [put_ne hb, put_ne (fun z => by rw [z, ht'.2] at e; cases e), put_ne hb]; exact e
def sp_Copy_last_version (C : Addr) : SpD := fun ds S Q => ∃ (a t : Addr) (q : Int) (tabs : List (List Int)), ds = [.loc a] ∧ CopyAt C a t q tabs S ∧ Q (.int ((tabs.length : Int) - 1)) S
theorem len_Copy_last_version (C : Addr) : ∀ ds S Q, sp_Copy_last_version C ds S Q → ds.length = ["self"].length := by rintro ds S Q ⟨a, t, q, tabs, rfl, h⟩; rfl
theorem p_Copy_last_version (C : Addr) : ∀ ds S Q0, sp_Copy_last_version C ds S Q0 → tb_Copy_last_version C (bodyEnds Q0) (startD nm_Copy_last_version ds) S := by
  rintro ds S Q0 ⟨a, t, q, tabs, rfl, c, h⟩
  iterate 7 ((try conv => whnf); (try simp only [c.ins, put_eq, seqD, lstD]))
  refine ⟨trivial, ?_⟩
  iterate 7 ((try conv => whnf); (try simp only [c.lst, put_eq, seqD, lstD]))
  rw [List.length_map]
  exact ⟨_, Sb.refl _, h⟩
def sp_Copy___len__ (C : Addr) : SpD := fun ds S Q => ∃ (a t : Addr) (q : Int) (tab : List Int) (tabs : List (List Int)), ds = [.loc a] ∧ CopyAt C a t q (tab :: tabs) S ∧ Q (.int (tab.length : Int)) S
theorem len_Copy___len__ (C : Addr) : ∀ ds S Q, sp_Copy___len__ C ds S Q → ds.length = ["self"].length := by rintro ds S Q ⟨a, t, q, tab, tabs, rfl, h⟩; rfl
theorem p_Copy___len__ (C : Addr) : ∀ ds S Q0, sp_Copy___len__ C ds S Q0 → tb_Copy___len__ C (bodyEnds Q0) (startD nm_Copy___len__ ds) S := by
  rintro ds S Q0 ⟨a, t, q, tab, tabs, rfl, c, h⟩
  have e : atI ((tab :: tabs).map fun xs => D.tup (xs.map D.int)) 0 = some (.tup (tab.map D.int)) := atI_map (xs := tab :: tabs) (i := 0) (by decide) (by simp)
  iterate 7 ((try conv => whnf); (try simp only [c.ins, put_eq, seqD, lstD]))
  refine ⟨trivial, ?_⟩
  iterate 7 ((try conv => whnf); (try simp only [c.lst, e, put_eq, seqD, lstD]))
  rw [List.length_map]
  exact ⟨_, Sb.refl _, h⟩
def sp_Copy_entries (C : Addr) : SpD := fun ds S Q => ∃ (a t : Addr) (q v : Int) (tabs : List (List Int)), ds = [.loc a, .int v] ∧ CopyAt C a t q tabs S ∧ 0 ≤ v ∧ v < (tabs.length : Int) ∧ Q (.tup ((tabs.getD v.toNat []).map D.int)) S
theorem len_Copy_entries (C : Addr) : ∀ ds S Q, sp_Copy_entries C ds S Q → ds.length = ["self", "version"].length := by rintro ds S Q ⟨a, t, q, v, tabs, rfl, h⟩; rfl
theorem tabs_at {tabs : List (List Int)} {i : Int} (h0 : 0 ≤ i) (h1 : i < (tabs.length : Int)) : atI (tabs.map fun xs => D.tup (xs.map D.int)) i = some (.tup ((tabs.getD i.toNat []).map D.int)) := by
  rw [atI_map h0 h1]
  simp [List.getD_eq_getElem?_getD, show i.toNat < tabs.length by omega]
theorem p_Copy_entries (C : Addr) : ∀ ds S Q0, sp_Copy_entries C ds S Q0 → tb_Copy_entries C (bodyEnds Q0) (startD nm_Copy_entries ds) S := by
  rintro ds S Q0 ⟨a, t, q, v, tabs, rfl, c, v0, v1, h⟩
  refine seq_ fun N hN => ?_
  iterate 7 ((try conv => whnf); (try simp only [decide_eq_true v0, put_eq, seqD, lstD]))
  iterate 7 ((try conv => whnf); (try simp only [c.ins, put_eq, seqD, lstD]))
  refine ⟨trivial, ?_⟩
  iterate 7 ((try conv => whnf); (try simp only [c.lst, decide_eq_true v1, put_eq, seqD, lstD]))
  rw [List.length_map]
  iterate 7 ((try conv => whnf); (try simp only [decide_eq_true v1, Bool.not_true, put_eq, seqD, lstD]))
  refine hN _ _ ?_; clear hN N
  iterate 7 ((try conv => whnf); (try simp only [c.ins, put_eq, seqD, lstD]))
  refine ⟨trivial, ?_⟩
  iterate 7 ((try conv => whnf); (try simp only [c.lst, tabs_at v0 v1, put_eq, seqD, lstD]))
  exact ⟨_, Sb.refl _, h⟩
theorem getLast_at {tab : List Int} {tabs : List (List Int)} : atI ((tabs ++ [tab]).map fun xs => D.tup (xs.map D.int)) (-1) = some (.tup (tab.map D.int)) := by
  have e : ixN (tabs.length + 1) (-1) = some tabs.length := by
    unfold ixN
    first
      | (rw [if_pos (by omega), if_pos (by omega)]; congr 1; omega)
      | (simp; omega)
      | simp
  unfold atI
  simp [e]
def updT (tab : List Int) (i v : Int) : List Int := tab.take i.toNat ++ [v] ++ tab.drop (i.toNat + 1)
theorem row_atD {row : List Int} {i : Int} (h0 : 0 ≤ i) (h1 : i < (row.length : Int)) : atI (row.map D.int) i = some (.int (row.getD i.toNat 0)) := by
  rw [atI_map h0 h1]
  simp [List.getD_eq_getElem?_getD, show i.toNat < row.length by omega]
structure Hist (q : Int) (n : Nat) (tabs : List (List Int)) (us : List (Int × Int)) : Prop where
  len : tabs.length = us.length + 1
  sz : ∀ t ∈ tabs, t.length = n
  ok : ∀ u ∈ us, (0 ≤ u.1 ∧ u.1 < (n : Int)) ∧ 0 ≤ u.2 ∧ u.2 < q
  st : ∀ k, k < us.length → tabs.getD (k + 1) [] = updT (tabs.getD k []) (us.getD k (0, 0)).1 (((tabs.getD k []).getD (us.getD k (0, 0)).1.toNat 0 + (us.getD k (0, 0)).2) % q)
theorem Hist.size {q : Int} {n : Nat} {tabs : List (List Int)} {us : List (Int × Int)} (h : Hist q n tabs us) {k : Nat} (hk : k ≤ us.length) : (tabs.getD k []).length = n := by
  have hl := h.len
  have e : tabs.getD k [] = tabs[k] := by simp [List.getD_eq_getElem?_getD, show k < tabs.length by omega]
  rw [e]; exact h.sz _ (List.getElem_mem _)
def copyH (C a : Addr) (q : Int) (tabs : List (List Int)) : HP := fun h => ∃ t, CopyAt C a t q tabs h
theorem CopyAt.mono {C a t : Addr} {q : Int} {tabs : List (List Int)} {S S' : Sto} (c : CopyAt C a t q tabs S) (s : Sb S S') : CopyAt C a t q tabs S' := ⟨s _ _ c.ins, s _ _ c.lst, c.ne⟩
theorem star_copy {C a : Addr} {q : Int} {tabs : List (List Int)} {S : Sto} (L1 : List HP) {L2 : List HP} (hs : Star (L1 ++ copyH C a q tabs :: L2) S) : ∃ t, CopyAt C a t q tabs S := by
  obtain ⟨h0, ⟨t, c⟩, sb⟩ := (hs.to L1).first
  exact ⟨t, c.mono sb⟩
theorem use_copy_new {C a : Addr} {q : Int} {tab : List Int} {S : Sto} {Q : Sto → Prop} {L : List HP} (hs : Star L S) (ha : S a = none) (h : ∀ S2, Star (copyH C a q [tab] :: L) S2 → Q S2) :
    frm (sp_Copy___init__ C) [.loc a, .tup (tab.map D.int), .int q] (S.put a (.ins C [])) (fun d S2 => d = .non ∧ Q S2) :=
  frm_at [] (hs.new1 ha (.ins C [])) fun h0 hp Q' k => ⟨a, q, tab, rfl, hp, fun t S' ht c _ => k _ _ fun S2 hs2 => ⟨rfl, h S2 (hs2 (copyH C a q [tab]) ⟨t, c⟩)⟩⟩
theorem use_pen {S : Sto} {Q : DK} {ns : List Int} (h : ∀ p q S2, Star [penC 0 p q] S2 → Q (.loc p) S2) : frm sp__law_pen [.rol (ns.map D.int)] S Q :=
  frm_of ⟨ns, rfl, fun p q S' _ _ hp _ => h p q S' (star_penC hp)⟩
theorem star_fst {P R : HP} {L : List HP} {S : Sto} (h : Star (P :: L) S) (k : ∀ h0, P h0 → R h0) : Star (R :: L) S := by
  cases h with | cons h0 p sb r => exact .cons h0 (k h0 p) sb r
theorem star_le {b c : Nat} {p q : Addr} (L1 : List HP) {L2 : List HP} {S : Sto} (hs : Star (L1 ++ penC b p q :: L2) S) (h : b ≤ c) : Star (L1 ++ penC c p q :: L2) S := (star_fst (R := penC c p q) (hs.to L1) fun _ g => g.le h).back L1
def sp_Copy_update (C : Addr) : SpD := fun ds S Q => ∃ (a t : Addr) (q i v : Int) (tab : List Int) (tabs : List (List Int)), ds = [.loc a, .int i, .int v] ∧ CopyAt C a t q (tabs ++ [tab]) S ∧ 0 < q ∧ 0 ≤ i ∧ i < (tab.length : Int) ∧ tab.length < 1000 ∧ ((tabs ++ [tab]).headD []).length = tab.length ∧ tabs.length < 1000 ∧
  ∀ S' k, k = (tabs.length : Int) + 1 → CopyAt C a t q (tabs ++ [tab] ++ [updT tab i ((tab.getD i.toNat 0 + v) % q)]) S' → Ext t S S' → Q (.int k) S'
theorem len_Copy_update (C : Addr) : ∀ ds S Q, sp_Copy_update C ds S Q → ds.length = ["self", "entry", "amount"].length := by rintro ds S Q ⟨a, t, q, i, v, tab, tabs, rfl, h⟩; rfl
theorem p_Copy_update (C : Addr) : ∀ ds S Q0, sp_Copy_update C ds S Q0 → tb_Copy_update C (frm (sp_Copy___len__ C)) (frm (sp_Copy_last_version C)) (bodyEnds Q0) (startD nm_Copy_update ds) S := by
  rintro ds S Q0 ⟨a, t, q, i, v, tab, tabs, rfl, c, hq, i0, i1, hk, hl, ht, h⟩
  obtain ⟨t0, ts, et⟩ : ∃ t0 ts, tabs ++ [tab] = t0 :: ts := by
    cases tabs with
    | nil => exact ⟨tab, [], rfl⟩
    | cons x xs => exact ⟨x, xs ++ [tab], rfl⟩
  have l0 : t0.length = tab.length := by rw [et] at hl; exact hl
  refine seq_ fun N hN => ?_
  iterate 7 ((try conv => whnf); (try simp only [decide_eq_true i0, put_eq, seqD, lstD]))
  iterate 7 ((try conv => whnf); (try simp only [c.ins, put_eq, seqD, lstD]))
  refine ⟨trivial, frm_of ⟨a, t, q, t0, ts, rfl, et ▸ c, ?_⟩⟩
  have i2 : i < (t0.length : Int) := by omega
  refine ⟨by omega, ?_⟩
  iterate 7 ((try conv => whnf); (try simp only [decide_eq_true i2, Bool.not_true, put_eq, seqD, lstD]))
  refine hN _ _ ?_; clear hN N; refine seq_ fun N hN => ?_
  iterate 7 ((try conv => whnf); (try simp only [c.ins, put_eq, seqD, lstD]))
  refine ⟨trivial, ?_⟩
  iterate 7 ((try conv => whnf); (try simp only [c.lst, getLast_at, put_eq, seqD, lstD]))
  refine hN _ _ ?_; clear hN N; refine seq_ fun N hN => ?_
  iterate 7 ((try conv => whnf); (try simp only [row_atD i0 i1, put_eq, seqD, lstD]))
  iterate 7 ((try conv => whnf); (try simp only [c.ins, put_eq, seqD, lstD]))
  refine ⟨trivial, ?_⟩
  iterate 7 ((try conv => whnf); (try simp only [put_eq, seqD, lstD]))
  refine ⟨hq, ?_⟩
  refine hN _ _ ?_; clear hN N; refine seq_ fun N hN => ?_
  iterate 7 ((try conv => whnf); (try simp only [c.ins, put_eq, seqD, lstD]))
  refine ⟨trivial, ?_⟩
  iterate 7 ((try conv => whnf); (try simp only [c.lst, put_eq, seqD, lstD]))
  refine ⟨(Nat.le_of_ble_eq_true rfl), ?_⟩
  rw [cut_map, cut_to i0]
  iterate 7 ((try conv => whnf); (try simp only [put_eq, seqD, lstD]))
  refine ⟨by simp [sizeLine_eq]; omega, ?_⟩
  iterate 7 ((try conv => whnf); (try simp only [put_eq, seqD, lstD]))
  rw [cut_map, cut_from (show 0 ≤ i + 1 by omega)]
  iterate 7 ((try conv => whnf); (try simp only [put_eq, seqD, lstD]))
  refine ⟨by simp [sizeLine_eq]; omega, ?_⟩
  iterate 7 ((try conv => whnf); (try simp only [c.lst, put_eq, seqD, lstD]))
  refine ⟨by simp [sizeLine_eq]; omega, ?_⟩
  refine hN _ _ ?_; clear hN N
  generalize hw : (tab.getD i.toNat 0 + v) % q = w at *
  have c2 : CopyAt C a t q (tabs ++ [tab] ++ [updT tab i w]) (S.put t (.lst (((tabs ++ [tab]).map fun xs => D.tup (xs.map D.int)) ++ [D.tup ((tab.take i.toNat).map D.int ++ [D.int w] ++ (tab.drop (i + 1).toNat).map D.int)]))) := by
    refine ⟨by rw [put_ne c.ne]; exact c.ins, ?_, c.ne⟩
    have e : (i + 1).toNat = i.toNat + 1 := by omega
    rw [put_eq, e]
    simp [updT]
  iterate 7 ((try conv => whnf); (try simp only [c2.ins, put_eq, seqD, lstD]))
  refine ⟨⟨trivial, rfl⟩, frm_of ⟨a, t, q, _, rfl, c2, ?_⟩⟩
  exact ⟨_, Sb.refl _, h _ _ (by simp; omega) c2 Ext.put⟩
def spx_Copy_update (C : Addr) : SpX := fun ds S X0 => ∃ (a t : Addr) (q i v : Int) (tab : List Int) (tabs : List (List Int)), ds = [.loc a, .int i, .int v] ∧ CopyAt C a t q (tab :: tabs) S ∧ tab.length < 1000 ∧ (i < 0 ∨ (tab.length : Int) ≤ i) ∧ X0 [("entry", .int i)] S
theorem lenx_Copy_update (C : Addr) : ∀ ds S X0, spx_Copy_update C ds S X0 → ds.length = ["self", "entry", "amount"].length := by rintro ds S X0 ⟨a, t, q, i, v, tab, tabs, rfl, h⟩; rfl
theorem px_Copy_update (C : Addr) : ∀ ds S X0, spx_Copy_update C ds S X0 → xIfT (dNot (dB (dChain rdLe rdLt (dC (.int 0)) (dV 1) (dLenO C (frm (sp_Copy___len__ C)) (dV 0))))) (xMk "entry" (dCons (dV 1) dNil)) (startD nm_Copy_update ds) S X0 := by
  rintro ds S X0 ⟨a, t, q, i, v, tab, tabs, rfl, c, hk, hv, h⟩
  unfold xIfT
  by_cases i0 : 0 ≤ i
  · have i1 : ¬ i < (tab.length : Int) := by omega
    iterate 7 ((try conv => whnf); (try simp only [decide_eq_true i0, put_eq, seqD, lstD]))
    iterate 7 ((try conv => whnf); (try simp only [c.ins, put_eq, seqD, lstD]))
    refine ⟨trivial, frm_of ⟨a, t, q, tab, tabs, rfl, c, ?_⟩⟩
    refine ⟨by omega, ?_⟩
    iterate 7 ((try conv => whnf); (try simp only [decide_eq_false i1, Bool.not_false, put_eq, seqD, lstD]))
    exact ⟨trivial, _, rfl, h⟩
  · iterate 7 ((try conv => whnf); (try simp only [decide_eq_false i0, Bool.not_false, put_eq, seqD, lstD]))
    exact ⟨trivial, _, rfl, h⟩
def spx_Copy_entries (C : Addr) : SpX := fun ds S X0 => ∃ (a t : Addr) (q v : Int) (tabs : List (List Int)), ds = [.loc a, .int v] ∧ CopyAt C a t q tabs S ∧ (v < 0 ∨ (tabs.length : Int) ≤ v) ∧ X0 [("version", .int v)] S
theorem lenx_Copy_entries (C : Addr) : ∀ ds S X0, spx_Copy_entries C ds S X0 → ds.length = ["self", "version"].length := by rintro ds S X0 ⟨a, t, q, v, tabs, rfl, h⟩; rfl
theorem px_Copy_entries (C : Addr) : ∀ ds S X0, spx_Copy_entries C ds S X0 → xIfT (dNot (dB (dChain rdLe rdLt (dC (.int 0)) (dV 1) (dLen (dFld C "tables" (dV 0)))))) (xMk "version" (dCons (dV 1) dNil)) (startD nm_Copy_entries ds) S X0 := by
  rintro ds S X0 ⟨a, t, q, v, tabs, rfl, c, hv, h⟩
  unfold xIfT
  by_cases v0 : 0 ≤ v
  · have v1 : ¬ v < (tabs.length : Int) := by omega
    iterate 7 ((try conv => whnf); (try simp only [decide_eq_true v0, put_eq, seqD, lstD]))
    iterate 7 ((try conv => whnf); (try simp only [c.ins, put_eq, seqD, lstD]))
    refine ⟨trivial, ?_⟩
    iterate 7 ((try conv => whnf); (try simp only [c.lst, put_eq, seqD, lstD]))
    rw [List.length_map]
    iterate 7 ((try conv => whnf); (try simp only [decide_eq_false v1, Bool.not_false, put_eq, seqD, lstD]))
    exact ⟨trivial, _, rfl, h⟩
  · iterate 7 ((try conv => whnf); (try simp only [decide_eq_false v0, Bool.not_false, put_eq, seqD, lstD]))
    exact ⟨trivial, _, rfl, h⟩
def spn__law_updated (C : Addr) : SpD := sp_Copy_update C
def spx__law_updated (C : Addr) : SpD := fun ds S Q => ∃ (a t : Addr) (q i v : Int) (tab : List Int) (tabs : List (List Int)), ds = [.loc a, .int i, .int v] ∧ CopyAt C a t q (tab :: tabs) S ∧ tab.length < 1000 ∧ (i < 0 ∨ (tab.length : Int) ≤ i) ∧ Q (.tup [.str "entry", .int i]) S
def sp__law_updated (C : Addr) : SpD := fun ds S Q => spn__law_updated C ds S Q ∨ spx__law_updated C ds S Q
theorem len_n_law_updated (C : Addr) : ∀ ds S Q, spn__law_updated C ds S Q → ds.length = ["a", "b", "c"].length := by rintro ds S Q ⟨a, t, q, i, v, tab, tabs, rfl, h⟩; rfl
theorem lenx__law_updated (C : Addr) : ∀ ds S Q, spx__law_updated C ds S Q → ds.length = ["a", "b", "c"].length := by rintro ds S Q ⟨a, t, q, i, v, tab, tabs, rfl, h⟩; rfl
theorem p_n_law_updated (C : Addr) : ∀ ds S Q0, spn__law_updated C ds S Q0 → tb__law_updated C (frm (sp_Copy_update C)) (bodyEnds Q0) (startD nm__law_updated ds) S := by
  rintro ds S Q0 ⟨a, t, q, i, v, tab, tabs, rfl, c, h1, h2, h3, h4, h5, h6, h⟩
  iterate 7 ((try conv => whnf); (try simp only [c.ins, put_eq, seqD, lstD]))
  exact ⟨⟨trivial, rfl⟩, frm_of ⟨a, t, q, i, v, tab, tabs, rfl, c, h1, h2, h3, h4, h5, h6, fun S' k ek c2 ex => ⟨_, Sb.refl _, h S' k ek c2 ex⟩⟩⟩
theorem px__law_updated (C : Addr) : ∀ ds S Q0, spx__law_updated C ds S Q0 → xTry (xMeth C "update" (spx_Copy_update C) (dV 0) (dCons (dV 1) (dCons (dV 2) dNil))) 3 (xRetF "entry" "entry") (bodyEnds Q0) (startD nm__law_updated ds) S := by
  rintro ds S Q0 ⟨a, t, q, i, v, tab, tabs, rfl, cc, hk, hv, h⟩
  refine ⟨by show 3 < 4; decide, ?_⟩
  unfold xMeth
  iterate 7 ((try conv => whnf); (try simp only [cc.ins, put_eq, seqD, lstD]))
  exact ⟨⟨trivial, rfl⟩, a, t, q, i, v, tab, tabs, rfl, cc, hk, hv, _, rfl, _, Sb.refl _, h⟩
def spn__law_table (C : Addr) : SpD := sp_Copy_entries C
def spx__law_table (C : Addr) : SpD := fun ds S Q => ∃ (a t : Addr) (q v : Int) (tabs : List (List Int)), ds = [.loc a, .int v] ∧ CopyAt C a t q tabs S ∧ (v < 0 ∨ (tabs.length : Int) ≤ v) ∧ Q (.tup [.str "version", .int v]) S
def sp__law_table (C : Addr) : SpD := fun ds S Q => spn__law_table C ds S Q ∨ spx__law_table C ds S Q
theorem len_n_law_table (C : Addr) : ∀ ds S Q, spn__law_table C ds S Q → ds.length = ["a", "b"].length := by rintro ds S Q ⟨a, t, q, v, tabs, rfl, h⟩; rfl
theorem lenx__law_table (C : Addr) : ∀ ds S Q, spx__law_table C ds S Q → ds.length = ["a", "b"].length := by rintro ds S Q ⟨a, t, q, v, tabs, rfl, h⟩; rfl
theorem p_n_law_table (C : Addr) : ∀ ds S Q0, spn__law_table C ds S Q0 → tb__law_table C (frm (sp_Copy_entries C)) (bodyEnds Q0) (startD nm__law_table ds) S := by
  rintro ds S Q0 ⟨a, t, q, v, tabs, rfl, c, v0, v1, h⟩
  iterate 7 ((try conv => whnf); (try simp only [c.ins, put_eq, seqD, lstD]))
  exact ⟨⟨trivial, rfl⟩, frm_of ⟨a, t, q, v, tabs, rfl, c, v0, v1, _, Sb.refl _, h⟩⟩
theorem px__law_table (C : Addr) : ∀ ds S Q0, spx__law_table C ds S Q0 → xTry (xMeth C "entries" (spx_Copy_entries C) (dV 0) (dCons (dV 1) dNil)) 2 (xRetF "version" "version") (bodyEnds Q0) (startD nm__law_table ds) S := by
  rintro ds S Q0 ⟨a, t, q, v, tabs, rfl, cc, hv, h⟩
  refine ⟨by show 2 < 3; decide, ?_⟩
  unfold xMeth
  iterate 7 ((try conv => whnf); (try simp only [cc.ins, put_eq, seqD, lstD]))
  exact ⟨⟨trivial, rfl⟩, a, t, q, v, tabs, rfl, cc, hv, _, rfl, _, Sb.refl _, h⟩
theorem rb_row25 {xs : List Int} (hl : xs.length ≤ 1000) (hx : ∀ x ∈ xs, 0 ≤ x ∧ x < 1000) : RB 50 16000000 (.tup (xs.map D.int)) :=
  (RB.tup (n := 0) (b := 13) 1000 (by rw [List.length_map]; exact hl) (fun y hy => by
    obtain ⟨x, hm, rfl⟩ := List.mem_map.mp hy
    have := hx x hm
    exact RB.int (by omega))).mono (by decide) (by decide)
theorem rb_pair25 {s : Str} {v : Int} (hs : RB 0 13 (.str s)) (hv : v.natAbs < 10 ^ 12) : RB 50 16000000 (.tup [.str s, .int v]) :=
  (RB.tup (n := 0) (b := 13) 2 (by simp) (fun y hy => by
    rcases List.mem_cons.mp hy with rfl | hy
    · exact hs
    · rw [List.mem_singleton.mp hy]; exact RB.int hv)).mono (by decide) (by decide)
theorem rb_version : RB 0 13 (.str "version") := ⟨by show PyData.canLay0 (.str "version") = true; decide +kernel, by decide +kernel, by decide +kernel, by decide +kernel⟩
theorem rb_entry : RB 0 13 (.str "entry") := ⟨by show PyData.canLay0 (.str "entry") = true; decide +kernel, by decide +kernel, by decide +kernel, by decide +kernel⟩
structure TabsIn (q : Int) (n : Nat) (tabs : List (List Int)) : Prop where
  len : ∀ t ∈ tabs, t.length = n
  res : ∀ t ∈ tabs, ∀ x ∈ t, 0 ≤ x ∧ x < q
def tabD (xs : List Int) : D := .tup (xs.map D.int)
def sp__law_version_right (C : Addr) : SpD := fun ds S Q => ∃ (a t l : Addr) (q v : Int) (n : Nat) (tabs : List (List Int)), ds = [.loc a, .loc l, .int v] ∧ CopyAt C a t q tabs S ∧ S l = some (.lst (tabs.map tabD)) ∧ TabsIn q n tabs ∧ q ≤ 1000 ∧ n ≤ 1000 ∧ v.natAbs < 10 ^ 12 ∧ Q (.bl true) S
theorem len__law_version_right (C : Addr) : ∀ ds S Q, sp__law_version_right C ds S Q → ds.length = ["a", "b", "c"].length := by rintro ds S Q ⟨a, t, l, q, v, n, tabs, rfl, h⟩; rfl
theorem p__law_version_right (C : Addr) : ∀ ds S Q0, sp__law_version_right C ds S Q0 → tb__law_version_right C (frm (sp__law_table C)) (frm (sp_Copy_last_version C)) (bodyEnds Q0) (startD nm__law_version_right ds) S := by
  rintro ds S Q0 ⟨a, t, l, q, v, n, tabs, rfl, c, hl, hT, hq, hn, hv, h⟩
  have hlen : (tabs.map tabD).length = tabs.length := List.length_map _
  by_cases v0 : 0 ≤ v
  · by_cases v1 : v < (tabs.length : Int)
    · have hm : tabs.getD v.toNat [] ∈ tabs := by
        have hk : v.toNat < tabs.length := by omega
        rw [List.getD_eq_getElem?_getD, List.getElem?_eq_getElem hk]; exact List.getElem_mem hk
      have rb := rb_row25 (xs := tabs.getD v.toNat []) (by rw [hT.len _ hm]; exact hn) (fun x hx => by have := hT.res _ hm x hx; omega)
      have ea : atI (tabs.map tabD) v = some (tabD (tabs.getD v.toNat [])) := tabs_at v0 v1
      refine seq_ fun N hN => ?_
      iterate 7 ((try conv => whnf); (try simp only [decide_eq_true v0, put_eq, seqD, lstD]))
      iterate 7 ((try conv => whnf); (try simp only [hl, put_eq, seqD, lstD]))
      rw [hlen]
      iterate 7 ((try conv => whnf); (try simp only [decide_eq_true v1, put_eq, seqD, lstD]))
      iterate 7 ((try conv => whnf); (try simp only [hl, ea, put_eq, seqD, lstD]))
      refine hN _ _ ?_; clear hN N
      iterate 7 ((try conv => whnf); (try simp only [put_eq, seqD, lstD]))
      refine frm_of (.inl ⟨a, t, q, v, tabs, rfl, c, v0, v1, ?_⟩)
      iterate 7 ((try conv => whnf); (try simp only [put_eq, seqD, lstD]))
      refine ⟨rb, ?_⟩
      iterate 7 ((try conv => whnf); (try simp only [put_eq, seqD, lstD]))
      refine ⟨rb, ?_⟩
      iterate 7 ((try conv => whnf); (try simp only [c.ins, put_eq, seqD, lstD]))
      refine ⟨⟨trivial, rfl⟩, frm_of ⟨a, t, q, tabs, rfl, c, ?_⟩⟩
      iterate 7 ((try conv => whnf); (try simp only [hl, put_eq, seqD, lstD]))
      rw [hlen]
      iterate 7 ((try conv => whnf); (try simp only [put_eq, seqD, lstD]))
      exact ⟨_, Sb.refl _, h⟩
    · have rb := rb_pair25 rb_version hv
      refine seq_ fun N hN => ?_
      iterate 7 ((try conv => whnf); (try simp only [decide_eq_true v0, put_eq, seqD, lstD]))
      iterate 7 ((try conv => whnf); (try simp only [hl, put_eq, seqD, lstD]))
      rw [hlen]
      iterate 7 ((try conv => whnf); (try simp only [decide_eq_false v1, put_eq, seqD, lstD]))
      refine ⟨by show 2 ≤ 1000; decide, ?_⟩
      refine hN _ _ ?_; clear hN N
      iterate 7 ((try conv => whnf); (try simp only [put_eq, seqD, lstD]))
      refine frm_of (.inr ⟨a, t, q, v, tabs, rfl, c, by omega, ?_⟩)
      iterate 7 ((try conv => whnf); (try simp only [put_eq, seqD, lstD]))
      refine ⟨rb, ?_⟩
      iterate 7 ((try conv => whnf); (try simp only [put_eq, seqD, lstD]))
      refine ⟨rb, ?_⟩
      iterate 7 ((try conv => whnf); (try simp only [c.ins, put_eq, seqD, lstD]))
      refine ⟨⟨trivial, rfl⟩, frm_of ⟨a, t, q, tabs, rfl, c, ?_⟩⟩
      iterate 7 ((try conv => whnf); (try simp only [hl, put_eq, seqD, lstD]))
      rw [hlen]
      iterate 7 ((try conv => whnf); (try simp only [put_eq, seqD, lstD]))
      exact ⟨_, Sb.refl _, h⟩
  · have rb := rb_pair25 rb_version hv
    refine seq_ fun N hN => ?_
    iterate 7 ((try conv => whnf); (try simp only [decide_eq_false v0, put_eq, seqD, lstD]))
    refine ⟨by show 2 ≤ 1000; decide, ?_⟩
    refine hN _ _ ?_; clear hN N
    iterate 7 ((try conv => whnf); (try simp only [put_eq, seqD, lstD]))
    refine frm_of (.inr ⟨a, t, q, v, tabs, rfl, c, by omega, ?_⟩)
    iterate 7 ((try conv => whnf); (try simp only [put_eq, seqD, lstD]))
    refine ⟨rb, ?_⟩
    iterate 7 ((try conv => whnf); (try simp only [put_eq, seqD, lstD]))
    refine ⟨rb, ?_⟩
    iterate 7 ((try conv => whnf); (try simp only [c.ins, put_eq, seqD, lstD]))
    refine ⟨⟨trivial, rfl⟩, frm_of ⟨a, t, q, tabs, rfl, c, ?_⟩⟩
    iterate 7 ((try conv => whnf); (try simp only [hl, put_eq, seqD, lstD]))
    rw [hlen]
    iterate 7 ((try conv => whnf); (try simp only [put_eq, seqD, lstD]))
    exact ⟨_, Sb.refl _, h⟩

theorem env14 {t : List (Option D)} (h : t.length = 14) : ∃ a b c d e f g h i j k l m n, t = [a, b, c, d, e, f, g, h, i, j, k, l, m, n] := by
  match t, h with
  | [a, b, c, d, e, f, g, h, i, j, k, l, m, n], _ => exact ⟨a, b, c, d, e, f, g, h, i, j, k, l, m, n, rfl⟩
theorem dSeq_re {A B R : TSD} {D0 : EndsD} {e : DEnv} {S : Sto} (h : dSeq (dSeq A B) R D0 e S) : dSeq A (dSeq B R) D0 e S := h
theorem use_right {C a l : Addr} {q v : Int} {n : Nat} {tabs : List (List Int)} {S : Sto} {Q : DK} (c : ∃ t, CopyAt C a t q tabs S) (hl : S l = some (.lst (tabs.map tabD))) (ok : TabsIn q n tabs) (hq : q ≤ 1000) (hn : n ≤ 1000) (hv : v.natAbs < 10 ^ 12) (h : Q (.bl true) S) : frm (sp__law_version_right C) [.loc a, .loc l, .int v] S Q := by
  obtain ⟨t, c⟩ := c
  exact frm_of ⟨a, t, l, q, v, n, tabs, rfl, c, hl, ok, hq, hn, hv, h⟩
theorem upd_in {q : Int} {n : Nat} {T : List (List Int)} {tl : List Int} (hq : 0 < q) (ok : TabsIn q n (T ++ [tl])) {i w : Int} (h0 : 0 ≤ i) (h1 : i < n) : TabsIn q n (T ++ [tl] ++ [updT tl i ((tl.getD i.toNat 0 + w) % q)]) := by
  have tn := ok.len tl (by simp)
  refine ⟨fun t ht => ?_, fun t ht x hx => ?_⟩
  · rcases List.mem_append.mp ht with ht | ht
    · exact ok.len t ht
    · rw [List.mem_singleton.mp ht]
      unfold updT
      simp
      omega
  · rcases List.mem_append.mp ht with ht | ht
    · exact ok.res t ht x hx
    · rw [List.mem_singleton.mp ht] at hx
      unfold updT at hx
      rcases List.mem_append.mp hx with hx | hx
      · rcases List.mem_append.mp hx with hx | hx
        · exact ok.res tl (by simp) x (List.mem_of_mem_take hx)
        · rw [List.mem_singleton.mp hx]
          exact ⟨Int.emod_nonneg _ (by omega), Int.emod_lt_of_pos _ hq⟩
      · exact ok.res tl (by simp) x (List.mem_of_mem_drop hx)
theorem tab_last {T : List (List Int)} {tl : List Int} : atI ((T ++ [tl]).map tabD) (-1) = some (.tup (tl.map D.int)) := getLast_at
theorem use_updN {C a : Addr} {q i v : Int} {tab : List Int} {tabs : List (List Int)} {S : Sto} {Q : DK} (L1 : List HP) {L2 : List HP} (hs : Star (L1 ++ copyH C a q (tabs ++ [tab]) :: L2) S) (hq : 0 < q) (h0 : 0 ≤ i) (h1 : i < (tab.length : Int)) (h2 : tab.length < 1000) (h3 : ((tabs ++ [tab]).headD []).length = tab.length) (h4 : tabs.length < 1000)
    (h : ∀ S2, Star (L1 ++ copyH C a q (tabs ++ [tab] ++ [updT tab i ((tab.getD i.toNat 0 + v) % q)]) :: L2) S2 → Q (.int ((tabs.length : Int) + 1)) S2) : frm (sp__law_updated C) [.loc a, .int i, .int v] S Q :=
  frm_at L1 hs fun s0 ⟨t, c⟩ Q' k => .inl ⟨a, t, q, i, v, tab, tabs, rfl, c, hq, h0, h1, h2, h3, h4, fun S' j ej c2 _ => ej ▸ k _ _ fun S2 hs2 => h S2 (hs2 (copyH C a q _) ⟨t, c2⟩)⟩
theorem use_updX {C a : Addr} {q i v : Int} {tabs : List (List Int)} {n : Nat} {S : Sto} {Q : DK} (c : ∃ t, CopyAt C a t q tabs S) (ok : TabsIn q n tabs) (ne : tabs ≠ []) (hn : n < 1000) (hi : i < 0 ∨ (n : Int) ≤ i) (h : Q (.tup [.str "entry", .int i]) S) : frm (sp__law_updated C) [.loc a, .int i, .int v] S Q := by
  obtain ⟨t, c⟩ := c
  cases tabs with
  | nil => exact absurd rfl ne
  | cons t0 ts =>
    have l0 : t0.length = n := ok.len t0 (by simp)
    exact frm_of (.inr ⟨a, t, q, i, v, t0, ts, rfl, c, by omega, by rw [l0]; exact hi, h⟩)
theorem p_law (C : Addr) : ∀ ds S Q0, sp_law ds S Q0 → tb_law C (frm sp__law_pen) (frm sp__law_small_prime) (frm sp__law_draw) (frm sp__law_vector) (frm (sp_Copy___init__ C)) (frm (sp__law_updated C)) (frm (sp__law_version_right C)) (frm (sp_Copy___len__ C)) (frm (sp_Copy_last_version C)) (frm (sp_Copy_entries C)) (bodyEnds Q0) (startD nm_law ds) S := by
  rintro ds S Q0 ⟨ns, rfl, hns, hQ⟩
  refine seq_ fun N hN => ?_
  iterate 7 ((try conv => whnf); (try simp only [put_eq, seqD, lstD]))
  refine use_pen fun p pq S1 hs => ?_
  refine hN _ _ ?_; clear hN N; refine seq_ fun N hN => ?_
  iterate 7 ((try conv => whnf); (try simp only [put_eq, seqD, lstD]))
  have hmm : 0 ≤ max (3 : Int) (min 6 ((ns.map D.int).length : Int)) ∧ max (3 : Int) (min 6 ((ns.map D.int).length : Int)) ≤ 6 := by omega
  refine ⟨by omega, ?_⟩
  refine forRun_rng (fun i e S => ∃ t, e = some (.rol (ns.map D.int)) :: some (.loc p) :: t ∧ t.length = 14 ∧ Star [penC (1000 * i) p pq] S) ?_ ?_ ⟨_, rfl, rfl, hs⟩
  rotate_left
  · rintro e S ⟨t, rfl, ht, hs⟩
    refine ⟨trivial, ?_⟩
    refine hN _ _ ?_; clear hN N
    iterate 7 ((try conv => whnf); (try simp only [put_eq, seqD, lstD]))
    exact ⟨_, Sb.refl _, hQ _⟩
  rintro i e S N' hi ⟨t, rfl, ht, hs⟩ hN'
  refine ⟨trivial, ?_⟩
  obtain ⟨a2, a3, a4, a5, a6, a7, a8, a9, a10, a11, a12, a13, a14, a15, rfl⟩ := env14 ht
  clear ht hN
  refine seq_ fun N hN => ?_
  iterate 7 ((try conv => whnf); (try simp only [put_eq, seqD, lstD]))
  refine use_small_prime [] hs (by omega) fun q S2 q2 q3 hs => ?_
  have q0 : 0 < q := by omega
  iterate 7 ((try conv => whnf); (try simp only [put_eq, seqD, lstD]))
  refine use_draw [] hs (by omega) (by decide) fun sz S3 sz0 sz1 hs => ?_
  obtain ⟨n, hn⟩ : ∃ n : Nat, (1 + sz : Int) = (n : Int) := ⟨(1 + sz).toNat, by omega⟩
  iterate 7 ((try conv => whnf); (try simp only [put_eq, seqD, lstD]))
  rw [hn]
  refine hN _ _ ?_; clear hN N; refine seq_ fun N hN => ?_
  iterate 7 ((try conv => whnf); (try simp only [put_eq, seqD, lstD]))
  refine use_vector [] hs (by omega) ⟨q0, by omega⟩ (by omega) fun tab S4 htab hs => ?_
  refine hN _ _ ?_; clear hN N; refine seq_ fun N hN => ?_
  iterate 7 ((try conv => whnf); (try simp only [put_eq, seqD, lstD]))
  intro a ha
  refine use_copy_new hs ha fun S5 hs => ?_
  iterate 7 ((try conv => whnf); (try simp only [put_eq, seqD, lstD]))
  intro b hb
  refine use_copy_new hs hb fun S6 hs => ?_
  iterate 7 ((try conv => whnf); (try simp only [put_eq, seqD, lstD]))
  refine ⟨(Nat.le_of_ble_eq_true rfl), fun c hc => ?_⟩
  have hs := hs.new hc (.lst [.tup (tab.map D.int)])
  refine hN [some (.rol (ns.map D.int)), some (.loc p), some (.int (0 + (i : Int))), some (.int q), some (.int n), some (.tup (tab.map D.int)), some (.loc a), some (.loc b), some (.loc c), a9, a10, a11, a12, a13, a14, a15] _ ?_
  clear hN N
  refine seq_ fun N hN => ?_
  iterate 7 ((try conv => whnf); (try simp only [put_eq, seqD, lstD]))
  refine use_draw [_, _] hs (by omega) (by decide) fun nu S7 nu0 nu1 hs => ?_
  iterate 7 ((try conv => whnf); (try simp only [put_eq, seqD, lstD]))
  refine ⟨by omega, ?_⟩
  have hs : Star [copyH C b q [tab], copyH C a q ([] ++ [tab]), penC (1000 * i + 20 + 3 * 0) p pq, cell c (.lst (([] ++ [tab]).map tabD))] S7 := star_le [_, _] hs (by omega)
  refine forRun_rng (fun k e S' => ∃ (b9 b10 b11 b12 b13 b14 : Option D) (T : List (List Int)) (tl : List Int), e = [some (.rol (ns.map D.int)), some (.loc p), some (.int (0 + (i : Int))), some (.int q), some (.int n), some (.tup (tab.map D.int)), some (.loc a), some (.loc b), some (.loc c), b9, b10, b11, b12, b13, b14, a15] ∧ T.length ≤ k ∧ TabsIn q n (T ++ [tl]) ∧ Star [copyH C b q [tab], copyH C a q (T ++ [tl]), penC (1000 * i + 20 + 3 * k) p pq, cell c (.lst ((T ++ [tl]).map tabD))] S') ?_ ?_
    ⟨_, _, _, _, _, _, [], tab, rfl, by simp, ⟨by simpa using htab.len, by simpa using htab.res⟩, hs⟩
  · rintro k e S8 N2 hk ⟨b9, b10, b11, b12, b13, b14, T, tl, rfl, hTk, ok, hs⟩ hN2
    refine ⟨trivial, ?_⟩
    have tn : tl.length = n := ok.len tl (by simp)
    have hd : ((T ++ [tl]).headD []).length = tl.length := by
      cases T with
      | nil => rfl
      | cons t0 ts => exact (ok.len t0 (by simp)).trans tn.symm
    refine seq_ fun N hN => ?_
    iterate 7 ((try conv => whnf); (try simp only [put_eq, seqD, lstD]))
    refine use_draw [_, _] hs (by omega) (by omega) fun v S9 v0 v1 hs => ?_
    iterate 7 ((try conv => whnf); (try simp only [put_eq, seqD, lstD]))
    refine use_draw [_, _] hs (by omega) (by omega) fun w S10 w0 w1 hs => ?_
    iterate 7 ((try conv => whnf); (try simp only [put_eq, seqD, lstD]))
    refine hN [some (.rol (ns.map D.int)), some (.loc p), some (.int (0 + (i : Int))), some (.int q), some (.int n), some (.tup (tab.map D.int)), some (.loc a), some (.loc b), some (.loc c), some (.int (0 + (k : Int))), some (.int (v - 1)), some (.int w), b12, b13, b14, a15] _ ?_
    clear hN N
    generalize hv' : v - 1 = en
    refine seq_ fun N hN => ?_
    iterate 7 ((try conv => whnf); (try simp only [put_eq, seqD, lstD]))
    refine ⟨by show 2 ≤ 1000; decide, ?_⟩
    refine hN [some (.rol (ns.map D.int)), some (.loc p), some (.int (0 + (i : Int))), some (.int q), some (.int n), some (.tup (tab.map D.int)), some (.loc a), some (.loc b), some (.loc c), some (.int (0 + (k : Int))), some (.int en), some (.int w), some (.tup [.str "entry", .int en]), b13, b14, a15] _ ?_
    clear hN N
    refine dSeq_re ?_
    refine seq_ fun N hN => ?_
    have tail : ∀ (c12 c13 : Option D) (T' : List (List Int)) (tl' : List Int) (S' : Sto), T'.length ≤ k + 1 → TabsIn q n (T' ++ [tl']) → Star [copyH C b q [tab], copyH C a q (T' ++ [tl']), penC (1000 * i + 20 + 3 * k + 1 + 1) p pq, cell c (.lst ((T' ++ [tl']).map tabD))] S' →
        N [some (.rol (ns.map D.int)), some (.loc p), some (.int (0 + (i : Int))), some (.int q), some (.int n), some (.tup (tab.map D.int)), some (.loc a), some (.loc b), some (.loc c), some (.int (0 + (k : Int))), some (.int en), some (.int w), c12, c13, b14, a15] S' := by
      intro c12 c13 T' tl' S' hT' ok' hs
      refine hN _ _ ?_
      clear hN
      have hlen : ((T' ++ [tl']).map tabD).length = (T' ++ [tl']).length := List.length_map _
      have hl1 : (T' ++ [tl']).length = T'.length + 1 := by simp
      refine seq_ fun N hN => ?_
      iterate 7 ((try conv => whnf); (try simp only [put_eq, seqD, lstD]))
      have f := hs.get [_, _, _]
      iterate 7 ((try conv => whnf); (try simp only [f, put_eq, seqD, lstD]))
      rw [hlen]
      refine use_draw [_, _] hs (by omega) (by omega) fun x S11 x0 x1 hs => ?_
      have f := hs.get [_, _, _]
      have f1 := star_copy [_] hs
      have f2 := f1
      obtain ⟨t2, f2⟩ := f2
      refine hN [some (.rol (ns.map D.int)), some (.loc p), some (.int (0 + (i : Int))), some (.int q), some (.int n), some (.tup (tab.map D.int)), some (.loc a), some (.loc b), some (.loc c), some (.int (0 + (k : Int))), some (.int en), some (.int w), c12, c13, some (.int (x - 1)), a15] _ ?_
      clear hN
      iterate 7 ((try conv => whnf); (try simp only [put_eq, seqD, lstD]))
      refine use_right f1 f ok' (by omega) (by omega) (by omega) ?_
      iterate 7 ((try conv => whnf); (try simp only [put_eq, seqD, lstD]))
      obtain ⟨t0, ts, et⟩ : ∃ t0 ts, T' ++ [tl'] = t0 :: ts := by
        cases T' with
        | nil => exact ⟨tl', [], rfl⟩
        | cons x xs => exact ⟨x, xs ++ [tl'], rfl⟩
      have l0 : t0.length = n := ok'.len t0 (by rw [et]; simp)
      iterate 7 ((try conv => whnf); (try simp only [f2.ins, put_eq, seqD, lstD]))
      refine ⟨trivial, frm_of ⟨a, t2, q, t0, ts, rfl, et ▸ f2, ?_⟩⟩
      refine ⟨by omega, ?_⟩
      rw [l0]
      iterate 7 ((try conv => whnf); (try simp only [put_eq, seqD, lstD]))
      refine ⟨_, Sb.refl _, hN2 _ _ ⟨_, _, _, _, _, _, T', tl', rfl, hT', ok', star_le [_, _] hs (by omega)⟩⟩
    by_cases hin : 0 ≤ en ∧ en < (n : Int)
    · obtain ⟨e0, e1⟩ := hin
      refine seq_ fun N hN => ?_
      iterate 7 ((try conv => whnf); (try simp only [decide_eq_true e0, put_eq, seqD, lstD]))
      have f := hs.get [_, _, _]
      iterate 7 ((try conv => whnf); (try simp only [decide_eq_true e1, put_eq, seqD, lstD]))
      iterate 7 ((try conv => whnf); (try simp only [f, tab_last, put_eq, seqD, lstD]))
      rw [cut_map, cut_to e0]
      iterate 7 ((try conv => whnf); (try simp only [put_eq, seqD, lstD]))
      rw [row_atD e0 (by omega)]
      iterate 7 ((try conv => whnf); (try simp only [put_eq, seqD, lstD]))
      refine ⟨q0, ?_⟩
      iterate 7 ((try conv => whnf); (try simp only [put_eq, seqD, lstD]))
      refine ⟨by show 1 ≤ 1000; decide, ?_⟩
      iterate 7 ((try conv => whnf); (try simp only [put_eq, seqD, lstD]))
      refine ⟨by simp [sizeLine_eq]; omega, ?_⟩
      iterate 7 ((try conv => whnf); (try simp only [put_eq, seqD, lstD]))
      rw [cut_map, cut_from (show 0 ≤ en + 1 by omega)]
      iterate 7 ((try conv => whnf); (try simp only [put_eq, seqD, lstD]))
      refine ⟨by simp [sizeLine_eq]; omega, ?_⟩
      iterate 7 ((try conv => whnf); (try simp only [f, put_eq, seqD, lstD]))
      refine ⟨by simp [sizeLine_eq]; omega, ?_⟩
      have eu : (T ++ [tl]).map tabD ++ [D.tup ((tl.take en.toNat).map D.int ++ [D.int ((tl.getD en.toNat 0 + w) % q)] ++ (tl.drop (en + 1).toNat).map D.int)] = (T ++ [tl] ++ [updT tl en ((tl.getD en.toNat 0 + w) % q)]).map tabD := by
        have e : (en + 1).toNat = en.toNat + 1 := by omega
        simp [updT, tabD, e]
      rw [eu]
      have hs := hs.put [_, _, _] (c' := .lst ((T ++ [tl] ++ [updT tl en ((tl.getD en.toNat 0 + w) % q)]).map tabD))
      have f := hs.get [_, _, _]
      have ln : (((T ++ [tl] ++ [updT tl en ((tl.getD en.toNat 0 + w) % q)]).map tabD).length : Int) - 1 = (T.length : Int) + 1 := by simp; omega
      iterate 7 ((try conv => whnf); (try simp only [f, put_eq, seqD, lstD]))
      rw [ln]
      refine hN [some (.rol (ns.map D.int)), some (.loc p), some (.int (0 + (i : Int))), some (.int q), some (.int n), some (.tup (tab.map D.int)), some (.loc a), some (.loc b), some (.loc c), some (.int (0 + (k : Int))), some (.int en), some (.int w), some (.int ((T.length : Int) + 1)), some (.tup (tl.map D.int)), b14, a15] _ ?_
      clear hN
      iterate 7 ((try conv => whnf); (try simp only [put_eq, seqD, lstD]))
      refine use_updN [_] hs q0 e0 (by omega) (by omega) hd (by omega) fun S11 hs => ?_
      iterate 7 ((try conv => whnf); (try simp only [put_eq, seqD, lstD]))
      refine ⟨by omega, ?_⟩
      iterate 7 ((try conv => whnf); (try simp only [put_eq, seqD, lstD]))
      refine ⟨by omega, ?_⟩
      iterate 7 ((try conv => whnf); (try simp only [put_eq, seqD, lstD]))
      exact tail _ _ (T ++ [tl]) _ _ (by simp; omega) (upd_in q0 ok e0 e1) hs
    · have hne : en < 0 ∨ (n : Int) ≤ en := by omega
      refine seq_ fun N hN => ?_
      have go : N [some (.rol (ns.map D.int)), some (.loc p), some (.int (0 + (i : Int))), some (.int q), some (.int n), some (.tup (tab.map D.int)), some (.loc a), some (.loc b), some (.loc c), some (.int (0 + (k : Int))), some (.int en), some (.int w), some (.tup [.str "entry", .int en]), b13, b14, a15] S10 := by
        refine hN _ _ ?_
        clear hN
        have rb := rb_pair25 (v := en) rb_entry (by omega)
        iterate 7 ((try conv => whnf); (try simp only [put_eq, seqD, lstD]))
        refine use_updX (star_copy [_] hs) ok (by simp) (by omega) hne ?_
        iterate 7 ((try conv => whnf); (try simp only [put_eq, seqD, lstD]))
        refine ⟨rb, ?_⟩
        iterate 7 ((try conv => whnf); (try simp only [put_eq, seqD, lstD]))
        refine ⟨rb, ?_⟩
        iterate 7 ((try conv => whnf); (try simp only [put_eq, seqD, lstD]))
        exact tail _ _ T tl _ (by omega) ok hs
      clear hN
      by_cases e0 : 0 ≤ en
      · have e1 : ¬ en < (n : Int) := by omega
        iterate 7 ((try conv => whnf); (try simp only [decide_eq_true e0, put_eq, seqD, lstD]))
        iterate 7 ((try conv => whnf); (try simp only [decide_eq_false e1, put_eq, seqD, lstD]))
        exact go
      · iterate 7 ((try conv => whnf); (try simp only [decide_eq_false e0, put_eq, seqD, lstD]))
        exact go
  rintro e S8 ⟨b9, b10, b11, b12, b13, b14, T, tl, rfl, hTk, ok, hs⟩
  refine ⟨trivial, ?_⟩
  generalize hTT : T ++ [tl] = T2 at ok hs
  have hT2 : 1 ≤ T2.length ∧ T2.length ≤ 21 := by
    rw [← hTT]; simp; omega
  clear hTT hTk
  have hlen : (T2.map tabD).length = T2.length := List.length_map _
  refine hN [some (.rol (ns.map D.int)), some (.loc p), some (.int (0 + (i : Int))), some (.int q), some (.int n), some (.tup (tab.map D.int)), some (.loc a), some (.loc b), some (.loc c), b9, b10, b11, b12, b13, b14, a15] _ ?_
  clear hN N
  refine seq_ fun N hN => ?_
  iterate 7 ((try conv => whnf); (try simp only [put_eq, seqD, lstD]))
  have f := hs.get [_, _, _]
  iterate 7 ((try conv => whnf); (try simp only [f, put_eq, seqD, lstD]))
  rw [hlen]
  refine ⟨by omega, fun o ho => ?_⟩
  obtain ⟨O, eO, hO⟩ : ∃ O : List Int, rngD (-1) ((T2.length : Int) + 1 - -1).toNat = O.map D.int ∧ (O.length ≤ 30 ∧ ∀ x ∈ O, -1 ≤ x ∧ x ≤ 30) :=
    ⟨(List.range ((T2.length : Int) + 1 - -1).toNat).map fun (k : Nat) => -1 + (k : Int), by unfold rngD; rw [List.map_map]; rfl, by simp; omega, fun x hx => by
      obtain ⟨k, hk, rfl⟩ := List.mem_map.mp hx
      have := List.mem_range.mp hk
      omega⟩
  rw [eO]
  have hs := hs.new ho (.lst (O.map D.int))
  refine hN [some (.rol (ns.map D.int)), some (.loc p), some (.int (0 + (i : Int))), some (.int q), some (.int n), some (.tup (tab.map D.int)), some (.loc a), some (.loc b), some (.loc c), b9, b10, b11, b12, b13, b14, some (.loc o)] _ ?_
  clear hN N
  refine seq_ fun N hN => ?_
  iterate 7 ((try conv => whnf); (try simp only [put_eq, seqD, lstD]))
  have f := hs.get [_, _, _, _]
  iterate 7 ((try conv => whnf); (try simp only [f, put_eq, seqD, lstD]))
  intro a1 h1
  rw [← List.map_reverse]
  have hs := hs.new h1 (.lst (O.reverse.map D.int))
  have fo := hs.get [_, _, _, _]
  have f1 := hs.get [_, _, _, _, _]
  iterate 7 ((try conv => whnf); (try simp only [fo, f1, put_eq, seqD, lstD]))
  refine ⟨by simp [sizeLine_eq]; omega, fun a2 h2 => ?_⟩
  rw [← List.map_append]
  have hs := hs.new h2 (.lst ((O ++ O.reverse).map D.int))
  have fo := hs.get [_, _, _, _]
  iterate 7 ((try conv => whnf); (try simp only [fo, put_eq, seqD, lstD]))
  intro a3 h3
  rw [cut_map, cut_from (show (0 : Int) ≤ 1 by decide)]
  have hs := hs.new h3 (.lst ((O.drop (1 : Int).toNat).map D.int))
  have f2 := hs.get [_, _, _, _, _, _]
  have f3 := hs.get [_, _, _, _, _, _, _]
  iterate 7 ((try conv => whnf); (try simp only [f2, f3, put_eq, seqD, lstD]))
  refine ⟨by simp [sizeLine_eq]; omega, fun a4 h4 => ?_⟩
  rw [← List.map_append]
  have hs := hs.new h4 (.lst ((O ++ O.reverse ++ O.drop (1 : Int).toNat).map D.int))
  have f4 := hs.get [_, _, _, _, _, _, _, _]
  iterate 7 ((try conv => whnf); (try simp only [f4, put_eq, seqD, lstD]))
  generalize hOO : O ++ O.reverse ++ O.drop (1 : Int).toNat = OO at hs f4
  have hO2 : ∀ x ∈ OO, x.natAbs < 10 ^ 12 := fun x hx => by
    have hm : x ∈ O := by
      rw [← hOO] at hx
      rcases List.mem_append.mp hx with hx | hx
      · rcases List.mem_append.mp hx with hx | hx
        · exact hx
        · exact List.mem_reverse.mp hx
      · exact List.mem_of_mem_drop hx
    have := hO.2 x hm
    omega
  refine forRun_map (f := D.int) (xs := OO) (fun pre e S' => ∃ (c14 : Option D), e = [some (.rol (ns.map D.int)), some (.loc p), some (.int (0 + (i : Int))), some (.int q), some (.int n), some (.tup (tab.map D.int)), some (.loc a), some (.loc b), some (.loc c), b9, b10, b11, b12, b13, c14, some (.loc o)] ∧ Star [copyH C b q [tab], copyH C a q T2, penC (1000 * i + 20 + 3 * nu.toNat) p pq, cell c (.lst (T2.map tabD)), cell o (.lst (O.map D.int)), cell a1 (.lst (O.reverse.map D.int)), cell a2 (.lst ((O ++ O.reverse).map D.int)), cell a3 (.lst ((O.drop (1 : Int).toNat).map D.int)), cell a4 (.lst (OO.map D.int))] S') ?_ ?_ ⟨_, rfl, hs⟩
  · rintro pre v post e S9 N2 hx ⟨c14, rfl, hs⟩ hN2
    have f4 := hs.get [_, _, _, _, _, _, _, _]
    have f := hs.get [_, _, _]
    refine ⟨by rw [f4], ?_⟩
    iterate 7 ((try conv => whnf); (try simp only [put_eq, seqD, lstD]))
    refine use_right (star_copy [_] hs) f ok (by omega) (by omega) (hO2 v (by rw [hx]; simp)) ?_
    iterate 7 ((try conv => whnf); (try simp only [put_eq, seqD, lstD]))
    exact ⟨_, Sb.refl _, hN2 _ _ ⟨_, rfl, hs⟩⟩
  rintro e S9 ⟨c14, rfl, hs⟩
  have f4 := hs.get [_, _, _, _, _, _, _, _]
  refine ⟨by rw [f4], ?_⟩
  refine hN _ _ ?_; clear hN N
  obtain ⟨t, cb⟩ := star_copy [] hs
  iterate 7 ((try conv => whnf); (try simp only [cb.ins, put_eq, seqD, lstD]))
  refine ⟨⟨trivial, rfl⟩, ?_⟩
  refine frm_of ⟨b, t, q, [tab], rfl, cb, ?_⟩
  iterate 7 ((try conv => whnf); (try simp only [put_eq, seqD, lstD]))
  iterate 7 ((try conv => whnf); (try simp only [cb.ins, put_eq, seqD, lstD]))
  refine ⟨⟨trivial, rfl⟩, ?_⟩
  refine frm_of ⟨b, t, q, 0, [tab], rfl, cb, by omega, by simp, ?_⟩
  have hs2 : Star [penC (1000 * (i + 1)) p pq] S9 := by
    have h2 := hs.drop.drop
    exact star_le [] h2.left (by omega)
  have eg : ([tab].getD (Int.toNat 0) []) = tab := rfl
  have ev : PyData.eqv (toPy (D.tup (tab.map D.int))) (toPy (D.tup (tab.map D.int))) = true := by
    show PyData.eqvAll (toPys (tab.map D.int)) (toPys (tab.map D.int)) = true
    rw [eqv_int_tups]
    exact decide_eq_true rfl
  iterate 7 ((try conv => whnf); (try simp only [put_eq, seqD, lstD]))
  rw [eg]
  refine ⟨⟨fine_ints 49 tab, fine_ints 49 tab⟩, ?_⟩
  iterate 7 ((try conv => whnf); (try simp only [ev, Bool.not_true, put_eq, seqD, lstD]))
  exact ⟨_, Sb.refl _, hN' _ _ ⟨_, rfl, rfl, hs2⟩⟩


structure Txt (K : PySem.W.Frag) (mg : Str → Option Value) (C_Copy : Addr) : Prop where
  cl_Copy : Cls K C_Copy
  n_Copy_q : NoAttr K C_Copy "q"
  n_Copy_tables : NoAttr K C_Copy "tables"
  b_KeyError : mg "KeyError" = none
  b_LookupError : mg "LookupError" = none
  b_isinstance : mg "isinstance" = none
  b_len : mg "len" = none
  b_list : mg "list" = none
  b_max : mg "max" = none
  b_min : mg "min" = none
  b_range : mg "range" = none
  b_repr : mg "repr" = none
  b_tuple : mg "tuple" = none
section
variable {P : Program} {w : World} {K : PySem.W.Frag} {mg : Str → Option Value} {base : Heap} {f : Addr} {fd : FuncData} {C_Copy : Addr}
theorem okI_UnknownVersion {FI CX : Addr} {oc : Value} {od an : Option Addr} {kV doc pm cdv ct : Value} {osl : Array (Option Value)} (lk : K.lookup FI = some ⟨oc, od, .func (PySem.W.fnOf "__init__" "UnknownVersion.__init__" (defArgs s_UnknownVersion___init__) (defBody s_UnknownVersion___init__) (defScope s_UnknownVersion___init__) .none kV doc pm an cdv ct), osl⟩) (hcd : PySem.W.codeIn K cdv "UnknownVersion.__init__" = true) (hb : mg "LookupError" = none) (T : ExcOk K mg "UnknownVersion" "version" [.type "LookupError", .type "Exception", .type "BaseException", .type "object"] "LookupError.__new__" CX FI) : FnOk P w K mg base CX0 1 FI (PySem.W.fnOf "__init__" "UnknownVersion.__init__" (defArgs s_UnknownVersion___init__) (defBody s_UnknownVersion___init__) (defScope s_UnknownVersion___init__) .none kV doc pm an cdv ct) ["self", "version"] (spInit CX "version") := by
  refine fn_of (N := ["self", "version"]) lk hcd ⟨rfl, rfl, rfl, by decide +kernel, rfl, by decide +kernel, by decide +kernel⟩ (fun vs H Q E h => by obtain ⟨a, y, rfl, _⟩ := h; rfl) fun A outer s H vs Q E hr h => ⟨_, pss_cons (ps_expr (pe_xinit base_LookupError (by rfl) hb (pa_cons (pv 0) (pa_cons pe_str pa_nil)))) (pss_one (ps_xput base_LookupError (pv 0) (pv 1))), ?_⟩
  obtain ⟨a, y, rfl, e, q⟩ := h
  exact init_runS T.ox T.nf e q
theorem okI_UnknownEntry {FI CX : Addr} {oc : Value} {od an : Option Addr} {kV doc pm cdv ct : Value} {osl : Array (Option Value)} (lk : K.lookup FI = some ⟨oc, od, .func (PySem.W.fnOf "__init__" "UnknownEntry.__init__" (defArgs s_UnknownEntry___init__) (defBody s_UnknownEntry___init__) (defScope s_UnknownEntry___init__) .none kV doc pm an cdv ct), osl⟩) (hcd : PySem.W.codeIn K cdv "UnknownEntry.__init__" = true) (hb : mg "KeyError" = none) (T : ExcOk K mg "UnknownEntry" "entry" [.type "KeyError", .type "LookupError", .type "Exception", .type "BaseException", .type "object"] "LookupError.__new__" CX FI) : FnOk P w K mg base CX0 1 FI (PySem.W.fnOf "__init__" "UnknownEntry.__init__" (defArgs s_UnknownEntry___init__) (defBody s_UnknownEntry___init__) (defScope s_UnknownEntry___init__) .none kV doc pm an cdv ct) ["self", "entry"] (spInit CX "entry") := by
  refine fn_of (N := ["self", "entry"]) lk hcd ⟨rfl, rfl, rfl, by decide +kernel, rfl, by decide +kernel, by decide +kernel⟩ (fun vs H Q E h => by obtain ⟨a, y, rfl, _⟩ := h; rfl) fun A outer s H vs Q E hr h => ⟨_, pss_cons (ps_expr (pe_xinit base_KeyError (by rfl) hb (pa_cons (pv 0) (pa_cons (pv 1) pa_nil)))) (pss_one (ps_xput base_KeyError (pv 0) (pv 1))), ?_⟩
  obtain ⟨a, y, rfl, e, q⟩ := h
  exact init_runV T.ox T.nf e q
theorem sc__law_pen : FnScope nm__law_pen ["_law_script"] (defScope s__law_pen) := ⟨rfl, rfl, rfl, by decide +kernel, rfl, by decide +kernel, by decide +kernel⟩
theorem d__law_pen (T : Txt K mg C_Copy) {A : Around} {outer : List Env} {s : Shared} {H : Hp} {cdv : Value} (hr : RoomG 0 (A.deeper (envOfC "_law_pen" (defScope s__law_pen) s.heap.objs.size f cdv))) : DSs (cxOf CX0 P w K mg base nm__law_pen "_law_pen" (defScope s__law_pen) f cdv A outer s H noE).nox (defBody s__law_pen) (tb__law_pen) :=
  have nd := sc__law_pen.nd
  (dss_one (ds_ret (de_lst (da_cons (de_q1 (c_lst (by rfl) T.b_list) lr_lst tr_lst (de_slice (de_var (i := 0) (by rfl) (by exact Or.inl rfl)) do_none (do_some de_int))) (da_cons de_int (da_cons de_int da_nil))))))
theorem ok__law_pen (F : Fun K "_law_pen" "_law_pen" s__law_pen f fd) (T : Txt K mg C_Copy) : FnD P w K mg base 1 f fd ["_law_script"] sp__law_pen :=
  fnd_of F sc__law_pen (len__law_pen) (fun _ _ _ _ _ hr => d__law_pen T hr) (p__law_pen)
theorem sc__law_prime : FnScope nm__law_prime ["_law_at"] (defScope s__law_prime) := ⟨rfl, rfl, rfl, by decide +kernel, rfl, by decide +kernel, by decide +kernel⟩
theorem d__law_prime (T : Txt K mg C_Copy) {A : Around} {outer : List Env} {s : Shared} {H : Hp} {cdv : Value} (hr : RoomG 0 (A.deeper (envOfC "_law_prime" (defScope s__law_prime) s.heap.objs.size f cdv))) : DSs (cxOf CX0 P w K mg base nm__law_prime "_law_prime" (defScope s__law_prime) f cdv A outer s H noE).nox (defBody s__law_prime) (tb__law_prime) :=
  have nd := sc__law_prime.nd
  (dss_cons (ds_set (i := 1) nd (by rfl) (by exact Or.inl rfl) (de_lst (da_cons de_int (da_cons de_int (da_cons de_int (da_cons de_int (da_cons de_int (da_cons de_int (da_cons de_int da_nil)))))))))
    (dss_one (ds_ret (de_ix (de_add (de_var (i := 1) (by rfl) (by exact Or.inl rfl)) (de_lst (da_cons de_int (da_cons de_int da_nil)))) (de_mod (de_var (i := 0) (by rfl) (by exact Or.inl rfl)) de_int)))))
theorem ok__law_prime (F : Fun K "_law_prime" "_law_prime" s__law_prime f fd) (T : Txt K mg C_Copy) : FnD P w K mg base 1 f fd ["_law_at"] sp__law_prime :=
  fnd_of F sc__law_prime (len__law_prime) (fun _ _ _ _ _ hr => d__law_prime T hr) (p__law_prime)
theorem sc__law_fresh : FnScope nm__law_fresh ["_law_pen_here"] (defScope s__law_fresh) := ⟨rfl, rfl, rfl, by decide +kernel, rfl, by decide +kernel, by decide +kernel⟩
theorem d__law_fresh (T : Txt K mg C_Copy) (c__law_prime : CalD P w K mg base 1 "_law_prime" (frm sp__law_prime) []) {A : Around} {outer : List Env} {s : Shared} {H : Hp} {cdv : Value} (hr : RoomG 1 (A.deeper (envOfC "_law_fresh" (defScope s__law_fresh) s.heap.objs.size f cdv))) : DSs (cxOf CX0 P w K mg base nm__law_fresh "_law_fresh" (defScope s__law_fresh) f cdv A outer s H noE).nox (defBody s__law_fresh) (tb__law_fresh (frm sp__law_prime)) :=
  have nd := sc__law_fresh.nd
  (dss_cons (ds_set (i := 1) nd (by rfl) (by exact Or.inl rfl) (de_ix (de_var (i := 0) (by rfl) (by exact Or.inl rfl)) de_int))
    (dss_cons (ds_sub (de_add (de_var (i := 1) (by rfl) (by exact Or.inl rfl)) de_int) (de_var (i := 0) (by rfl) (by exact Or.inl rfl)) de_int)
    (dss_cons (ds_set (i := 2) nd (by rfl) (by exact Or.inl rfl) de_int)
    (dss_cons (ds_if (dt_cmp (op_neA hr.rm.units) od_ne (de_ix (de_var (i := 0) (by rfl) (by exact Or.inl rfl)) de_int) (de_lst da_nil) (nomark _)) (dss_one (ds_set (i := 2) nd (by rfl) (by exact Or.inl rfl) (de_ix (de_ix (de_var (i := 0) (by rfl) (by exact Or.inl rfl)) de_int) (de_mod (de_var (i := 1) (by rfl) (by exact Or.inl rfl)) (de_len (by rfl) T.b_len (de_ix (de_var (i := 0) (by rfl) (by exact Or.inl rfl)) de_int)))))) dss_nil)
    (dss_cons (ds_if (dw_pt (dw_and (dt_cmp op_lt od_lt (de_var (i := 1) (by rfl) (by exact Or.inl rfl)) (de_len (by rfl) T.b_len (de_ix (de_var (i := 0) (by rfl) (by exact Or.inl rfl)) de_int)) (nomark _)) (dw_and1 (dt_cmp op_ge od_ge (de_var (i := 2) (by rfl) (by exact Or.inl rfl)) (de_pow de_int de_int) (nomark _))))) (dss_one (ds_ret (de_var (i := 2) (by rfl) (by exact Or.inl rfl)))) dss_nil)
    (dss_cons (ds_set (i := 3) nd (by rfl) (by exact Or.inl rfl) (de_mod (de_add (de_add (de_mod (de_var (i := 2) (by rfl) (by exact Or.inl rfl)) de_int) (de_mul de_int (de_var (i := 1) (by rfl) (by exact Or.inl rfl)))) de_int) (de_call c__law_prime hr (by decide) (by rfl) (da_cons (de_var (i := 1) (by rfl) (by exact Or.inl rfl)) da_nil))))
    (dss_cons (ds_set (i := 3) nd (by rfl) (by exact Or.inl rfl) (de_mul (de_mod (de_mul (de_mul (de_var (i := 3) (by rfl) (by exact Or.inl rfl)) (de_var (i := 3) (by rfl) (by exact Or.inl rfl))) (de_var (i := 3) (by rfl) (by exact Or.inl rfl))) (de_call c__law_prime hr (by decide) (by rfl) (da_cons (de_add (de_var (i := 1) (by rfl) (by exact Or.inl rfl)) de_int) da_nil))) (de_add (de_var (i := 1) (by rfl) (by exact Or.inl rfl)) de_int)))
    (dss_cons (ds_set (i := 4) nd (by rfl) (by exact Or.inl rfl) (de_mod (de_add (de_add (de_add (de_mul (de_var (i := 3) (by rfl) (by exact Or.inl rfl)) (de_var (i := 3) (by rfl) (by exact Or.inl rfl))) (de_mul de_int (de_var (i := 1) (by rfl) (by exact Or.inl rfl)))) (de_mod (de_var (i := 2) (by rfl) (by exact Or.inl rfl)) de_int)) de_int) (de_call c__law_prime hr (by decide) (by rfl) (da_cons (de_add (de_var (i := 1) (by rfl) (by exact Or.inl rfl)) de_int) da_nil))))
    (dss_cons (ds_set (i := 5) nd (by rfl) (by exact Or.inl rfl) (de_mod (de_add (de_mul (de_mul (de_var (i := 4) (by rfl) (by exact Or.inl rfl)) (de_var (i := 4) (by rfl) (by exact Or.inl rfl))) (de_var (i := 4) (by rfl) (by exact Or.inl rfl))) (de_var (i := 3) (by rfl) (by exact Or.inl rfl))) (de_call c__law_prime hr (by decide) (by rfl) (da_cons (de_add (de_var (i := 1) (by rfl) (by exact Or.inl rfl)) de_int) da_nil))))
    (dss_one (ds_ret (de_add (de_mul (de_var (i := 5) (by rfl) (by exact Or.inl rfl)) de_int) (de_mod (de_mul (de_var (i := 4) (by rfl) (by exact Or.inl rfl)) (de_add (de_var (i := 1) (by rfl) (by exact Or.inl rfl)) de_int)) de_int)))))))))))))
theorem ok__law_fresh (F : Fun K "_law_fresh" "_law_fresh" s__law_fresh f fd) (T : Txt K mg C_Copy) (c__law_prime : CalD P w K mg base 1 "_law_prime" (frm sp__law_prime) []) : FnD P w K mg base 2 f fd ["_law_pen_here"] sp__law_fresh :=
  fnd_of F sc__law_fresh (len__law_fresh) (fun _ _ _ _ _ hr => d__law_fresh T c__law_prime hr) (p__law_fresh)
theorem sc__law_draw : FnScope nm__law_draw ["_law_pen_here", "_law_many"] (defScope s__law_draw) := ⟨rfl, rfl, rfl, by decide +kernel, rfl, by decide +kernel, by decide +kernel⟩
theorem d__law_draw (T : Txt K mg C_Copy) (c__law_fresh : CalD P w K mg base 2 "_law_fresh" (frm sp__law_fresh) []) {A : Around} {outer : List Env} {s : Shared} {H : Hp} {cdv : Value} (hr : RoomG 2 (A.deeper (envOfC "_law_draw" (defScope s__law_draw) s.heap.objs.size f cdv))) : DSs (cxOf CX0 P w K mg base nm__law_draw "_law_draw" (defScope s__law_draw) f cdv A outer s H noE).nox (defBody s__law_draw) (tb__law_draw (frm sp__law_fresh)) :=
  have nd := sc__law_draw.nd
  (dss_cons (ds_if (dt_cmp op_lt od_lt (de_ix (de_var (i := 0) (by rfl) (by exact Or.inl rfl)) de_int) (de_var (i := 1) (by rfl) (by exact Or.inl rfl)) (nomark _)) (dss_one (ds_sub (de_call c__law_fresh hr (by decide) (by rfl) (da_cons (de_var (i := 0) (by rfl) (by exact Or.inl rfl)) da_nil)) (de_var (i := 0) (by rfl) (by exact Or.inl rfl)) de_int)) dss_nil)
    (dss_cons (ds_set (i := 2) nd (by rfl) (by exact Or.inl rfl) (de_mod (de_ix (de_var (i := 0) (by rfl) (by exact Or.inl rfl)) de_int) (de_var (i := 1) (by rfl) (by exact Or.inl rfl))))
    (dss_cons (ds_sub (de_div (de_ix (de_var (i := 0) (by rfl) (by exact Or.inl rfl)) de_int) (de_var (i := 1) (by rfl) (by exact Or.inl rfl))) (de_var (i := 0) (by rfl) (by exact Or.inl rfl)) de_int)
    (dss_one (ds_ret (de_var (i := 2) (by rfl) (by exact Or.inl rfl)))))))
theorem ok__law_draw (F : Fun K "_law_draw" "_law_draw" s__law_draw f fd) (T : Txt K mg C_Copy) (c__law_fresh : CalD P w K mg base 2 "_law_fresh" (frm sp__law_fresh) []) : FnD P w K mg base 3 f fd ["_law_pen_here", "_law_many"] sp__law_draw :=
  fnd_of F sc__law_draw (len__law_draw) (fun _ _ _ _ _ hr => d__law_draw T c__law_fresh hr) (p__law_draw)
theorem sc__law_small_prime : FnScope nm__law_small_prime ["_law_pen_here"] (defScope s__law_small_prime) := ⟨rfl, rfl, rfl, by decide +kernel, rfl, by decide +kernel, by decide +kernel⟩
theorem d__law_small_prime (T : Txt K mg C_Copy) (c__law_draw : CalD P w K mg base 3 "_law_draw" (frm sp__law_draw) []) {A : Around} {outer : List Env} {s : Shared} {H : Hp} {cdv : Value} (hr : RoomG 3 (A.deeper (envOfC "_law_small_prime" (defScope s__law_small_prime) s.heap.objs.size f cdv))) : DSs (cxOf CX0 P w K mg base nm__law_small_prime "_law_small_prime" (defScope s__law_small_prime) f cdv A outer s H noE).nox (defBody s__law_small_prime) (tb__law_small_prime (frm sp__law_draw)) :=
  have nd := sc__law_small_prime.nd
  (dss_one (ds_ret (de_ix (de_lst (da_cons de_int (da_cons de_int (da_cons de_int (da_cons de_int (da_cons de_int (da_cons de_int da_nil))))))) (de_call c__law_draw hr (by decide) (by rfl) (da_cons (de_var (i := 0) (by rfl) (by exact Or.inl rfl)) (da_cons de_int da_nil))))))
theorem ok__law_small_prime (F : Fun K "_law_small_prime" "_law_small_prime" s__law_small_prime f fd) (T : Txt K mg C_Copy) (c__law_draw : CalD P w K mg base 3 "_law_draw" (frm sp__law_draw) []) : FnD P w K mg base 4 f fd ["_law_pen_here"] sp__law_small_prime :=
  fnd_of F sc__law_small_prime (len__law_small_prime) (fun _ _ _ _ _ hr => d__law_small_prime T c__law_draw hr) (p__law_small_prime)
theorem sc__law_vector : FnScope nm__law_vector ["_law_pen_here", "_law_q", "_law_count"] (defScope s__law_vector) := ⟨rfl, rfl, rfl, by decide +kernel, rfl, by decide +kernel, by decide +kernel⟩
theorem d__law_vector (T : Txt K mg C_Copy) (c__law_draw : CalD P w K mg base 3 "_law_draw" (frm sp__law_draw) []) {A : Around} {outer : List Env} {s : Shared} {H : Hp} {cdv : Value} (hr : RoomG 3 (A.deeper (envOfC "_law_vector" (defScope s__law_vector) s.heap.objs.size f cdv))) : DSs (cxOf CX0 P w K mg base nm__law_vector "_law_vector" (defScope s__law_vector) f cdv A outer s H noE).nox (defBody s__law_vector) (tb__law_vector (frm sp__law_draw)) :=
  have nd := sc__law_vector.nd
  (dss_one (ds_ret (de_l1lc (c_tup (by rfl) T.b_tuple) lr_tup (by rfl) nd (di_rng1 (by rfl) T.b_range (da_cons (de_var (i := 2) (by rfl) (by exact Or.inl rfl)) da_nil)) (blkOk_by (own := [("_law_k", 3)]) (by kernel_rfl)) (by rfl) (fun _ _ _ _ _ => (pg_name (i := 3) nd (by rfl) (by exact Or.inl rfl))) (fun _ _ _ _ _ => dts_nil) (fun _ _ _ _ _ => (de_call c__law_draw hr (by decide) (by rfl) (da_cons (de_var (i := 0) (by rfl) (by exact Or.inr (Or.inl rfl))) (da_cons (de_var (i := 1) (by rfl) (by exact Or.inr (Or.inl rfl))) da_nil)))))))
theorem ok__law_vector (F : Fun K "_law_vector" "_law_vector" s__law_vector f fd) (T : Txt K mg C_Copy) (c__law_draw : CalD P w K mg base 3 "_law_draw" (frm sp__law_draw) []) : FnD P w K mg base 4 f fd ["_law_pen_here", "_law_q", "_law_count"] sp__law_vector :=
  fnd_of F sc__law_vector (len__law_vector) (fun _ _ _ _ _ hr => d__law_vector T c__law_draw hr) (p__law_vector)
theorem sc_Copy___init__ : FnScope nm_Copy___init__ ["self", "table", "q"] (defScope s_Copy___init__) := ⟨rfl, rfl, rfl, by decide +kernel, rfl, by decide +kernel, by decide +kernel⟩
theorem d_Copy___init__ (T : Txt K mg C_Copy) {A : Around} {outer : List Env} {s : Shared} {H : Hp} {cdv : Value} (hr : RoomG 0 (A.deeper (envOfC "Copy.__init__" (defScope s_Copy___init__) s.heap.objs.size f cdv))) : DSs (cxOf CX0 P w K mg base nm_Copy___init__ "Copy.__init__" (defScope s_Copy___init__) f cdv A outer s H noE).nox (defBody s_Copy___init__) (tb_Copy___init__ C_Copy) :=
  have nd := sc_Copy___init__.nd
  (dss_cons (ds_fld T.cl_Copy T.n_Copy_q (de_var (i := 0) (by rfl) (by exact Or.inl rfl)) (de_var (i := 2) (by rfl) (by exact Or.inl rfl)))
    (dss_one (ds_fld T.cl_Copy T.n_Copy_tables (de_var (i := 0) (by rfl) (by exact Or.inl rfl)) (de_lst (da_cons (de_var (i := 1) (by rfl) (by exact Or.inl rfl)) da_nil)))))
theorem ok_Copy___init__ (F : Fun K "__init__" "Copy.__init__" s_Copy___init__ f fd) (T : Txt K mg C_Copy) : FnD P w K mg base 1 f fd ["self", "table", "q"] (sp_Copy___init__ C_Copy) :=
  fnd_of F sc_Copy___init__ (len_Copy___init__ C_Copy) (fun _ _ _ _ _ hr => d_Copy___init__ T hr) (p_Copy___init__ C_Copy)
theorem sc_Copy___len__ : FnScope nm_Copy___len__ ["self"] (defScope s_Copy___len__) := ⟨rfl, rfl, rfl, by decide +kernel, rfl, by decide +kernel, by decide +kernel⟩
theorem d_Copy___len__ (T : Txt K mg C_Copy) {A : Around} {outer : List Env} {s : Shared} {H : Hp} {cdv : Value} (hr : RoomG 0 (A.deeper (envOfC "Copy.__len__" (defScope s_Copy___len__) s.heap.objs.size f cdv))) : DSs (cxOf CX0 P w K mg base nm_Copy___len__ "Copy.__len__" (defScope s_Copy___len__) f cdv A outer s H noE).nox (defBody s_Copy___len__) (tb_Copy___len__ C_Copy) :=
  have nd := sc_Copy___len__.nd
  (dss_one (ds_ret (de_len (by rfl) T.b_len (de_ix (de_fld T.cl_Copy T.n_Copy_tables (de_var (i := 0) (by rfl) (by exact Or.inl rfl))) de_int))))
theorem ok_Copy___len__ (F : Fun K "__len__" "Copy.__len__" s_Copy___len__ f fd) (T : Txt K mg C_Copy) : FnD P w K mg base 1 f fd ["self"] (sp_Copy___len__ C_Copy) :=
  fnd_of F sc_Copy___len__ (len_Copy___len__ C_Copy) (fun _ _ _ _ _ hr => d_Copy___len__ T hr) (p_Copy___len__ C_Copy)
theorem sc_Copy_last_version : FnScope nm_Copy_last_version ["self"] (defScope s_Copy_last_version) := ⟨rfl, rfl, rfl, by decide +kernel, rfl, by decide +kernel, by decide +kernel⟩
theorem d_Copy_last_version (T : Txt K mg C_Copy) {A : Around} {outer : List Env} {s : Shared} {H : Hp} {cdv : Value} (hr : RoomG 0 (A.deeper (envOfC "Copy.last_version" (defScope s_Copy_last_version) s.heap.objs.size f cdv))) : DSs (cxOf CX0 P w K mg base nm_Copy_last_version "Copy.last_version" (defScope s_Copy_last_version) f cdv A outer s H noE).nox (defBody s_Copy_last_version) (tb_Copy_last_version C_Copy) :=
  have nd := sc_Copy_last_version.nd
  (dss_one (ds_ret (de_sub (de_len (by rfl) T.b_len (de_fld T.cl_Copy T.n_Copy_tables (de_var (i := 0) (by rfl) (by exact Or.inl rfl)))) de_int)))
theorem ok_Copy_last_version (F : Fun K "last_version" "Copy.last_version" s_Copy_last_version f fd) (T : Txt K mg C_Copy) : FnD P w K mg base 1 f fd ["self"] (sp_Copy_last_version C_Copy) :=
  fnd_of F sc_Copy_last_version (len_Copy_last_version C_Copy) (fun _ _ _ _ _ hr => d_Copy_last_version T hr) (p_Copy_last_version C_Copy)
theorem sc_Copy_update : FnScope nm_Copy_update ["self", "entry", "amount"] (defScope s_Copy_update) := ⟨rfl, rfl, rfl, by decide +kernel, rfl, by decide +kernel, by decide +kernel⟩
theorem d_Copy_update (T : Txt K mg C_Copy) (m_Copy___len__ : MetD P w K mg base 1 C_Copy "__len__" (frm (sp_Copy___len__ C_Copy)) []) (m_Copy_last_version : MetD P w K mg base 1 C_Copy "last_version" (frm (sp_Copy_last_version C_Copy)) []) {A : Around} {outer : List Env} {s : Shared} {H : Hp} {cdv : Value} (hr : RoomG 2 (A.deeper (envOfC "Copy.update" (defScope s_Copy_update) s.heap.objs.size f cdv))) : DSs (cxOf CX0 P w K mg base nm_Copy_update "Copy.update" (defScope s_Copy_update) f cdv A outer s H noE).nox (defBody s_Copy_update) (tb_Copy_update C_Copy (frm (sp_Copy___len__ C_Copy)) (frm (sp_Copy_last_version C_Copy))) :=
  have nd := sc_Copy_update.nd
  (dss_cons (ds_if (dt_not (dt_chain op_le od_le op_lt od_lt de_int (de_var (i := 1) (by rfl) (by exact Or.inl rfl)) (de_lenO m_Copy___len__ hr (by decide) (by rfl) T.b_len (de_var (i := 0) (by rfl) (by exact Or.inl rfl))))) (dss_one ds_never) dss_nil)
    (dss_cons (ds_set (i := 3) nd (by rfl) (by exact Or.inl rfl) (de_ix (de_fld T.cl_Copy T.n_Copy_tables (de_var (i := 0) (by rfl) (by exact Or.inl rfl))) (de_neg de_int)))
    (dss_cons (ds_set (i := 4) nd (by rfl) (by exact Or.inl rfl) (de_mod (de_add (de_ix (de_var (i := 3) (by rfl) (by exact Or.inl rfl)) (de_var (i := 1) (by rfl) (by exact Or.inl rfl))) (de_var (i := 2) (by rfl) (by exact Or.inl rfl))) (de_fld T.cl_Copy T.n_Copy_q (de_var (i := 0) (by rfl) (by exact Or.inl rfl)))))
    (dss_cons (ds_expr (de_app (de_fld T.cl_Copy T.n_Copy_tables (de_var (i := 0) (by rfl) (by exact Or.inl rfl))) (de_add (de_add (de_slice (de_var (i := 3) (by rfl) (by exact Or.inl rfl)) do_none (do_some (de_var (i := 1) (by rfl) (by exact Or.inl rfl)))) (de_tup (da_cons (de_var (i := 4) (by rfl) (by exact Or.inl rfl)) da_nil))) (de_slice (de_var (i := 3) (by rfl) (by exact Or.inl rfl)) (do_some (de_add (de_var (i := 1) (by rfl) (by exact Or.inl rfl)) de_int)) do_none))))
    (dss_one (ds_ret (de_meth0 m_Copy_last_version hr (by decide) (de_var (i := 0) (by rfl) (by exact Or.inl rfl)))))))))
theorem ok_Copy_update (F : Fun K "update" "Copy.update" s_Copy_update f fd) (T : Txt K mg C_Copy) (m_Copy___len__ : MetD P w K mg base 1 C_Copy "__len__" (frm (sp_Copy___len__ C_Copy)) []) (m_Copy_last_version : MetD P w K mg base 1 C_Copy "last_version" (frm (sp_Copy_last_version C_Copy)) []) : FnD P w K mg base 3 f fd ["self", "entry", "amount"] (sp_Copy_update C_Copy) :=
  fnd_of F sc_Copy_update (len_Copy_update C_Copy) (fun _ _ _ _ _ hr => d_Copy_update T m_Copy___len__ m_Copy_last_version hr) (p_Copy_update C_Copy)
theorem okx_Copy_update {CX FI : Addr} {oc : Value} {od an : Option Addr} {kV dc pm cd ct : Value} {sl : Array (Option Value)} {fdU : FuncData} (lk : K.lookup f = some ⟨oc, od, .func (PySem.W.fnOf "update" "Copy.update" (defArgs s_Copy_update) (defBody s_Copy_update) (defScope s_Copy_update) .none kV dc pm an cd ct), sl⟩)
    (hcd : PySem.W.codeIn K cd "Copy.update" = true) (T : Txt K mg C_Copy) (m_Copy___len__ : MetD P w K mg base 1 C_Copy "__len__" (frm (sp_Copy___len__ C_Copy)) []) (m_Copy_last_version : MetD P w K mg base 1 C_Copy "last_version" (frm (sp_Copy_last_version C_Copy)) [])
    (xU : ExcOk K mg "UnknownEntry" "entry" [.type "KeyError", .type "LookupError", .type "Exception", .type "BaseException", .type "object"] "LookupError.__new__" CX FI) (IU : FnOk P w K mg base CX0 1 FI fdU ["self", "entry"] (spInit CX "entry"))
    (bU : Binds K fdU ["self", "entry"] []) : FnZ P w K mg base 3 f (PySem.W.fnOf "update" "Copy.update" (defArgs s_Copy_update) (defBody s_Copy_update) (defScope s_Copy_update) .none kV dc pm an cd ct) ["self", "entry", "amount"] (spZ K CX (spx_Copy_update C_Copy)) :=
  have nd := sc_Copy_update.nd
  fnx_of (N := nm_Copy_update) lk hcd sc_Copy_update (lenx_Copy_update C_Copy) (fun A outer s H E hr =>
    xss_here (xs_ifT (dt_not (dt_chain op_le od_le op_lt od_lt de_int (de_var (i := 1) (by rfl) (by exact Or.inl rfl)) (de_lenO m_Copy___len__ hr (by decide) (by rfl) T.b_len (de_var (i := 0) (by rfl) (by exact Or.inl rfl)))))
      (xss_one (xs_raise rfl takes_cx base_KeyError xU IU hr.rm bU (by rfl) (da_cons (de_var (i := 1) (by rfl) (by exact Or.inl rfl)) da_nil))) dss_nil)
      (dss_cons (ds_set (i := 3) nd (by rfl) (by exact Or.inl rfl) (de_ix (de_fld T.cl_Copy T.n_Copy_tables (de_var (i := 0) (by rfl) (by exact Or.inl rfl))) (de_neg de_int)))
    (dss_cons (ds_set (i := 4) nd (by rfl) (by exact Or.inl rfl) (de_mod (de_add (de_ix (de_var (i := 3) (by rfl) (by exact Or.inl rfl)) (de_var (i := 1) (by rfl) (by exact Or.inl rfl))) (de_var (i := 2) (by rfl) (by exact Or.inl rfl))) (de_fld T.cl_Copy T.n_Copy_q (de_var (i := 0) (by rfl) (by exact Or.inl rfl)))))
    (dss_cons (ds_expr (de_app (de_fld T.cl_Copy T.n_Copy_tables (de_var (i := 0) (by rfl) (by exact Or.inl rfl))) (de_add (de_add (de_slice (de_var (i := 3) (by rfl) (by exact Or.inl rfl)) do_none (do_some (de_var (i := 1) (by rfl) (by exact Or.inl rfl)))) (de_tup (da_cons (de_var (i := 4) (by rfl) (by exact Or.inl rfl)) da_nil))) (de_slice (de_var (i := 3) (by rfl) (by exact Or.inl rfl)) (do_some (de_add (de_var (i := 1) (by rfl) (by exact Or.inl rfl)) de_int)) do_none))))
    (dss_one (ds_ret (de_meth0 m_Copy_last_version hr (by decide) (de_var (i := 0) (by rfl) (by exact Or.inl rfl))))))))) (px_Copy_update C_Copy)
theorem sc__law_updated : FnScope nm__law_updated ["_law_copy", "_law_entry", "_law_amount"] (defScope s__law_updated) := ⟨rfl, rfl, rfl, by decide +kernel, rfl, by decide +kernel, by decide +kernel⟩
theorem d__law_updated (T : Txt K mg C_Copy) (m_Copy_update : MetD P w K mg base 3 C_Copy "update" (frm (sp_Copy_update C_Copy)) []) {A : Around} {outer : List Env} {s : Shared} {H : Hp} {cdv : Value} (hr : RoomG 3 (A.deeper (envOfC "_law_updated" (defScope s__law_updated) s.heap.objs.size f cdv))) : DSs (cxOf CX0 P w K mg base nm__law_updated "_law_updated" (defScope s__law_updated) f cdv A outer s H noE).nox (defBody s__law_updated) (tb__law_updated C_Copy (frm (sp_Copy_update C_Copy))) :=
  have nd := sc__law_updated.nd
  (dss_one (ds_tryN (dss_one (ds_ret (de_meth m_Copy_update hr (by decide) (de_var (i := 0) (by rfl) (by exact Or.inl rfl)) (da_cons (de_var (i := 1) (by rfl) (by exact Or.inl rfl)) (da_cons (de_var (i := 2) (by rfl) (by exact Or.inl rfl)) da_nil)))))))
theorem okn__law_updated (F : Fun K "_law_updated" "_law_updated" s__law_updated f fd) (T : Txt K mg C_Copy) (m_Copy_update : MetD P w K mg base 3 C_Copy "update" (frm (sp_Copy_update C_Copy)) []) : FnD P w K mg base 4 f fd ["_law_copy", "_law_entry", "_law_amount"] (spn__law_updated C_Copy) :=
  fnd_of F sc__law_updated (len_n_law_updated C_Copy) (fun _ _ _ _ _ hr => d__law_updated T m_Copy_update hr) (p_n_law_updated C_Copy)
theorem okx__law_updated {CX FI f1 : Addr} {fd1 : FuncData} {oc : Value} {od an : Option Addr} {kV dc pm cd ct : Value} {sl : Array (Option Value)} (lk : K.lookup f = some ⟨oc, od, .func (PySem.W.fnOf "_law_updated" "_law_updated" (defArgs s__law_updated) (defBody s__law_updated) (defScope s__law_updated) .none kV dc pm an cd ct), sl⟩)
    (hcd : PySem.W.codeIn K cd "_law_updated" = true) (T : Txt K mg C_Copy) (xU : ExcOk K mg "UnknownEntry" "entry" [.type "KeyError", .type "LookupError", .type "Exception", .type "BaseException", .type "object"] "LookupError.__new__" CX FI) (ec : ExcC K CX) (kt : PySem.W.kitOne K (.ref CX) (.type "KeyError") = some true) (me : Meth K C_Copy "update" f1)
    (Z : FnZ P w K mg base 3 f1 fd1 ["self", "entry", "amount"] (spZ K CX (spx_Copy_update C_Copy))) (bZ : Binds K fd1 ["self", "entry", "amount"] []) :
    FnD P w K mg base 4 f (PySem.W.fnOf "_law_updated" "_law_updated" (defArgs s__law_updated) (defBody s__law_updated) (defScope s__law_updated) .none kV dc pm an cd ct) ["_law_copy", "_law_entry", "_law_amount"] (spx__law_updated C_Copy) :=
  fnd_ofB (N := nm__law_updated) lk hcd sc__law_updated (lenx__law_updated C_Copy) (fun A outer s H hr =>
    dss_one (ds_tryX rfl rfl sc__law_updated.nd rfl rfl ⟨by rfl, by decide, .inl xU.gC⟩ xU.ex (fun W pn xe tk => xss_one (xs_ret (xe_meth T.cl_Copy me Z bZ hr (by decide) tk (de_var (i := 0) (by rfl) (by exact Or.inl rfl)) (da_cons (de_var (i := 1) (by rfl) (by exact Or.inl rfl)) (da_cons (de_var (i := 2) (by rfl) (by exact Or.inl rfl)) da_nil)))))
      (fun a oe cls d pn hz hf => su_retIf hz hf xU.xf xU.nf (pt_isX ec hz hf (by rfl) T.b_isinstance (by rfl) T.b_KeyError base_KeyError.bt kt rfl (Or.inl rfl)) (fun σ H Q h0 h1 h2 q => ⟨h0, h1, h2, q⟩) rfl (Or.inl rfl)))) (px__law_updated C_Copy)
theorem sc_Copy_entries : FnScope nm_Copy_entries ["self", "version"] (defScope s_Copy_entries) := ⟨rfl, rfl, rfl, by decide +kernel, rfl, by decide +kernel, by decide +kernel⟩
theorem d_Copy_entries (T : Txt K mg C_Copy) {A : Around} {outer : List Env} {s : Shared} {H : Hp} {cdv : Value} (hr : RoomG 0 (A.deeper (envOfC "Copy.entries" (defScope s_Copy_entries) s.heap.objs.size f cdv))) : DSs (cxOf CX0 P w K mg base nm_Copy_entries "Copy.entries" (defScope s_Copy_entries) f cdv A outer s H noE).nox (defBody s_Copy_entries) (tb_Copy_entries C_Copy) :=
  have nd := sc_Copy_entries.nd
  (dss_cons (ds_if (dt_not (dt_chain op_le od_le op_lt od_lt de_int (de_var (i := 1) (by rfl) (by exact Or.inl rfl)) (de_len (by rfl) T.b_len (de_fld T.cl_Copy T.n_Copy_tables (de_var (i := 0) (by rfl) (by exact Or.inl rfl)))))) (dss_one ds_never) dss_nil)
    (dss_one (ds_ret (de_ix (de_fld T.cl_Copy T.n_Copy_tables (de_var (i := 0) (by rfl) (by exact Or.inl rfl))) (de_var (i := 1) (by rfl) (by exact Or.inl rfl))))))
theorem ok_Copy_entries (F : Fun K "entries" "Copy.entries" s_Copy_entries f fd) (T : Txt K mg C_Copy) : FnD P w K mg base 1 f fd ["self", "version"] (sp_Copy_entries C_Copy) :=
  fnd_of F sc_Copy_entries (len_Copy_entries C_Copy) (fun _ _ _ _ _ hr => d_Copy_entries T hr) (p_Copy_entries C_Copy)
theorem okx_Copy_entries {CX FI : Addr} {oc : Value} {od an : Option Addr} {kV dc pm cd ct : Value} {sl : Array (Option Value)} {fdU : FuncData} (lk : K.lookup f = some ⟨oc, od, .func (PySem.W.fnOf "entries" "Copy.entries" (defArgs s_Copy_entries) (defBody s_Copy_entries) (defScope s_Copy_entries) .none kV dc pm an cd ct), sl⟩)
    (hcd : PySem.W.codeIn K cd "Copy.entries" = true) (T : Txt K mg C_Copy) (xU : ExcOk K mg "UnknownVersion" "version" [.type "LookupError", .type "Exception", .type "BaseException", .type "object"] "LookupError.__new__" CX FI) (IU : FnOk P w K mg base CX0 1 FI fdU ["self", "version"] (spInit CX "version"))
    (bU : Binds K fdU ["self", "version"] []) : FnZ P w K mg base 3 f (PySem.W.fnOf "entries" "Copy.entries" (defArgs s_Copy_entries) (defBody s_Copy_entries) (defScope s_Copy_entries) .none kV dc pm an cd ct) ["self", "version"] (spZ K CX (spx_Copy_entries C_Copy)) :=
  fnx_of (N := nm_Copy_entries) lk hcd sc_Copy_entries (lenx_Copy_entries C_Copy) (fun A outer s H E hr =>
    xss_here (xs_ifT (dt_not (dt_chain op_le od_le op_lt od_lt de_int (de_var (i := 1) (by rfl) (by exact Or.inl rfl)) (de_len (by rfl) T.b_len (de_fld T.cl_Copy T.n_Copy_tables (de_var (i := 0) (by rfl) (by exact Or.inl rfl))))))
      (xss_one (xs_raise rfl takes_cx base_LookupError xU IU hr.rm bU (by rfl) (da_cons (de_var (i := 1) (by rfl) (by exact Or.inl rfl)) da_nil))) dss_nil)
      (dss_one (ds_ret (de_ix (de_fld T.cl_Copy T.n_Copy_tables (de_var (i := 0) (by rfl) (by exact Or.inl rfl))) (de_var (i := 1) (by rfl) (by exact Or.inl rfl)))))) (px_Copy_entries C_Copy)
theorem sc__law_table : FnScope nm__law_table ["_law_copy", "_law_version"] (defScope s__law_table) := ⟨rfl, rfl, rfl, by decide +kernel, rfl, by decide +kernel, by decide +kernel⟩
theorem d__law_table (T : Txt K mg C_Copy) (m_Copy_entries : MetD P w K mg base 1 C_Copy "entries" (frm (sp_Copy_entries C_Copy)) []) {A : Around} {outer : List Env} {s : Shared} {H : Hp} {cdv : Value} (hr : RoomG 3 (A.deeper (envOfC "_law_table" (defScope s__law_table) s.heap.objs.size f cdv))) : DSs (cxOf CX0 P w K mg base nm__law_table "_law_table" (defScope s__law_table) f cdv A outer s H noE).nox (defBody s__law_table) (tb__law_table C_Copy (frm (sp_Copy_entries C_Copy))) :=
  have nd := sc__law_table.nd
  (dss_one (ds_tryN (dss_one (ds_ret (de_meth m_Copy_entries hr (by decide) (de_var (i := 0) (by rfl) (by exact Or.inl rfl)) (da_cons (de_var (i := 1) (by rfl) (by exact Or.inl rfl)) da_nil))))))
theorem okn__law_table (F : Fun K "_law_table" "_law_table" s__law_table f fd) (T : Txt K mg C_Copy) (m_Copy_entries : MetD P w K mg base 1 C_Copy "entries" (frm (sp_Copy_entries C_Copy)) []) : FnD P w K mg base 4 f fd ["_law_copy", "_law_version"] (spn__law_table C_Copy) :=
  fnd_of F sc__law_table (len_n_law_table C_Copy) (fun _ _ _ _ _ hr => d__law_table T m_Copy_entries hr) (p_n_law_table C_Copy)
theorem okx__law_table {CX FI f1 : Addr} {fd1 : FuncData} {oc : Value} {od an : Option Addr} {kV dc pm cd ct : Value} {sl : Array (Option Value)} (lk : K.lookup f = some ⟨oc, od, .func (PySem.W.fnOf "_law_table" "_law_table" (defArgs s__law_table) (defBody s__law_table) (defScope s__law_table) .none kV dc pm an cd ct), sl⟩)
    (hcd : PySem.W.codeIn K cd "_law_table" = true) (T : Txt K mg C_Copy) (xU : ExcOk K mg "UnknownVersion" "version" [.type "LookupError", .type "Exception", .type "BaseException", .type "object"] "LookupError.__new__" CX FI) (ec : ExcC K CX) (kt1 : PySem.W.kitOne K (.ref CX) (.type "LookupError") = some true) (kt2 : PySem.W.kitOne K (.ref CX) (.type "KeyError") = some false) (me : Meth K C_Copy "entries" f1)
    (Z : FnZ P w K mg base 3 f1 fd1 ["self", "version"] (spZ K CX (spx_Copy_entries C_Copy))) (bZ : Binds K fd1 ["self", "version"] []) :
    FnD P w K mg base 4 f (PySem.W.fnOf "_law_table" "_law_table" (defArgs s__law_table) (defBody s__law_table) (defScope s__law_table) .none kV dc pm an cd ct) ["_law_copy", "_law_version"] (spx__law_table C_Copy) :=
  fnd_ofB (N := nm__law_table) lk hcd sc__law_table (lenx__law_table C_Copy) (fun A outer s H hr =>
    dss_one (ds_tryX rfl rfl sc__law_table.nd rfl rfl ⟨by rfl, by decide, .inl xU.gC⟩ xU.ex (fun W pn xe tk => xss_one (xs_ret (xe_meth T.cl_Copy me Z bZ hr (by decide) tk (de_var (i := 0) (by rfl) (by exact Or.inl rfl)) (da_cons (de_var (i := 1) (by rfl) (by exact Or.inl rfl)) da_nil))))
      (fun a oe cls d pn hz hf => su_retIf hz hf xU.xf xU.nf (PW.pt (pw_and (pt_isX ec hz hf (by rfl) T.b_isinstance (by rfl) T.b_LookupError base_LookupError.bt kt1 rfl (Or.inl rfl)) (pw_and1 (pt_not (pt_isX ec hz hf (by rfl) T.b_isinstance (by rfl) T.b_KeyError base_KeyError.bt kt2 rfl (Or.inl rfl)))))) (fun σ H Q h0 h1 h2 q => tIsX_and h0 h1 h2 q) rfl (Or.inl rfl)))) (px__law_table C_Copy)
theorem sc__law_version_right : FnScope nm__law_version_right ["_law_copy", "_law_versions", "_law_version"] (defScope s__law_version_right) := ⟨rfl, rfl, rfl, by decide +kernel, rfl, by decide +kernel, by decide +kernel⟩
theorem d__law_version_right (T : Txt K mg C_Copy) (c__law_table : CalD P w K mg base 4 "_law_table" (frm (sp__law_table C_Copy)) []) (m_Copy_last_version : MetD P w K mg base 1 C_Copy "last_version" (frm (sp_Copy_last_version C_Copy)) []) {A : Around} {outer : List Env} {s : Shared} {H : Hp} {cdv : Value} (hr : RoomG 4 (A.deeper (envOfC "_law_version_right" (defScope s__law_version_right) s.heap.objs.size f cdv))) : DSs (cxOf CX0 P w K mg base nm__law_version_right "_law_version_right" (defScope s__law_version_right) f cdv A outer s H noE).nox (defBody s__law_version_right) (tb__law_version_right C_Copy (frm (sp__law_table C_Copy)) (frm (sp_Copy_last_version C_Copy))) :=
  have nd := sc__law_version_right.nd
  (dss_cons (ds_set (i := 3) nd (by rfl) (by exact Or.inl rfl) (by exact (de_if (dt_chain op_le od_le op_lt od_lt de_int (de_var (i := 2) (by rfl) (by exact Or.inl rfl)) (de_len (by rfl) T.b_len (de_var (i := 1) (by rfl) (by exact Or.inl rfl)))) (de_ix (de_var (i := 1) (by rfl) (by exact Or.inl rfl)) (de_var (i := 2) (by rfl) (by exact Or.inl rfl))) (de_tup (da_cons de_str (da_cons (de_var (i := 2) (by rfl) (by exact Or.inl rfl)) da_nil))))))
    (dss_one (ds_ret (de_and (de_cmp (op_eqA hr.rm.units) od_eq (de_repr hr (by rfl) T.b_repr (de_call c__law_table hr (by decide) (by rfl) (da_cons (de_var (i := 0) (by rfl) (by exact Or.inl rfl)) (da_cons (de_var (i := 2) (by rfl) (by exact Or.inl rfl)) da_nil)))) (de_repr hr (by rfl) T.b_repr (de_var (i := 3) (by rfl) (by exact Or.inl rfl))) (nomark _)) (de_one (de_cmp (op_eqA hr.rm.units) od_eq (de_meth0 m_Copy_last_version hr (by decide) (de_var (i := 0) (by rfl) (by exact Or.inl rfl))) (de_sub (de_len (by rfl) T.b_len (de_var (i := 1) (by rfl) (by exact Or.inl rfl))) de_int) (nomark _)))))))
theorem ok__law_version_right (F : Fun K "_law_version_right" "_law_version_right" s__law_version_right f fd) (T : Txt K mg C_Copy) (c__law_table : CalD P w K mg base 4 "_law_table" (frm (sp__law_table C_Copy)) []) (m_Copy_last_version : MetD P w K mg base 1 C_Copy "last_version" (frm (sp_Copy_last_version C_Copy)) []) : FnD P w K mg base 5 f fd ["_law_copy", "_law_versions", "_law_version"] (sp__law_version_right C_Copy) :=
  fnd_of F sc__law_version_right (len__law_version_right C_Copy) (fun _ _ _ _ _ hr => d__law_version_right T c__law_table m_Copy_last_version hr) (p__law_version_right C_Copy)
theorem sc_law : FnScope nm_law ["_law_script"] (defScope s_law) := ⟨rfl, rfl, rfl, by decide +kernel, rfl, by decide +kernel, by decide +kernel⟩
theorem d_law (T : Txt K mg C_Copy) (c__law_pen : CalD P w K mg base 1 "_law_pen" (frm sp__law_pen) []) (c__law_small_prime : CalD P w K mg base 4 "_law_small_prime" (frm sp__law_small_prime) []) (c__law_draw : CalD P w K mg base 3 "_law_draw" (frm sp__law_draw) []) (c__law_vector : CalD P w K mg base 4 "_law_vector" (frm sp__law_vector) []) (k_Copy : MakD P w K mg base 1 "Copy" C_Copy (frm (sp_Copy___init__ C_Copy)) []) (c__law_updated : CalD P w K mg base 4 "_law_updated" (frm (sp__law_updated C_Copy)) []) (c__law_version_right : CalD P w K mg base 5 "_law_version_right" (frm (sp__law_version_right C_Copy)) []) (m_Copy___len__ : MetD P w K mg base 1 C_Copy "__len__" (frm (sp_Copy___len__ C_Copy)) []) (m_Copy_last_version : MetD P w K mg base 1 C_Copy "last_version" (frm (sp_Copy_last_version C_Copy)) []) (m_Copy_entries : MetD P w K mg base 1 C_Copy "entries" (frm (sp_Copy_entries C_Copy)) []) {A : Around} {outer : List Env} {s : Shared} {H : Hp} {cdv : Value} (hr : RoomG 5 (A.deeper (envOfC "law" (defScope s_law) s.heap.objs.size f cdv))) : DSs (cxOf CX0 P w K mg base nm_law "law" (defScope s_law) f cdv A outer s H noE).nox (defBody s_law) (tb_law C_Copy (frm sp__law_pen) (frm sp__law_small_prime) (frm sp__law_draw) (frm sp__law_vector) (frm (sp_Copy___init__ C_Copy)) (frm (sp__law_updated C_Copy)) (frm (sp__law_version_right C_Copy)) (frm (sp_Copy___len__ C_Copy)) (frm (sp_Copy_last_version C_Copy)) (frm (sp_Copy_entries C_Copy))) :=
  have nd := sc_law.nd
  (dss_cons (ds_set (i := 1) nd (by rfl) (by exact Or.inl rfl) (de_call c__law_pen hr (by decide) (by rfl) (da_cons (de_var (i := 0) (by rfl) (by exact Or.inl rfl)) da_nil)))
    (dss_cons (ds_for PassesOwn.never (by rfl) (di_rng1 (by rfl) T.b_range (da_cons (de_max2 (by rfl) (by rfl) T.b_max (da_cons de_int (da_cons (de_min2 (by rfl) (by rfl) T.b_min (da_cons de_int (da_cons (de_len (by rfl) T.b_len (de_var (i := 0) (by rfl) (by exact Or.inl rfl))) da_nil))) da_nil))) da_nil)) (pg_name (i := 2) nd (by rfl) (by exact Or.inl rfl)) (dss_cons (ds_par (i := 3) (j := 4) (by rfl) nd (by rfl) (by rfl) (by decide) (by rfl) (by rfl) (da_cons (de_call c__law_small_prime hr (by decide) (by rfl) (da_cons (de_var (i := 1) (by rfl) (by exact Or.inl rfl)) da_nil)) (da_cons (de_add de_int (de_call c__law_draw hr (by decide) (by rfl) (da_cons (de_var (i := 1) (by rfl) (by exact Or.inl rfl)) (da_cons de_int da_nil)))) da_nil)) (by rfl))
    (dss_cons (ds_set (i := 5) nd (by rfl) (by exact Or.inl rfl) (de_call c__law_vector hr (by decide) (by rfl) (da_cons (de_var (i := 1) (by rfl) (by exact Or.inl rfl)) (da_cons (de_var (i := 3) (by rfl) (by exact Or.inl rfl)) (da_cons (de_var (i := 4) (by rfl) (by exact Or.inl rfl)) da_nil)))))
    (dss_cons (ds_par3 (i := 6) (j := 7) (l := 8) (by rfl) nd (by rfl) (by rfl) (by rfl) (by decide) (by decide) (by decide) (by rfl) (by rfl) (by rfl) (da_cons (de_make k_Copy hr (by decide) (by rfl) (da_cons (de_var (i := 5) (by rfl) (by exact Or.inl rfl)) (da_cons (de_var (i := 3) (by rfl) (by exact Or.inl rfl)) da_nil))) (da_cons (de_make k_Copy hr (by decide) (by rfl) (da_cons (de_var (i := 5) (by rfl) (by exact Or.inl rfl)) (da_cons (de_var (i := 3) (by rfl) (by exact Or.inl rfl)) da_nil))) (da_cons (de_lst (da_cons (de_var (i := 5) (by rfl) (by exact Or.inl rfl)) da_nil)) da_nil))) (by rfl))
    (dss_cons (ds_for PassesOwn.never (by rfl) (di_rng1 (by rfl) T.b_range (da_cons (de_call c__law_draw hr (by decide) (by rfl) (da_cons (de_var (i := 1) (by rfl) (by exact Or.inl rfl)) (da_cons de_int da_nil))) da_nil)) (pg_name (i := 9) nd (by rfl) (by exact Or.inl rfl)) (dss_cons (ds_par (i := 10) (j := 11) (by rfl) nd (by rfl) (by rfl) (by decide) (by rfl) (by rfl) (da_cons (de_sub (de_call c__law_draw hr (by decide) (by rfl) (da_cons (de_var (i := 1) (by rfl) (by exact Or.inl rfl)) (da_cons (de_add (de_var (i := 4) (by rfl) (by exact Or.inl rfl)) de_int) da_nil))) de_int) (da_cons (de_call c__law_draw hr (by decide) (by rfl) (da_cons (de_var (i := 1) (by rfl) (by exact Or.inl rfl)) (da_cons (de_var (i := 3) (by rfl) (by exact Or.inl rfl)) da_nil))) da_nil)) (by rfl))
    (dss_cons (ds_set (i := 12) nd (by rfl) (by exact Or.inl rfl) (de_tup (da_cons de_str (da_cons (de_var (i := 10) (by rfl) (by exact Or.inl rfl)) da_nil))))
    (dss_cons (ds_if (dt_chain op_le od_le op_lt od_lt de_int (de_var (i := 10) (by rfl) (by exact Or.inl rfl)) (de_var (i := 4) (by rfl) (by exact Or.inl rfl))) (dss_cons (ds_set (i := 13) nd (by rfl) (by exact Or.inl rfl) (de_ix (de_var (i := 8) (by rfl) (by exact Or.inl rfl)) (de_neg de_int)))
    (dss_cons (ds_expr (de_app (de_var (i := 8) (by rfl) (by exact Or.inl rfl)) (de_add (de_add (de_slice (de_var (i := 13) (by rfl) (by exact Or.inl rfl)) do_none (do_some (de_var (i := 10) (by rfl) (by exact Or.inl rfl)))) (de_tup (da_cons (de_mod (de_add (de_ix (de_var (i := 13) (by rfl) (by exact Or.inl rfl)) (de_var (i := 10) (by rfl) (by exact Or.inl rfl))) (de_var (i := 11) (by rfl) (by exact Or.inl rfl))) (de_var (i := 3) (by rfl) (by exact Or.inl rfl))) da_nil))) (de_slice (de_var (i := 13) (by rfl) (by exact Or.inl rfl)) (do_some (de_add (de_var (i := 10) (by rfl) (by exact Or.inl rfl)) de_int)) do_none))))
    (dss_one (ds_set (i := 12) nd (by rfl) (by exact Or.inl rfl) (de_sub (de_len (by rfl) T.b_len (de_var (i := 8) (by rfl) (by exact Or.inl rfl))) de_int))))) dss_nil)
    (dss_cons (ds_if (dt_cmp (op_neA hr.rm.units) od_ne (de_repr hr (by rfl) T.b_repr (de_call c__law_updated hr (by decide) (by rfl) (da_cons (de_var (i := 6) (by rfl) (by exact Or.inl rfl)) (da_cons (de_var (i := 10) (by rfl) (by exact Or.inl rfl)) (da_cons (de_var (i := 11) (by rfl) (by exact Or.inl rfl)) da_nil))))) (de_repr hr (by rfl) T.b_repr (de_var (i := 12) (by rfl) (by exact Or.inl rfl))) (nomark _)) (dss_one (ds_ret de_bl)) dss_nil)
    (dss_cons (ds_set (i := 14) nd (by rfl) (by exact Or.inl rfl) (de_sub (de_call c__law_draw hr (by decide) (by rfl) (da_cons (de_var (i := 1) (by rfl) (by exact Or.inl rfl)) (da_cons (de_add (de_len (by rfl) T.b_len (de_var (i := 8) (by rfl) (by exact Or.inl rfl))) de_int) da_nil))) de_int))
    (dss_one (ds_if (dw_pt (dw_or (dt_not (dt_tru (de_call c__law_version_right hr (by decide) (by rfl) (da_cons (de_var (i := 6) (by rfl) (by exact Or.inl rfl)) (da_cons (de_var (i := 8) (by rfl) (by exact Or.inl rfl)) (da_cons (de_var (i := 14) (by rfl) (by exact Or.inl rfl)) da_nil)))))) (dw_or1 (dt_cmp (op_neA hr.rm.units) od_ne (de_lenO m_Copy___len__ hr (by decide) (by rfl) T.b_len (de_var (i := 6) (by rfl) (by exact Or.inl rfl))) (de_var (i := 4) (by rfl) (by exact Or.inl rfl)) (nomark _))))) (dss_one (ds_ret de_bl)) dss_nil))))))))
    (dss_cons (ds_set (i := 15) nd (by rfl) (by exact Or.inl rfl) (de_lstRg2 (by rfl) (by rfl) T.b_list (by rfl) T.b_range (de_neg de_int) (de_add (de_len (by rfl) T.b_len (de_var (i := 8) (by rfl) (by exact Or.inl rfl))) de_int)))
    (dss_cons (ds_for PassesOwn.never (by rfl) (di_seq (de_add (de_add (de_var (i := 15) (by rfl) (by exact Or.inl rfl)) (de_revL (de_var (i := 15) (by rfl) (by exact Or.inl rfl)))) (de_slice (de_var (i := 15) (by rfl) (by exact Or.inl rfl)) (do_some de_int) do_none))) (pg_name (i := 14) nd (by rfl) (by exact Or.inl rfl)) (dss_one (ds_if (dt_not (dt_tru (de_call c__law_version_right hr (by decide) (by rfl) (da_cons (de_var (i := 6) (by rfl) (by exact Or.inl rfl)) (da_cons (de_var (i := 8) (by rfl) (by exact Or.inl rfl)) (da_cons (de_var (i := 14) (by rfl) (by exact Or.inl rfl)) da_nil)))))) (dss_one (ds_ret de_bl)) dss_nil)))
    (dss_one (ds_if (dw_pt (dw_or (dt_cmp (op_neA hr.rm.units) od_ne (de_meth0 m_Copy_last_version hr (by decide) (de_var (i := 7) (by rfl) (by exact Or.inl rfl))) de_int (nomark _)) (dw_or1 (dt_cmp (op_neA hr.rm.units) od_ne (de_meth m_Copy_entries hr (by decide) (de_var (i := 7) (by rfl) (by exact Or.inl rfl)) (da_cons de_int da_nil)) (de_var (i := 5) (by rfl) (by exact Or.inl rfl)) (nomark _))))) (dss_one (ds_ret de_bl)) dss_nil)))))))))
    (dss_one (ds_ret de_bl))))
theorem ok_law (F : Fun K "law" "law" s_law f fd) (T : Txt K mg C_Copy) (c__law_pen : CalD P w K mg base 1 "_law_pen" (frm sp__law_pen) []) (c__law_small_prime : CalD P w K mg base 4 "_law_small_prime" (frm sp__law_small_prime) []) (c__law_draw : CalD P w K mg base 3 "_law_draw" (frm sp__law_draw) []) (c__law_vector : CalD P w K mg base 4 "_law_vector" (frm sp__law_vector) []) (k_Copy : MakD P w K mg base 1 "Copy" C_Copy (frm (sp_Copy___init__ C_Copy)) []) (c__law_updated : CalD P w K mg base 4 "_law_updated" (frm (sp__law_updated C_Copy)) []) (c__law_version_right : CalD P w K mg base 5 "_law_version_right" (frm (sp__law_version_right C_Copy)) []) (m_Copy___len__ : MetD P w K mg base 1 C_Copy "__len__" (frm (sp_Copy___len__ C_Copy)) []) (m_Copy_last_version : MetD P w K mg base 1 C_Copy "last_version" (frm (sp_Copy_last_version C_Copy)) []) (m_Copy_entries : MetD P w K mg base 1 C_Copy "entries" (frm (sp_Copy_entries C_Copy)) []) : FnD P w K mg base 6 f fd ["_law_script"] sp_law :=
  fnd_of F sc_law (len_law) (fun _ _ _ _ _ hr => d_law T c__law_pen c__law_small_prime c__law_draw c__law_vector k_Copy c__law_updated c__law_version_right m_Copy___len__ m_Copy_last_version m_Copy_entries hr) (p_law C_Copy)
end
theorem all_mk {l : PySem.W.OpenLaw} {w : World} {K : PySem.W.Frag} {h : Heap} {mg : Str → Option Value} {fa : Addr} (X : K.In h) (G : h.Ns mainGlobals mg) (hfa : mg "law" = some (.ref fa))
    {C_Copy : Addr}
    {od1 an1 : Option Addr} {sl1 : Array (Option Value)} {f1 : Addr} {oc1 kV1 dc1 pm1 cd1 ct1 : Value}
    {od2 an2 : Option Addr} {sl2 : Array (Option Value)} {f2 : Addr} {oc2 kV2 dc2 pm2 cd2 ct2 : Value}
    {od3 an3 : Option Addr} {sl3 : Array (Option Value)} {f3 : Addr} {oc3 kV3 dc3 pm3 cd3 ct3 : Value}
    {od4 an4 : Option Addr} {sl4 : Array (Option Value)} {f4 : Addr} {oc4 kV4 dc4 pm4 cd4 ct4 : Value}
    {od5 an5 : Option Addr} {sl5 : Array (Option Value)} {f5 : Addr} {oc5 kV5 dc5 pm5 cd5 ct5 : Value}
    {od6 an6 : Option Addr} {sl6 : Array (Option Value)} {f6 : Addr} {oc6 kV6 dc6 pm6 cd6 ct6 : Value}
    {od7 an7 : Option Addr} {sl7 : Array (Option Value)} {f7 : Addr} {oc7 kV7 dc7 pm7 cd7 ct7 : Value}
    {od8 an8 : Option Addr} {sl8 : Array (Option Value)} {f8 : Addr} {oc8 kV8 dc8 pm8 cd8 ct8 : Value}
    {od9 an9 : Option Addr} {sl9 : Array (Option Value)} {f9 : Addr} {oc9 kV9 dc9 pm9 cd9 ct9 : Value}
    {od10 an10 : Option Addr} {sl10 : Array (Option Value)} {f10 : Addr} {oc10 kV10 dc10 pm10 cd10 ct10 : Value}
    {od11 an11 : Option Addr} {sl11 : Array (Option Value)} {f11 : Addr} {oc11 kV11 dc11 pm11 cd11 ct11 : Value}
    {od12 an12 : Option Addr} {sl12 : Array (Option Value)} {f12 : Addr} {oc12 kV12 dc12 pm12 cd12 ct12 : Value}
    {od13 an13 : Option Addr} {sl13 : Array (Option Value)} {f13 : Addr} {oc13 kV13 dc13 pm13 cd13 ct13 : Value}
    {od14 an14 : Option Addr} {sl14 : Array (Option Value)} {f14 : Addr} {oc14 kV14 dc14 pm14 cd14 ct14 : Value}
    {od15 an15 : Option Addr} {sl15 : Array (Option Value)} {f15 : Addr} {oc15 kV15 dc15 pm15 cd15 ct15 : Value}
    {CX_UnknownVersion FI_UnknownVersion : Addr} {oc_UnknownVersion : Value} {od_UnknownVersion an_UnknownVersion : Option Addr} {kV_UnknownVersion dc_UnknownVersion pm_UnknownVersion cd_UnknownVersion ct_UnknownVersion : Value} {sl_UnknownVersion : Array (Option Value)}
    {CX_UnknownEntry FI_UnknownEntry : Addr} {oc_UnknownEntry : Value} {od_UnknownEntry an_UnknownEntry : Option Addr} {kV_UnknownEntry dc_UnknownEntry pm_UnknownEntry cd_UnknownEntry ct_UnknownEntry : Value} {sl_UnknownEntry : Array (Option Value)}
    (aC_Copy : PySem.W.nsIn K mainGlobals "Copy" = some (some (.ref C_Copy)))
    (pg_Copy : PySem.W.plainGet K C_Copy Str.empty = true)
    (hd_Copy : PySem.W.hasDictIn K C_Copy = true)
    (po_Copy : PySem.W.plainOver K C_Copy = true)
    (sa_Copy : PySem.W.findIn K (.ref C_Copy) "__setattr__" = some (some (.builtin "object.__setattr__")))
    (mk_Copy : PySem.W.makesIn K C_Copy = true)
    (kc_Copy : PySem.W.keepIn K (.ref C_Copy) = true)
    (nA_Copy_q : PySem.W.findIn K (.ref C_Copy) "q" = some none)
    (nA_Copy_tables : PySem.W.findIn K (.ref C_Copy) "tables" = some none)
    (a1_0 : PySem.W.nsIn K mainGlobals "_law_pen" = some (some (.ref f1)))
    (l1 : K.lookup f1 = some ⟨oc1, od1, .func (PySem.W.fnOf "_law_pen" "_law_pen" (defArgs s__law_pen) (defBody s__law_pen) (defScope s__law_pen) .none kV1 dc1 pm1 an1 cd1 ct1), sl1⟩)
    (c1 : PySem.W.codeIn K cd1 "_law_pen" = true)
    (k1 : PySem.W.keepIn K (.ref f1) = true)
    (a2_0 : PySem.W.nsIn K mainGlobals "_law_prime" = some (some (.ref f2)))
    (l2 : K.lookup f2 = some ⟨oc2, od2, .func (PySem.W.fnOf "_law_prime" "_law_prime" (defArgs s__law_prime) (defBody s__law_prime) (defScope s__law_prime) .none kV2 dc2 pm2 an2 cd2 ct2), sl2⟩)
    (c2 : PySem.W.codeIn K cd2 "_law_prime" = true)
    (k2 : PySem.W.keepIn K (.ref f2) = true)
    (a3_0 : PySem.W.nsIn K mainGlobals "_law_fresh" = some (some (.ref f3)))
    (l3 : K.lookup f3 = some ⟨oc3, od3, .func (PySem.W.fnOf "_law_fresh" "_law_fresh" (defArgs s__law_fresh) (defBody s__law_fresh) (defScope s__law_fresh) .none kV3 dc3 pm3 an3 cd3 ct3), sl3⟩)
    (c3 : PySem.W.codeIn K cd3 "_law_fresh" = true)
    (k3 : PySem.W.keepIn K (.ref f3) = true)
    (a4_0 : PySem.W.nsIn K mainGlobals "_law_draw" = some (some (.ref f4)))
    (l4 : K.lookup f4 = some ⟨oc4, od4, .func (PySem.W.fnOf "_law_draw" "_law_draw" (defArgs s__law_draw) (defBody s__law_draw) (defScope s__law_draw) .none kV4 dc4 pm4 an4 cd4 ct4), sl4⟩)
    (c4 : PySem.W.codeIn K cd4 "_law_draw" = true)
    (k4 : PySem.W.keepIn K (.ref f4) = true)
    (a5_0 : PySem.W.nsIn K mainGlobals "_law_small_prime" = some (some (.ref f5)))
    (l5 : K.lookup f5 = some ⟨oc5, od5, .func (PySem.W.fnOf "_law_small_prime" "_law_small_prime" (defArgs s__law_small_prime) (defBody s__law_small_prime) (defScope s__law_small_prime) .none kV5 dc5 pm5 an5 cd5 ct5), sl5⟩)
    (c5 : PySem.W.codeIn K cd5 "_law_small_prime" = true)
    (k5 : PySem.W.keepIn K (.ref f5) = true)
    (a6_0 : PySem.W.nsIn K mainGlobals "_law_vector" = some (some (.ref f6)))
    (l6 : K.lookup f6 = some ⟨oc6, od6, .func (PySem.W.fnOf "_law_vector" "_law_vector" (defArgs s__law_vector) (defBody s__law_vector) (defScope s__law_vector) .none kV6 dc6 pm6 an6 cd6 ct6), sl6⟩)
    (c6 : PySem.W.codeIn K cd6 "_law_vector" = true)
    (k6 : PySem.W.keepIn K (.ref f6) = true)
    (a7_0 : PySem.W.findIn K (.ref C_Copy) "__init__" = some (some (.ref f7))) (i7 : PySem.W.isFn K (.ref f7) = true)
    (l7 : K.lookup f7 = some ⟨oc7, od7, .func (PySem.W.fnOf "__init__" "Copy.__init__" (defArgs s_Copy___init__) (defBody s_Copy___init__) (defScope s_Copy___init__) .none kV7 dc7 pm7 an7 cd7 ct7), sl7⟩)
    (c7 : PySem.W.codeIn K cd7 "Copy.__init__" = true)
    (k7 : PySem.W.keepIn K (.ref f7) = true)
    (a8_0 : PySem.W.findIn K (.ref C_Copy) "__len__" = some (some (.ref f8))) (i8 : PySem.W.isFn K (.ref f8) = true)
    (l8 : K.lookup f8 = some ⟨oc8, od8, .func (PySem.W.fnOf "__len__" "Copy.__len__" (defArgs s_Copy___len__) (defBody s_Copy___len__) (defScope s_Copy___len__) .none kV8 dc8 pm8 an8 cd8 ct8), sl8⟩)
    (c8 : PySem.W.codeIn K cd8 "Copy.__len__" = true)
    (k8 : PySem.W.keepIn K (.ref f8) = true)
    (a9_0 : PySem.W.findIn K (.ref C_Copy) "last_version" = some (some (.ref f9))) (i9 : PySem.W.isFn K (.ref f9) = true)
    (l9 : K.lookup f9 = some ⟨oc9, od9, .func (PySem.W.fnOf "last_version" "Copy.last_version" (defArgs s_Copy_last_version) (defBody s_Copy_last_version) (defScope s_Copy_last_version) .none kV9 dc9 pm9 an9 cd9 ct9), sl9⟩)
    (c9 : PySem.W.codeIn K cd9 "Copy.last_version" = true)
    (k9 : PySem.W.keepIn K (.ref f9) = true)
    (a10_0 : PySem.W.findIn K (.ref C_Copy) "update" = some (some (.ref f10))) (i10 : PySem.W.isFn K (.ref f10) = true)
    (l10 : K.lookup f10 = some ⟨oc10, od10, .func (PySem.W.fnOf "update" "Copy.update" (defArgs s_Copy_update) (defBody s_Copy_update) (defScope s_Copy_update) .none kV10 dc10 pm10 an10 cd10 ct10), sl10⟩)
    (c10 : PySem.W.codeIn K cd10 "Copy.update" = true)
    (k10 : PySem.W.keepIn K (.ref f10) = true)
    (a11_0 : PySem.W.nsIn K mainGlobals "_law_updated" = some (some (.ref f11)))
    (l11 : K.lookup f11 = some ⟨oc11, od11, .func (PySem.W.fnOf "_law_updated" "_law_updated" (defArgs s__law_updated) (defBody s__law_updated) (defScope s__law_updated) .none kV11 dc11 pm11 an11 cd11 ct11), sl11⟩)
    (c11 : PySem.W.codeIn K cd11 "_law_updated" = true)
    (k11 : PySem.W.keepIn K (.ref f11) = true)
    (a12_0 : PySem.W.findIn K (.ref C_Copy) "entries" = some (some (.ref f12))) (i12 : PySem.W.isFn K (.ref f12) = true)
    (l12 : K.lookup f12 = some ⟨oc12, od12, .func (PySem.W.fnOf "entries" "Copy.entries" (defArgs s_Copy_entries) (defBody s_Copy_entries) (defScope s_Copy_entries) .none kV12 dc12 pm12 an12 cd12 ct12), sl12⟩)
    (c12 : PySem.W.codeIn K cd12 "Copy.entries" = true)
    (k12 : PySem.W.keepIn K (.ref f12) = true)
    (a13_0 : PySem.W.nsIn K mainGlobals "_law_table" = some (some (.ref f13)))
    (l13 : K.lookup f13 = some ⟨oc13, od13, .func (PySem.W.fnOf "_law_table" "_law_table" (defArgs s__law_table) (defBody s__law_table) (defScope s__law_table) .none kV13 dc13 pm13 an13 cd13 ct13), sl13⟩)
    (c13 : PySem.W.codeIn K cd13 "_law_table" = true)
    (k13 : PySem.W.keepIn K (.ref f13) = true)
    (a14_0 : PySem.W.nsIn K mainGlobals "_law_version_right" = some (some (.ref f14)))
    (l14 : K.lookup f14 = some ⟨oc14, od14, .func (PySem.W.fnOf "_law_version_right" "_law_version_right" (defArgs s__law_version_right) (defBody s__law_version_right) (defScope s__law_version_right) .none kV14 dc14 pm14 an14 cd14 ct14), sl14⟩)
    (c14 : PySem.W.codeIn K cd14 "_law_version_right" = true)
    (k14 : PySem.W.keepIn K (.ref f14) = true)
    (a15_0 : PySem.W.nsIn K mainGlobals "law" = some (some (.ref f15)))
    (l15 : K.lookup f15 = some ⟨oc15, od15, .func (PySem.W.fnOf "law" "law" (defArgs s_law) (defBody s_law) (defScope s_law) .none kV15 dc15 pm15 an15 cd15 ct15), sl15⟩)
    (c15 : PySem.W.codeIn K cd15 "law" = true)
    (k15 : PySem.W.keepIn K (.ref f15) = true)
    (x_UnknownVersion : ExcOk K mg "UnknownVersion" "version" [.type "LookupError", .type "Exception", .type "BaseException", .type "object"] "LookupError.__new__" CX_UnknownVersion FI_UnknownVersion)
    (l_UnknownVersion : K.lookup FI_UnknownVersion = some ⟨oc_UnknownVersion, od_UnknownVersion, .func (PySem.W.fnOf "__init__" "UnknownVersion.__init__" (defArgs s_UnknownVersion___init__) (defBody s_UnknownVersion___init__) (defScope s_UnknownVersion___init__) .none kV_UnknownVersion dc_UnknownVersion pm_UnknownVersion an_UnknownVersion cd_UnknownVersion ct_UnknownVersion), sl_UnknownVersion⟩)
    (c_UnknownVersion : PySem.W.codeIn K cd_UnknownVersion "UnknownVersion.__init__" = true)
    (k_UnknownVersion : PySem.W.keepIn K (.ref FI_UnknownVersion) = true)
    (ec_UnknownVersion : ExcC K CX_UnknownVersion)
    (kt_UnknownVersion_LookupError : PySem.W.kitOne K (.ref CX_UnknownVersion) (.type "LookupError") = some true)
    (kt_UnknownVersion_KeyError : PySem.W.kitOne K (.ref CX_UnknownVersion) (.type "KeyError") = some false)
    (x_UnknownEntry : ExcOk K mg "UnknownEntry" "entry" [.type "KeyError", .type "LookupError", .type "Exception", .type "BaseException", .type "object"] "LookupError.__new__" CX_UnknownEntry FI_UnknownEntry)
    (l_UnknownEntry : K.lookup FI_UnknownEntry = some ⟨oc_UnknownEntry, od_UnknownEntry, .func (PySem.W.fnOf "__init__" "UnknownEntry.__init__" (defArgs s_UnknownEntry___init__) (defBody s_UnknownEntry___init__) (defScope s_UnknownEntry___init__) .none kV_UnknownEntry dc_UnknownEntry pm_UnknownEntry an_UnknownEntry cd_UnknownEntry ct_UnknownEntry), sl_UnknownEntry⟩)
    (c_UnknownEntry : PySem.W.codeIn K cd_UnknownEntry "UnknownEntry.__init__" = true)
    (k_UnknownEntry : PySem.W.keepIn K (.ref FI_UnknownEntry) = true)
    (ec_UnknownEntry : ExcC K CX_UnknownEntry)
    (kt_UnknownEntry_KeyError : PySem.W.kitOne K (.ref CX_UnknownEntry) (.type "KeyError") = some true)
    (z_KeyError : PySem.W.nsIn K mainGlobals "KeyError" = some none)
    (z_LookupError : PySem.W.nsIn K mainGlobals "LookupError" = some none)
    (z_isinstance : PySem.W.nsIn K mainGlobals "isinstance" = some none)
    (z_len : PySem.W.nsIn K mainGlobals "len" = some none)
    (z_list : PySem.W.nsIn K mainGlobals "list" = some none)
    (z_max : PySem.W.nsIn K mainGlobals "max" = some none)
    (z_min : PySem.W.nsIn K mainGlobals "min" = some none)
    (z_range : PySem.W.nsIn K mainGlobals "range" = some none)
    (z_repr : PySem.W.nsIn K mainGlobals "repr" = some none)
    (z_tuple : PySem.W.nsIn K mainGlobals "tuple" = some none) :
    ∃ fd : FuncData, (∀ (s : Shared) (v : Value), BindsTo s fd ⟨[v], []⟩ [("_law_script", v)]) ∧ ∀ base : Heap, K.In base → base.Ns mainGlobals mg → FnD l.prog w K mg base 6 fa fd ["_law_script"] sp_law := by
  have e := hfa.symm.trans (PySem.W.mg_of X G a15_0)
  cases e
  have T : Txt K mg C_Copy := ⟨⟨pg_Copy, hd_Copy, po_Copy, sa_Copy⟩, nA_Copy_q, nA_Copy_tables, PySem.W.mg_none_of X G z_KeyError, PySem.W.mg_none_of X G z_LookupError, PySem.W.mg_none_of X G z_isinstance, PySem.W.mg_none_of X G z_len, PySem.W.mg_none_of X G z_list, PySem.W.mg_none_of X G z_max, PySem.W.mg_none_of X G z_min, PySem.W.mg_none_of X G z_range, PySem.W.mg_none_of X G z_repr, PySem.W.mg_none_of X G z_tuple⟩
  have F1 := fun_mk (st := s__law_pen) l1 c1 k1
  have b1 := F1.binds (ps := ["_law_script"]) fun _ _ _ _ _ _ us hl => match us, hl with | [_], _ => rfl
  have F2 := fun_mk (st := s__law_prime) l2 c2 k2
  have b2 := F2.binds (ps := ["_law_at"]) fun _ _ _ _ _ _ us hl => match us, hl with | [_], _ => rfl
  have F3 := fun_mk (st := s__law_fresh) l3 c3 k3
  have b3 := F3.binds (ps := ["_law_pen_here"]) fun _ _ _ _ _ _ us hl => match us, hl with | [_], _ => rfl
  have F4 := fun_mk (st := s__law_draw) l4 c4 k4
  have b4 := F4.binds (ps := ["_law_pen_here", "_law_many"]) fun _ _ _ _ _ _ us hl => match us, hl with | [_, _], _ => rfl
  have F5 := fun_mk (st := s__law_small_prime) l5 c5 k5
  have b5 := F5.binds (ps := ["_law_pen_here"]) fun _ _ _ _ _ _ us hl => match us, hl with | [_], _ => rfl
  have F6 := fun_mk (st := s__law_vector) l6 c6 k6
  have b6 := F6.binds (ps := ["_law_pen_here", "_law_q", "_law_count"]) fun _ _ _ _ _ _ us hl => match us, hl with | [_, _, _], _ => rfl
  have F7 := fun_mk (st := s_Copy___init__) l7 c7 k7
  have b7 := F7.binds (ps := ["self", "table", "q"]) fun _ _ _ _ _ _ us hl => match us, hl with | [_, _, _], _ => rfl
  have F8 := fun_mk (st := s_Copy___len__) l8 c8 k8
  have b8 := F8.binds (ps := ["self"]) fun _ _ _ _ _ _ us hl => match us, hl with | [_], _ => rfl
  have F9 := fun_mk (st := s_Copy_last_version) l9 c9 k9
  have b9 := F9.binds (ps := ["self"]) fun _ _ _ _ _ _ us hl => match us, hl with | [_], _ => rfl
  have F10 := fun_mk (st := s_Copy_update) l10 c10 k10
  have b10 := F10.binds (ps := ["self", "entry", "amount"]) fun _ _ _ _ _ _ us hl => match us, hl with | [_, _, _], _ => rfl
  have F11 := fun_mk (st := s__law_updated) l11 c11 k11
  have b11 := F11.binds (ps := ["_law_copy", "_law_entry", "_law_amount"]) fun _ _ _ _ _ _ us hl => match us, hl with | [_, _, _], _ => rfl
  have F12 := fun_mk (st := s_Copy_entries) l12 c12 k12
  have b12 := F12.binds (ps := ["self", "version"]) fun _ _ _ _ _ _ us hl => match us, hl with | [_, _], _ => rfl
  have F13 := fun_mk (st := s__law_table) l13 c13 k13
  have b13 := F13.binds (ps := ["_law_copy", "_law_version"]) fun _ _ _ _ _ _ us hl => match us, hl with | [_, _], _ => rfl
  have F14 := fun_mk (st := s__law_version_right) l14 c14 k14
  have b14 := F14.binds (ps := ["_law_copy", "_law_versions", "_law_version"]) fun _ _ _ _ _ _ us hl => match us, hl with | [_, _, _], _ => rfl
  have F15 := fun_mk (st := s_law) l15 c15 k15
  have F_UnknownVersion := fun_mk (st := s_UnknownVersion___init__) l_UnknownVersion c_UnknownVersion k_UnknownVersion
  have b_UnknownVersion := F_UnknownVersion.binds (ps := ["self", "version"]) fun _ _ _ _ _ _ us hl => match us, hl with | [_, _], _ => rfl
  have F_UnknownEntry := fun_mk (st := s_UnknownEntry___init__) l_UnknownEntry c_UnknownEntry k_UnknownEntry
  have b_UnknownEntry := F_UnknownEntry.binds (ps := ["self", "entry"]) fun _ _ _ _ _ _ us hl => match us, hl with | [_, _], _ => rfl
  refine ⟨PySem.W.fnOf "law" "law" (defArgs s_law) (defBody s_law) (defScope s_law) .none kV15 dc15 pm15 an15 cd15 ct15, fun s v => .of_eq rfl, fun base _ _ => ?_⟩
  have I_UnknownVersion := okI_UnknownVersion (P := l.prog) (w := w) (base := base) l_UnknownVersion c_UnknownVersion T.b_LookupError x_UnknownVersion
  have I_UnknownEntry := okI_UnknownEntry (P := l.prog) (w := w) (base := base) l_UnknownEntry c_UnknownEntry T.b_KeyError x_UnknownEntry
  have G1 := (ok__law_pen (P := l.prog) (w := w) (base := base) F1 T).frame
  have g1_0 : CalD l.prog w K mg base 1 "_law_pen" (frm sp__law_pen) [] := .of G1 (PySem.W.mg_of X G a1_0) k1 b1
  have G2 := (ok__law_prime (P := l.prog) (w := w) (base := base) F2 T).frame
  have g2_0 : CalD l.prog w K mg base 1 "_law_prime" (frm sp__law_prime) [] := .of G2 (PySem.W.mg_of X G a2_0) k2 b2
  have G3 := (ok__law_fresh (P := l.prog) (w := w) (base := base) F3 T g2_0).frame
  have g3_0 : CalD l.prog w K mg base 2 "_law_fresh" (frm sp__law_fresh) [] := .of G3 (PySem.W.mg_of X G a3_0) k3 b3
  have G4 := (ok__law_draw (P := l.prog) (w := w) (base := base) F4 T g3_0).frame
  have g4_0 : CalD l.prog w K mg base 3 "_law_draw" (frm sp__law_draw) [] := .of G4 (PySem.W.mg_of X G a4_0) k4 b4
  have G5 := (ok__law_small_prime (P := l.prog) (w := w) (base := base) F5 T g4_0).frame
  have g5_0 : CalD l.prog w K mg base 4 "_law_small_prime" (frm sp__law_small_prime) [] := .of G5 (PySem.W.mg_of X G a5_0) k5 b5
  have G6 := (ok__law_vector (P := l.prog) (w := w) (base := base) F6 T g4_0).frame
  have g6_0 : CalD l.prog w K mg base 4 "_law_vector" (frm sp__law_vector) [] := .of G6 (PySem.W.mg_of X G a6_0) k6 b6
  have G7 := (ok_Copy___init__ (P := l.prog) (w := w) (base := base) F7 T).frame
  have gk7 : MakD l.prog w K mg base 1 "Copy" C_Copy (frm (sp_Copy___init__ C_Copy)) [] := ⟨_, _, _, [], [], ⟨mk_Copy, a7_0, i7, kc_Copy⟩, G7, PySem.W.mg_of X G aC_Copy, b7, .nil, fun _ => .nil⟩
  have G8 := (ok_Copy___len__ (P := l.prog) (w := w) (base := base) F8 T).frame
  have gm8 : MetD l.prog w K mg base 1 C_Copy "__len__" (frm (sp_Copy___len__ C_Copy)) [] := ⟨_, _, _, [], [], T.cl_Copy, ⟨a8_0, i8, k8⟩, G8, b8, .nil, fun _ => .nil⟩
  have G9 := (ok_Copy_last_version (P := l.prog) (w := w) (base := base) F9 T).frame
  have gm9 : MetD l.prog w K mg base 1 C_Copy "last_version" (frm (sp_Copy_last_version C_Copy)) [] := ⟨_, _, _, [], [], T.cl_Copy, ⟨a9_0, i9, k9⟩, G9, b9, .nil, fun _ => .nil⟩
  have G10 := (ok_Copy_update (P := l.prog) (w := w) (base := base) F10 T gm8 gm9).frame
  have gm10 : MetD l.prog w K mg base 3 C_Copy "update" (frm (sp_Copy_update C_Copy)) [] := ⟨_, _, _, [], [], T.cl_Copy, ⟨a10_0, i10, k10⟩, G10, b10, .nil, fun _ => .nil⟩
  have Z1 := okx_Copy_update (P := l.prog) (w := w) (base := base) l10 c10 T gm8 gm9 x_UnknownEntry I_UnknownEntry b_UnknownEntry
  have G11 : FnD l.prog w K mg base 4 f11 _ ["_law_copy", "_law_entry", "_law_amount"] (frm (sp__law_updated C_Copy)) := (FnD.or (okn__law_updated (P := l.prog) (w := w) (base := base) F11 T gm10) (okx__law_updated (P := l.prog) (w := w) (base := base) l11 c11 T x_UnknownEntry ec_UnknownEntry kt_UnknownEntry_KeyError ⟨a10_0, i10, k10⟩ Z1 b10)).frame
  have g11_0 : CalD l.prog w K mg base 4 "_law_updated" (frm (sp__law_updated C_Copy)) [] := .of G11 (PySem.W.mg_of X G a11_0) k11 b11
  have G12 := (ok_Copy_entries (P := l.prog) (w := w) (base := base) F12 T).frame
  have gm12 : MetD l.prog w K mg base 1 C_Copy "entries" (frm (sp_Copy_entries C_Copy)) [] := ⟨_, _, _, [], [], T.cl_Copy, ⟨a12_0, i12, k12⟩, G12, b12, .nil, fun _ => .nil⟩
  have Z2 := okx_Copy_entries (P := l.prog) (w := w) (base := base) l12 c12 T x_UnknownVersion I_UnknownVersion b_UnknownVersion
  have G13 : FnD l.prog w K mg base 4 f13 _ ["_law_copy", "_law_version"] (frm (sp__law_table C_Copy)) := (FnD.or (okn__law_table (P := l.prog) (w := w) (base := base) F13 T gm12) (okx__law_table (P := l.prog) (w := w) (base := base) l13 c13 T x_UnknownVersion ec_UnknownVersion kt_UnknownVersion_LookupError kt_UnknownVersion_KeyError ⟨a12_0, i12, k12⟩ Z2 b12)).frame
  have g13_0 : CalD l.prog w K mg base 4 "_law_table" (frm (sp__law_table C_Copy)) [] := .of G13 (PySem.W.mg_of X G a13_0) k13 b13
  have G14 := (ok__law_version_right (P := l.prog) (w := w) (base := base) F14 T g13_0 gm9).frame
  have g14_0 : CalD l.prog w K mg base 5 "_law_version_right" (frm (sp__law_version_right C_Copy)) [] := .of G14 (PySem.W.mg_of X G a14_0) k14 b14
  exact ok_law F15 T g1_0 g5_0 g4_0 g6_0 gk7 g11_0 g14_0 gm8 gm9 gm12
theorem all_he {l : PySem.W.OpenLaw} {w : World} {K : PySem.W.Frag} {h : Heap} {mg : Str → Option Value} {fa : Addr} (X : K.In h) (G : h.Ns mainGlobals mg) (hfa : mg "law" = some (.ref fa)) (c0 : SaysX hAl hBs hFa hFn K) :
    ∃ fd : FuncData, (∀ (s : Shared) (v : Value), BindsTo s fd ⟨[v], []⟩ [("_law_script", v)]) ∧ ∀ base : Heap, K.In base → base.Ns mainGlobals mg → FnD l.prog w K mg base 6 fa fd ["_law_script"] sp_law := by
  have c := c0.says
  obtain ⟨oc1, od1, kV1, dc1, pm1, an1, cd1, ct1, sl1, l1, c1, k1⟩ := def_raw c 0 (d := hd1) rfl rfl
  obtain ⟨oc2, od2, kV2, dc2, pm2, an2, cd2, ct2, sl2, l2, c2, k2⟩ := def_raw c 1 (d := hd2) rfl rfl
  obtain ⟨oc3, od3, kV3, dc3, pm3, an3, cd3, ct3, sl3, l3, c3, k3⟩ := def_raw c 2 (d := hd3) rfl rfl
  obtain ⟨oc4, od4, kV4, dc4, pm4, an4, cd4, ct4, sl4, l4, c4, k4⟩ := def_raw c 3 (d := hd4) rfl rfl
  obtain ⟨oc5, od5, kV5, dc5, pm5, an5, cd5, ct5, sl5, l5, c5, k5⟩ := def_raw c 4 (d := hd5) rfl rfl
  obtain ⟨oc6, od6, kV6, dc6, pm6, an6, cd6, ct6, sl6, l6, c6, k6⟩ := def_raw c 5 (d := hd6) rfl rfl
  obtain ⟨oc7, od7, kV7, dc7, pm7, an7, cd7, ct7, sl7, l7, c7, k7⟩ := def_raw c 6 (d := hd7) rfl rfl
  obtain ⟨oc8, od8, kV8, dc8, pm8, an8, cd8, ct8, sl8, l8, c8, k8⟩ := def_raw c 7 (d := hd8) rfl rfl
  obtain ⟨oc9, od9, kV9, dc9, pm9, an9, cd9, ct9, sl9, l9, c9, k9⟩ := def_raw c 8 (d := hd9) rfl rfl
  obtain ⟨oc10, od10, kV10, dc10, pm10, an10, cd10, ct10, sl10, l10, c10, k10⟩ := def_raw c 9 (d := hd10) rfl rfl
  obtain ⟨oc11, od11, kV11, dc11, pm11, an11, cd11, ct11, sl11, l11, c11, k11⟩ := def_raw c 10 (d := hd11) rfl rfl
  obtain ⟨oc12, od12, kV12, dc12, pm12, an12, cd12, ct12, sl12, l12, c12, k12⟩ := def_raw c 11 (d := hd12) rfl rfl
  obtain ⟨oc13, od13, kV13, dc13, pm13, an13, cd13, ct13, sl13, l13, c13, k13⟩ := def_raw c 12 (d := hd13) rfl rfl
  obtain ⟨oc14, od14, kV14, dc14, pm14, an14, cd14, ct14, sl14, l14, c14, k14⟩ := def_raw c 13 (d := hd14) rfl rfl
  obtain ⟨oc15, od15, kV15, dc15, pm15, an15, cd15, ct15, sl15, l15, c15, k15⟩ := def_raw c 14 (d := hd15) rfl rfl
  obtain ⟨oc_UnknownVersion, od_UnknownVersion, kV_UnknownVersion, dc_UnknownVersion, pm_UnknownVersion, an_UnknownVersion, cd_UnknownVersion, ct_UnknownVersion, sl_UnknownVersion, l_UnknownVersion, c_UnknownVersion, k_UnknownVersion⟩ := def_raw c 15 (d := hd16) rfl rfl
  obtain ⟨oc_UnknownEntry, od_UnknownEntry, kV_UnknownEntry, dc_UnknownEntry, pm_UnknownEntry, an_UnknownEntry, cd_UnknownEntry, ct_UnknownEntry, sl_UnknownEntry, l_UnknownEntry, c_UnknownEntry, k_UnknownEntry⟩ := def_raw c 16 (d := hd17) rfl rfl
  exact all_mk X G hfa (He.eqO_ok (c.fact 0 (f := .glo "Copy") rfl)) (He.cls_ok (c.fact 3 (f := .cls "Copy") rfl)).pg (He.cls_ok (c.fact 3 (f := .cls "Copy") rfl)).hd (He.cls_ok (c.fact 3 (f := .cls "Copy") rfl)).po (He.cls_ok (c.fact 3 (f := .cls "Copy") rfl)).sa (He.mkr_ok (c.fact 2 (f := .mkr "Copy") rfl)).makes (He.keep_ok (c.fact 1 (f := .keep "Copy") rfl)) (He.noat_ok (c.fact 4 (f := .noat "Copy" "q") rfl)) (He.noat_ok (c.fact 5 (f := .noat "Copy" "tables") rfl)) (He.eqO_ok (c.fact 6 (f := .glo "_law_pen") rfl)) l1 c1 k1 (He.eqO_ok (c.fact 7 (f := .glo "_law_prime") rfl)) l2 c2 k2 (He.eqO_ok (c.fact 8 (f := .glo "_law_fresh") rfl)) l3 c3 k3 (He.eqO_ok (c.fact 9 (f := .glo "_law_draw") rfl)) l4 c4 k4 (He.eqO_ok (c.fact 10 (f := .glo "_law_small_prime") rfl)) l5 c5 k5 (He.eqO_ok (c.fact 11 (f := .glo "_law_vector") rfl)) l6 c6 k6 (He.meth_ok (c.fact 12 (f := .meth "Copy" "__init__") rfl)).at_ (He.meth_ok (c.fact 12 (f := .meth "Copy" "__init__") rfl)).fn l7 c7 k7 (He.meth_ok (c.fact 13 (f := .meth "Copy" "__len__") rfl)).at_ (He.meth_ok (c.fact 13 (f := .meth "Copy" "__len__") rfl)).fn l8 c8 k8 (He.meth_ok (c.fact 14 (f := .meth "Copy" "last_version") rfl)).at_ (He.meth_ok (c.fact 14 (f := .meth "Copy" "last_version") rfl)).fn l9 c9 k9 (He.meth_ok (c.fact 15 (f := .meth "Copy" "update") rfl)).at_ (He.meth_ok (c.fact 15 (f := .meth "Copy" "update") rfl)).fn l10 c10 k10 (He.eqO_ok (c.fact 16 (f := .glo "_law_updated") rfl)) l11 c11 k11 (He.meth_ok (c.fact 17 (f := .meth "Copy" "entries") rfl)).at_ (He.meth_ok (c.fact 17 (f := .meth "Copy" "entries") rfl)).fn l12 c12 k12 (He.eqO_ok (c.fact 18 (f := .glo "_law_table") rfl)) l13 c13 k13 (He.eqO_ok (c.fact 19 (f := .glo "_law_version_right") rfl)) l14 c14 k14 (He.eqO_ok (c.fact 20 (f := .glo "law") rfl)) l15 c15 k15 ⟨He.glo_ok X G (c.fact 22 (f := .glo "UnknownVersion") rfl), oxB_ok (c0.more 0 (b := oxB [.type "LookupError", .type "Exception", .type "BaseException", .type "object"] "LookupError.__new__" "UnknownVersion") rfl), (He.meth_ok (c.fact 21 (f := .meth "UnknownVersion" "__init__") rfl)).at_, of_decide_eq_true (show tyFnB "UnknownVersion" K = true from (c0.more 1 (b := tyFnB "UnknownVersion") rfl)), He.noat_ok (c.fact 23 (f := .noat "UnknownVersion" "version") rfl), xfB_ok (show xfBx "UnknownVersion" K = true from (c0.more 2 (b := xfBx "UnknownVersion") rfl)), He.exm_ok (c.fact 24 (f := .exm "UnknownVersion" "UnknownVersion" true) rfl)⟩ l_UnknownVersion c_UnknownVersion k_UnknownVersion (exC_ok (c0.more 3 (b := exC_B "UnknownVersion") rfl)) (of_decide_eq_true (show kitB "UnknownVersion" "LookupError" true K = true from (c0.more 4 (b := kitB "UnknownVersion" "LookupError" true) rfl))) (of_decide_eq_true (show kitB "UnknownVersion" "KeyError" false K = true from (c0.more 5 (b := kitB "UnknownVersion" "KeyError" false) rfl))) ⟨He.glo_ok X G (c.fact 26 (f := .glo "UnknownEntry") rfl), oxB_ok (c0.more 6 (b := oxB [.type "KeyError", .type "LookupError", .type "Exception", .type "BaseException", .type "object"] "LookupError.__new__" "UnknownEntry") rfl), (He.meth_ok (c.fact 25 (f := .meth "UnknownEntry" "__init__") rfl)).at_, of_decide_eq_true (show tyFnB "UnknownEntry" K = true from (c0.more 7 (b := tyFnB "UnknownEntry") rfl)), He.noat_ok (c.fact 27 (f := .noat "UnknownEntry" "entry") rfl), xfB_ok (show xfBx "UnknownEntry" K = true from (c0.more 8 (b := xfBx "UnknownEntry") rfl)), He.exm_ok (c.fact 28 (f := .exm "UnknownEntry" "UnknownEntry" true) rfl)⟩ l_UnknownEntry c_UnknownEntry k_UnknownEntry (exC_ok (c0.more 9 (b := exC_B "UnknownEntry") rfl)) (of_decide_eq_true (show kitB "UnknownEntry" "KeyError" true K = true from (c0.more 10 (b := kitB "UnknownEntry" "KeyError" true) rfl))) (He.eqO_ok (c.fact 29 (f := .free "KeyError") rfl)) (He.eqO_ok (c.fact 30 (f := .free "LookupError") rfl)) (He.eqO_ok (c.fact 31 (f := .free "isinstance") rfl)) (He.eqO_ok (c.fact 32 (f := .free "len") rfl)) (He.eqO_ok (c.fact 33 (f := .free "list") rfl)) (He.eqO_ok (c.fact 34 (f := .free "max") rfl)) (He.eqO_ok (c.fact 35 (f := .free "min") rfl)) (He.eqO_ok (c.fact 36 (f := .free "range") rfl)) (He.eqO_ok (c.fact 37 (f := .free "repr") rfl)) (He.eqO_ok (c.fact 38 (f := .free "tuple") rfl))
theorem walk {q : Program} {loose : List Str} {XP : (Str → Option Value) → Heap → Prop} {d : DefRec} (hdf : d.params.defaults = []) (hdn : d.name = "law") :
    PySem.W.WalkO q loose XP hK.says hR.toRowW d [] (fun f vs => PySem.call f vs) := by
  refine walk_ofDE (l := PySem.Challenge.rw_quietlookup_k25_copies_and_versions) (n := 63) (k := 6) (x := "_law_script") rfl (by decide) hdf roomG ?_ fun ns hl => law_start ns hl
  intro w mg fa h Y G hmg
  obtain ⟨K, KX, c⟩ := Y
  rw [hdn] at hmg
  obtain ⟨fd, hb, hF⟩ := all_he KX G hmg c
  exact ⟨K, fd, KX, hb, hF⟩
end QL
end L2
open PySem PySem.W PyProof.Rows
set_option maxRecDepth 100000 in
set_option maxHeartbeats 0 in
theorem PySem.Challenge.cw_quietlookup_k25_copies_and_versions_holds : PySem.Challenge.rw_quietlookup_k25_copies_and_versions.Holds := by
  w_on; o_law
  refine HandSHeadRun.head_any (r := OpenLaw.row PySem.Challenge.rw_quietlookup_k25_copies_and_versions) (q := view (OpenLaw.row PySem.Challenge.rw_quietlookup_k25_copies_and_versions).prog [16]) (H := L2.QL.hK) (ob := L2.QL.hOb) (M := 20000) (loose := L2.QL.hNames) (d := HandSHeadRun.topDef (OpenLaw.row PySem.Challenge.rw_quietlookup_k25_copies_and_versions).prog 16) (kwd := []) L2.QL.hOb_eq
    (by kernel_rfl) (fun s => by kernel_rfl) L2.QL.hRun (by kernel_rfl) (by kernel_rfl) (by kernel_rfl) (by rfl) (by first | assumption | decide +kernel) (by decide +kernel) ⟨rfl, rfl, rfl, rfl, rfl, by decide +kernel⟩ ?hw ?hc
  case hw => w_witness2
  case hc => exact L2.QL.walk (by kernel_rfl) (by kernel_rfl)
