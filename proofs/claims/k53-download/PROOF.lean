import PyProof.Rows.All
import Wide.All
import OpenK.AllK
import Wide.FinOn
import HandS.ForMost
import HandS.TupAny
import HandS.Wide
import KE.GoesEnumKw
import HandS.Words
import HandS.Ends
import HandS.Codes
import HandS.SortInts
import HandS.IsInst
import KE.KTupSum
import HandS.WordsDict
import HandS.RaiseMore
import PyProof.ReprRoads
import HandS.Deep
import HandS.Style
import HandS.TupMul
import HandS.SetFor
import HandS.TupSets
import HandS.Keys
import HandS.Defaults
import HandS.MakeKwOnly
import HandS.SlotsOwn
import HandS.OwnEq
import HandS.NamedTupGet
import HandS.DictComp
import HandS.More
import HandS.TryOnly
import PyProof.WalksMore
import PyProof.MinMaxWalk
import HandS.Conv
import HandS.Iter
import PyProof.Rows.ChunkEnd
import PyProof.P3In
import PySem.Challenge.RW_quietlookup_k53_download
set_option Elab.async false
set_option linter.all false
set_option maxRecDepth 100000
set_option maxHeartbeats 4000000
namespace L2
namespace QL
open PySem PySem.Spec PyProof.Rows

/-! ### 1. data, cells, the store -/
inductive D where
  | non | bl (b : Bool) | int (i : Int) | str (x : Str) | tup (xs : List D) | rol (xs : List D) | loc (a : Addr) | ty (n : String)
inductive Cell where
  | lst (xs : List D) | dic (kvs : List (Key × D)) | ins (C : Addr) (fs : List (Str × D))
abbrev Sto := Addr → Option Cell
def Sto.put (S : Sto) (a : Addr) (c : Cell) : Sto := fun b => if b = a then some c else S b
theorem put_eq {S : Sto} {a : Addr} {c : Cell} : S.put a c a = some c := if_pos rfl
theorem put_ne {S : Sto} {a b : Addr} {c : Cell} (h : b ≠ a) : S.put a c b = S b := if_neg h
theorem put_put {S : Sto} {a : Addr} {c c' : Cell} : (S.put a c).put a c' = S.put a c' := by
  funext b; unfold Sto.put; split <;> rfl
theorem ne_of_free {S : Sto} {a b : Addr} {c : Cell} (h : S a = some c) (n : S b = none) : a ≠ b := by
  intro e; rw [e, n] at h; cases h

/-- a list that nobody writes -/
def Ro (K : PySem.W.Frag) (H : Hp) (a : Addr) (vs : List V) : Prop := (∃ o, H a = some (.frz o (.lst vs))) ∨ SqL K (fun _ => none) a vs
mutual
inductive Rep (K : PySem.W.Frag) (H : Hp) : D → V → Prop
  | non : Rep K H .non .non
  | bl (b : Bool) : Rep K H (.bl b) (.bl b)
  | int (i : Int) : Rep K H (.int i) (.int i)
  | str (x : Str) : Rep K H (.str x) (.str x)
  | loc (a : Addr) : Rep K H (.loc a) (.ref a)
  | ty (n : String) : Rep K H (.ty n) (.ty n)
  | tup {a : Addr} {vs : List V} {ds : List D} : SqT K H a vs → Reps K H ds vs → Rep K H (.tup ds) (.ref a)
  | rol {a : Addr} {vs : List V} {ds : List D} : Ro K H a vs → Reps K H ds vs → Rep K H (.rol ds) (.ref a)
inductive Reps (K : PySem.W.Frag) (H : Hp) : List D → List V → Prop
  | nil : Reps K H [] []
  | cons {d : D} {v : V} {ds : List D} {vs : List V} : Rep K H d v → Reps K H ds vs → Reps K H (d :: ds) (v :: vs)
end

/-- tuples stay -/
structure TK (K : PySem.W.Frag) (H H' : Hp) : Prop where
  t : ∀ a xs, SqT K H a xs → SqT K H' a xs
  r : ∀ a xs, Ro K H a xs → Ro K H' a xs
theorem TK.refl {K : PySem.W.Frag} {H : Hp} : TK K H H := ⟨fun _ _ h => h, fun _ _ h => h⟩
theorem TK.trans {K : PySem.W.Frag} {H H1 H2 : Hp} (a : TK K H H1) (b : TK K H1 H2) : TK K H H2 := ⟨fun x xs h => b.t x xs (a.t x xs h), fun x xs h => b.r x xs (a.r x xs h)⟩
mutual
theorem Rep.mono {K : PySem.W.Frag} {H H' : Hp} (k : TK K H H') {d : D} {v : V} : Rep K H d v → Rep K H' d v
  | .non => .non
  | .bl b => .bl b
  | .int i => .int i
  | .str x => .str x
  | .loc a => .loc a
  | .ty n => .ty n
  | .tup h r => .tup (k.t _ _ h) (Reps.mono k r)
  | .rol h r => .rol (k.r _ _ h) (Reps.mono k r)
theorem Reps.mono {K : PySem.W.Frag} {H H' : Hp} (k : TK K H H') {ds : List D} {vs : List V} : Reps K H ds vs → Reps K H' ds vs
  | .nil => .nil
  | .cons h r => .cons (Rep.mono k h) (Reps.mono k r)
end
section
variable {K : PySem.W.Frag} {H H' : Hp}
theorem Reps.length : ∀ {ds : List D} {vs : List V}, Reps K H ds vs → ds.length = vs.length
  | _, _, .nil => rfl
  | _, _, .cons _ r => congrArg (· + 1) r.length
theorem Reps.append : ∀ {ds es : List D} {vs ws : List V}, Reps K H ds vs → Reps K H es ws → Reps K H (ds ++ es) (vs ++ ws)
  | _, _, _, _, .nil, s => s
  | _, _, _, _, .cons h r, s => .cons h (r.append s)
theorem Reps.get : ∀ {ds : List D} {vs : List V} {i : Nat} {d : D}, Reps K H ds vs → ds[i]? = some d → ∃ v, vs[i]? = some v ∧ Rep K H d v
  | _, _, 0, _, .cons h _, e => by simp at e; subst e; exact ⟨_, rfl, h⟩
  | _, _, i + 1, _, .cons _ r, e => by
    obtain ⟨v, e1, e2⟩ := Reps.get (i := i) r (by simpa using e)
    exact ⟨v, by simpa using e1, e2⟩
  | _, _, _, _, .nil, e => by simp at e
theorem Reps.getV {ds : List D} {vs : List V} {i : Nat} {v : V} (r : Reps K H ds vs) (e : vs[i]? = some v) : ∃ d, ds[i]? = some d ∧ Rep K H d v := by
  have hl := r.length
  have hi : i < vs.length := (List.getElem?_eq_some_iff.mp e).1
  obtain ⟨w, e1, e2⟩ := r.get (i := i) (d := ds[i]'(by omega)) (by simp)
  rw [e] at e1; cases e1
  exact ⟨_, by simp, e2⟩
theorem Reps.set {d : D} {v : V} (h : Rep K H d v) : ∀ {ds : List D} {vs : List V} (i : Nat), Reps K H ds vs → Reps K H (ds.set i d) (vs.set i v)
  | _, _, _, .nil => .nil
  | _, _, 0, .cons _ r => .cons h r
  | _, _, i + 1, .cons g r => .cons g (Reps.set h i r)
theorem Reps.take : ∀ {ds : List D} {vs : List V} (i : Nat), Reps K H ds vs → Reps K H (ds.take i) (vs.take i)
  | _, _, 0, _ => .nil
  | _, _, _ + 1, .nil => .nil
  | _, _, i + 1, .cons h r => .cons h (Reps.take i r)
theorem Reps.drop : ∀ {ds : List D} {vs : List V} (i : Nat), Reps K H ds vs → Reps K H (ds.drop i) (vs.drop i)
  | _, _, 0, r => r
  | _, _, _ + 1, .nil => .nil
  | _, _, i + 1, .cons _ r => Reps.drop i r
theorem Reps.ints : ∀ {ns : List Int} {vs : List V}, Reps K H (ns.map D.int) vs → vs = ns.map V.int
  | [], _, .nil => rfl
  | n :: ns, _, .cons h r => by cases h; rw [Reps.ints r]; rfl
theorem Reps.of_ints : ∀ (ns : List Int), Reps K H (ns.map D.int) (ns.map V.int)
  | [] => .nil
  | n :: ns => .cons (.int n) (Reps.of_ints ns)
theorem Reps.bls : ∀ {bs : List Bool} {vs : List V}, Reps K H (bs.map D.bl) vs → vs = bs.map V.bl
  | [], _, .nil => rfl
  | n :: ns, _, .cons h r => by cases h; rw [Reps.bls r]; rfl
theorem Reps.strs : ∀ {bs : List Str} {vs : List V}, Reps K H (bs.map D.str) vs → vs = bs.map V.str
  | [], _, .nil => rfl
  | n :: ns, _, .cons h r => by cases h; rw [Reps.strs r]; rfl
theorem Reps.dropLast {ds : List D} {vs : List V} (r : Reps K H ds vs) : Reps K H ds.dropLast vs.dropLast := by
  rw [List.dropLast_eq_take, List.dropLast_eq_take, r.length]
  exact r.take _
theorem Reps.map_of {α : Type} {f : α → D} {g : α → V} (h : ∀ x, Rep K H (f x) (g x)) : ∀ l : List α, Reps K H (l.map f) (l.map g)
  | [] => .nil
  | x :: l => .cons (h x) (Reps.map_of h l)
end

/-! ### 2. cells stand at their addresses -/
def KVR (K : PySem.W.Frag) (H : Hp) (kvs : List (Key × D)) (q : List (Key × V)) : Prop := Paired (fun (a : Key × D) (b : Key × V) => a.1 = b.1 ∧ Rep K H a.2 b.2) kvs q
def FSR (K : PySem.W.Frag) (H : Hp) (fs : List (Str × D)) (q : List (Str × V)) : Prop := Paired (fun (a : Str × D) (b : Str × V) => a.1 = b.1 ∧ Rep K H a.2 b.2) fs q
def CellAt (K : PySem.W.Frag) (H : Hp) (a : Addr) : Cell → Prop
  | .lst ds => ∃ vs, H a = some (.lst vs) ∧ Reps K H ds vs
  | .dic kvs => ∃ q, H a = some (.dK q) ∧ KVR K H kvs q
  | .ins C fs => ∃ dx q, H a = some (.ins C dx q) ∧ FSR K H fs q
def RelS (K : PySem.W.Frag) (S : Sto) (H : Hp) : Prop := ∀ a c, S a = some c → CellAt K H a c
/-- the slots -/
abbrev DEnv := List (Option D)
def RelE (K : PySem.W.Frag) (H : Hp) : DEnv → St → Prop
  | [], [] => True
  | none :: e, _ :: σ => RelE K H e σ
  | some d :: e, some v :: σ => Rep K H d v ∧ RelE K H e σ
  | _, _ => False
section
variable {K : PySem.W.Frag} {H H' : Hp}
theorem Paired.mapQ {α β : Type} {F G : α → β → Prop} (f : ∀ a b, F a b → G a b) : ∀ {x : List α} {y : List β}, Paired F x y → Paired G x y
  | _, _, .nil => .nil
  | _, _, .cons r t => .cons (f _ _ r) (Paired.mapQ f t)
theorem RelE.mono (k : TK K H H') : ∀ {e : DEnv} {σ : St}, RelE K H e σ → RelE K H' e σ
  | [], [], _ => trivial
  | none :: e, _ :: σ, h => RelE.mono (e := e) (σ := σ) k h
  | some _ :: e, some _ :: σ, h => ⟨Rep.mono k h.1, RelE.mono (e := e) (σ := σ) k h.2⟩
  | [], _ :: _, h => h.elim
  | none :: _, [], h => h.elim
  | some _ :: _, [], h => h.elim
  | some _ :: _, none :: _, h => h.elim
theorem RelE.get : ∀ {e : DEnv} {σ : St} {i : Nat} {d : D}, RelE K H e σ → e[i]? = some (some d) → ∃ v, σ[i]? = some (some v) ∧ Rep K H d v
  | [], [], _, _, _, q => by simp at q
  | none :: _, _ :: _, 0, _, _, q => by simp at q
  | none :: e, x :: σ, i + 1, d, h, q => by
    obtain ⟨v, e1, e2⟩ := RelE.get (e := e) (σ := σ) (i := i) (d := d) h (by simpa using q)
    exact ⟨v, by simpa using e1, e2⟩
  | some _ :: _, some _ :: _, 0, _, h, q => by simp at q; subst q; exact ⟨_, rfl, h.1⟩
  | some _ :: e, some _ :: σ, i + 1, d, h, q => by
    obtain ⟨v, e1, e2⟩ := RelE.get (e := e) (σ := σ) (i := i) (d := d) h.2 (by simpa using q)
    exact ⟨v, by simpa using e1, e2⟩
  | [], _ :: _, _, _, h, _ => h.elim
  | none :: _, [], _, _, h, _ => h.elim
  | some _ :: _, [], _, _, h, _ => h.elim
  | some _ :: _, none :: _, _, _, h, _ => h.elim
theorem RelE.set {d : D} {v : V} (r : Rep K H d v) : ∀ {e : DEnv} {σ : St} (i : Nat), RelE K H e σ → RelE K H (e.set i (some d)) (σ.set i (some v))
  | [], [], _, _ => trivial
  | none :: _, _ :: _, 0, h => ⟨r, h⟩
  | none :: e, x :: σ, i + 1, h => by
    have q := RelE.set r (e := e) (σ := σ) i h
    exact q
  | some _ :: _, some _ :: _, 0, h => ⟨r, h.2⟩
  | some _ :: e, some _ :: σ, i + 1, h => ⟨h.1, RelE.set r (e := e) (σ := σ) i h.2⟩
  | [], _ :: _, _, h => h.elim
  | none :: _, [], _, h => h.elim
  | some _ :: _, [], _, h => h.elim
  | some _ :: _, none :: _, _, h => h.elim
theorem RelE.forget : ∀ {e : DEnv} {σ : St} (i : Nat), RelE K H e σ → RelE K H (e.set i none) (σ.set i none)
  | [], [], _, _ => trivial
  | none :: _, _ :: _, 0, h => h
  | none :: e, x :: σ, i + 1, h => by
    have q := RelE.forget (e := e) (σ := σ) i h
    exact q
  | some _ :: _, some _ :: _, 0, h => h.2
  | some _ :: e, some _ :: σ, i + 1, h => ⟨h.1, RelE.forget (e := e) (σ := σ) i h.2⟩
  | [], _ :: _, _, h => h.elim
  | none :: _, [], _, h => h.elim
  | some _ :: _, [], _, h => h.elim
  | some _ :: _, none :: _, _, h => h.elim
theorem RelE.length : ∀ {e : DEnv} {σ : St}, RelE K H e σ → e.length = σ.length
  | [], [], _ => rfl
  | none :: e, _ :: σ, h => congrArg (· + 1) (RelE.length (e := e) (σ := σ) h)
  | some _ :: e, some _ :: σ, h => congrArg (· + 1) (RelE.length (e := e) (σ := σ) h.2)
  | [], _ :: _, h => h.elim
  | none :: _, [], h => h.elim
  | some _ :: _, [], h => h.elim
  | some _ :: _, none :: _, h => h.elim
def startD (N : List Str) (ds : List D) : DEnv := ds.map some ++ List.replicate (N.length - ds.length) none
theorem RelE.blank : ∀ n : Nat, RelE K H (List.replicate n none) (List.replicate n none)
  | 0 => trivial
  | n + 1 => RelE.blank n
theorem RelE.front {e : DEnv} {σ : St} (t : RelE K H e σ) : ∀ {ds : List D} {vs : List V}, Reps K H ds vs → RelE K H (ds.map some ++ e) (vs.map some ++ σ)
  | _, _, .nil => t
  | _, _, .cons h r => ⟨h, RelE.front t r⟩
theorem RelE.start {N : List Str} {ds : List D} {vs : List V} (r : Reps K H ds vs) : RelE K H (startD N ds) (start N vs) := by
  unfold startD L2.start
  rw [r.length]
  exact RelE.front (RelE.blank _) r
theorem KVR.mono (k : TK K H H') {x : List (Key × D)} {y : List (Key × V)} (h : KVR K H x y) : KVR K H' x y := Paired.mapQ (fun _ _ z => ⟨z.1, Rep.mono k z.2⟩) h
theorem FSR.mono (k : TK K H H') {x : List (Str × D)} {y : List (Str × V)} (h : FSR K H x y) : FSR K H' x y := Paired.mapQ (fun _ _ z => ⟨z.1, Rep.mono k z.2⟩) h
/-- what may be turned by a write -/
def Free (o : Option HO) : Prop := match o with
  | none => True
  | some (.lst _) => True
  | some (.dK _) => True
  | some (.ins _ _ _) => True
  | _ => False
theorem Rd.of_upd {a p : Addr} {u' : List V} {o : HO} (f : Free (H p)) (h : Rd H a (.tup u')) : Rd (upd H p o) a (.tup u') := by
  have ne : a ≠ p := by
    rintro rfl
    rcases h with h | ⟨o, h⟩ <;> rw [h] at f <;> exact f
  rcases h with h | ⟨o', h⟩
  · exact .inl (by rw [upd_ne ne]; exact h)
  · exact .inr ⟨o', by rw [upd_ne ne]; exact h⟩
theorem TK.upd {p : Addr} {o : HO} (f : Free (H p)) : TK K H (L2.upd H p o) := by
  constructor
  · intro a xs h
    rcases h with h | h
    · exact .inl (Rd.of_upd f h)
    · exact .inr h
  · intro a xs h
    rcases h with ⟨o', h⟩ | h
    · have ne : a ≠ p := by
        rintro rfl
        rw [h] at f; exact f
      exact .inl ⟨o', by rw [upd_ne ne]; exact h⟩
    · exact .inr h
theorem CellAt.upd {p a : Addr} {o : HO} {c : Cell} (f : Free (H p)) (ne : a ≠ p) (h : CellAt K H a c) : CellAt K (L2.upd H p o) a c := by
  cases c with
  | lst ds => obtain ⟨vs, h1, h2⟩ := h; exact ⟨vs, by rw [upd_ne ne]; exact h1, h2.mono (TK.upd f)⟩
  | dic kvs => obtain ⟨q, h1, h2⟩ := h; exact ⟨q, by rw [upd_ne ne]; exact h1, h2.mono (TK.upd f)⟩
  | ins C fs => obtain ⟨dx, q, h1, h2⟩ := h; exact ⟨dx, q, by rw [upd_ne ne]; exact h1, h2.mono (TK.upd f)⟩
theorem RelS.upd {S : Sto} {p : Addr} {o : HO} (f : Free (H p)) (n : S p = none) (h : RelS K S H) : RelS K S (L2.upd H p o) := fun a c e =>
  (h a c e).upd f (ne_of_free e n)
theorem RelS.put {S : Sto} {p : Addr} {o : HO} {c : Cell} (f : Free (H p)) (h : RelS K S H) (new : CellAt K (L2.upd H p o) p c) : RelS K (S.put p c) (L2.upd H p o) := fun a c' e => by
  by_cases ha : a = p
  · subst ha; rw [put_eq] at e; cases e; exact new
  · rw [put_ne ha] at e
    exact (h a c' e).upd f ha
theorem RelS.sub {S S' : Sto} (h : RelS K S H) (s : ∀ a c, S' a = some c → S a = some c) : RelS K S' H := fun a c e => h a c (s a c e)
theorem CellAt.free {a : Addr} {c : Cell} (h : CellAt K H a c) : Free (H a) := by
  cases c with
  | lst ds => obtain ⟨vs, h1, _⟩ := h; rw [h1]; trivial
  | dic kvs => obtain ⟨q, h1, _⟩ := h; rw [h1]; trivial
  | ins C fs => obtain ⟨dx, q, h1, _⟩ := h; rw [h1]; trivial
theorem CellAt.there {a : Addr} {c : Cell} (h : CellAt K H a c) : H a ≠ none := by
  cases c with
  | lst ds => obtain ⟨vs, h1, _⟩ := h; rw [h1]; simp
  | dic kvs => obtain ⟨q, h1, _⟩ := h; rw [h1]; simp
  | ins C fs => obtain ⟨dx, q, h1, _⟩ := h; rw [h1]; simp
theorem RelS.none_of {S : Sto} {a : Addr} (h : RelS K S H) (n : H a = none) : S a = none := by
  cases e : S a with
  | none => rfl
  | some c => exact absurd n (h a c e).there
end
end QL
end L2
namespace L2
namespace QL
open PySem PySem.Spec PyProof.Rows

/-! ### 3. what a step leaves -/
structure Post (K : PySem.W.Frag) (S : Sto) (H : Hp) (S' : Sto) (H' : Hp) : Prop where
  tk : TK K H H'
  frame : ∀ a o, S a = none → H a = some o → H' a = some o
  dom : ∀ a, S a = none → H a ≠ none → S' a = none
section
variable {K : PySem.W.Frag} {S S1 S2 : Sto} {H H1 H2 : Hp} {p : Addr} {o : HO} {c : Cell}
theorem Post.refl : Post K S H S H := ⟨TK.refl, fun _ _ _ e => e, fun _ n _ => n⟩
theorem Post.trans (a : Post K S H S1 H1) (b : Post K S1 H1 S2 H2) : Post K S H S2 H2 :=
  ⟨a.tk.trans b.tk, fun x o n e => b.frame x o (a.dom x n (by rw [e]; simp)) (a.frame x o n e), fun x n e => b.dom x (a.dom x n e) (by
    cases q : H x with
    | none => exact absurd q e
    | some o => rw [a.frame x o n q]; simp)⟩
theorem Post.new (hp : H p = none) : Post K S H (S.put p c) (upd H p o) :=
  ⟨TK.upd (by rw [hp]; trivial), fun x o' n e => by rw [upd_ne (ne_of_none e hp)]; exact e, fun x n e => by rw [put_ne (fun z => e (by rw [z]; exact hp))]; exact n⟩
/-- a new thing that no cell tells -/
theorem Post.lay (hp : H p = none) : Post K S H S (upd H p o) :=
  ⟨TK.upd (by rw [hp]; trivial), fun x o' n e => by rw [upd_ne (ne_of_none e hp)]; exact e, fun x n e => n⟩
theorem Post.write {c0 : Cell} (R : RelS K S H) (e : S p = some c0) : Post K S H (S.put p c) (upd H p o) := by
  have ne : ∀ {x : Addr}, S x = none → x ≠ p := fun {x} n z => by rw [z, e] at n; cases n
  exact ⟨TK.upd (R p c0 e).free, fun x o' n q => by rw [upd_ne (ne n)]; exact q, fun x n q => by rw [put_ne (ne n)]; exact n⟩
end

/-! ### 4. readings over data -/
abbrev DK := D → Sto → Prop
abbrev TD := DEnv → Sto → DK → Prop
abbrev TTD := DEnv → Sto → (Bool → Sto → Prop) → Prop
abbrev TAD := DEnv → Sto → (List D → Sto → Prop) → Prop
structure EndsD where
  nx : DEnv → Sto → Prop
  rt : DK
  bk : DEnv → Sto → Prop := fun _ _ => False
  ct : DEnv → Sto → Prop := fun _ _ => False
abbrev TSD := EndsD → DEnv → Sto → Prop

def emE (K : PySem.W.Frag) (t : TD) : TE := fun σ H Q => ∃ e S Q0, RelE K H e σ ∧ RelS K S H ∧ t e S Q0 ∧ ∀ d S' v H', Q0 d S' → Post K S H S' H' → RelS K S' H' → Rep K H' d v → Q v H'
def emT (K : PySem.W.Frag) (t : TTD) : TT := fun σ H Q => ∃ e S Q0, RelE K H e σ ∧ RelS K S H ∧ t e S Q0 ∧ ∀ b S' H', Q0 b S' → Post K S H S' H' → RelS K S' H' → Q b H'
def emA (K : PySem.W.Frag) (t : TAD) : TA := fun σ H Q => ∃ e S Q0, RelE K H e σ ∧ RelS K S H ∧ t e S Q0 ∧ ∀ ds S' vs H', Q0 ds S' → Post K S H S' H' → RelS K S' H' → Reps K H' ds vs → Q vs H'
structure EndsOk (K : PySem.W.Frag) (S : Sto) (H : Hp) (D0 : EndsD) (D1 : Ends) : Prop where
  nx : ∀ e' S' σ' H', D0.nx e' S' → Post K S H S' H' → RelE K H' e' σ' → RelS K S' H' → D1.nx σ' H'
  rt : ∀ d S' v H', D0.rt d S' → Post K S H S' H' → Rep K H' d v → RelS K S' H' → D1.rt v H'
  bk : ∀ e' S' σ' H', D0.bk e' S' → Post K S H S' H' → RelE K H' e' σ' → RelS K S' H' → D1.bk σ' H'
  ct : ∀ e' S' σ' H', D0.ct e' S' → Post K S H S' H' → RelE K H' e' σ' → RelS K S' H' → D1.ct σ' H'
theorem EndsOk.after {K : PySem.W.Frag} {S S1 : Sto} {H H1 : Hp} {D0 : EndsD} {D1 : Ends} (e : EndsOk K S H D0 D1) (p : Post K S H S1 H1) : EndsOk K S1 H1 D0 D1 :=
  ⟨fun _ _ _ _ a b => e.nx _ _ _ _ a (p.trans b), fun _ _ _ _ a b => e.rt _ _ _ _ a (p.trans b), fun _ _ _ _ a b => e.bk _ _ _ _ a (p.trans b), fun _ _ _ _ a b => e.ct _ _ _ _ a (p.trans b)⟩
def emS (K : PySem.W.Frag) (t : TSD) : TS := fun D1 σ H => ∃ e S D0, RelE K H e σ ∧ RelS K S H ∧ t D0 e S ∧ EndsOk K S H D0 D1

/-- the judgements over data -/
abbrev DE (X : Cx) (e : Expr) (t : TD) : Prop := PE X e (emE X.K t)
abbrev DT (X : Cx) (e : Expr) (t : TTD) : Prop := PT X e (emT X.K t)
abbrev DW (X : Cx) (e : Expr) (t : TTD) : Prop := PW X e (emT X.K t)
abbrev DA (X : Cx) (es : List Expr) (t : TAD) : Prop := PA X es (emA X.K t)
abbrev DS (X : Cx) (s : Stmt) (t : TSD) : Prop := PS X s (emS X.K t)
abbrev DSs (X : Cx) (s : List Stmt) (t : TSD) : Prop := PSs X s (emS X.K t)

section
variable {X : Cx}
theorem PE.le {e : Expr} {t u : TE} (h : PE X e t) (k : ∀ σ H Q, u σ H Q → t σ H Q) : PE X e u := ⟨fun pins s σ H Q I q => h.run pins s σ H Q I (k _ _ _ q)⟩
theorem PT.le {e : Expr} {t u : TT} (h : PT X e t) (k : ∀ σ H Q, u σ H Q → t σ H Q) : PT X e u := ⟨fun pins s σ H Q I q => h.run pins s σ H Q I (k _ _ _ q)⟩
theorem PW.le {e : Expr} {t u : TT} (h : PW X e t) (k : ∀ σ H Q, u σ H Q → t σ H Q) : PW X e u := ⟨fun wh pins s σ H Q I q => h.run wh pins s σ H Q I (k _ _ _ q)⟩
theorem PA.le {e : List Expr} {t u : TA} (h : PA X e t) (k : ∀ σ H Q, u σ H Q → t σ H Q) : PA X e u := ⟨fun po pins s σ H Q I q => h.run po pins s σ H Q I (k _ _ _ q)⟩
theorem PS.le {e : Stmt} {t u : TS} (h : PS X e t) (k : ∀ D1 σ H, u D1 σ H → t D1 σ H) : PS X e u := ⟨fun pins s σ H Q I q => h.run pins s σ H Q I (k _ _ _ q)⟩
theorem PSs.le {e : List Stmt} {t u : TS} (h : PSs X e t) (k : ∀ D1 σ H, u D1 σ H → t D1 σ H) : PSs X e u := ⟨fun pins s σ H Q I q => h.run pins s σ H Q I (k _ _ _ q)⟩
theorem PTs.le {e : List Expr} {t u : TT} (h : PTs X e t) (k : ∀ σ H Q, u σ H Q → t σ H Q) : PTs X e u := ⟨fun pins s σ H Q I q => h.run pins s σ H Q I (k _ _ _ q)⟩
theorem PI.le {tg e : Expr} {t u : TI} (h : PI X tg e t) (k : ∀ σ H Q, u σ H Q → t σ H Q) : PI X tg e u := ⟨fun pins s σ H Q I q => h.run pins s σ H Q I (k _ _ _ q)⟩

/-! ### 5. names, constants -/
def dV (i : Nat) : TD := fun e S Q => match e[i]? with
  | some (some d) => Q d S
  | _ => False
def dC (d : D) : TD := fun _ S Q => Q d S
theorem de_var {i : Nat} {x : Str} {pos : Pos} (hN : X.N[i]? = some x) (hv : Vis X.env.scope x) (hd : (x == ("__debug__" : Str)) = false := by decide) (hcd : (x == ("__classdict__" : Str)) = false := by decide) : DE X (.Name x pos) (dV i) := by
  refine PE.le (pe_var hN hv hd hcd) fun σ H Q h => ?_
  obtain ⟨e, S, Q0, re, rs, ht, k⟩ := h
  unfold dV at ht
  split at ht
  · rename_i d q
    obtain ⟨v, e1, r⟩ := re.get q
    exact ⟨v, e1, k d S v H ht Post.refl rs r⟩
  · exact ht.elim
theorem de_con {e : Expr} {v : V} {d : D} (h : PE X e (tC v)) (r : ∀ K H, Rep K H d v) : DE X e (dC d) := by
  refine PE.le h fun σ H Q h => ?_
  obtain ⟨e, S, Q0, re, rs, ht, k⟩ := h
  exact k d S v H ht Post.refl rs (r _ _)
theorem de_int {i j pos} : DE X (.Constant (.int i) j pos) (dC (.int i)) := de_con pe_int fun _ _ => .int i
theorem de_bl {i j pos} : DE X (.Constant (.bool i) j pos) (dC (.bl i)) := de_con pe_bl fun _ _ => .bl i
theorem de_non {j pos} : DE X (.Constant .none j pos) (dC .non) := de_con pe_non fun _ _ => .non
theorem de_str {x j pos} : DE X (.Constant (.str x) j pos) (dC (.str x)) := de_con pe_str fun _ _ => .str x
theorem de_gint {x : Str} {i : Int} {k : Tok} {pos : Pos} (hg : Gl X x) (hm : X.mg x = some (.int i k)) (hd : (x == ("__debug__" : Str)) = false := by decide) : DE X (.Name x pos) (dC (.int i)) := de_con (pe_glob (v := .int i) hg hm ⟨k, rfl⟩ hd) fun _ _ => .int i
theorem de_gstr {x y : Str} {k : Tok} {pos : Pos} (hg : Gl X x) (hm : X.mg x = some (.str y k)) (hd : (x == ("__debug__" : Str)) = false := by decide) : DE X (.Name x pos) (dC (.str y)) := de_con (pe_glob (v := .str y) hg hm ⟨k, rfl⟩ hd) fun _ _ => .str y
theorem de_gbl {x : Str} {b : Bool} {pos : Pos} (hg : Gl X x) (hm : X.mg x = some (.bool b)) (hd : (x == ("__debug__" : Str)) = false := by decide) : DE X (.Name x pos) (dC (.bl b)) := de_con (pe_glob (v := .bl b) hg hm rfl hd) fun _ _ => .bl b
theorem de_type {x : Str} {n : String} {pos : Pos} (hg : Gl X x) (hm : X.mg x = none) (hv : bootBuiltins x = some (.type n)) (hn : x ≠ "__name__" := by decide) (hd : (x == ("__debug__" : Str)) = false := by decide) : DE X (.Name x pos) (dC (.ty n)) := de_con (pe_bltn (v := .ty n) hg hm hv rfl hn hd) fun _ _ => .ty n

/-! ### 6. operators -/
abbrev RD := D → D → Sto → DK → Prop
/-- a rule by data for a rule by values -/
def OpD (K : PySem.W.Frag) (r : R2) (rd : RD) : Prop := ∀ d1 d2 S (Q0 : DK) v1 v2 H (Q : VK), RelS K S H → Rep K H d1 v1 → Rep K H d2 v2 → rd d1 d2 S Q0 →
  (∀ d S' v H', Q0 d S' → Post K S H S' H' → RelS K S' H' → Rep K H' d v → Q v H') → r v1 v2 H Q
def dBin (rd : RD) (ta tb : TD) : TD := fun e S Q => ta e S fun x S1 => tb e S1 fun y S2 => rd x y S2 Q
theorem em_bin {K : PySem.W.Frag} {r : R2} {rd : RD} {ta tb : TD} (hr : OpD K r rd) {σ : St} {H : Hp} {Q : VK} (h : emE K (dBin rd ta tb) σ H Q) : tOp r (emE K ta) (emE K tb) σ H Q := by
  obtain ⟨e, S, Q0, re, rs, ht, k⟩ := h
  refine ⟨e, S, _, re, rs, ht, fun x S1 v1 H1 h1 p1 rs1 r1 => ?_⟩
  refine ⟨e, S1, _, re.mono p1.tk, rs1, h1, fun y S2 v2 H2 h2 p2 rs2 r2 => ?_⟩
  exact hr x y S2 Q0 v1 v2 H2 Q rs2 (r1.mono p2.tk) r2 h2 fun d S' v H' q p rs' r' => k d S' v H' q ((p1.trans p2).trans p) rs' r'
section
variable {a b c : Expr} {ta tb tc : TD} {pos : Pos} {r : R2} {rd : RD}
theorem de_op {op : Operator} (ho : OpR X (binaryOp op) r) (hr : OpD X.K r rd) (ha : DE X a ta) (hb : DE X b tb) : DE X (.BinOp a op b pos) (dBin rd ta tb) :=
  PE.le (pe_op ho ha hb) fun _ _ _ h => em_bin hr h
theorem de_cmp {op : CmpOp} (ho : OpR X (compareOp op) r) (hr : OpD X.K r rd) (ha : DE X a ta) (hb : DE X b tb) (hm : behindInMarks op b = false) : DE X (.Compare a [op] [b] pos) (dBin rd ta tb) :=
  PE.le (pe_cmpR ho ha hb hm) fun _ _ _ h => em_bin hr h
end
/-- a value that is a bool, as a test -/
def dB (t : TD) : TTD := fun e S Q => t e S fun d S' => match d with
  | .bl b => Q b S'
  | _ => False
theorem em_test {K : PySem.W.Frag} {t : TD} {tv : TE} (hv : ∀ σ H Q, emE K t σ H Q → tv σ H Q) {σ : St} {H : Hp} {Q : Bool → Hp → Prop} (h : emT K (dB t) σ H Q) : tTest tv σ H Q := by
  obtain ⟨e, S, Q0, re, rs, ht, k⟩ := h
  refine hv σ H _ ⟨e, S, _, re, rs, ht, fun d S' v H' q p rs' r' => ?_⟩
  cases d with
  | bl b => cases r'; exact ⟨b, rfl, k b S' H' q p rs'⟩
  | _ => exact q.elim
section
variable {a b c : Expr} {ta tb tc : TD} {pos : Pos} {r r' : R2} {rd rd' : RD}
theorem dt_cmp {op : CmpOp} (ho : OpR X (compareOp op) r) (hr : OpD X.K r rd) (ha : DE X a ta) (hb : DE X b tb) (hm : behindInMarks op b = false) : DT X (.Compare a [op] [b] pos) (dB (dBin rd ta tb)) :=
  PT.le (pt_cmpR ho ha hb hm) fun _ _ _ h => em_test (fun _ _ _ h => em_bin hr h) h
/-- a op b op' c -/
def dChain (rd rd' : RD) (ta tb tc : TD) : TD := fun e S Q => ta e S fun x S1 => tb e S1 fun y S2 => rd x y S2 fun z S3 => match z with
  | .bl true => tc e S3 fun u S4 => rd' y u S4 Q
  | .bl false => Q (.bl false) S3
  | _ => False
theorem em_chain {K : PySem.W.Frag} (hr : OpD K r rd) (hr' : OpD K r' rd') {σ : St} {H : Hp} {Q : VK} (h : emE K (dChain rd rd' ta tb tc) σ H Q) : tChain r r' (emE K ta) (emE K tb) (emE K tc) σ H Q := by
  obtain ⟨e, S, Q0, re, rs, ht, k⟩ := h
  refine ⟨e, S, _, re, rs, ht, fun x S1 v1 H1 h1 p1 rs1 r1 => ?_⟩
  refine ⟨e, S1, _, re.mono p1.tk, rs1, h1, fun y S2 v2 H2 h2 p2 rs2 r2 => ?_⟩
  refine hr x y S2 _ v1 v2 H2 _ rs2 (r1.mono p2.tk) r2 h2 fun z S3 v3 H3 h3 p3 rs3 r3 => ?_
  cases z with
  | bl q =>
    cases r3
    refine ⟨q, rfl, ?_⟩
    cases q with
    | true =>
      refine iteT ⟨e, S3, _, re.mono ((p1.trans p2).trans p3).tk, rs3, h3, fun u S4 v4 H4 h4 p4 rs4 r4 => ?_⟩
      exact hr' y u S4 Q0 v2 v4 H4 Q rs4 (r2.mono (p3.trans p4).tk) r4 h4 fun d S' v H' q p rs' r' => k d S' v H' q ((((p1.trans p2).trans p3).trans p4).trans p) rs' r'
    | false => exact iteF (k _ S3 _ H3 h3 ((p1.trans p2).trans p3) rs3 (.bl false))
  | _ => exact h3.elim
theorem de_chain {op op' : CmpOp} (ho : OpR X (compareOp op) r) (hr : OpD X.K r rd) (ho' : OpR X (compareOp op') r') (hr' : OpD X.K r' rd') (ha : DE X a ta) (hb : DE X b tb) (hc : DE X c tc)
    (hm : lastMarks [op, op'] [b, c] = false := by with_unfolding_all rfl) : DE X (.Compare a [op, op'] [b, c] pos) (dChain rd rd' ta tb tc) :=
  PE.le (pe_chain ho ho' ha hb hc hm) fun _ _ _ h => em_chain hr hr' h
theorem dt_chain {op op' : CmpOp} (ho : OpR X (compareOp op) r) (hr : OpD X.K r rd) (ho' : OpR X (compareOp op') r') (hr' : OpD X.K r' rd') (ha : DE X a ta) (hb : DE X b tb) (hc : DE X c tc)
    (hm : lastMarks [op, op'] [b, c] = false := by with_unfolding_all rfl) : DT X (.Compare a [op, op'] [b, c] pos) (dB (dChain rd rd' ta tb tc)) :=
  PT.le (pt_chain ho ho' ha hb hc hm) fun _ _ _ h => em_test (fun _ _ _ h => em_chain hr hr' h) h
end
/-! ints -/
def rdI (f : Int → Int → DK → Sto → Prop) : RD := fun x y S Q => match x, y with
  | .int i, .int j => f i j Q S
  | _, _ => False
def rdLt : RD := rdI fun i j Q S => Q (.bl (decide (i < j))) S
def rdLe : RD := rdI fun i j Q S => Q (.bl (decide (i ≤ j))) S
def rdGt : RD := rdI fun i j Q S => Q (.bl (decide (j < i))) S
def rdGe : RD := rdI fun i j Q S => Q (.bl (decide (j ≤ i))) S
def rdSub : RD := rdI fun i j Q S => Q (.int (i - j)) S
def rdMod : RD := rdI fun i j Q S => 0 < j ∧ Q (.int (i % j)) S
def rdPow : RD := rdI fun i j Q S => (0 ≤ j ∧ j ≤ 1000000 ∧ i.natAbs < 2 ^ 64) ∧ Q (.int (i ^ j.toNat)) S
theorem rdI_ints {f : Int → Int → DK → Sto → Prop} {x y : D} {S : Sto} {Q : DK} (h : rdI f x y S Q) : ∃ i j, x = .int i ∧ y = .int j ∧ f i j Q S := by
  unfold rdI at h
  split at h
  · exact ⟨_, _, rfl, rfl, h⟩
  · exact h.elim
theorem opd_I0 {K : PySem.W.Frag} {g : Int → Int → V} {gd : Int → Int → D} (hg : ∀ H i j, Rep K H (gd i j) (g i j)) : OpD K (rI0 g) (rdI fun i j Q S => Q (gd i j) S) := by
  intro d1 d2 S Q0 v1 v2 H Q rs r1 r2 h k
  obtain ⟨i, j, rfl, rfl, h⟩ := rdI_ints h
  cases r1; cases r2
  exact ⟨i, j, rfl, rfl, k _ S _ H h Post.refl rs (hg H i j)⟩
theorem opd_I {K : PySem.W.Frag} {C : Int → Int → Prop} {C' : Int → Int → Prop} {g : Int → Int → V} {gd : Int → Int → D} (hc : ∀ i j, C' i j → C i j) (hg : ∀ H i j, Rep K H (gd i j) (g i j)) : OpD K (rI C g) (rdI fun i j Q S => C' i j ∧ Q (gd i j) S) := by
  intro d1 d2 S Q0 v1 v2 H Q rs r1 r2 h k
  obtain ⟨i, j, rfl, rfl, c, h⟩ := rdI_ints h
  cases r1; cases r2
  exact ⟨i, j, rfl, rfl, hc i j c, k _ S _ H h Post.refl rs (hg H i j)⟩
section
variable {a b : Expr} {ta tb : TD} {pos : Pos}
theorem od_lt {K : PySem.W.Frag} : OpD K (rI0 fun i j => .bl (decide (i < j))) rdLt := opd_I0 fun _ _ _ => .bl _
theorem od_le {K : PySem.W.Frag} : OpD K (rI0 fun i j => .bl (decide (i ≤ j))) rdLe := opd_I0 fun _ _ _ => .bl _
theorem od_gt {K : PySem.W.Frag} : OpD K (rI0 fun i j => .bl (decide (j < i))) rdGt := opd_I0 fun _ _ _ => .bl _
theorem od_ge {K : PySem.W.Frag} : OpD K (rI0 fun i j => .bl (decide (j ≤ i))) rdGe := opd_I0 fun _ _ _ => .bl _
theorem de_sub (ha : DE X a ta) (hb : DE X b tb) : DE X (.BinOp a .Sub b pos) (dBin rdSub ta tb) := de_op op_sub (opd_I0 fun _ _ _ => .int _) ha hb
theorem de_mod (ha : DE X a ta) (hb : DE X b tb) : DE X (.BinOp a .Mod b pos) (dBin rdMod ta tb) := de_op op_mod (opd_I (fun _ _ h => h) fun _ _ _ => .int _) ha hb
theorem de_pow (ha : DE X a ta) (hb : DE X b tb) : DE X (.BinOp a .Pow b pos) (dBin rdPow ta tb) := de_op op_pow (opd_I (fun _ _ h => h) fun _ _ _ => .int _) ha hb
end
/-- a + b: ints, tuples, texts, lists -/
def rdAdd : RD := fun x y S Q => match x, y with
  | .int i, .int j => Q (.int (i + j)) S
  | .tup xs, .tup ys => xs.length + ys.length ≤ sizeLine ∧ Q (.tup (xs ++ ys)) S
  | .str i, .str j => i.length + j.length ≤ sizeLine ∧ Q (.str (i ++ j)) S
  | .loc p, .loc q => match S p, S q with
    | some (.lst xs), some (.lst ys) => xs.length + ys.length ≤ sizeLine ∧ ∀ a, S a = none → Q (.loc a) (S.put a (.lst (xs ++ ys)))
    | _, _ => False
  | _, _ => False
def rAddAll (K : PySem.W.Frag) : R2 := fun x y H Q => (rI0 fun i j => .int (i + j)) x y H Q ∨ rCatA K x y H Q ∨ (∃ i j, x = .str i ∧ y = .str j ∧ i.length + j.length ≤ sizeLine ∧ Q (.str (i ++ j)) H) ∨ rCat x y H Q
theorem op_addAll : OpR X (binaryOp .Add) (rAddAll X.K) := op_add.or (op_catA.or (op_add_str.or op_cat))
/-- a new list -/
theorem new_lst {K : PySem.W.Frag} {S : Sto} {H : Hp} {p : Addr} {xs : List D} {vs : List V} (rs : RelS K S H) (hp : H p = none) (r : Reps K H xs vs) : RelS K (S.put p (.lst xs)) (upd H p (.lst vs)) :=
  rs.put (by rw [hp]; trivial) ⟨vs, upd_same, r.mono (TK.upd (by rw [hp]; trivial))⟩
theorem od_add {K : PySem.W.Frag} : OpD K (rAddAll K) rdAdd := by
  intro d1 d2 S Q0 v1 v2 H Q rs r1 r2 h k
  unfold rdAdd at h
  split at h
  · cases r1; cases r2
    exact .inl ⟨_, _, rfl, rfl, k _ S _ H h Post.refl rs (.int _)⟩
  · cases r1 with
    | tup h1 q1 =>
      cases r2 with
      | tup h2 q2 =>
        refine .inr (.inl ⟨_, _, _, _, rfl, rfl, h1, h2, by rw [← q1.length, ← q2.length]; exact h.1, fun e => ?_, fun _ e => ?_, fun _ _ p hp => ?_⟩)
        · subst e; cases q1
          exact k _ S _ H h.2 Post.refl rs (.tup h2 q2)
        · subst e; cases q2
          have h' := h.2
          rw [List.append_nil] at h'
          exact k _ S _ H h' Post.refl rs (.tup h1 q1)
        · have f : Free (H p) := by rw [hp]; trivial
          exact k _ S _ _ h.2 (Post.lay hp) (rs.upd f (rs.none_of hp)) (.tup (.of upd_same) ((q1.append q2).mono (TK.upd f)))
  · cases r1; cases r2
    exact .inr (.inr (.inl ⟨_, _, rfl, rfl, h.1, k _ S _ H h.2 Post.refl rs (.str _)⟩))
  · cases r1; cases r2
    split at h
    · rename_i xs ys e1 e2
      obtain ⟨v1, a1, b1⟩ := rs _ _ e1
      obtain ⟨v2, a2, b2⟩ := rs _ _ e2
      refine .inr (.inr (.inr ⟨_, _, _, _, rfl, rfl, a1, a2, by rw [← b1.length, ← b2.length]; exact h.1, fun p hp => ?_⟩))
      exact k _ _ _ _ (h.2 p (rs.none_of hp)) (Post.new hp) (new_lst rs hp (b1.append b2)) (.loc p)
    · exact h.elim
  · exact h.elim
theorem de_add {a b : Expr} {ta tb : TD} {pos : Pos} (ha : DE X a ta) (hb : DE X b tb) : DE X (.BinOp a .Add b pos) (dBin rdAdd ta tb) := de_op op_addAll od_add ha hb
/-- a * b -/
def MulOk (i j : Int) : Prop := CMul i j ∨ CMulW i j
def rdMul : RD := rdI fun i j Q S => MulOk i j ∧ Q (.int (i * j)) S
theorem op_mulAll : OpR X (binaryOp .Mult) (rI MulOk fun i j => .int (i * j)) := by
  intro pins s σ H x y v u Q I rx ry h
  obtain ⟨i, j, e1, e2, c, q⟩ := h
  rcases c with c | c
  · exact op_mul pins s σ H x y v u Q I rx ry ⟨i, j, e1, e2, c, q⟩
  · exact op_mulW pins s σ H x y v u Q I rx ry ⟨i, j, e1, e2, c, q⟩
theorem de_mul {a b : Expr} {ta tb : TD} {pos : Pos} (ha : DE X a ta) (hb : DE X b tb) : DE X (.BinOp a .Mult b pos) (dBin rdMul ta tb) := de_op op_mulAll (opd_I (fun _ _ h => h) fun _ _ _ => .int _) ha hb
/-- a // b -/
def rdDiv : RD := rdI fun i j Q S => CDivW i j ∧ Q (.int (i / j)) S
theorem de_div {a b : Expr} {ta tb : TD} {pos : Pos} (ha : DE X a ta) (hb : DE X b tb) : DE X (.BinOp a .FloorDiv b pos) (dBin rdDiv ta tb) := de_op op_fdivW (opd_I (fun _ _ h => h) fun _ _ _ => .int _) ha hb
/-- -a -/
def dNeg (ta : TD) : TD := fun e S Q => ta e S fun x S1 => match x with
  | .int i => Q (.int (-i)) S1
  | _ => False
theorem de_neg {a : Expr} {ta : TD} {pos : Pos} (ha : DE X a ta) : DE X (.UnaryOp .USub a pos) (dNeg ta) := by
  refine PE.le (pe_un un_neg ha) fun σ H Q h => ?_
  obtain ⟨e, S, Q0, re, rs, ht, k⟩ := h
  refine ⟨e, S, _, re, rs, ht, fun x S1 v1 H1 h1 p1 rs1 r1 => ?_⟩
  cases x with
  | int i => cases r1; exact ⟨i, rfl, k _ S1 _ H1 h1 p1 rs1 (.int _)⟩
  | _ => exact h1.elim

/-! ### 7. equality of data -/
mutual
def toPy : D → PyData
  | .non => .none
  | .bl b => .bool b
  | .int i => .int i
  | .str x => .str x
  | .tup xs => .tuple (toPys xs)
  | .rol xs => .list (toPys xs)
  | .loc _ => .none
  | .ty _ => .none
def toPys : List D → List PyData
  | [] => []
  | x :: xs => toPy x :: toPys xs
end
theorem toPys_map : ∀ xs : List D, toPys xs = xs.map toPy
  | [] => rfl
  | x :: xs => by rw [toPys, toPys_map xs]; rfl
/-- data without cells, at most n deep -/
def fine : Nat → D → Prop
  | 0, d => match d with
    | .non => True
    | .bl _ => True
    | .int _ => True
    | .str x => PyData.canLay0 (.str x) = true
    | _ => False
  | n + 1, d => match d with
    | .non => True
    | .bl _ => True
    | .int _ => True
    | .str x => PyData.canLay0 (.str x) = true
    | .tup xs => ∀ x ∈ xs, fine n x
    | _ => False
theorem lay_all : ∀ (xs : List D), (∀ x ∈ xs, (toPy x).canLay0 = true) → PyData.canLayAll0 (toPys xs) = true
  | [], _ => rfl
  | x :: xs, h => by
    show (PyData.canLay0 (toPy x) && PyData.canLayAll0 (toPys xs)) = true
    rw [h x List.mem_cons_self, lay_all xs fun y hy => h y (List.mem_cons_of_mem _ hy)]
    rfl
theorem deep_all : ∀ (xs : List D) (n : Nat), (∀ x ∈ xs, (toPy x).depth ≤ n) → PyData.depthAll (toPys xs) ≤ n
  | [], _, _ => Nat.zero_le _
  | x :: xs, n, h => by
    have h1 := h x List.mem_cons_self
    have h2 := deep_all xs n fun y hy => h y (List.mem_cons_of_mem _ hy)
    show PyData.depthAll (toPy x :: toPys xs) ≤ n
    simp only [PyData.depthAll]
    omega
theorem fine_lay : ∀ (n : Nat) (d : D), fine n d → (toPy d).canLay0 = true ∧ (toPy d).depth ≤ n + 1
  | 0, d, h => by
    cases d with
    | str x => exact ⟨h, by simp [toPy, PyData.depth]⟩
    | tup xs => exact (show False from h).elim
    | rol xs => exact (show False from h).elim
    | loc a => exact (show False from h).elim
    | ty a => exact (show False from h).elim
    | _ => exact ⟨rfl, by simp [toPy, PyData.depth]⟩
  | n + 1, d, h => by
    cases d with
    | str x => exact ⟨h, by simp [toPy, PyData.depth]⟩
    | tup xs =>
      have h' : ∀ x ∈ xs, fine n x := h
      refine ⟨lay_all xs fun x hx => (fine_lay n x (h' x hx)).1, ?_⟩
      have q := deep_all xs (n + 1) fun x hx => (fine_lay n x (h' x hx)).2
      simp only [toPy, PyData.depth]
      omega
    | rol xs => exact (show False from h).elim
    | loc a => exact (show False from h).elim
    | ty a => exact (show False from h).elim
    | _ => exact ⟨rfl, by simp [toPy, PyData.depth]⟩
theorem fine_shaped {n : Nat} {d : D} (h : fine n d) (hn : n ≤ 60) : SeqAt.shaped (toPy d) = true := by
  obtain ⟨a, b⟩ := fine_lay n d h
  unfold SeqAt.shaped
  rw [a, decide_eq_true (by omega)]
  rfl
theorem reps_dp {K : PySem.W.Frag} {H : Hp} : ∀ (ds : List D), (∀ d ∈ ds, ∀ v, Rep K H d v → Dp K H v (toPy d)) → ∀ vs, Reps K H ds vs → DpAll K H vs (toPys ds)
  | [], _, _, .nil => .nil
  | d :: ds, f, _, .cons h r => .cons (f d List.mem_cons_self _ h) (reps_dp ds (fun y hy => f y (List.mem_cons_of_mem _ hy)) _ r)
theorem fine_dp {K : PySem.W.Frag} {H : Hp} : ∀ (n : Nat) (d : D), fine n d → ∀ v, Rep K H d v → Dp K H v (toPy d)
  | 0, d, h, v, r => by
    cases r with
    | non => exact .non
    | bl b => exact .bl b
    | int i => exact .int i
    | str x => exact .str x
    | _ => exact (show False from h).elim
  | n + 1, d, h, v, r => by
    cases r with
    | non => exact .non
    | bl b => exact .bl b
    | int i => exact .int i
    | str x => exact .str x
    | tup hq q =>
      have h' : ∀ x ∈ _, fine n x := h
      exact .tup hq (reps_dp _ (fun d hd => fine_dp n d (h' d hd)) _ q)
    | _ => exact (show False from h).elim
/-- x == y, x != y -/
def rdEqN (g : Bool → Bool) : RD := fun x y S Q => match x, y with
  | .loc p, .loc q => match S p, S q with
    | some (.lst xs), some (.lst ys) => ((∀ x ∈ xs, fine 50 x) ∧ ∀ x ∈ ys, fine 50 x) ∧ Q (.bl (g (PyData.eqvAll (toPys xs) (toPys ys)))) S
    | _, _ => False
  | .int i, .int j => Q (.bl (g (decide (i = j)))) S
  | .str i, .str j => Q (.bl (g (decide (i = j)))) S
  | x, y => (fine 50 x ∧ fine 50 y) ∧ Q (.bl (g (PyData.eqv (toPy x) (toPy y)))) S
def rdEq : RD := rdEqN fun b => b
def rdNe : RD := rdEqN fun b => !b
theorem dp_lst {K : PySem.W.Frag} {S : Sto} {H : Hp} {p : Addr} {xs : List D} (rs : RelS K S H) (e : S p = some (.lst xs)) (f : ∀ x ∈ xs, fine 50 x) : Dp K H (.ref p) (.list (toPys xs)) ∧ SeqAt.shaped (.list (toPys xs)) = true := by
  obtain ⟨vs, a, b⟩ := rs _ _ e
  refine ⟨.lst (.of a) (reps_dp _ (fun d hd => fine_dp 50 d (f d hd)) _ b), ?_⟩
  have q := deep_all xs 51 fun x hx => (fine_lay 50 x (f x hx)).2
  unfold SeqAt.shaped
  rw [Bool.and_eq_true]
  refine ⟨lay_all xs fun x hx => (fine_lay 50 x (f x hx)).1, decide_eq_true ?_⟩
  simp only [PyData.depth]
  omega
theorem em_eqv {K : PySem.W.Frag} {g : Bool → Bool} {d1 d2 : D} {S : Sto} {Q0 : DK} {v1 v2 : V} {H : Hp} {Q : VK} (rs : RelS K S H) (r1 : Rep K H d1 v1) (r2 : Rep K H d2 v2) (h : rdEqN g d1 d2 S Q0)
    (k : ∀ d S' v H', Q0 d S' → Post K S H S' H' → RelS K S' H' → Rep K H' d v → Q v H') : (∃ d e, Dp K H v1 d ∧ Dp K H v2 e ∧ SeqAt.shaped d = true ∧ SeqAt.shaped e = true ∧ Q (.bl (g (PyData.eqv d e))) H) ∨ (scal v1 v2 = true ∧ Q (.bl (g (decide (v1 = v2)))) H) := by
  unfold rdEqN at h
  split at h
  · cases r1; cases r2
    split at h
    · rename_i xs ys e1 e2
      obtain ⟨a1, b1⟩ := dp_lst rs e1 h.1.1
      obtain ⟨a2, b2⟩ := dp_lst rs e2 h.1.2
      exact .inl ⟨_, _, a1, a2, b1, b2, k _ S _ H h.2 Post.refl rs (.bl _)⟩
    · exact h.elim
  · cases r1; cases r2
    exact .inl ⟨_, _, .int _, .int _, rfl, rfl, k _ S _ H (by simpa only [PyData.eqv, Bool.beq_eq_decide_eq] using h) Post.refl rs (.bl _)⟩
  · cases r1; cases r2
    rename_i i j
    have e : decide (V.str i = V.str j) = decide (i = j) := by simp
    exact .inr ⟨rfl, k _ S _ H (by rw [e]; exact h) Post.refl rs (.bl _)⟩
  · exact .inl ⟨_, _, fine_dp 50 _ h.1.1 _ r1, fine_dp 50 _ h.1.2 _ r2, fine_shaped h.1.1 (by decide), fine_shaped h.1.2 (by decide), k _ S _ H h.2 Post.refl rs (.bl _)⟩
def rEqA (K : PySem.W.Frag) : R2 := fun x y H Q => rEqD K x y H Q ∨ rEq x y H Q
def rNeA (K : PySem.W.Frag) : R2 := fun x y H Q => rNeD K x y H Q ∨ rNe x y H Q
theorem op_eqA {X : Cx} (hu : X.A.units + 64 < cLine) : OpR X (compareOp .Eq) (rEqA X.K) := (op_eqD hu).or op_eq
theorem op_neA {X : Cx} (hu : X.A.units + 64 < cLine) : OpR X (compareOp .NotEq) (rNeA X.K) := (op_neD hu).or op_ne
theorem od_eq {K : PySem.W.Frag} : OpD K (rEqA K) rdEq := fun _ _ _ _ _ _ _ _ rs r1 r2 h k => em_eqv rs r1 r2 h k
theorem od_ne {K : PySem.W.Frag} : OpD K (rNeA K) rdNe := fun _ _ _ _ _ _ _ _ rs r1 r2 h k => em_eqv rs r1 r2 h k
end
end QL
end L2
namespace L2
namespace QL
open PySem PySem.Spec PyProof.Rows
section
variable {X : Cx}
/-! ### 8. tests -/
def dTru (t : TD) : TTD := fun e S Q => t e S fun d S1 => match d with
  | .non => Q false S1
  | .bl b => Q b S1
  | .int i => Q (i != 0) S1
  | .str x => x.length ≤ sizeLine ∧ Q ((x.length : Int) != 0) S1
  | .tup xs => Q (!xs.isEmpty) S1
  | .rol xs => Q (!xs.isEmpty) S1
  | .loc a => match S1 a with
    | some (.lst xs) => Q (!xs.isEmpty) S1
    | some (.dic kvs) => Q (!kvs.isEmpty) S1
    | _ => False
  | .ty _ => False
theorem reps_empty {K : PySem.W.Frag} {H : Hp} {ds : List D} {vs : List V} (r : Reps K H ds vs) : ds.isEmpty = vs.isEmpty := by cases r <;> rfl
theorem ro_sql {K : PySem.W.Frag} {H : Hp} {a : Addr} {vs : List V} (h : Ro K H a vs) : SqL K H a vs := by
  rcases h with ⟨o, h⟩ | h
  · exact .inl (.inr ⟨o, h⟩)
  · rcases h with h | h
    · rcases h with h | ⟨_, h⟩ <;> cases h
    · exact .inr h
theorem em_tru {K : PySem.W.Frag} {t : TD} {σ : St} {H : Hp} {Q : Bool → Hp → Prop} (h : emT K (dTru t) σ H Q) : emE K t σ H (fun x H' => ∃ k, TruV K x H' k ∧ Q k H') := by
  obtain ⟨e, S, Q0, re, rs, ht, k⟩ := h
  refine ⟨e, S, _, re, rs, ht, fun d S1 v H1 q p rs1 r => ?_⟩
  cases r with
  | non => exact ⟨_, rfl, k _ S1 H1 q p rs1⟩
  | bl b => exact ⟨_, rfl, k _ S1 H1 q p rs1⟩
  | int b => exact ⟨_, rfl, k _ S1 H1 q p rs1⟩
  | str b => exact ⟨_, ⟨q.1, rfl⟩, k _ S1 H1 q.2 p rs1⟩
  | ty n => exact q.elim
  | tup hq r => exact ⟨_, .inr (.inl ⟨_, hq, rfl⟩), k _ S1 H1 (by rw [← reps_empty r]; exact q) p rs1⟩
  | rol hq r => exact ⟨_, .inl ⟨_, ro_sql hq, rfl⟩, k _ S1 H1 (by rw [← reps_empty r]; exact q) p rs1⟩
  | loc a =>
    dsimp only at q
    split at q
    · rename_i xs e1
      obtain ⟨vs, a1, b1⟩ := rs1 _ _ e1
      exact ⟨_, .inl ⟨_, .of a1, rfl⟩, k _ S1 H1 (by rw [← reps_empty b1]; exact q) p rs1⟩
    · rename_i kvs e1
      obtain ⟨vs, a1, b1⟩ := rs1 _ _ e1
      exact ⟨_, .inr (.inr ⟨_, a1, rfl⟩), k _ S1 H1 (by
        have e : kvs.isEmpty = vs.isEmpty := by cases b1 <;> rfl
        rw [← e]; exact q) p rs1⟩
    · exact q.elim
section
variable {a b c : Expr} {rest : List Expr} {pos : Pos} {ta tb tc : TTD} {te tf : TD}
theorem dt_tru (h : DE X a te) (he : ∀ whole, isTrue a X.env whole = (do let v ← whole; standAt a.pos; holding [v] (truthy v)) := by intro _; rfl) : DT X a (dTru te) :=
  PT.le (pt_truth h he) fun _ _ _ q => em_tru q
def dAnd (t u : TTD) : TTD := fun e S Q => t e S fun c S1 => match c with
  | true => u e S1 Q
  | false => Q false S1
def dOr (t u : TTD) : TTD := fun e S Q => t e S fun c S1 => match c with
  | true => Q true S1
  | false => u e S1 Q
def dNot (t : TTD) : TTD := fun e S Q => t e S fun c S1 => Q (!c) S1
theorem dw_and1 (ha : DT X a ta) : DW X (.BoolOp .And [a] pos) ta := pw_and1 ha
theorem dw_or1 (ha : DT X a ta) : DW X (.BoolOp .Or [a] pos) ta := pw_or1 ha
theorem dw_and (ha : DT X a ta) (hb : DW X (.BoolOp .And (b :: rest) pos) tb) : DW X (.BoolOp .And (a :: b :: rest) pos) (dAnd ta tb) :=
  PW.le (pw_and ha hb) fun σ H Q h => by
    obtain ⟨e, S, Q0, re, rs, ht, k⟩ := h
    refine ⟨e, S, _, re, rs, ht, fun d S1 H1 q p rs1 => ?_⟩
    cases d with
    | true => exact iteT ⟨e, S1, Q0, re.mono p.tk, rs1, q, fun b S' H' q' p' rs' => k b S' H' q' (p.trans p') rs'⟩
    | false => exact iteF (k _ S1 H1 q p rs1)
theorem dw_or (ha : DT X a ta) (hb : DW X (.BoolOp .Or (b :: rest) pos) tb) : DW X (.BoolOp .Or (a :: b :: rest) pos) (dOr ta tb) :=
  PW.le (pw_or ha hb) fun σ H Q h => by
    obtain ⟨e, S, Q0, re, rs, ht, k⟩ := h
    refine ⟨e, S, _, re, rs, ht, fun d S1 H1 q p rs1 => ?_⟩
    cases d with
    | true => exact iteT (k _ S1 H1 q p rs1)
    | false => exact iteF ⟨e, S1, Q0, re.mono p.tk, rs1, q, fun b S' H' q' p' rs' => k b S' H' q' (p.trans p') rs'⟩
theorem dw_pt (h : DW X a ta) : DT X a ta := PW.pt h
theorem dt_not (ha : DT X a ta) : DT X (.UnaryOp .Not a pos) (dNot ta) :=
  PT.le (pt_not ha) fun σ H Q h => by
    obtain ⟨e, S, Q0, re, rs, ht, k⟩ := h
    exact ⟨e, S, _, re, rs, ht, fun d S1 H1 q p rs1 => k _ S1 H1 q p rs1⟩
/-- and, or as values: all but the last bools -/
def dAndV (t u : TD) : TD := fun e S Q => t e S fun d S1 => match d with
  | .bl true => u e S1 Q
  | .bl false => Q (.bl false) S1
  | _ => False
def dOrV (t u : TD) : TD := fun e S Q => t e S fun d S1 => match d with
  | .bl true => Q (.bl true) S1
  | .bl false => u e S1 Q
  | _ => False
def dNotV (t : TD) : TD := fun e S Q => t e S fun d S1 => match d with
  | .bl b => Q (.bl (!b)) S1
  | _ => False
theorem de_one {op} (h : DE X a te) : DE X (.BoolOp op [a] pos) te := pe_one h
theorem de_and (ha : DE X a te) (hb : DE X (.BoolOp .And (b :: rest) pos) tf) : DE X (.BoolOp .And (a :: b :: rest) pos) (dAndV te tf) :=
  PE.le (pe_and ha hb) fun σ H Q h => by
    obtain ⟨e, S, Q0, re, rs, ht, k⟩ := h
    refine ⟨e, S, _, re, rs, ht, fun d S1 v H1 q p rs1 r => ?_⟩
    cases r with
    | bl b =>
      refine ⟨b, rfl, ?_⟩
      cases b with
      | true => exact iteT ⟨e, S1, Q0, re.mono p.tk, rs1, q, fun b S' v' H' q' p' rs' => k b S' v' H' q' (p.trans p') rs'⟩
      | false => exact iteF (k _ S1 _ H1 q p rs1 (.bl _))
    | _ => exact q.elim
theorem de_or (ha : DE X a te) (hb : DE X (.BoolOp .Or (b :: rest) pos) tf) : DE X (.BoolOp .Or (a :: b :: rest) pos) (dOrV te tf) :=
  PE.le (pe_or ha hb) fun σ H Q h => by
    obtain ⟨e, S, Q0, re, rs, ht, k⟩ := h
    refine ⟨e, S, _, re, rs, ht, fun d S1 v H1 q p rs1 r => ?_⟩
    cases r with
    | bl b =>
      refine ⟨b, rfl, ?_⟩
      cases b with
      | true => exact iteT (k _ S1 _ H1 q p rs1 (.bl _))
      | false => exact iteF ⟨e, S1, Q0, re.mono p.tk, rs1, q, fun b S' v' H' q' p' rs' => k b S' v' H' q' (p.trans p') rs'⟩
    | _ => exact q.elim
theorem de_not (ha : DE X a te) : DE X (.UnaryOp .Not a pos) (dNotV te) :=
  PE.le (pe_not ha) fun σ H Q h => by
    obtain ⟨e, S, Q0, re, rs, ht, k⟩ := h
    refine ⟨e, S, _, re, rs, ht, fun d S1 v H1 q p rs1 r => ?_⟩
    cases r with
    | bl b => exact ⟨b, rfl, k _ S1 _ H1 q p rs1 (.bl _)⟩
    | _ => exact q.elim
def dIf (t : TTD) (u v : TD) : TD := fun e S Q => t e S fun c S1 => match c with
  | true => u e S1 Q
  | false => v e S1 Q
theorem de_if (hc : DT X c tc) (ha : DE X a te) (hb : DE X b tf) : DE X (.IfExp c a b pos) (dIf tc te tf) :=
  PE.le (pe_ifExp hc ha hb) fun σ H Q h => by
    obtain ⟨e, S, Q0, re, rs, ht, k⟩ := h
    refine ⟨e, S, _, re, rs, ht, fun d S1 H1 q p rs1 => ?_⟩
    cases d with
    | true => exact iteT ⟨e, S1, Q0, re.mono p.tk, rs1, q, fun b S' v' H' q' p' rs' => k b S' v' H' q' (p.trans p') rs'⟩
    | false => exact iteF ⟨e, S1, Q0, re.mono p.tk, rs1, q, fun b S' v' H' q' p' rs' => k b S' v' H' q' (p.trans p') rs'⟩
end
/-- x is None, x is not None -/
def isNon : D → Bool
  | .non => true
  | _ => false
def rdIsN (g : Bool → Bool) : RD := fun x y S Q => match y with
  | .non => Q (.bl (g (isNon x))) S
  | _ => False
theorem rep_non {K : PySem.W.Frag} {H : Hp} {d : D} {v : V} (r : Rep K H d v) : decide (v = .non) = isNon d := by cases r <;> rfl
theorem od_is {K : PySem.W.Frag} : OpD K (fun x y H Q => y = .non ∧ Q (.bl (decide (x = .non))) H) (rdIsN fun b => b) := by
  intro d1 d2 S Q0 v1 v2 H Q rs r1 r2 h k
  cases r2 with
  | non => exact ⟨rfl, by rw [rep_non r1]; exact k _ S _ H h Post.refl rs (.bl _)⟩
  | _ => exact h.elim
theorem od_isnot {K : PySem.W.Frag} : OpD K (fun x y H Q => y = .non ∧ Q (.bl (!decide (x = .non))) H) (rdIsN fun b => !b) := by
  intro d1 d2 S Q0 v1 v2 H Q rs r1 r2 h k
  cases r2 with
  | non => exact ⟨rfl, by rw [rep_non r1]; exact k _ S _ H h Post.refl rs (.bl _)⟩
  | _ => exact h.elim
/-- x in a tuple or list of flat items -/
def flatD : D → Bool
  | .non => true
  | .bl _ => true
  | .int _ => true
  | .str _ => true
  | _ => false
def toV : D → V
  | .non => .non
  | .bl b => .bl b
  | .int i => .int i
  | .str x => .str x
  | _ => .non
theorem flat_rep {K : PySem.W.Frag} {H : Hp} {d : D} {v : V} (r : Rep K H d v) (f : flatD d = true) : v = toV d ∧ flatV v = true := by
  cases r <;> first | exact ⟨rfl, rfl⟩ | cases f
theorem flat_reps {K : PySem.W.Frag} {H : Hp} : ∀ {ds : List D} {vs : List V}, Reps K H ds vs → (∀ x ∈ ds, flatD x = true) → vs = ds.map toV ∧ vs.all flatV = true
  | _, _, .nil, _ => ⟨rfl, rfl⟩
  | _, _, .cons h r, f => by
    obtain ⟨e1, e2⟩ := flat_rep h (f _ List.mem_cons_self)
    obtain ⟨e3, e4⟩ := flat_reps r fun x hx => f x (List.mem_cons_of_mem _ hx)
    exact ⟨by rw [e1, e3]; rfl, by rw [List.all_cons, e2, e4]; rfl⟩
def inD (x : D) (ys : List D) : Bool := inV (toV x) (ys.map toV)
def rdIn (g : Bool → Bool) : RD := fun x y S Q => match y with
  | .tup ys => (flatD x = true ∧ ∀ z ∈ ys, flatD z = true) ∧ Q (.bl (g (inD x ys))) S
  | .rol ys => (flatD x = true ∧ ∀ z ∈ ys, flatD z = true) ∧ Q (.bl (g (inD x ys))) S
  | .loc p => match S p with
    | some (.lst ys) => (flatD x = true ∧ ∀ z ∈ ys, flatD z = true) ∧ Q (.bl (g (inD x ys))) S
    | _ => False
  | _ => False
theorem em_in {K : PySem.W.Frag} {g : Bool → Bool} {d1 d2 : D} {S : Sto} {Q0 : DK} {v1 v2 : V} {H : Hp} {Q : VK} (rs : RelS K S H) (r1 : Rep K H d1 v1) (r2 : Rep K H d2 v2) (h : rdIn g d1 d2 S Q0)
    (k : ∀ d S' v H', Q0 d S' → Post K S H S' H' → RelS K S' H' → Rep K H' d v → Q v H') : ∃ p xs, v2 = .ref p ∧ (SqL K H p xs ∨ SqT K H p xs) ∧ flatV v1 = true ∧ xs.all flatV = true ∧ Q (.bl (g (inV v1 xs))) H := by
  cases r2 with
  | tup hq r =>
    obtain ⟨e1, e2⟩ := flat_rep r1 h.1.1
    obtain ⟨e3, e4⟩ := flat_reps r h.1.2
    exact ⟨_, _, rfl, .inr hq, e2, e4, by rw [e1, e3]; exact k _ S _ H h.2 Post.refl rs (.bl _)⟩
  | rol hq r =>
    obtain ⟨e1, e2⟩ := flat_rep r1 h.1.1
    obtain ⟨e3, e4⟩ := flat_reps r h.1.2
    exact ⟨_, _, rfl, .inl (ro_sql hq), e2, e4, by rw [e1, e3]; exact k _ S _ H h.2 Post.refl rs (.bl _)⟩
  | loc a =>
    dsimp only [rdIn] at h
    split at h
    · rename_i ys e
      obtain ⟨vs, a1, r⟩ := rs _ _ e
      obtain ⟨e1, e2⟩ := flat_rep r1 h.1.1
      obtain ⟨e3, e4⟩ := flat_reps r h.1.2
      exact ⟨_, _, rfl, .inl (.of a1), e2, e4, by rw [e1, e3]; exact k _ S _ H h.2 Post.refl rs (.bl _)⟩
    · exact h.elim
  | _ => exact h.elim
theorem od_in {K : PySem.W.Frag} : OpD K (rIn K false) (rdIn fun b => b) := fun _ _ _ _ _ _ _ _ rs r1 r2 h k => em_in rs r1 r2 h k
theorem od_notIn {K : PySem.W.Frag} : OpD K (rIn K true) (rdIn fun b => !b) := fun _ _ _ _ _ _ _ _ rs r1 r2 h k => em_in rs r1 r2 h k

/-! ### 9. items, parts -/
def rdIx : RD := fun x y S Q => match y with
  | .int i => match x with
    | .tup xs => match atI xs i with
      | some d => Q d S
      | none => False
    | .rol xs => match atI xs i with
      | some d => Q d S
      | none => False
    | .str z => z.length ≤ sizeLine ∧ match atI z.cps.toList i with
      | some c => Q (.str ⟨#[c]⟩) S
      | none => False
    | .loc p => match S p with
      | some (.lst xs) => match atI xs i with
        | some d => Q d S
        | none => False
      | _ => False
    | _ => False
  | _ => False
theorem atI_reps {K : PySem.W.Frag} {H : Hp} {ds : List D} {vs : List V} {i : Int} {d : D} (r : Reps K H ds vs) (e : atI ds i = some d) : ∃ v, atI vs i = some v ∧ Rep K H d v := by
  unfold atI at e ⊢
  rw [← r.length]
  cases q : ixN ds.length i with
  | none => rw [q] at e; cases e
  | some j =>
    rw [q] at e
    exact r.get (i := j) e
theorem od_ix {K : PySem.W.Frag} : OpD K (rIx K) rdIx := by
  intro d1 d2 S Q0 v1 v2 H Q rs r1 r2 h k
  cases r2 with
  | int i =>
    cases r1 with
    | tup hq r =>
      dsimp only [rdIx] at h
      split at h
      · rename_i d e
        obtain ⟨v, e1, e2⟩ := atI_reps r e
        exact .inr (.inl ⟨_, _, _, _, rfl, rfl, hq, e1, k _ S _ H h Post.refl rs e2⟩)
      · exact h.elim
    | rol hq r =>
      dsimp only [rdIx] at h
      split at h
      · rename_i d e
        obtain ⟨v, e1, e2⟩ := atI_reps r e
        exact .inl ⟨_, _, _, _, rfl, rfl, ro_sql hq, e1, k _ S _ H h Post.refl rs e2⟩
      · exact h.elim
    | str z =>
      dsimp only [rdIx] at h
      obtain ⟨hz, h⟩ := h
      split at h
      · rename_i c e
        exact .inr (.inr ⟨_, _, _, rfl, rfl, hz, e, k _ S _ H h Post.refl rs (.str _)⟩)
      · exact h.elim
    | loc p =>
      dsimp only [rdIx] at h
      split at h
      · rename_i xs e
        obtain ⟨vs, a1, r⟩ := rs _ _ e
        split at h
        · rename_i d e
          obtain ⟨v, e1, e2⟩ := atI_reps r e
          exact .inl ⟨_, _, _, _, rfl, rfl, .of a1, e1, k _ S _ H h Post.refl rs e2⟩
        · exact h.elim
      · exact h.elim
    | _ => exact (show False from h).elim
  | _ => exact (show False from h).elim
theorem de_ix {a b : Expr} {ta tb : TD} {pos : Pos} (ha : DE X a ta) (hb : DE X b tb) (hs : PlainIx b := by intro _ _; rfl) : DE X (.Subscript a b pos) (dBin rdIx ta tb) :=
  PE.le (pe_ix ix_seq ha hb hs) fun _ _ _ h => em_bin od_ix h
/-- x[lo:hi] -/
abbrev TOD := DEnv → Sto → (Option Int → Sto → Prop) → Prop
def emO (K : PySem.W.Frag) (t : TOD) : TO := fun σ H Q => ∃ e S Q0, RelE K H e σ ∧ RelS K S H ∧ t e S Q0 ∧ ∀ o S' H', Q0 o S' → Post K S H S' H' → RelS K S' H' → Q o H'
abbrev DO (X : Cx) (e : Option Expr) (t : TOD) : Prop := PO X e (emO X.K t)
theorem PO.le {e : Option Expr} {t u : TO} (h : PO X e t) (k : ∀ σ H Q, u σ H Q → t σ H Q) : PO X e u := ⟨fun pins s σ H Q I q => h.run pins s σ H Q I (k _ _ _ q)⟩
def dNoPart : TOD := fun _ S Q => Q none S
def dPart (t : TD) : TOD := fun e S Q => t e S fun d S1 => match d with
  | .int i => Q (some i) S1
  | _ => False
theorem do_none : DO X none dNoPart := PO.le po_none fun σ H Q h => by
  obtain ⟨e, S, Q0, re, rs, ht, k⟩ := h
  exact k _ S H ht Post.refl rs
theorem do_some {a : Expr} {t : TD} (h : DE X a t) : DO X (some a) (dPart t) := PO.le (po_some h) fun σ H Q h => by
  obtain ⟨e, S, Q0, re, rs, ht, k⟩ := h
  refine ⟨e, S, _, re, rs, ht, fun d S1 v H1 q p rs1 r => ?_⟩
  cases r with
  | int i => exact ⟨i, rfl, k _ S1 H1 q p rs1⟩
  | _ => exact q.elim
def cutD {α : Type} (xs : List α) (lo hi : Option Int) : List α := (xs.drop (HT.sIx xs.length 0 lo)).take (HT.sIx xs.length xs.length hi - HT.sIx xs.length 0 lo)
def dSl (te : TD) (tl th : TOD) : TD := fun e S Q => te e S fun x S1 => tl e S1 fun lo S2 => th e S2 fun hi S3 => match x with
  | .tup xs => Q (.tup (cutD xs lo hi)) S3
  | .rol xs => ∀ a, S3 a = none → Q (.loc a) (S3.put a (.lst (cutD xs lo hi)))
  | .loc p => match S3 p with
    | some (.lst xs) => ∀ a, S3 a = none → Q (.loc a) (S3.put a (.lst (cutD xs lo hi)))
    | _ => False
  | _ => False
theorem reps_cut {K : PySem.W.Frag} {H : Hp} {ds : List D} {vs : List V} (lo hi : Option Int) (r : Reps K H ds vs) : Reps K H (cutD ds lo hi) (cutV vs lo hi) := by
  unfold cutD cutV
  rw [r.length]
  exact (r.drop _).take _
theorem cut_all {α : Type} {xs : List α} {lo hi : Option Int} (h : HT.sIx xs.length 0 lo = 0 ∧ HT.sIx xs.length xs.length hi = xs.length) : cutD xs lo hi = xs := by
  unfold cutD
  rw [h.1, h.2]
  simp
theorem de_slice {a : Expr} {lo hi : Option Expr} {te : TD} {tl th : TOD} {pos p2 : Pos} (he : DE X a te) (hl : DO X lo tl) (hh : DO X hi th) : DE X (.Subscript a (.Slice lo hi none p2) pos) (dSl te tl th) :=
  PE.le (pe_slice (sl_tupA.or sl_list) he hl hh) fun σ H Q h => by
    obtain ⟨e, S, Q0, re, rs, ht, k⟩ := h
    refine ⟨e, S, _, re, rs, ht, fun x S1 v1 H1 h1 p1 rs1 r1 => ?_⟩
    refine ⟨e, S1, _, re.mono p1.tk, rs1, h1, fun lo S2 H2 h2 p2 rs2 => ?_⟩
    refine ⟨e, S2, _, re.mono (p1.trans p2).tk, rs2, h2, fun hi S3 H3 h3 p3 rs3 => ?_⟩
    have pp := (p1.trans p2).trans p3
    have r3 := r1.mono (p2.trans p3).tk
    cases r3 with
    | tup hq r =>
      refine .inl ⟨_, _, rfl, hq, fun e0 => ?_, fun _ p hp => ?_⟩
      · dsimp only at h3
        rw [cut_all (by rw [r.length]; exact e0)] at h3
        exact k _ S3 _ H3 h3 pp rs3 (.tup hq r)
      · have f : Free (H3 p) := by rw [hp]; trivial
        exact k _ S3 _ _ h3 (pp.trans (Post.lay hp)) (rs3.upd f (rs3.none_of hp)) (.tup (.of upd_same) ((reps_cut lo hi r).mono (TK.upd f)))
    | rol hq r =>
      exact .inr ⟨_, _, rfl, ro_sql hq, fun p hp => k _ _ _ _ (h3 p (rs3.none_of hp)) (pp.trans (Post.new hp)) (new_lst rs3 hp (reps_cut lo hi r)) (.loc p)⟩
    | loc a =>
      dsimp only at h3
      split at h3
      · rename_i xs e1
        obtain ⟨vs, a1, r⟩ := rs3 _ _ e1
        exact .inr ⟨_, _, rfl, .of a1, fun p hp => k _ _ _ _ (h3 p (rs3.none_of hp)) (pp.trans (Post.new hp)) (new_lst rs3 hp (reps_cut lo hi r)) (.loc p)⟩
      · exact h3.elim
    | _ => exact h3.elim

/-! ### 10. arguments, displays -/
def dNil : TAD := fun _ S Q => Q [] S
def dCons (t : TD) (u : TAD) : TAD := fun e S Q => t e S fun d S1 => u e S1 fun ds S2 => Q (d :: ds) S2
theorem da_nil : DA X [] dNil := PA.le pa_nil fun σ H Q h => by
  obtain ⟨e, S, Q0, re, rs, ht, k⟩ := h
  exact k _ S _ H ht Post.refl rs .nil
theorem da_cons {e : Expr} {es : List Expr} {te : TD} {t : TAD} (ha : DE X e te) (hr : DA X es t) (hs : starEach (e :: es) X.env = (false, eval e X.env) :: starEach es X.env := by rfl) : DA X (e :: es) (dCons te t) :=
  PA.le (pa_cons ha hr hs) fun σ H Q h => by
    obtain ⟨e, S, Q0, re, rs, ht, k⟩ := h
    refine ⟨e, S, _, re, rs, ht, fun x S1 v1 H1 h1 p1 rs1 r1 => ?_⟩
    refine ⟨e, S1, _, re.mono p1.tk, rs1, h1, fun ds S2 vs H2 h2 p2 rs2 r2 => ?_⟩
    exact k _ S2 _ H2 h2 (p1.trans p2) rs2 (.cons (r1.mono p2.tk) r2)
def dTup (t : TAD) : TD := fun e S Q => t e S fun ds S1 => ds.length ≤ 1000 ∧ Q (.tup ds) S1
def dLst (t : TAD) : TD := fun e S Q => t e S fun ds S1 => ds.length ≤ 1000 ∧ ∀ a, S1 a = none → Q (.loc a) (S1.put a (.lst ds))
theorem le1000 {n : Nat} (h : n ≤ 1000) : n ≤ sizeLine := by rw [sizeLine_eq]; omega
theorem de_tup {es : List Expr} {t : TAD} {x1} {pos : Pos} (h : DA X es t) : DE X (.Tuple es x1 pos) (dTup t) :=
  PE.le (pe_tup h) fun σ H Q h => by
    obtain ⟨e, S, Q0, re, rs, ht, k⟩ := h
    refine ⟨e, S, _, re, rs, ht, fun ds S1 vs H1 h1 p1 rs1 r1 => ⟨le1000 (by rw [← r1.length]; exact h1.1), fun p hp => ?_⟩⟩
    have f : Free (H1 p) := by rw [hp]; trivial
    exact k _ S1 _ _ h1.2 (p1.trans (Post.lay hp)) (rs1.upd f (rs1.none_of hp)) (.tup (.of upd_same) (r1.mono (TK.upd f)))
theorem de_lst {es : List Expr} {t : TAD} {pos : Pos} (h : DA X es t) : DE X (.List es pos) (dLst t) :=
  PE.le (pe_lst h) fun σ H Q h => by
    obtain ⟨e, S, Q0, re, rs, ht, k⟩ := h
    refine ⟨e, S, _, re, rs, ht, fun ds S1 vs H1 h1 p1 rs1 r1 => ⟨le1000 (by rw [← r1.length]; exact h1.1), fun p hp => ?_⟩⟩
    exact k _ _ _ _ (h1.2 p (rs1.none_of hp)) (p1.trans (Post.new hp)) (new_lst rs1 hp r1) (.loc p)
end
end QL
end L2
/-! strict zip over lists and tuples; enumerate over both -/
namespace L2
namespace QL
open PySem PySem.Spec PyProof.Rows
/-! ### the source: a list (true) or a tuple (false) -/
def SrcIs (K : PySem.W.Frag) (H : Hp) (k : Bool) (a : Addr) (xs : List V) : Prop := match k with
  | true => SqL K H a xs
  | false => SqT K H a xs
def ItSt (k : Bool) (h : Heap) (i l : Addr) (n : Nat) : Prop := match k with
  | true => h.IsListIter i l n
  | false => h.IsTupleIter i l n
def SeqIs (k : Bool) (h : Heap) (l : Addr) (items : Array Value) : Prop := match k with
  | true => h.IsList l items
  | false => h.IsTuple l items
def itObj (k : Bool) (l : Addr) : Obj := { cls := .type (match k with | true => "list_iterator" | false => "tuple_iterator"), data := .fields #[.ref l, .int 0 0] }
theorem src_seq {X : Cx} {pins : List (Addr × Obj)} {σ : St} {H : Hp} {s : Shared} {k : Bool} {a : Addr} {xs : List V} (I : Inv X pins σ H s) (h : SrcIs X.K H k a xs) :
    ∃ its : List Value, Vals xs its ∧ SeqIs k s.heap a its.toArray ∧ xs.length ≤ sizeLine ∧ a < s.heap.objs.size := by
  cases k with
  | true => obtain ⟨its, r, p, z⟩ := I.list h; exact ⟨its, r, p.isList, z, p.lt⟩
  | false => obtain ⟨its, r, p, z⟩ := I.tuple h; exact ⟨its, r, p, z, p.lt⟩
theorem src_draws {prog : Program} {w : World} {A : Around} (hh : A.handled = none) (k : Bool) {it l : Addr} (hne : l ≠ it) (items : Array Value) :
    Draws prog w A it [it, l] items.size (fun i v => items[i]? = some v) (fun i h => ItSt k h it l i ∧ SeqIs k h l items) := by
  cases k with
  | true => exact Draws.list hh it l hne items
  | false => exact Draws.tuple hh it l hne items
theorem src_begins (k : Bool) (l : Addr) (items : Array Value) : Begins (.ref l) (itObj k l) (fun h => SeqIs k h l items) := by
  cases k with
  | true => exact begins_list l items
  | false => exact begins_tuple l items
theorem ItSt.at {k : Bool} {h h' : Heap} {i l : Addr} {n : Nat} (x : ItSt k h i l n) (f : ∀ o, h.get? i = some o → h'.get? i = some o) : ItSt k h' i l n := by
  cases k with
  | true => exact PySem.Heap.IsListIter.at x f
  | false => exact PySem.Heap.IsTupleIter.at x f
theorem ItSt.there {k : Bool} {h : Heap} {i l : Addr} {n : Nat} (x : ItSt k h i l n) : ∃ o, h.get? i = some o ∧ ∀ v, o.data ≠ .cell v := by
  cases k with
  | true => obtain ⟨o, e, _, d⟩ := x; exact ⟨o, e, fun v z => by rw [d] at z; cases z⟩
  | false => obtain ⟨o, e, _, d⟩ := x; exact ⟨o, e, fun v z => by rw [d] at z; cases z⟩
theorem itst_new {k : Bool} {h : Heap} {i l : Addr} (e : h.get? i = some (itObj k l)) : ItSt k h i l 0 := by
  cases k with
  | true => exact ⟨_, e, rfl, rfl⟩
  | false => exact ⟨_, e, rfl, rfl⟩
theorem SeqIs.at {k : Bool} {h h' : Heap} {l : Addr} {items : Array Value} (x : SeqIs k h l items) (f : ∀ o, h.get? l = some o → h'.get? l = some o) : SeqIs k h' l items := by
  cases k with
  | true => exact PySem.Heap.IsList.at x f
  | false => exact PySem.Heap.IsTuple.at x f
theorem SrcIs.inj {X : Cx} {pins : List (Addr × Obj)} {σ : St} {H : Hp} {s : Shared} {k : Bool} {a : Addr} {xs ys : List V} (I : Inv X pins σ H s) (h : SrcIs X.K H k a xs) (h' : SrcIs X.K H k a ys) : xs = ys := by
  cases k with
  | true => exact I.list_inj h h'
  | false => exact I.tuple_inj h h'

/-! ### one draw that may be the end -/
section
variable {prog : Program} {w : World} {A : Around} {E : Value → Shared → Prop} {s : Shared} {it : Addr} {fp : List Addr} {n i : Nat} {P : Nat → Value → Prop} {St0 : Nat → Heap → Prop}
theorem orEnd_item {Q : Option Value → Shared → Prop} (D : Draws prog w A it fp n P St0) (hi : i < n) (st : St0 i s.heap)
    (h : ∀ x h' tk, P i x → St0 (i + 1) h' → Heap.SameBut it s.heap h' → Q (some x) { s with heap := h', toks := tk }) : wpAny (model prog w) A (Builtin.SmallTypes.nextOrEnd (.ref it)) Q E s := by
  unfold Builtin.SmallTypes.nextOrEnd
  exact wpAny_bind (wpAny_attempt (D.item i s _ _ hi st fun x h' tk a b c => wpAny_pure (h x h' tk a b c)))
theorem orEnd_end {Q : Option Value → Shared → Prop} (D : Draws prog w A it fp n P St0) (st : St0 n s.heap) (h : ∀ h', Heap.ExtBut it s.heap h' → Q none { s with heap := h' }) :
    wpAny (model prog w) A (Builtin.SmallTypes.nextOrEnd (.ref it)) Q E s := by
  unfold Builtin.SmallTypes.nextOrEnd
  refine wpAny_bind (wpAny_attempt (D.done s _ _ st fun h' e a ⟨o, ho, hc⟩ => ?_))
  refine wpAny_bind (wpAny_isInstance (T := "StopIteration") (b := true) ⟨o, ho, hc⟩ isSubtype_stop ?_)
  exact wpAny_pure (h h' a)
end

/-! ### the strict zip's record -/
abbrev IsZipS (h : Heap) (z TI TO : Addr) (f0 : Value) : Prop :=
  h.get? z = some { cls := .type "zip", dict := none, data := .fields #[f0, .bool false, .bool true, .ref TI, .ref TO], slots := #[] }
section
variable {prog : Program} {w : World} {A : Around} {E : Value → Shared → Prop} {s : Shared} {z TI TO i1 i2 : Addr} {fp1 fp2 : List Addr} {n i : Nat} {P1 P2 : Nat → Value → Prop} {St1 St2 : Nat → Heap → Prop} {a1 a2 : Value}
theorem zipS_item {Q : Value → Shared → Prop} (S : ZipSep2 z TI TO i1 i2 fp1 fp2) (D1 : Draws prog w A i1 fp1 n P1 St1) (D2 : Draws prog w A i2 fp2 n P2 St2)
    (hz : IsZipS s.heap z TI TO .none) (hTI : IsTupOf2 s.heap TI (.ref i1) (.ref i2)) (hTO : IsTupOf2 s.heap TO a1 a2) (st1 : St1 i s.heap) (st2 : St2 i s.heap) (hlt : i < n)
    (hQ : ∀ x1 x2 h' tk, P1 i x1 → P2 i x2 → IsZipS h' z TI TO (rawInt s.heap.objs.size) → IsTupOf2 h' TO x1 x2 → St1 (i + 1) h' → St2 (i + 1) h' → IsTupOf2 h' s.heap.objs.size x1 x2 → h'.objs.size = s.heap.objs.size + 1 →
      (∀ c o, c ≠ z → c ≠ TO → c ≠ i1 → c ≠ i2 → s.heap.get? c = some o → h'.get? c = some o) → Q (.ref s.heap.objs.size) { s with heap := h', toks := tk }) :
    wpAny (model prog w) A (Builtin.«zip.__next__» ⟨[.ref z], []⟩) (fun fin s' => ∃ v, fin = .done (.ret v) ∧ Q v s') E s := by
  obtain ⟨hp, g, d, tk0, os⟩ := s
  show wpAny _ _ (field (.ref z) 2 >>= _) _ _ _
  refine wpAny_bind (wpAny_field hz rfl (x := .bool true) rfl ?_)
  show wpAny _ _ (field (.ref z) 3 >>= _) _ _ _
  refine wpAny_bind (wpAny_field hz rfl (x := .ref TI) rfl (wpAny_bind (wpAny_seqItems hTI rfl ?_)))
  show wpAny _ _ (Builtin.SmallTypes.ownedTupleIsFree (.ref z) >>= _) _ _ _
  refine wpAny_bind ?_
  unfold Builtin.SmallTypes.ownedTupleIsFree
  refine wpAny_bind (wpAny_field hz rfl (x := .none) rfl (wpAny_pure ?_))
  simp only [if_true]
  refine wpAny_bind (wpAny_rule (wpAny_bind (wpAny_field hz rfl (x := .ref TO) rfl ?_)))
  refine wpAny_bind (wpAny_setField_rec hz (by simp) fun g0 hz0 hs0 => ?_)
  replace hz0 : IsZipS g0 z TI TO .ellipsis := hz0
  replace hs0 : Heap.SameBut z hp g0 := hs0
  refine wpAny_bind ?_
  simp only [List.zipIdx_cons, List.zipIdx_nil, List.forIn_cons, List.forIn_nil]
  refine wpAny_bind (wpAny_bind (wpAny_onRaise ?_))
  show wpAny _ _ (Builtin.SmallTypes.nextOrEnd (.ref i1)) _ _ ⟨g0, g, d, tk0, os⟩
  refine orEnd_item D1 hlt (D1.over st1 hs0 S.zf1) fun x1 p1 tk1 hx1 sn1 hp1 => ?_
  replace hp1 : Heap.SameBut i1 g0 p1 := hp1
  have hU1 : IsTupOf2 p1 TO a1 a2 := hp1.extBut _ _ S.Ti1 (hs0.extBut _ _ S.TOz hTO)
  refine wpAny_bind (wpAny_seqItems (s := ⟨p1, g, d, tk1, os⟩) hU1 rfl ?_)
  refine wpAny_bind (updateSeq_IsTupOf2 (s := ⟨p1, g, d, tk1, os⟩) hU1 fun g1 hT1 hs1 => ?_)
  replace hT1 : IsTupOf2 g1 TO x1 a2 := hT1
  replace hs1 : Heap.SameBut TO p1 g1 := hs1
  refine wpAny_bind (wpAny_letGo (wpAny_pure ?_))
  refine wpAny_bind (wpAny_bind (wpAny_onRaise ?_))
  show wpAny _ _ (Builtin.SmallTypes.nextOrEnd (.ref i2)) _ _ ⟨g1, g, d, tk1, os⟩
  refine orEnd_item D2 hlt (D2.over (D2.over (D2.over st2 hs0 S.zf2) hp1 S.sep1_2) hs1 S.Tf2) fun x2 p2 tk2 hx2 sn2 hp2 => ?_
  replace hp2 : Heap.SameBut i2 g1 p2 := hp2
  have hU2 : IsTupOf2 p2 TO x1 a2 := hp2.extBut _ _ S.Ti2 hT1
  refine wpAny_bind (wpAny_seqItems (s := ⟨p2, g, d, tk2, os⟩) hU2 rfl ?_)
  refine wpAny_bind (updateSeq_IsTupOf2 (s := ⟨p2, g, d, tk2, os⟩) hU2 fun g2 hT2 hs2 => ?_)
  replace hT2 : IsTupOf2 g2 TO x1 x2 := hT2
  replace hs2 : Heap.SameBut TO p2 g2 := hs2
  refine wpAny_bind (wpAny_letGo (wpAny_pure (wpAny_pure ?_)))
  refine wpAny_bind (wpAny_seqItems (s := ⟨g2, g, d, tk2, os⟩) hT2 rfl (wpAny_bind (wpAny_newTuple ?_)))
  have size2 : g2.objs.size = hp.objs.size := by rw [hs2.1, hp2.1, hs1.1, hp1.1, hs0.1]
  have zip2 : IsZipS g2 z TI TO .ellipsis := hs2.extBut _ _ S.TOz.symm (hp2.extBut _ _ S.zi2 (hs1.extBut _ _ S.TOz.symm (hp1.extBut _ _ S.zi1 hz0)))
  have keep2 : ∀ c o, c ≠ z → c ≠ TO → c ≠ i1 → c ≠ i2 → hp.get? c = some o → g2.get? c = some o := fun c o cz cT c1 c2 e =>
    hs2.extBut _ _ cT (hp2.extBut _ _ c2 (hs1.extBut _ _ cT (hp1.extBut _ _ c1 (hs0.extBut _ _ cz e))))
  have turn1 : St1 (i + 1) g2 := D1.over (D1.over (D1.over sn1 hs1 S.Tf1) hp2 S.sep2_1) hs2 S.Tf1
  have turn2 : St2 (i + 1) g2 := D2.over sn2 hs2 S.Tf2
  have lt2 : z < g2.objs.size := Heap.lt_size zip2
  show wpAny _ _ (Builtin.SmallTypes.ownedTupleHandOut (.ref z) (.ref g2.objs.size) >>= _) _ _ ⟨g2.push { cls := .type "tuple", data := .seq #[x1, x2] }, g, d, tk2, os⟩
  refine wpAny_bind ?_
  unfold Builtin.SmallTypes.ownedTupleHandOut
  have zip3 : IsZipS (g2.push { cls := .type "tuple", data := .seq #[x1, x2] }) z TI TO .ellipsis := Heap.get?_push_of_some _ zip2
  refine wpAny_bind (wpAny_setField_rec zip3 (by simp) fun h4 zip4 same4 => ?_)
  replace zip4 : IsZipS h4 z TI TO (rawInt g2.objs.size) := zip4
  refine wpAny_setField_rec zip4 (by simp) fun h5 zip5 same5 => ?_
  replace zip5 : IsZipS h5 z TI TO (rawInt g2.objs.size) := zip5
  replace same4 : Heap.SameBut z (g2.push { cls := .type "tuple", data := .seq #[x1, x2] }) h4 := same4
  replace same5 : Heap.SameBut z h4 h5 := same5
  have up : ∀ c o, c ≠ z → g2.get? c = some o → h5.get? c = some o := fun c o c1 e => same5.extBut _ _ c1 (same4.extBut _ _ c1 (Heap.get?_push_of_some _ e))
  have tup5 : IsTupOf2 h5 g2.objs.size x1 x2 := same5.extBut _ _ (Nat.ne_of_gt lt2) (same4.extBut _ _ (Nat.ne_of_gt lt2) (Heap.get?_push_size _ rfl))
  have size5 : h5.objs.size = g2.objs.size + 1 := by rw [same5.1, same4.1, Heap.size_push]
  rw [size2] at zip5 tup5 size5
  refine wpAny_pure ⟨_, rfl, ?_⟩
  show Q (.ref g2.objs.size) ⟨h5, g, d, tk2, os⟩
  rw [size2]
  exact hQ x1 x2 h5 tk2 hx1 hx2 zip5 (up _ _ S.TOz hT2) (D1.frame _ _ _ turn1 fun b hb o e => up b o (fun q => S.zf1 (q ▸ hb)) e) (D2.frame _ _ _ turn2 fun b hb o e => up b o (fun q => S.zf2 (q ▸ hb)) e) tup5 size5
    fun c o cz cT c1 c2 e => up c o cz (keep2 c o cz cT c1 c2 e)
theorem zipS_end {Q : Fin → Shared → Prop} (hh : A.handled = none) (S : ZipSep2 z TI TO i1 i2 fp1 fp2) (D1 : Draws prog w A i1 fp1 n P1 St1) (D2 : Draws prog w A i2 fp2 n P2 St2)
    (hz : IsZipS s.heap z TI TO .none) (hTI : IsTupOf2 s.heap TI (.ref i1) (.ref i2)) (hTO : IsTupOf2 s.heap TO a1 a2) (st1 : St1 n s.heap) (st2 : St2 n s.heap)
    (hE : ∀ h' tk e, (∀ c o, c ≠ z → c ≠ TO → c ≠ i1 → c ≠ i2 → s.heap.get? c = some o → h'.get? c = some o) → (∃ o, h'.get? e = some o ∧ o.cls = .type "StopIteration") → E (.ref e) { s with heap := h', toks := tk }) :
    wpAny (model prog w) A (Builtin.«zip.__next__» ⟨[.ref z], []⟩) Q E s := by
  obtain ⟨hp, g, d, tk0, os⟩ := s
  show wpAny _ _ (field (.ref z) 2 >>= _) _ _ _
  refine wpAny_bind (wpAny_field hz rfl (x := .bool true) rfl ?_)
  show wpAny _ _ (field (.ref z) 3 >>= _) _ _ _
  refine wpAny_bind (wpAny_field hz rfl (x := .ref TI) rfl (wpAny_bind (wpAny_seqItems hTI rfl ?_)))
  show wpAny _ _ (Builtin.SmallTypes.ownedTupleIsFree (.ref z) >>= _) _ _ _
  refine wpAny_bind ?_
  unfold Builtin.SmallTypes.ownedTupleIsFree
  refine wpAny_bind (wpAny_field hz rfl (x := .none) rfl (wpAny_pure ?_))
  simp only [if_true]
  refine wpAny_bind (wpAny_rule (wpAny_bind (wpAny_field hz rfl (x := .ref TO) rfl ?_)))
  refine wpAny_bind (wpAny_setField_rec hz (by simp) fun g0 hz0 hs0 => ?_)
  replace hz0 : IsZipS g0 z TI TO .ellipsis := hz0
  replace hs0 : Heap.SameBut z hp g0 := hs0
  refine wpAny_bind ?_
  simp only [List.zipIdx_cons, List.zipIdx_nil, List.forIn_cons, List.forIn_nil]
  refine wpAny_bind (wpAny_bind (wpAny_onRaise ?_))
  show wpAny _ _ (Builtin.SmallTypes.nextOrEnd (.ref i1)) _ _ ⟨g0, g, d, tk0, os⟩
  refine orEnd_end D1 (D1.over st1 hs0 S.zf1) fun q hq => ?_
  replace hq : Heap.ExtBut i1 g0 q := hq
  have hzq : IsZipS q z TI TO .ellipsis := hq _ _ S.zi1 hz0
  dsimp only
  refine wpAny_bind (wpAny_setField_rec (s := ⟨q, g, d, tk0, os⟩) hzq (by simp) fun q1 _ hs1 => ?_)
  replace hs1 : Heap.SameBut z q q1 := hs1
  have st2q : St2 n q1 := D2.over (D2.frame _ _ _ (D2.over st2 hs0 S.zf2) fun b hb o e => hq b o (fun x => S.sep1_2 (x ▸ hb)) e) hs1 S.zf2
  refine wpAny_bind ?_
  show wpAny _ _ (_ >>= _) _ _ _
  refine wpAny_bind ?_
  show wpAny _ _ (forIn [(Value.ref i2, 1)] PUnit.unit _) _ _ ⟨q1, g, d, tk0, os⟩
  simp only [List.forIn_cons, List.forIn_nil]
  refine wpAny_bind (wpAny_bind (orEnd_end D2 st2q fun q2 hq2 => ?_))
  replace hq2 : Heap.ExtBut i2 q1 q2 := hq2
  show wpAny _ _ (ite ((none : Option Value).isSome = true) _ _) _ _ _
  rw [if_neg (by decide)]
  refine wpAny_pure (wpAny_pure (wpAny_bind (wpAny_rule ?_)))
  show wpAny _ _ (newExc (.type "StopIteration") [] >>= _) _ _ ⟨q2, g, d, tk0, os⟩
  refine wpAny_bind ?_
  simp only [newExc, newTuple]
  refine wpAny_bind (wpAny_newObj_type ?_ (by size_fits))
  refine wpAny_bind (m := firstArgMember _ _) (wpAny_of_eq (a := Value.none) (by first | rfl | (simp only [firstArgMember]; rfl)) ?_)
  refine wpAny_newObj_type ?_ (by size_fits)
  simp only [raiseNew]
  refine wpAny_bind (wpAny_handled ?_)
  rw [hh]
  refine wpAny_bind (wpAny_pure (wpAny_throw ?_))
  exact hE _ tk0 _ (fun c o cz cT c1 c2 e => Heap.get?_push_of_some _ (Heap.get?_push_of_some _ (hq2 _ _ c2 (hs1.extBut _ _ cz (hq _ _ c1 (hs0.extBut _ _ cz e)))))) ⟨_, Heap.get?_push_size _ rfl, rfl⟩
theorem next_zipS_item {Q : Option Value → Shared → Prop} (S : ZipSep2 z TI TO i1 i2 fp1 fp2) (D1 : Draws prog w A.in1 i1 fp1 n P1 St1) (D2 : Draws prog w A.in1 i2 fp2 n P2 St2)
    (hz : IsZipS s.heap z TI TO .none) (hTI : IsTupOf2 s.heap TI (.ref i1) (.ref i2)) (hTO : IsTupOf2 s.heap TO a1 a2) (st1 : St1 i s.heap) (st2 : St2 i s.heap) (hlt : i < n)
    (hQ : ∀ x1 x2 h' tk, P1 i x1 → P2 i x2 → IsZipS h' z TI TO (rawInt s.heap.objs.size) → IsTupOf2 h' TO x1 x2 → St1 (i + 1) h' → St2 (i + 1) h' → IsTupOf2 h' s.heap.objs.size x1 x2 → h'.objs.size = s.heap.objs.size + 1 →
      (∀ c o, c ≠ z → c ≠ TO → c ≠ i1 → c ≠ i2 → s.heap.get? c = some o → h'.get? c = some o) → Q (some (.ref s.heap.objs.size)) { s with heap := h', toks := tk }) :
    wpAny (model prog w) A (pyNext (.ref z)) Q E s := by
  have hT : s.TypeIs (.ref z) "zip" := ⟨_, hz, rfl⟩
  unfold pyNext
  exact wpAny_bind (wpAny_attempt (wpAny_callSpecial?_slot (name := Str.ofString "__next__") hT F.slot_zip_next
    (wpAny_call_entry F.slot_zip_next hT F.entry_zip_next (zipS_item S D1 D2 hz hTI hTO st1 st2 hlt fun x1 x2 h' tk y1 y2 b1 b2 d1 d2 b5 b6 b7 => wpAny_pure (hQ x1 x2 h' tk y1 y2 b1 b2 d1 d2 b5 b6 b7)) (F.args_zip_next_1 _))))
theorem next_zipS_end {Q : Option Value → Shared → Prop} (hh : A.handled = none) (S : ZipSep2 z TI TO i1 i2 fp1 fp2) (D1 : Draws prog w A.in1 i1 fp1 n P1 St1) (D2 : Draws prog w A.in1 i2 fp2 n P2 St2)
    (hz : IsZipS s.heap z TI TO .none) (hTI : IsTupOf2 s.heap TI (.ref i1) (.ref i2)) (hTO : IsTupOf2 s.heap TO a1 a2) (st1 : St1 n s.heap) (st2 : St2 n s.heap)
    (hQ : ∀ h' tk, (∀ c o, c ≠ z → c ≠ TO → c ≠ i1 → c ≠ i2 → s.heap.get? c = some o → h'.get? c = some o) → Q none { s with heap := h', toks := tk }) : wpAny (model prog w) A (pyNext (.ref z)) Q E s := by
  have hT : s.TypeIs (.ref z) "zip" := ⟨_, hz, rfl⟩
  unfold pyNext
  refine wpAny_bind (wpAny_attempt (wpAny_callSpecial?_slot (name := Str.ofString "__next__") hT F.slot_zip_next
    (wpAny_call_entry F.slot_zip_next hT F.entry_zip_next (zipS_end (A := A.in1) hh S D1 D2 hz hTI hTO st1 st2 fun h' tk e hk he => ?_) (F.args_zip_next_1 _))))
  obtain ⟨o, ho, hc⟩ := he
  refine wpAny_bind (wpAny_isInstance (T := "StopIteration") (b := true) ⟨o, ho, hc⟩ isSubtype_stop ?_)
  exact wpAny_pure (hQ _ _ hk)
theorem iter_zipS {Q : Value → Shared → Prop} {f0 : Value} (hz : IsZipS s.heap z TI TO f0) (h : Q (.ref z) s) : wpAny (model prog w) A (pyIter (.ref z)) Q E s := by
  have hT : s.TypeIs (.ref z) "zip" := ⟨_, hz, rfl⟩
  refine wpAny_pyIter_slot hT F.slot_zip_iter (wpAny_call_entry F.slot_zip_iter hT F.entry_zip_iter ?_ (F.args_zip_iter_1 _))
  show wpAny _ _ (ret (.ref z)) _ _ s
  exact wpAny_pure ⟨_, rfl, "zip", _, hT, F.slot_zip_next.lookup, h⟩
theorem go_zipS {elts : List Expr} {x1} {pos : Pos} {T : Addr} {Q : Unit → Shared → Prop} (hz : IsZipS s.heap z TI TO (rawInt T))
    (hQ : ∀ h', IsZipS h' z TI TO .none → Heap.SameBut z s.heap h' → Q () { s with heap := h' }) : wpAny (model prog w) A (letOwnedTupleGo (.Tuple elts x1 pos) (.ref z) (.ref T)) Q E s := by
  unfold letOwnedTupleGo
  refine wpAny_bind (wpAny_load hz ?_)
  show wpAny _ _ (if (["enumerate", "zip", "dict_itemiterator", "dict_reverseitemiterator", "odict_iterator", "itertools.zip_longest", "itertools.pairwise"].contains "zip" &&
      (#[rawInt T, .bool false, .bool true, .ref TI, .ref TO] : Array Value)[0]? == some (rawInt T)) = true then _ else _) Q E s
  rw [if_pos (by simp)]
  refine wpAny_bind (wpAny_rule ?_)
  show wpAny _ _ (setField (.ref z) 0 .none) Q E s
  exact wpAny_setField_rec hz (by simp) fun h' a b => hQ h' a b
end

/-! ### zip(v1, v2, strict=True) begins -/
theorem typeCall_zipS (a b v : Value) : checkTypeCall "zip" ⟨[a, b], [(Str.ofString "strict", v)]⟩ = pure () := by kernel_rfl
theorem newCall_zipS (a b v : Value) : checkBuiltinCall "zip.__new__" ⟨[.type "zip", a, b], [(Str.ofString "strict", v)]⟩ = pure () := by kernel_rfl
theorem args_init_zipS (obj a b v : Value) : argsOk "object.__init__" ⟨[obj, a, b], [(Str.ofString "strict", v)]⟩ := by unfold argsOk; kernel_rfl
abbrev zsZ (h : Heap) (o1 o2 : Obj) : Heap := (gzO2 h o1 o2).push { cls := .type "zip", data := .fields #[.none, .bool false, .bool true, .ref ((h.push o1).push o2).objs.size, .ref (gzT2 h o1 o2).objs.size] }
theorem meets_zipS {v1 v2 : Value} {o1 o2 : Obj} {H1 H2 : Heap → Prop} (B1 : Begins v1 o1 H1) (B2 : Begins v2 o2 H2) :
    Meets (Builtin.«zip.__new__» ⟨[.type "zip", v1, v2], [(Str.ofString "strict", .bool true)]⟩) (fun _ R s => (H1 s.heap ∧ H2 s.heap) ∧
      R (.ok (.ret (.ref (gzO2 s.heap o1 o2).objs.size))) { s with heap := zsZ s.heap o1 o2 }) :=
  .of_wp fun prog w A R s h => by
    obtain ⟨hp, g, d, tk, os⟩ := s; obtain ⟨⟨h1, h2⟩, h⟩ := h
    have hsub := sub_zip
    have q1 : ∀ {A' : Around} {E : Value → Shared → Prop} {Q : Value → Shared → Prop}, Q (.ref hp.objs.size) ⟨(hp.push o1), g, d, tk, os⟩ → wpAny (model prog w) A' (pyIter v1) Q E ⟨hp, g, d, tk, os⟩ :=
      fun q => B1.iter prog w _ _ ⟨hp, g, d, tk, os⟩ _ h1 q
    have q2 : ∀ {A' : Around} {E : Value → Shared → Prop} {Q : Value → Shared → Prop}, Q (.ref (hp.push o1).objs.size) ⟨((hp.push o1).push o2), g, d, tk, os⟩ → wpAny (model prog w) A' (pyIter v2) Q E ⟨(hp.push o1), g, d, tk, os⟩ :=
      fun q => B2.iter prog w _ _ ⟨(hp.push o1), g, d, tk, os⟩ _ (B2.keeps _ _ h2 fun b o' e => (Heap.get?_push_of_some _ e)) q
    have e1 : (Str.ofString "strict" == ("strict" : Str)) = true := by decide +kernel
    have e2 : (Str.ofString "strict" != ("strict" : Str)) = false := by decide +kernel
    wp_walk using q1, q2
    exact ⟨_, rfl, h⟩
section
variable {prog : Program} {w : World} {A : Around} {E : Value → Shared → Prop} {s : Shared}
theorem zipS_begins {v1 v2 : Value} {o1 o2 : Obj} {H1 H2 : Heap → Prop} {Q : Value → Shared → Prop} (B1 : Begins v1 o1 H1) (B2 : Begins v2 o2 H2) (h1 : H1 s.heap) (h2 : H2 s.heap)
    (h : ∀ h', IsZipS h' (s.heap.objs.size + 4) (s.heap.objs.size + 2) (s.heap.objs.size + 3) .none → IsTupOf2 h' (s.heap.objs.size + 2) (.ref s.heap.objs.size) (.ref (s.heap.objs.size + 1)) →
      IsTupOf2 h' (s.heap.objs.size + 3) .none .none → h'.get? s.heap.objs.size = some o1 → h'.get? (s.heap.objs.size + 1) = some o2 →
      (∀ c o, s.heap.get? c = some o → h'.get? c = some o) → Q (.ref (s.heap.objs.size + 4)) { s with heap := h' }) :
    wpAny (model prog w) A (call (.type "zip") [v1, v2] [(Str.ofString "strict", .bool true)]) Q E s := by
  refine callType_newKw F.called_zip (by decide) (typeCall_zipS _ _ _) (newCall_zipS _ _ _) (fun obj => args_init_zipS obj _ _ _) F.entry_zip_new (meets_zipS B1 B2) ⟨⟨h1, h2⟩, ?_⟩
  have n1 : (s.heap.push o1).objs.size = s.heap.objs.size + 1 := Heap.size_push _ _
  have n2 : ((s.heap.push o1).push o2).objs.size = s.heap.objs.size + 2 := by rw [Heap.size_push, n1]
  have n3 : (gzT2 s.heap o1 o2).objs.size = s.heap.objs.size + 3 := by rw [Heap.size_push, n2]
  have n4 : (gzO2 s.heap o1 o2).objs.size = s.heap.objs.size + 4 := by rw [Heap.size_push, n3]
  have a4 : (zsZ s.heap o1 o2).get? (gzO2 s.heap o1 o2).objs.size = some { cls := .type "zip", data := .fields #[.none, .bool false, .bool true, .ref ((s.heap.push o1).push o2).objs.size, .ref (gzT2 s.heap o1 o2).objs.size] } := Heap.get?_push_size _ rfl
  have a3 : (zsZ s.heap o1 o2).get? (gzT2 s.heap o1 o2).objs.size = some { cls := .type "tuple", data := .seq #[.none, .none] } := Heap.get?_push_of_some _ (Heap.get?_push_size _ rfl)
  have a2 : (zsZ s.heap o1 o2).get? ((s.heap.push o1).push o2).objs.size = some { cls := .type "tuple", data := .seq #[.ref s.heap.objs.size, .ref (s.heap.push o1).objs.size] } := Heap.get?_push_of_some _ (Heap.get?_push_of_some _ (Heap.get?_push_size _ rfl))
  have a0 : (zsZ s.heap o1 o2).get? s.heap.objs.size = some o1 := Heap.get?_push_of_some _ (Heap.get?_push_of_some _ (Heap.get?_push_of_some _ (Heap.get?_push_of_some _ (Heap.get?_push_size _ B1.free))))
  have a1 : (zsZ s.heap o1 o2).get? (s.heap.push o1).objs.size = some o2 := Heap.get?_push_of_some _ (Heap.get?_push_of_some _ (Heap.get?_push_of_some _ (Heap.get?_push_size _ B2.free)))
  rw [n4, n3, n2] at a4
  rw [n3] at a3
  rw [n2, n1] at a2
  rw [n1] at a1
  show _ ∧ _
  rw [n4]
  exact ⟨⟨_, a4, rfl⟩, h _ a4 a2 a3 a0 a1 fun c o e => Heap.get?_push_of_some _ (Heap.get?_push_of_some _ (Heap.get?_push_of_some _ (Heap.get?_push_of_some _ (Heap.get?_push_of_some _ e))))⟩
/-- T(e, .., k = v): a built-in type called with keywords -/
theorem call_typeKw {env : Env} {pos : Pos} {T : String} {e : Expr} {rest : List Expr} {kws : List Keyword} {Q : Value → Shared → Prop}
    (h : wpAny (model prog w) A (spliced (backTo pos (starEach (e :: rest) env))) (fun vs s1 => wpAny (model prog w) A (evalAll ((backToKw pos (keywordEach kws env)).map (·.2)))
      (fun ks s2 => wpAny (model prog w) A (call (.type T) vs (((backToKw pos (keywordEach kws env)).filterMap (·.1)).zip ks)) Q E s2) E s1) E s)
    (he : backTo pos (starEach (e :: rest) env) = (false, eval e env) :: backTo pos (starEach rest env) := by rfl) (hpl : (backTo pos (starEach (e :: rest) env)).any (·.1) = false := by rfl)
    (hall : (backToKw pos (keywordEach kws env)).all (·.1.isSome) = true := by rfl) (hno : (backToKw pos (keywordEach kws env)).any (·.1.isNone) = false := by rfl) :
    wpAny (model prog w) A (callWith pos (.type T) [] (backTo pos (starEach (e :: rest) env)) (backToKw pos (keywordEach kws env))) Q E s := by
  unfold callWith
  have go : wpAny (model prog w) A (evalArgs (.type T) true (backTo pos (starEach (e :: rest) env)) (backToKw pos (keywordEach kws env))) (fun a s1 => wpAny (model prog w) A (call (.type T) ([] ++ a.pos) a.kw) Q E s1) E s := by
    rw [he] at h ⊢
    exact evalArgs_kwB hall h
  refine wpAny_bind (wpAny_holding (wpAny_mono go (fun a s1 h1 => wpAny_bind (wpAny_standAt ?_)) fun _ _ x => x))
  simp only [hpl, hno, Bool.or_false]
  refine wpAny_bind (wpAny_pure ?_)
  exact wpAny_bind (wpAny_mono h1 (fun r s2 hr => wpAny_bind (wpAny_holding (wpAny_point (wpAny_pure hr)))) fun _ _ x => x)
end

/-! ### the strict zip as a walk of the layer -/
def Itzs (K : PySem.W.Frag) (k1 : Bool) (a : Addr) (k2 : Bool) (b : Addr) (n : Nat) : It :=
  ⟨fun i H => i < n ∧ ∃ xs ys, SrcIs K H k1 a xs ∧ SrcIs K H k2 b ys ∧ xs.length = n ∧ ys.length = n,
    fun i H v H' => ∃ T x y, v = .ref T ∧ H T = none ∧ H' = upd H T (.tup [x, y]) ∧ (∀ xs, SrcIs K H k1 a xs → xs[i]? = some x) ∧ ∀ ys, SrcIs K H k2 b ys → ys[i]? = some y,
    fun i H => i = n ∧ ∃ xs ys, SrcIs K H k1 a xs ∧ SrcIs K H k2 b ys ∧ xs.length = n ∧ ys.length = n⟩
theorem turn_zipS {P : Program} {w : World} {K : PySem.W.Frag} {elts : List Expr} {kk : Nat} {tpos : Pos} {k1 k2 : Bool} {a b : Addr} {n N : Nat} (ha : a < N) (hb : b < N) :
    Turn P w K (.Tuple elts kk tpos) (Itzs K k1 a k2 b n) [N + 4, N + 2, N + 3, N, N + 1] (N + 4)
      (fun i h => IsZipS h (N + 4) (N + 2) (N + 3) .none ∧ IsTupOf2 h (N + 2) (.ref N) (.ref (N + 1)) ∧ (∃ x y, IsTupOf2 h (N + 3) x y) ∧ ItSt k1 h N a i ∧ ItSt k2 h (N + 1) b i) := by
  have ia : ∀ c ∈ [a], c < N := fun c hc => (show c = a by simpa using hc) ▸ ha
  have ib : ∀ c ∈ [b], c < N := fun c hc => (show c = b by simpa using hc) ▸ hb
  have S : ZipSep2 (N + 4) (N + 2) (N + 3) N (N + 1) [N, a] [N + 1, b] := zip_sep2 ia ib
  have nea : a ≠ N := Nat.ne_of_lt ha
  have neb : b ≠ N + 1 := Nat.ne_of_lt (Nat.lt_succ_of_lt hb)
  have five : ∀ {c : Addr}, c ∈ [N + 4, N + 2, N + 3, N, N + 1] → c = N + 4 ∨ c = N + 2 ∨ c = N + 3 ∨ c = N ∨ c = N + 1 := fun h => by simpa using h
  have inA : ∀ {h : Heap} {f : Heap}, Heap.SameBut (N + 4) h f → ∀ c, c ≠ N + 4 → ∀ o, h.get? c = some o → f.get? c = some o := fun sb c hc o q => (sb.2 c hc).trans q
  refine ⟨by simp, fun i h st c hc => ?_, fun i h h' st k => ?_, ?_, ?_, fun A i s Q E st h => iter_zipS st.1 h⟩
  · obtain ⟨hz, hTI, ⟨x, y, hTO⟩, s1, s2⟩ := st
    rcases five hc with q | q | q | q | q
    · rw [q]; exact ⟨_, hz, fun v z => nomatch z⟩
    · rw [q]; exact ⟨_, hTI, fun v z => nomatch z⟩
    · rw [q]; exact ⟨_, hTO, fun v z => nomatch z⟩
    · rw [q]; exact s1.there
    · rw [q]; exact s2.there
  · obtain ⟨hz, hTI, ⟨x, y, hTO⟩, s1, s2⟩ := st
    exact ⟨k (N + 4) (by simp) _ hz, k (N + 2) (by simp) _ hTI, ⟨x, y, k (N + 3) (by simp) _ hTO⟩, s1.at fun o q => k N (by simp) o q, s2.at fun o q => k (N + 1) (by simp) o q⟩
  · intro X hP hw hK hc i pins s σ H E I hf st hg
    subst hP hw hK
    obtain ⟨hz, hTI, ⟨x0, y0, hTO⟩, s1, s2⟩ := st
    obtain ⟨hi, xs, ys, g1, g2, l1, l2⟩ := hg
    obtain ⟨its, rv, p, _, _⟩ := src_seq I g1
    obtain ⟨its2, rv2, p2, _, _⟩ := src_seq I g2
    have e1 : its.toArray.size = n := by rw [List.size_toArray, ← l1]; exact rv.length.symm
    have e2 : its2.toArray.size = n := by rw [List.size_toArray, ← l2]; exact rv2.length.symm
    have D1 := src_draws (prog := X.prog) (w := X.w) (A := X.A.in1) (I.ok.hd hc) k1 nea its.toArray
    have D2 := src_draws (prog := X.prog) (w := X.w) (A := X.A.in1) (I.ok.hd hc) k2 neb its2.toArray
    rw [e1] at D1
    rw [e2] at D2
    have hzl : N + 4 < s.heap.objs.size := Heap.lt_size hz
    have fresh : ∀ c ∈ [N + 4, N + 2, N + 3, N, N + 1], c ≠ s.heap.objs.size := fun c hm => by
      rcases five hm with q | q | q | q | q
      · rw [q]; exact Nat.ne_of_lt hzl
      · rw [q]; exact Nat.ne_of_lt (Heap.lt_size hTI)
      · rw [q]; exact Nat.ne_of_lt (Heap.lt_size hTO)
      · rw [q]; obtain ⟨o, e, _⟩ := s1.there; exact Nat.ne_of_lt (Heap.lt_size e)
      · rw [q]; obtain ⟨o, e, _⟩ := s2.there; exact Nat.ne_of_lt (Heap.lt_size e)
    refine next_zipS_item S D1 D2 hz hTI hTO ⟨s1, p⟩ ⟨s2, p2⟩ hi fun u u2 h' tk hu hu2 z' TO' t1 t2 hT hsz hk => ?_
    refine ⟨_, rfl, go_zipS (s := { s with heap := h', toks := tk }) z' fun h2 z2 sb => ?_⟩
    have hT2 : h2.get? s.heap.objs.size = some { cls := .type "tuple", data := .seq #[u, u2] } := (sb.2 _ (Ne.symm (fresh _ (by simp)))).trans hT
    obtain ⟨x, hx⟩ : ∃ x, xs[i]? = some x := ⟨xs[i]'(by omega), by simp⟩
    obtain ⟨y, hy⟩ : ∃ y, ys[i]? = some y := ⟨ys[i]'(by omega), by simp⟩
    obtain ⟨ux, eux, rx⟩ := rv.get hx
    obtain ⟨uy, euy, ry⟩ := rv2.get hy
    have exu : u = ux := by
      have q : its[i]? = some u := by simpa using hu
      rw [eux] at q; exact (Option.some.inj q).symm
    have eyu : u2 = uy := by
      have q : its2[i]? = some u2 := by simpa using hu2
      rw [euy] at q; exact (Option.some.inj q).symm
    subst exu eyu
    have new : ObjOk X.prog X.w (upd H s.heap.objs.size (.tup [x, y])) h2 s.heap.objs.size (.tup [x, y]) :=
      ⟨by show 2 ≤ sizeLine; decide, [u, u2], .cons rx (.cons ry .nil), ⟨_, hT2, rfl, _, rfl⟩⟩
    have I1 : Inv X pins σ (upd H s.heap.objs.size (.tup [x, y])) { s with heap := h2, toks := tk } :=
      I.turnedNew (t' := tk) (ch := [N + 4, N + 2, N + 3, N, N + 1]) (fun c o hb q => (sb.2 c (fun z => hb (by simp [z]))).trans (hk c o (fun z => hb (by simp [z])) (fun z => hb (by simp [z])) (fun z => hb (by simp [z])) (fun z => hb (by simp [z])) q)) hf (Nat.le_refl _) new
    refine ⟨.ref s.heap.objs.size, _, I1, rfl, ⟨_, x, y, rfl, I.hok.fresh (Nat.le_refl _), rfl, fun l hl => by rw [hl.inj I g1]; exact hx, fun l hl => by rw [hl.inj I g2]; exact hy⟩, ⟨z2, ?_, ⟨u, u2, ?_⟩, ?_, ?_⟩, fun c hcm => ?_⟩
    · exact (sb.2 _ S.TIz).trans (hk _ _ S.TIz S.TITO S.TIi1 S.TIi2 hTI)
    · exact (sb.2 _ S.TOz).trans TO'
    · exact t1.1.at fun o q => (sb.2 _ S.zi1.symm).trans q
    · exact t2.1.at fun o q => (sb.2 _ S.zi2.symm).trans q
    · rw [upd_ne (fresh c hcm)]
      exact (hf c hcm).1
  · intro X hP hw hK hc i pins s σ H E I hf st hg
    subst hP hw hK
    obtain ⟨hz, hTI, ⟨x0, y0, hTO⟩, s1, s2⟩ := st
    obtain ⟨hi, xs, ys, g1, g2, l1, l2⟩ := hg
    subst hi
    obtain ⟨its, rv, p, _, _⟩ := src_seq I g1
    obtain ⟨its2, rv2, p2, _, _⟩ := src_seq I g2
    have e1 : its.toArray.size = i := by rw [List.size_toArray, ← l1]; exact rv.length.symm
    have e2 : its2.toArray.size = i := by rw [List.size_toArray, ← l2]; exact rv2.length.symm
    have D1 := src_draws (prog := X.prog) (w := X.w) (A := X.A.in1) (I.ok.hd hc) k1 nea its.toArray
    have D2 := src_draws (prog := X.prog) (w := X.w) (A := X.A.in1) (I.ok.hd hc) k2 neb its2.toArray
    rw [e1] at D1
    rw [e2] at D2
    exact next_zipS_end (I.ok.hd hc) S D1 D2 hz hTI hTO ⟨s1, p⟩ ⟨s2, p2⟩ fun h' tk hk => ⟨rfl, I.turnedL (t' := tk) (ch := [N + 4, N + 2, N + 3, N, N + 1]) (fun c o hb q =>
      hk c o (fun z => hb (by simp [z])) (fun z => hb (by simp [z])) (fun z => hb (by simp [z])) (fun z => hb (by simp [z])) q) hf⟩
def iZipS (K : PySem.W.Frag) (ta : TA) : TI := fun σ H R => ta σ H fun vs H1 => ∃ k1 a xs k2 b ys, vs = [.ref a, .ref b] ∧ SrcIs K H1 k1 a xs ∧ SrcIs K H1 k2 b ys ∧ xs.length = ys.length ∧ (xs.length ≤ sizeLine → R (Itzs K k1 a k2 b xs.length) H1)
theorem pi_zipS {X : Cx} {e e2 : Expr} {ta : TA} {p pos tpos q1 q2 : Pos} {elts : List Expr} {kk j : Nat} (hg : Gl X "zip") (hm : X.mg "zip" = none) (ha : PA X [e, e2] ta)
    (hs : backTo pos (starEach [e, e2] X.env) = (false, eval e X.env) :: backTo pos (starEach [e2] X.env) := by rfl) (hpl : (backTo pos (starEach [e, e2] X.env)).any (·.1) = false := by rfl) :
    PI X (.Tuple elts kk tpos) (.Call (.Name "zip" p) [e, e2] [⟨some "strict", .Constant (.bool true) j q1, q2⟩] pos) (iZipS X.K ta) := by
  refine ⟨fun pins s σ H R I h => ?_⟩
  refine wpAny_Call_Name_kw (ld_blt I hg hm PyProof.Rows.boot_zip ?_)
  refine call_typeKw (thn (ha.run pos pins s σ H _ I h) fun us s1 ⟨vs, H1, I1, r1, q⟩ => kws_cons (Constant_bool (kws_nil ?_))) hs hpl
  obtain ⟨k1, a, xs, k2, b, ys, ex, g1, g2, hn, q⟩ := q
  subst ex
  obtain ⟨u1, u2, rfl, c1, c2⟩ := Vals.two r1
  cases c1; cases c2
  obtain ⟨its, rv, p1, z1, la⟩ := src_seq I1 g1
  obtain ⟨its2, rv2, p2, _, lb⟩ := src_seq I1 g2
  show wpAny _ _ (call (.type "zip") [.ref a, .ref b] [(Str.ofString "strict", .bool true)]) _ _ _
  refine zipS_begins (src_begins k1 a its.toArray) (src_begins k2 b its2.toArray) p1 p2 fun h' hz hTI hTO h1 h2 hk => iter_zipS hz ?_
  have I2 : Inv X pins σ H1 { s1 with heap := h' } := I1.kept (t' := s1.toks) hk
  refine ⟨s1.heap.objs.size + 4, [s1.heap.objs.size + 4, s1.heap.objs.size + 2, s1.heap.objs.size + 3, s1.heap.objs.size, s1.heap.objs.size + 1], _, _, H1, rfl, I2, turn_zipS la lb, ⟨hz, hTI, ⟨_, _, hTO⟩, itst_new h1, itst_new h2⟩, fun c hcm => ?_, q z1⟩
  have hle : s1.heap.objs.size ≤ c := by
    have e' : c = s1.heap.objs.size + 4 ∨ c = s1.heap.objs.size + 2 ∨ c = s1.heap.objs.size + 3 ∨ c = s1.heap.objs.size ∨ c = s1.heap.objs.size + 1 := by simpa using hcm
    rcases e' with z | z | z | z | z
    · rw [z]; exact Nat.le_add_right _ _
    · rw [z]; exact Nat.le_add_right _ _
    · rw [z]; exact Nat.le_add_right _ _
    · rw [z]; exact Nat.le_refl _
    · rw [z]; exact Nat.le_add_right _ _
  exact I1.fpOk hle (I1.hok.fresh hle)
end QL
end L2
/-! enumerate over a list or a tuple; zip of two of them -/
namespace L2
namespace QL
open PySem PySem.Spec PyProof.Rows
theorem meets_enumB {v : Value} {o : Obj} {H : Heap → Prop} (B : Begins v o H) :
    Meets (Builtin.«enumerate.__new__» ⟨[.type "enumerate", v], []⟩) (fun _ R s => H s.heap ∧
      R (.ok (.ret (.ref (s.heap.push o).objs.size))) { s with heap := (s.heap.push o).push { cls := .type "enumerate", data := .fields #[.none, .bool false, .ref s.heap.objs.size, rawInt 0, .none, .none] } }) :=
  .of_wp fun prog w A R s h => by
    obtain ⟨hp, g, d, tk, os⟩ := s; obtain ⟨h1, h⟩ := h
    have hsub := sub_enumerate
    have q1 : ∀ {A' : Around} {E : Value → Shared → Prop} {Q : Value → Shared → Prop}, Q (.ref hp.objs.size) ⟨hp.push o, g, d, tk, os⟩ → wpAny (model prog w) A' (pyIter v) Q E ⟨hp, g, d, tk, os⟩ :=
      fun q => B.iter prog w _ _ ⟨hp, g, d, tk, os⟩ _ h1 q
    wp_walk using q1
    refine wpAny_stack_any fun st => wpAny_pure ?_
    split
    · rename_i c _ _ _ _ _
      cases (c == Value.type "enumerate")
      · wp_walk using q1
        exact ⟨_, rfl, h⟩
      · wp_walk using q1
        exact ⟨_, rfl, h⟩
    · wp_walk using q1
      exact ⟨_, rfl, h⟩
theorem enumB {prog : Program} {w : World} {A : Around} {E : Value → Shared → Prop} {s : Shared} {v : Value} {o : Obj} {H : Heap → Prop} {Q : Value → Shared → Prop} (B : Begins v o H) (h1 : H s.heap)
    (h : ∀ h', IsEnum h' (s.heap.objs.size + 1) s.heap.objs.size 0 .none → h'.get? s.heap.objs.size = some o → (∀ b o, s.heap.get? b = some o → h'.get? b = some o) → Q (.ref (s.heap.objs.size + 1)) { s with heap := h' }) :
    wpAny (model prog w) A (call (.type "enumerate") [v]) Q E s := by
  refine callType_new F.called_enumerate (by decide) (F.typeCall_enumerate_1 _) (F.newCall_enumerate_1 _) (fun obj => F.args_object_init_2 obj _) F.entry_enumerate_new (meets_enumB B) ⟨h1, ?_⟩
  have n1 : (s.heap.push o).objs.size = s.heap.objs.size + 1 := Heap.size_push ..
  have a1 := Heap.get?_push_size (s.heap.push o) (o := { cls := .type "enumerate", data := .fields #[.none, .bool false, .ref s.heap.objs.size, rawInt 0, .none, .none] }) rfl
  show _ ∧ _
  rw [n1] at a1 ⊢
  exact ⟨⟨_, a1, rfl⟩, h _ a1 (Heap.get?_push_of_some _ (Heap.get?_push_size _ B.free)) fun b o x => Heap.get?_push_of_some _ (Heap.get?_push_of_some _ x)⟩
def Itens (K : PySem.W.Frag) (k : Bool) (a : Addr) (n : Nat) : It :=
  ⟨fun i H => i < n ∧ ∃ xs, SrcIs K H k a xs ∧ xs.length = n, fun i H v H' => ∃ T x, v = .ref T ∧ H T = none ∧ H' = upd H T (.tup [.int (i : Nat), x]) ∧ ∀ xs, SrcIs K H k a xs → xs[i]? = some x,
    fun i H => i = n ∧ ∃ xs, SrcIs K H k a xs ∧ xs.length = n⟩
theorem turn_enumS {P : Program} {w : World} {K : PySem.W.Frag} {elts : List Expr} {kk : Nat} {tpos : Pos} {k : Bool} {a : Addr} {n N : Nat} (ha : a < N) :
    Turn P w K (.Tuple elts kk tpos) (Itens K k a n) [N + 1, N] (N + 1) (fun i h => (∃ old, IsEnum h (N + 1) N i old) ∧ ItSt k h N a i) := by
  have nea : a ≠ N := Nat.ne_of_lt ha
  have ne1 : N + 1 ≠ N := Nat.succ_ne_self N
  have hef : N + 1 ∉ [N, a] := fun h => by
    rcases List.mem_cons.mp h with z | z
    · exact ne1 z
    · exact Nat.ne_of_lt (Nat.lt_succ_of_lt ha) (List.mem_singleton.mp z).symm
  have two : ∀ {c : Addr}, c ∈ [N + 1, N] → c = N + 1 ∨ c = N := fun h => by simpa using h
  refine ⟨by simp, fun i h st c hc => ?_, fun i h h' st f => ?_, ?_, ?_, fun A i s Q E st h => ?_⟩
  · obtain ⟨⟨old, he⟩, s1⟩ := st
    rcases two hc with q | q
    · rw [q]; exact ⟨_, he, fun v z => nomatch z⟩
    · rw [q]; exact s1.there
  · obtain ⟨⟨old, he⟩, s1⟩ := st
    exact ⟨⟨old, f (N + 1) (by simp) _ he⟩, s1.at fun o q => f N (by simp) o q⟩
  · intro X hP hw hK hc i pins s σ H E I hf st hg
    subst hP hw hK
    obtain ⟨⟨old, he⟩, s1⟩ := st
    obtain ⟨hi, xs, g1, l1⟩ := hg
    obtain ⟨its, rv, p, _, _⟩ := src_seq I g1
    have e1 : its.toArray.size = n := by rw [List.size_toArray, ← l1]; exact rv.length.symm
    have D1 := src_draws (prog := X.prog) (w := X.w) (A := X.A.in1) (I.ok.hd hc) k nea its.toArray
    rw [e1] at D1
    have hel : N + 1 < s.heap.objs.size := Heap.lt_size he
    have fresh : ∀ c ∈ [N + 1, N], c ≠ s.heap.objs.size := fun c hm => by
      rcases two hm with q | q
      · rw [q]; exact Nat.ne_of_lt hel
      · rw [q]; exact Nat.ne_of_lt (Nat.lt_of_succ_lt hel)
    refine wpAny_pyNext_enum_itemD D1 he ⟨s1, p⟩ hi ne1 hef fun u h' tk hu ho t1 hT hsz hk => ?_
    refine ⟨_, rfl, wpAny_letOwnedTupleGo_enum (s := { s with heap := h', toks := tk + 1 }) ho fun h2 he2 sb => ?_⟩
    have hT2 : h2.get? s.heap.objs.size = some { cls := .type "tuple", data := .seq #[.int i tk, u] } := (sb.2 _ (Ne.symm (fresh _ (by simp)))).trans hT
    obtain ⟨x, hx⟩ : ∃ x, xs[i]? = some x := ⟨xs[i]'(by omega), by simp⟩
    obtain ⟨ux, eux, rx⟩ := rv.get hx
    have exu : u = ux := by
      have q : its[i]? = some u := by simpa using hu
      rw [eux] at q; exact (Option.some.inj q).symm
    subst exu
    have new : ObjOk X.prog X.w (upd H s.heap.objs.size (.tup [.int (i : Nat), x])) h2 s.heap.objs.size (.tup [.int (i : Nat), x]) :=
      ⟨by show 2 ≤ sizeLine; decide, [.int (i : Nat) tk, u], .cons ⟨tk, rfl⟩ (.cons rx .nil), ⟨_, hT2, rfl, _, rfl⟩⟩
    have I1 : Inv X pins σ (upd H s.heap.objs.size (.tup [.int (i : Nat), x])) { s with heap := h2, toks := tk + 1 } :=
      I.turnedNew (t' := tk + 1) (ch := [N + 1, N]) (fun c o hb q => (sb.2 c (fun z => hb (by simp [z]))).trans (hk c o (fun z => hb (by simp [z])) (fun z => hb (by simp [z])) q)) hf (Nat.le_refl _) new
    refine ⟨.ref s.heap.objs.size, _, I1, rfl, ⟨_, x, rfl, I.hok.fresh (Nat.le_refl _), rfl, fun l hl => by rw [hl.inj I g1]; exact hx⟩, ⟨⟨u, by simpa using he2⟩, t1.1.at fun o q => (sb.2 _ (Ne.symm ne1)).trans q⟩, fun c hcm => ?_⟩
    rw [upd_ne (fresh c hcm)]
    exact (hf c hcm).1
  · intro X hP hw hK hc i pins s σ H E I hf st hg
    subst hP hw hK
    obtain ⟨⟨old, he⟩, s1⟩ := st
    obtain ⟨hi, xs, g1, l1⟩ := hg
    subst hi
    obtain ⟨its, rv, p, _, _⟩ := src_seq I g1
    have e1 : its.toArray.size = i := by rw [List.size_toArray, ← l1]; exact rv.length.symm
    have D1 := src_draws (prog := X.prog) (w := X.w) (A := X.A.in1) (I.ok.hd hc) k nea its.toArray
    rw [e1] at D1
    exact wpAny_pyNext_enum_endD D1 he ⟨s1, p⟩ fun h' hk => ⟨rfl, I.turnedL (t' := s.toks) (ch := [N + 1, N]) (fun c o hb q => hk c o (fun z => hb (by simp [z])) q) hf⟩
  · obtain ⟨⟨old, he⟩, _⟩ := st
    exact wpAny_pyIter_enum he h
def iEnumS (K : PySem.W.Frag) (ta : TA) : TI := fun σ H R => ta σ H fun vs H1 => ∃ k a xs, vs = [.ref a] ∧ SrcIs K H1 k a xs ∧ (xs.length ≤ sizeLine → R (Itens K k a xs.length) H1)
theorem pi_enumS {X : Cx} {e : Expr} {ta : TA} {p pos tpos : Pos} {elts : List Expr} {kk : Nat} (hg : Gl X "enumerate") (hm : X.mg "enumerate" = none) (ha : PA X [e] ta)
    (hs : starEach [e] X.env = [(false, eval e X.env)] := by rfl) : PI X (.Tuple elts kk tpos) (.Call (.Name "enumerate" p) [e] [] pos) (iEnumS X.K ta) := by
  refine ⟨fun pins s σ H R I h => ?_⟩
  refine Call_ (ld_blt I hg hm PyProof.Rows.boot_enumerate (PyProof.Rows.callWith_type1 (thn (ha.run pos pins s σ H _ I h) fun us s1 ⟨vs, H1, I1, r1, q⟩ => ?_) hs rfl))
  obtain ⟨k, a, xs, ex, g1, q⟩ := q
  subst ex
  obtain ⟨u1, rfl, c1⟩ := Vals.one r1
  cases c1
  obtain ⟨its, rv, p1, z1, la⟩ := src_seq I1 g1
  refine enumB (src_begins k a its.toArray) p1 fun h' he h1 hk => wpAny_pyIter_enum he ?_
  have I2 : Inv X pins σ H1 { s1 with heap := h' } := I1.kept (t' := s1.toks) hk
  refine ⟨s1.heap.objs.size + 1, [s1.heap.objs.size + 1, s1.heap.objs.size], _, _, H1, rfl, I2, turn_enumS la, ⟨⟨_, he⟩, itst_new h1⟩, fun c hcm => ?_, q z1⟩
  have hle : s1.heap.objs.size ≤ c := by
    have e' : c = s1.heap.objs.size + 1 ∨ c = s1.heap.objs.size := by simpa using hcm
    rcases e' with z | z
    · rw [z]; exact Nat.le_add_right _ _
    · rw [z]; exact Nat.le_refl _
  exact I1.fpOk hle (I1.hok.fresh hle)
def Itzn (K : PySem.W.Frag) (k1 : Bool) (a : Addr) (k2 : Bool) (b : Addr) (n : Nat) : It :=
  ⟨fun i H => i < n ∧ ∃ xs ys, SrcIs K H k1 a xs ∧ SrcIs K H k2 b ys ∧ min xs.length ys.length = n,
    fun i H v H' => ∃ T x y, v = .ref T ∧ H T = none ∧ H' = upd H T (.tup [x, y]) ∧ (∀ xs, SrcIs K H k1 a xs → xs[i]? = some x) ∧ ∀ ys, SrcIs K H k2 b ys → ys[i]? = some y,
    fun i H => i = n ∧ ∃ xs ys, SrcIs K H k1 a xs ∧ SrcIs K H k2 b ys ∧ min xs.length ys.length = n⟩
theorem turn_zipN {P : Program} {w : World} {K : PySem.W.Frag} {elts : List Expr} {kk : Nat} {tpos : Pos} {k1 k2 : Bool} {a b : Addr} {n N : Nat} (ha : a < N) (hb : b < N) :
    Turn P w K (.Tuple elts kk tpos) (Itzn K k1 a k2 b n) [N + 4, N + 2, N + 3, N, N + 1] (N + 4)
      (fun i h => IsZip h (N + 4) (N + 2) (N + 3) .none ∧ IsTupOf2 h (N + 2) (.ref N) (.ref (N + 1)) ∧ (∃ x y, IsTupOf2 h (N + 3) x y) ∧ ItSt k1 h N a i ∧ ItSt k2 h (N + 1) b i) := by
  have ia : ∀ c ∈ [a], c < N := fun c hc => (show c = a by simpa using hc) ▸ ha
  have ib : ∀ c ∈ [b], c < N := fun c hc => (show c = b by simpa using hc) ▸ hb
  have S : ZipSep2 (N + 4) (N + 2) (N + 3) N (N + 1) [N, a] [N + 1, b] := zip_sep2 ia ib
  have nea : a ≠ N := Nat.ne_of_lt ha
  have neb : b ≠ N + 1 := Nat.ne_of_lt (Nat.lt_succ_of_lt hb)
  have five : ∀ {c : Addr}, c ∈ [N + 4, N + 2, N + 3, N, N + 1] → c = N + 4 ∨ c = N + 2 ∨ c = N + 3 ∨ c = N ∨ c = N + 1 := fun h => by simpa using h
  have inA : ∀ {h : Heap} {f : Heap}, Heap.SameBut (N + 4) h f → ∀ c, c ≠ N + 4 → ∀ o, h.get? c = some o → f.get? c = some o := fun sb c hc o q => (sb.2 c hc).trans q
  refine ⟨by simp, fun i h st c hc => ?_, fun i h h' st k => ?_, ?_, ?_, fun A i s Q E st h => wpAny_pyIter_zip st.1 h⟩
  · obtain ⟨hz, hTI, ⟨x, y, hTO⟩, s1, s2⟩ := st
    rcases five hc with q | q | q | q | q
    · rw [q]; exact ⟨_, hz, fun v z => nomatch z⟩
    · rw [q]; exact ⟨_, hTI, fun v z => nomatch z⟩
    · rw [q]; exact ⟨_, hTO, fun v z => nomatch z⟩
    · rw [q]; exact s1.there
    · rw [q]; exact s2.there
  · obtain ⟨hz, hTI, ⟨x, y, hTO⟩, s1, s2⟩ := st
    exact ⟨k (N + 4) (by simp) _ hz, k (N + 2) (by simp) _ hTI, ⟨x, y, k (N + 3) (by simp) _ hTO⟩, s1.at fun o q => k N (by simp) o q, s2.at fun o q => k (N + 1) (by simp) o q⟩
  · intro X hP hw hK hc i pins s σ H E I hf st hg
    subst hP hw hK
    obtain ⟨hz, hTI, ⟨x0, y0, hTO⟩, s1, s2⟩ := st
    obtain ⟨hi, xs, ys, g1, g2, l1⟩ := hg
    obtain ⟨its, rv, p, _, _⟩ := src_seq I g1
    obtain ⟨its2, rv2, p2, _, _⟩ := src_seq I g2
    have e1 : its.toArray.size = xs.length := by rw [List.size_toArray]; exact rv.length.symm
    have e2 : its2.toArray.size = ys.length := by rw [List.size_toArray]; exact rv2.length.symm
    have D1 := src_draws (prog := X.prog) (w := X.w) (A := X.A.in1) (I.ok.hd hc) k1 nea its.toArray
    have D2 := src_draws (prog := X.prog) (w := X.w) (A := X.A.in1) (I.ok.hd hc) k2 neb its2.toArray
    rw [e1] at D1
    rw [e2] at D2
    have hzl : N + 4 < s.heap.objs.size := Heap.lt_size hz
    have fresh : ∀ c ∈ [N + 4, N + 2, N + 3, N, N + 1], c ≠ s.heap.objs.size := fun c hm => by
      rcases five hm with q | q | q | q | q
      · rw [q]; exact Nat.ne_of_lt hzl
      · rw [q]; exact Nat.ne_of_lt (Heap.lt_size hTI)
      · rw [q]; exact Nat.ne_of_lt (Heap.lt_size hTO)
      · rw [q]; obtain ⟨o, e, _⟩ := s1.there; exact Nat.ne_of_lt (Heap.lt_size e)
      · rw [q]; obtain ⟨o, e, _⟩ := s2.there; exact Nat.ne_of_lt (Heap.lt_size e)
    refine wpAny_pyNext_zipD2_item S D1 D2 hz hTI hTO ⟨s1, p⟩ ⟨s2, p2⟩ (by omega) (by omega) fun u u2 h' tk hu hu2 z' TO' t1 t2 hT hsz hk => ?_
    refine ⟨_, rfl, wpAny_letOwnedTupleGo_zip (s := { s with heap := h', toks := tk }) z' fun h2 z2 sb => ?_⟩
    have hT2 : h2.get? s.heap.objs.size = some { cls := .type "tuple", data := .seq #[u, u2] } := (sb.2 _ (Ne.symm (fresh _ (by simp)))).trans hT
    obtain ⟨x, hx⟩ : ∃ x, xs[i]? = some x := ⟨xs[i]'(by omega), by simp⟩
    obtain ⟨y, hy⟩ : ∃ y, ys[i]? = some y := ⟨ys[i]'(by omega), by simp⟩
    obtain ⟨ux, eux, rx⟩ := rv.get hx
    obtain ⟨uy, euy, ry⟩ := rv2.get hy
    have exu : u = ux := by
      have q : its[i]? = some u := by simpa using hu
      rw [eux] at q; exact (Option.some.inj q).symm
    have eyu : u2 = uy := by
      have q : its2[i]? = some u2 := by simpa using hu2
      rw [euy] at q; exact (Option.some.inj q).symm
    subst exu eyu
    have new : ObjOk X.prog X.w (upd H s.heap.objs.size (.tup [x, y])) h2 s.heap.objs.size (.tup [x, y]) :=
      ⟨by show 2 ≤ sizeLine; decide, [u, u2], .cons rx (.cons ry .nil), ⟨_, hT2, rfl, _, rfl⟩⟩
    have I1 : Inv X pins σ (upd H s.heap.objs.size (.tup [x, y])) { s with heap := h2, toks := tk } :=
      I.turnedNew (t' := tk) (ch := [N + 4, N + 2, N + 3, N, N + 1]) (fun c o hb q => (sb.2 c (fun z => hb (by simp [z]))).trans (hk c o (fun z => hb (by simp [z])) (fun z => hb (by simp [z])) (fun z => hb (by simp [z])) (fun z => hb (by simp [z])) q)) hf (Nat.le_refl _) new
    refine ⟨.ref s.heap.objs.size, _, I1, rfl, ⟨_, x, y, rfl, I.hok.fresh (Nat.le_refl _), rfl, fun l hl => by rw [hl.inj I g1]; exact hx, fun l hl => by rw [hl.inj I g2]; exact hy⟩, ⟨z2, ?_, ⟨u, u2, ?_⟩, ?_, ?_⟩, fun c hcm => ?_⟩
    · exact (sb.2 _ S.TIz).trans (hk _ _ S.TIz S.TITO S.TIi1 S.TIi2 hTI)
    · exact (sb.2 _ S.TOz).trans TO'
    · exact t1.1.at fun o q => (sb.2 _ S.zi1.symm).trans q
    · exact t2.1.at fun o q => (sb.2 _ S.zi2.symm).trans q
    · rw [upd_ne (fresh c hcm)]
      exact (hf c hcm).1
  · intro X hP hw hK hc i pins s σ H E I hf st hg
    subst hP hw hK
    obtain ⟨hz, hTI, ⟨x0, y0, hTO⟩, s1, s2⟩ := st
    obtain ⟨hi, xs, ys, g1, g2, l1⟩ := hg
    obtain ⟨its, rv, p, _, _⟩ := src_seq I g1
    obtain ⟨its2, rv2, p2, _, _⟩ := src_seq I g2
    have e1 : its.toArray.size = xs.length := by rw [List.size_toArray]; exact rv.length.symm
    have e2 : its2.toArray.size = ys.length := by rw [List.size_toArray]; exact rv2.length.symm
    have D1 := src_draws (prog := X.prog) (w := X.w) (A := X.A.in1) (I.ok.hd hc) k1 nea its.toArray
    have D2 := src_draws (prog := X.prog) (w := X.w) (A := X.A.in1) (I.ok.hd hc) k2 neb its2.toArray
    rw [e1] at D1
    rw [e2] at D2
    exact wpAny_pyNext_zipD2_end S D1 D2 hz hTI hTO ⟨s1, p⟩ ⟨s2, p2⟩ (by omega) (by omega) (by omega) fun h' tk hk => ⟨rfl, I.turnedL (t' := tk) (ch := [N + 4, N + 2, N + 3, N, N + 1]) (fun c o hb q =>
      hk c o (fun z => hb (by simp [z])) (fun z => hb (by simp [z])) (fun z => hb (by simp [z])) (fun z => hb (by simp [z])) q) hf⟩
def iZipN (K : PySem.W.Frag) (ta : TA) : TI := fun σ H R => ta σ H fun vs H1 => ∃ k1 a xs k2 b ys, vs = [.ref a, .ref b] ∧ SrcIs K H1 k1 a xs ∧ SrcIs K H1 k2 b ys ∧ (xs.length ≤ sizeLine → R (Itzn K k1 a k2 b (min xs.length ys.length)) H1)
theorem pi_zipN {X : Cx} {e e2 : Expr} {ta : TA} {p pos tpos : Pos} {elts : List Expr} {kk : Nat} (hg : Gl X "zip") (hm : X.mg "zip" = none) (ha : PA X [e, e2] ta)
    (hs : starEach [e, e2] X.env = (false, eval e X.env) :: starEach [e2] X.env := by rfl) (hpl : (backTo pos (starEach [e2] X.env)).any (·.1) = false := by rfl) :
    PI X (.Tuple elts kk tpos) (.Call (.Name "zip" p) [e, e2] [] pos) (iZipN X.K ta) := by
  refine ⟨fun pins s σ H R I h => ?_⟩
  refine Call_ (ld_blt I hg hm PyProof.Rows.boot_zip (PyProof.Rows.callWith_type1 (thn (ha.run pos pins s σ H _ I h) fun us s1 ⟨vs, H1, I1, r1, q⟩ => ?_) hs hpl))
  obtain ⟨k1, a, xs, k2, b, ys, ex, g1, g2, q⟩ := q
  subst ex
  obtain ⟨u1, u2, rfl, c1, c2⟩ := Vals.two r1
  cases c1; cases c2
  obtain ⟨its, rv, p1, z1, la⟩ := src_seq I1 g1
  obtain ⟨its2, rv2, p2, _, lb⟩ := src_seq I1 g2
  refine zip_begins2 (src_begins k1 a its.toArray) (src_begins k2 b its2.toArray) p1 p2 fun h' hz hTI hTO h1 h2 _ hk => wpAny_pyIter_zip hz ?_
  have I2 : Inv X pins σ H1 { s1 with heap := h' } := I1.kept (t' := s1.toks) hk
  refine ⟨s1.heap.objs.size + 4, [s1.heap.objs.size + 4, s1.heap.objs.size + 2, s1.heap.objs.size + 3, s1.heap.objs.size, s1.heap.objs.size + 1], _, _, H1, rfl, I2, turn_zipN la lb, ⟨hz, hTI, ⟨_, _, hTO⟩, itst_new h1, itst_new h2⟩, fun c hcm => ?_, q z1⟩
  have hle : s1.heap.objs.size ≤ c := by
    have e' : c = s1.heap.objs.size + 4 ∨ c = s1.heap.objs.size + 2 ∨ c = s1.heap.objs.size + 3 ∨ c = s1.heap.objs.size ∨ c = s1.heap.objs.size + 1 := by simpa using hcm
    rcases e' with z | z | z | z | z
    · rw [z]; exact Nat.le_add_right _ _
    · rw [z]; exact Nat.le_add_right _ _
    · rw [z]; exact Nat.le_add_right _ _
    · rw [z]; exact Nat.le_refl _
    · rw [z]; exact Nat.le_add_right _ _
  exact I1.fpOk hle (I1.hok.fresh hle)
end QL
end L2
namespace L2
namespace QL
open PySem PySem.Spec PyProof.Rows
/-! ### 11. what is walked -/
abbrev TID := DEnv → Sto → (List D → (Sto → Prop) → Sto → Prop) → Prop
/-- the walk J yields the items while chk stands -/
def IterOk (K : PySem.W.Frag) (H0 : Hp) (J : It) (items : List D) (chk : Sto → Prop) : Prop := ∀ i S H, TK K H0 H → RelS K S H → chk S →
  (i = items.length → J.stop i H) ∧ ∀ d, items[i]? = some d → J.go i H ∧ ∀ x H', J.yld i H x H' → Post K S H S H' ∧ RelS K S H' ∧ Rep K H' d x
def emI (K : PySem.W.Frag) (t : TID) : TI := fun σ H R => ∃ e S Q0, RelE K H e σ ∧ RelS K S H ∧ t e S Q0 ∧
  ∀ items chk S' J H', Q0 items chk S' → Post K S H S' H' → RelS K S' H' → items.length ≤ sizeLine → IterOk K H' J items chk → R J H'
abbrev DI (X : Cx) (tg e : Expr) (t : TID) : Prop := PI X tg e (emI X.K t)
/-- a list's, a tuple's items -/
def seqD (S : Sto) : D → Option (List D)
  | .tup xs => some xs
  | .rol xs => some xs
  | .loc a => match S a with
    | some (.lst xs) => some xs
    | _ => none
  | _ => none
def dISeq (t : TD) : TID := fun e S Q => t e S fun d S1 => match seqD S1 d with
  | some xs => Q xs (fun S2 => seqD S2 d = some xs) S1
  | none => False
/-- the source behind a datum -/
theorem src_of {K : PySem.W.Frag} {S : Sto} {H : Hp} {d : D} {v : V} {xs : List D} (rs : RelS K S H) (r : Rep K H d v) (e : seqD S d = some xs) :
    ∃ k a, v = .ref a ∧ ∀ S' H', TK K H H' → RelS K S' H' → seqD S' d = some xs → ∃ vs, SrcIs K H' k a vs ∧ Reps K H' xs vs := by
  cases r with
  | tup hq q =>
    refine ⟨false, _, rfl, fun S' H' k _ e' => ?_⟩
    have e2 : some _ = some xs := e'
    cases e2
    exact ⟨_, k.t _ _ hq, q.mono k⟩
  | rol hq q =>
    refine ⟨true, _, rfl, fun S' H' k _ e' => ?_⟩
    have e2 : some _ = some xs := e'
    cases e2
    exact ⟨_, ro_sql (k.r _ _ hq), q.mono k⟩
  | loc a =>
    refine ⟨true, a, rfl, fun S' H' k rs' e' => ?_⟩
    dsimp only [seqD] at e'
    split at e'
    · rename_i ys e2
      cases e'
      obtain ⟨vs, a1, b1⟩ := rs' _ _ e2
      exact ⟨vs, .of a1, b1⟩
    · cases e'
  | _ => cases e
def itOf (K : PySem.W.Frag) (k : Bool) (a : Addr) : It := match k with
  | true => Itl K a
  | false => Itt K a
def iSeq (K : PySem.W.Frag) (tl : TE) : TI := fun σ H R => tl σ H fun x H1 => ∃ k a vs, x = .ref a ∧ SrcIs K H1 k a vs ∧ (vs.length ≤ sizeLine → R (itOf K k a) H1)
section
variable {X : Cx} {tg : Expr}
theorem pi_seq {l : Expr} {tl : TE} (hl : PE X l tl) : PI X tg l (iSeq X.K tl) := by
  refine ⟨fun pins s σ H R I h => ?_⟩
  refine thn (hl.run pins s σ H _ I h) fun v s1 ⟨x, H1, I1, r1, k, a, vs, e, g, q⟩ => ?_
  subst e
  cases r1
  obtain ⟨its, rv, p, hz, la⟩ := src_seq I1 g
  refine (src_begins k a its.toArray).iter _ _ _ _ _ _ p ?_
  have new : (s1.heap.push (itObj k a)).get? s1.heap.objs.size = some (itObj k a) := Heap.get?_push_size _ (by cases k <;> rfl)
  have I2 : Inv X pins σ H1 { s1 with heap := s1.heap.push (itObj k a) } := I1.kept (t' := s1.toks) fun b o e => Heap.get?_push_of_some _ e
  have f : ∀ b ∈ [s1.heap.objs.size], FpOk X pins H1 b := fun b hb => by
    have e : b = s1.heap.objs.size := by simpa using hb
    subst e
    exact I1.fpOk (Nat.le_refl _) (I1.hok.fresh (Nat.le_refl _))
  cases k with
  | true => exact ⟨s1.heap.objs.size, [s1.heap.objs.size], _, _, H1, rfl, I2, turn_list a _, ⟨_, new, rfl, rfl⟩, f, q hz⟩
  | false => exact ⟨s1.heap.objs.size, [s1.heap.objs.size], _, _, H1, rfl, I2, turn_tuple a _, ⟨_, new, rfl, rfl⟩, f, q hz⟩
theorem iterOk_seq {K : PySem.W.Frag} {S : Sto} {H : Hp} {d : D} {v : V} {xs : List D} (rs : RelS K S H) (r : Rep K H d v) (e : seqD S d = some xs) :
    ∃ k a vs, v = .ref a ∧ SrcIs K H k a vs ∧ Reps K H xs vs ∧ IterOk K H (itOf K k a) xs (fun S2 => seqD S2 d = some xs) := by
  obtain ⟨k, a, rfl, g⟩ := src_of rs r e
  obtain ⟨vs, g0, r0⟩ := g S H TK.refl rs e
  refine ⟨k, a, vs, rfl, g0, r0, fun i S' H' tk rs' e' => ?_⟩
  obtain ⟨ws, g1, r1⟩ := g S' H' tk rs' e'
  have hl := r1.length
  refine ⟨fun hi => ?_, fun d hd => ?_⟩
  · cases k with
    | true => exact ⟨ws, g1, by omega⟩
    | false => exact ⟨ws, g1, by omega⟩
  · obtain ⟨x, hx, rx⟩ := r1.get hd
    cases k with
    | true => exact ⟨⟨ws, x, g1, hx⟩, fun y H2 q => by
        obtain ⟨e1, q⟩ := q
        subst e1
        have e2 := q ws g1
        rw [hx] at e2; cases e2
        exact ⟨Post.refl, rs', rx⟩⟩
    | false => exact ⟨⟨ws, x, g1, hx⟩, fun y H2 q => by
        obtain ⟨e1, q⟩ := q
        subst e1
        have e2 := q ws g1
        rw [hx] at e2; cases e2
        exact ⟨Post.refl, rs', rx⟩⟩
theorem di_seq {l : Expr} {tl : TD} (hl : DE X l tl) : DI X tg l (dISeq tl) :=
  PI.le (pi_seq hl) fun σ H R h => by
    obtain ⟨e, S, Q0, re, rs, ht, k⟩ := h
    refine ⟨e, S, _, re, rs, ht, fun d S1 v H1 q p rs1 r => ?_⟩
    split at q
    · rename_i xs e1
      obtain ⟨b, a, vs, e2, g, rr, ok⟩ := iterOk_seq rs1 r e1
      exact ⟨b, a, vs, e2, g, fun z => k xs _ S1 _ H1 q p rs1 (by rw [rr.length]; exact z) ok⟩
    · exact q.elim
/-- range(n), range(lo, hi) -/
def rngD (lo : Int) (n : Nat) : List D := (List.range n).map fun (k : Nat) => .int (lo + k)
def dIRng1 (ta : TAD) : TID := fun e S Q => ta e S fun ds S1 => match ds with
  | [.int j] => (-100000 ≤ j ∧ j ≤ 100000) ∧ Q (rngD 0 j.toNat) (fun _ => True) S1
  | _ => False
def dIRng2 (ta : TAD) : TID := fun e S Q => ta e S fun ds S1 => match ds with
  | [.int i, .int j] => (-100000 ≤ i ∧ i ≤ 100000 ∧ -100000 ≤ j ∧ j ≤ 100000) ∧ Q (rngD i (j - i).toNat) (fun _ => True) S1
  | _ => False
theorem iterOk_rng {K : PySem.W.Frag} {H0 : Hp} {lo : Int} {n : Nat} : IterOk K H0 (Itr lo n) (rngD lo n) (fun _ => True) := fun i S H tk rs _ => by
  have hl : (rngD lo n).length = n := by simp [rngD]
  refine ⟨fun hi => by rw [hl] at hi; exact Nat.le_of_eq hi.symm, fun d hd => ?_⟩
  have hi : i < n := by rw [← hl]; exact (List.getElem?_eq_some_iff.mp hd).1
  refine ⟨hi, fun x H' y => ?_⟩
  obtain ⟨e1, e2⟩ := y
  subst e1 e2
  have e : d = .int (lo + i) := by
    unfold rngD at hd
    rw [List.getElem?_map, List.getElem?_range hi] at hd
    exact (Option.some.inj hd).symm
  rw [e]
  exact ⟨Post.refl, rs, .int _⟩
theorem rng_fit {lo : Int} {n : Nat} (h : n ≤ 1000000) : (rngD lo n).length ≤ sizeLine := by
  simp only [rngD, List.length_map, List.length_range]
  rw [sizeLine_eq]; omega
theorem reps_one {K : PySem.W.Frag} {H : Hp} {d : D} {vs : List V} (r : Reps K H [d] vs) : ∃ v, vs = [v] ∧ Rep K H d v := by
  cases r with
  | cons h t => cases t; exact ⟨_, rfl, h⟩
theorem reps_two {K : PySem.W.Frag} {H : Hp} {d e : D} {vs : List V} (r : Reps K H [d, e] vs) : ∃ v w, vs = [v, w] ∧ Rep K H d v ∧ Rep K H e w := by
  cases r with
  | cons h t =>
    obtain ⟨w, e, r⟩ := reps_one t
    subst e
    exact ⟨_, _, rfl, h, r⟩
theorem di_rng1 {a : Expr} {ta : TAD} {p pos : Pos} (hg : Gl X "range") (hm : X.mg "range" = none) (ha : DA X [a] ta) (hs : starEach [a] X.env = [(false, eval a X.env)] := by rfl) : DI X tg (.Call (.Name "range" p) [a] [] pos) (dIRng1 ta) :=
  PI.le (pi_range1 hg hm ha hs) fun σ H R h => by
    obtain ⟨e, S, Q0, re, rs, ht, k⟩ := h
    refine ⟨e, S, _, re, rs, ht, fun ds S1 vs H1 q p rs1 r => ?_⟩
    split at q
    · rename_i j
      obtain ⟨v, e1, r1⟩ := reps_one r
      cases r1
      exact ⟨j, e1, by omega, by omega, k _ _ S1 _ H1 q.2 p rs1 (rng_fit (by omega)) iterOk_rng⟩
    · exact q.elim
theorem di_rng2 {a b : Expr} {ta : TAD} {p pos : Pos} (hg : Gl X "range") (hm : X.mg "range" = none) (ha : DA X [a, b] ta) (hs : starEach [a, b] X.env = [(false, eval a X.env), (false, eval b X.env)] := by rfl) (hs2 : starEach [b] X.env = [(false, eval b X.env)] := by rfl) :
    DI X tg (.Call (.Name "range" p) [a, b] [] pos) (dIRng2 ta) :=
  PI.le (pi_range2 hg hm ha hs hs2) fun σ H R h => by
    obtain ⟨e, S, Q0, re, rs, ht, k⟩ := h
    refine ⟨e, S, _, re, rs, ht, fun ds S1 vs H1 q p rs1 r => ?_⟩
    split at q
    · rename_i i j
      obtain ⟨v, w, e1, r1, r2⟩ := reps_two r
      cases r1; cases r2
      exact ⟨i, j, e1, by omega, k _ _ S1 _ H1 q.2 p rs1 (rng_fit (by omega)) iterOk_rng⟩
    · exact q.elim
/-- zip(x, y, strict=True), zip(x, y) -/
def pairD (x y : D) : D := .tup [x, y]
def dIZip (st : Bool) (ta : TAD) : TID := fun e S Q => ta e S fun ds S1 => match ds with
  | [x, y] => match seqD S1 x, seqD S1 y with
    | some xs, some ys => (st = true → xs.length = ys.length) ∧ Q (List.zipWith pairD xs ys) (fun S2 => seqD S2 x = some xs ∧ seqD S2 y = some ys) S1
    | _, _ => False
  | _ => False
theorem pair_yld {K : PySem.W.Frag} {S : Sto} {H : Hp} {T : Addr} {d1 d2 : D} {x y : V} (rs : RelS K S H) (hT : H T = none) (r1 : Rep K H d1 x) (r2 : Rep K H d2 y) :
    Post K S H S (upd H T (.tup [x, y])) ∧ RelS K S (upd H T (.tup [x, y])) ∧ Rep K (upd H T (.tup [x, y])) (.tup [d1, d2]) (.ref T) := by
  have f : Free (H T) := by rw [hT]; trivial
  exact ⟨Post.lay hT, rs.upd f (rs.none_of hT), .tup (.of upd_same) (.cons (r1.mono (TK.upd f)) (.cons (r2.mono (TK.upd f)) .nil))⟩
theorem zip_get {xs ys : List D} {i : Nat} {d : D} (h : (List.zipWith pairD xs ys)[i]? = some d) : ∃ x y, xs[i]? = some x ∧ ys[i]? = some y ∧ d = .tup [x, y] := by
  rw [List.getElem?_zipWith] at h
  cases e1 : xs[i]? with
  | none => rw [e1] at h; cases h
  | some x =>
    cases e2 : ys[i]? with
    | none => rw [e1, e2] at h; cases h
    | some y =>
      rw [e1, e2] at h
      exact ⟨x, y, rfl, rfl, (Option.some.inj h).symm⟩
theorem di_zipS {e1 e2 : Expr} {elts : List Expr} {kk j : Nat} {ta : TAD} {p pos tpos q1 q2 : Pos} (hg : Gl X "zip") (hm : X.mg "zip" = none) (ha : DA X [e1, e2] ta)
    (hs : backTo pos (starEach [e1, e2] X.env) = (false, eval e1 X.env) :: backTo pos (starEach [e2] X.env) := by rfl) (hpl : (backTo pos (starEach [e1, e2] X.env)).any (·.1) = false := by rfl) :
    DI X (.Tuple elts kk tpos) (.Call (.Name "zip" p) [e1, e2] [⟨some "strict", .Constant (.bool true) j q1, q2⟩] pos) (dIZip true ta) :=
  PI.le (pi_zipS hg hm ha hs hpl) fun σ H R h => by
    obtain ⟨e, S, Q0, re, rs, ht, k⟩ := h
    refine ⟨e, S, _, re, rs, ht, fun ds S1 vs H1 q p rs1 r => ?_⟩
    split at q
    · rename_i x y
      obtain ⟨v, w, e1, r1, r2⟩ := reps_two r
      subst e1
      split at q
      · rename_i xs ys ex ey
        obtain ⟨k1, a, rfl, g1⟩ := src_of rs1 r1 ex
        obtain ⟨k2, b, rfl, g2⟩ := src_of rs1 r2 ey
        obtain ⟨us, a1, b1⟩ := g1 S1 H1 TK.refl rs1 ex
        obtain ⟨ws, a2, b2⟩ := g2 S1 H1 TK.refl rs1 ey
        have hn := q.1 rfl
        have l1 := b1.length
        have l2 := b2.length
        have lz : (List.zipWith pairD xs ys).length = us.length := by rw [List.length_zipWith]; omega
        refine ⟨k1, a, us, k2, b, ws, rfl, a1, a2, by omega, fun z => k _ _ S1 _ H1 q.2 p rs1 (by omega) fun i S' H' tk rs' ch => ?_⟩
        obtain ⟨us', c1, d1⟩ := g1 S' H' tk rs' ch.1
        obtain ⟨ws', c2, d2⟩ := g2 S' H' tk rs' ch.2
        have l3 := d1.length
        have l4 := d2.length
        refine ⟨fun hi => ⟨by omega, us', ws', c1, c2, by omega, by omega⟩, fun d hd => ⟨⟨?_, us', ws', c1, c2, by omega, by omega⟩, fun x' H2 yl => ?_⟩⟩
        · have := (List.getElem?_eq_some_iff.mp hd).1
          omega
        · obtain ⟨T, x0, y0, ex', hT, eH, h1, h2⟩ := yl
          subst ex' eH
          obtain ⟨dx, dy, p1, p2, rfl⟩ := zip_get hd
          obtain ⟨z1, s1, t1⟩ := d1.get p1
          obtain ⟨z2, s2, t2⟩ := d2.get p2
          have q1 := h1 us' c1
          have q2 := h2 ws' c2
          rw [s1] at q1; cases q1
          rw [s2] at q2; cases q2
          exact pair_yld rs' hT t1 t2
      · exact q.elim
    · exact q.elim
theorem di_zipN {e1 e2 : Expr} {elts : List Expr} {kk : Nat} {ta : TAD} {p pos tpos : Pos} (hg : Gl X "zip") (hm : X.mg "zip" = none) (ha : DA X [e1, e2] ta)
    (hs : starEach [e1, e2] X.env = (false, eval e1 X.env) :: starEach [e2] X.env := by rfl) (hpl : (backTo pos (starEach [e2] X.env)).any (·.1) = false := by rfl) :
    DI X (.Tuple elts kk tpos) (.Call (.Name "zip" p) [e1, e2] [] pos) (dIZip false ta) :=
  PI.le (pi_zipN hg hm ha hs hpl) fun σ H R h => by
    obtain ⟨e, S, Q0, re, rs, ht, k⟩ := h
    refine ⟨e, S, _, re, rs, ht, fun ds S1 vs H1 q p rs1 r => ?_⟩
    split at q
    · rename_i x y
      obtain ⟨v, w, e1, r1, r2⟩ := reps_two r
      subst e1
      split at q
      · rename_i xs ys ex ey
        obtain ⟨k1, a, rfl, g1⟩ := src_of rs1 r1 ex
        obtain ⟨k2, b, rfl, g2⟩ := src_of rs1 r2 ey
        obtain ⟨us, a1, b1⟩ := g1 S1 H1 TK.refl rs1 ex
        obtain ⟨ws, a2, b2⟩ := g2 S1 H1 TK.refl rs1 ey
        have l1 := b1.length
        have l2 := b2.length
        have lz : (List.zipWith pairD xs ys).length = min us.length ws.length := by rw [List.length_zipWith]; omega
        refine ⟨k1, a, us, k2, b, ws, rfl, a1, a2, fun z => k _ _ S1 _ H1 q.2 p rs1 (by omega) fun i S' H' tk rs' ch => ?_⟩
        obtain ⟨us', c1, d1⟩ := g1 S' H' tk rs' ch.1
        obtain ⟨ws', c2, d2⟩ := g2 S' H' tk rs' ch.2
        have l3 := d1.length
        have l4 := d2.length
        refine ⟨fun hi => ⟨by omega, us', ws', c1, c2, by omega⟩, fun d hd => ⟨⟨?_, us', ws', c1, c2, by omega⟩, fun x' H2 yl => ?_⟩⟩
        · have := (List.getElem?_eq_some_iff.mp hd).1
          omega
        · obtain ⟨T, x0, y0, ex', hT, eH, h1, h2⟩ := yl
          subst ex' eH
          obtain ⟨dx, dy, p1, p2, rfl⟩ := zip_get hd
          obtain ⟨z1, s1, t1⟩ := d1.get p1
          obtain ⟨z2, s2, t2⟩ := d2.get p2
          have q1 := h1 us' c1
          have q2 := h2 ws' c2
          rw [s1] at q1; cases q1
          rw [s2] at q2; cases q2
          exact pair_yld rs' hT t1 t2
      · exact q.elim
    · exact q.elim
/-- enumerate(x) -/
def enumD (n : Nat) : List D → List D
  | [] => []
  | x :: xs => .tup [.int (n : Nat), x] :: enumD (n + 1) xs
theorem enumD_length : ∀ (n : Nat) (xs : List D), (enumD n xs).length = xs.length
  | _, [] => rfl
  | n, x :: xs => congrArg (· + 1) (enumD_length (n + 1) xs)
theorem enumD_get : ∀ (n : Nat) (xs : List D) (i : Nat), (enumD n xs)[i]? = xs[i]?.map fun x => .tup [.int ((n + i : Nat) : Int), x]
  | _, [], _ => by simp [enumD]
  | n, x :: xs, 0 => by simp [enumD]
  | n, x :: xs, i + 1 => by
    have h := enumD_get (n + 1) xs i
    simp only [enumD, List.getElem?_cons_succ]
    rw [h, show n + 1 + i = n + (i + 1) by omega]
def dIEnum (ta : TAD) : TID := fun e S Q => ta e S fun ds S1 => match ds with
  | [x] => match seqD S1 x with
    | some xs => Q (enumD 0 xs) (fun S2 => seqD S2 x = some xs) S1
    | none => False
  | _ => False
theorem di_enum {e1 : Expr} {elts : List Expr} {kk : Nat} {ta : TAD} {p pos tpos : Pos} (hg : Gl X "enumerate") (hm : X.mg "enumerate" = none) (ha : DA X [e1] ta)
    (hs : starEach [e1] X.env = [(false, eval e1 X.env)] := by rfl) : DI X (.Tuple elts kk tpos) (.Call (.Name "enumerate" p) [e1] [] pos) (dIEnum ta) :=
  PI.le (pi_enumS hg hm ha hs) fun σ H R h => by
    obtain ⟨e, S, Q0, re, rs, ht, k⟩ := h
    refine ⟨e, S, _, re, rs, ht, fun ds S1 vs H1 q p rs1 r => ?_⟩
    split at q
    · rename_i x
      obtain ⟨v, e1, r1⟩ := reps_one r
      subst e1
      split at q
      · rename_i xs ex
        obtain ⟨k1, a, rfl, g1⟩ := src_of rs1 r1 ex
        obtain ⟨us, a1, b1⟩ := g1 S1 H1 TK.refl rs1 ex
        have l1 := b1.length
        refine ⟨k1, a, us, rfl, a1, fun z => k _ _ S1 _ H1 q p rs1 (by rw [enumD_length]; omega) fun i S' H' tk rs' ch => ?_⟩
        obtain ⟨us', c1, d1⟩ := g1 S' H' tk rs' ch
        have l3 := d1.length
        rw [enumD_length]
        refine ⟨fun hi => ⟨by omega, us', c1, by omega⟩, fun d hd => ?_⟩
        have hi := (List.getElem?_eq_some_iff.mp hd).1
        rw [enumD_length] at hi
        refine ⟨⟨by omega, us', c1, by omega⟩, fun x' H2 yl => ?_⟩
        obtain ⟨T, x0, ex', hT, eH, h1⟩ := yl
        subst ex' eH
        rw [enumD_get] at hd
        cases e3 : xs[i]? with
        | none => rw [e3] at hd; cases hd
        | some dx =>
          rw [e3] at hd
          have hd' := (Option.some.inj hd).symm
          subst hd'
          obtain ⟨z1, s1, t1⟩ := d1.get e3
          have q1 := h1 us' c1
          rw [s1] at q1; cases q1
          have t0 : Rep X.K H' (.int ((0 + i : Nat) : Int)) (.int (i : Nat)) := by rw [Nat.zero_add]; exact .int _
          exact pair_yld rs' hT t0 t1
      · exact q.elim
    · exact q.elim
end
end QL
end L2
namespace L2
namespace QL
open PySem PySem.Spec PyProof.Rows
/-! ### 12. targets: names, tuples of them -/
mutual
inductive Tgt where
  | nm (i : Nat) | tp (ts : Tgts)
inductive Tgts where
  | nil | cons (t : Tgt) (ts : Tgts)
end
def Tgts.len : Tgts → Nat
  | .nil => 0
  | .cons _ ts => ts.len + 1
mutual
def gOf (K : PySem.W.Frag) : Tgt → TG
  | .nm i => gName i
  | .tp ts => gTup K ts.len (gsOf K ts)
def gsOf (K : PySem.W.Frag) : Tgts → TGs
  | .nil => gNil
  | .cons t ts => gCons (gOf K t) (gsOf K ts)
end
mutual
def bT : Tgt → D → DEnv → Option DEnv
  | .nm i, d, e => some (e.set i (some d))
  | .tp ts, d, e => match d with
    | .tup xs => bTs ts xs e
    | _ => none
def bTs : Tgts → List D → DEnv → Option DEnv
  | .nil, [], e => some e
  | .nil, _ :: _, _ => none
  | .cons _ _, [], _ => none
  | .cons t ts, x :: xs, e => match bT t x e with
    | some e' => bTs ts xs e'
    | none => none
end
mutual
def Tgt.own (vs : List Nat) : Tgt → Bool
  | .nm i => vs.contains i
  | .tp ts => ts.own vs
def Tgts.own (vs : List Nat) : Tgts → Bool
  | .nil => true
  | .cons t ts => t.own vs && ts.own vs
end
theorem wipe_get (σ : St) (i : Nat) : ∀ vs : List Nat, (wipe σ vs)[i]? = if i ∈ vs then σ[i]?.map (fun _ => none) else σ[i]?
  | [] => rfl
  | v :: vs => by
    unfold wipe
    have ih := wipe_get σ i vs
    by_cases hv : v = i
    · subst hv
      rw [if_pos List.mem_cons_self]
      by_cases hl : v < σ.length
      · rw [List.getElem?_set_self (by rw [wipe_length]; exact hl)]
        simp [hl]
      · rw [List.getElem?_eq_none (by simp [wipe_length]; omega), List.getElem?_eq_none (by omega)]
        rfl
    · rw [List.getElem?_set_ne hv, ih]
      have e : (i ∈ v :: vs) ↔ i ∈ vs := ⟨fun h => (List.mem_cons.mp h).resolve_left (Ne.symm hv), List.mem_cons_of_mem _⟩
      by_cases hi : i ∈ vs
      · rw [if_pos hi, if_pos (e.mpr hi)]
      · rw [if_neg hi, if_neg (fun h => hi (e.mp h))]
theorem wipe_set {σ : St} {i : Nat} {x : Option V} {vs : List Nat} (h : i ∈ vs) : wipe (σ.set i x) vs = wipe σ vs := by
  apply List.ext_getElem?
  intro j
  rw [wipe_get, wipe_get]
  by_cases hj : j ∈ vs
  · rw [if_pos hj, if_pos hj]
    by_cases e : i = j
    · subst e
      by_cases hl : i < σ.length
      · rw [List.getElem?_set_self hl]; simp [hl]
      · rw [List.getElem?_eq_none (by simp; omega), List.getElem?_eq_none (by omega)]
    · rw [List.getElem?_set_ne e]
  · rw [if_neg hj, if_neg hj, List.getElem?_set_ne (show ¬ i = j from fun e => hj (by rw [← e]; exact h))]
theorem wipe_wipe {σ : St} {vs : List Nat} : wipe (wipe σ vs) vs = wipe σ vs := by
  apply List.ext_getElem?
  intro j
  rw [wipe_get, wipe_get]
  by_cases hj : j ∈ vs
  · rw [if_pos hj, if_pos hj]
    cases σ[j]? <;> rfl
  · rw [if_neg hj]
def wipeD (e : DEnv) : List Nat → DEnv
  | [] => e
  | v :: vs => (wipeD e vs).set v none
theorem RelE.wipe {K : PySem.W.Frag} {H : Hp} {e : DEnv} {σ : St} (h : RelE K H e σ) : ∀ vs : List Nat, RelE K H (wipeD e vs) (L2.wipe σ vs)
  | [] => h
  | v :: vs => (RelE.wipe h vs).forget v
/-- what a target leaves of the slots: a comprehension's own are wiped -/
def Out (ok : List Nat → Bool) (σ σ' : St) : Prop := ∀ vs, ok vs = true → wipe σ' vs = wipe σ vs
theorem bTs_len : ∀ (ts : Tgts) (ds : List D) (e e' : DEnv), bTs ts ds e = some e' → ds.length = ts.len
  | .nil, [], _, _, _ => rfl
  | .nil, _ :: _, _, _, h => by cases h
  | .cons _ _, [], _, _, h => by cases h
  | .cons t ts, x :: xs, e, e', h => by
    have h : (match bT t x e with | some e' => bTs ts xs e' | none => none) = some e' := h
    cases e1 : bT t x e with
    | none => rw [e1] at h; cases h
    | some e2 =>
      rw [e1] at h
      exact congrArg (· + 1) (bTs_len ts xs e2 e' h)
mutual
theorem gOf_ok {K : PySem.W.Frag} {H : Hp} : ∀ (t : Tgt) (d : D) (v : V) (e e' : DEnv) (σ : St) (Q : St → Hp → Prop), Rep K H d v → RelE K H e σ → bT t d e = some e' →
    (∀ σ', RelE K H e' σ' → Out (fun vs => t.own vs) σ σ' → Q σ' H) → gOf K t v σ H Q
  | .nm i, d, v, e, e', σ, Q, r, re, hb, k => by
    have he : e.set i (some d) = e' := Option.some.inj hb
    subst he
    refine k _ (re.set r i) fun vs h => ?_
    exact wipe_set (by simpa [Tgt.own] using h)
  | .tp ts, d, v, e, e', σ, Q, r, re, hb, k => by
    cases r with
    | tup hq q =>
      exact ⟨_, _, rfl, hq, by rw [← q.length]; exact bTs_len ts _ e e' hb, gsOf_ok ts _ _ e e' σ Q q re hb k⟩
    | _ => cases hb
theorem gsOf_ok {K : PySem.W.Frag} {H : Hp} : ∀ (ts : Tgts) (ds : List D) (vs : List V) (e e' : DEnv) (σ : St) (Q : St → Hp → Prop), Reps K H ds vs → RelE K H e σ → bTs ts ds e = some e' →
    (∀ σ', RelE K H e' σ' → Out (fun vs => ts.own vs) σ σ' → Q σ' H) → gsOf K ts vs σ H Q
  | .nil, [], _, e, e', σ, Q, r, re, hb, k => by
    cases r
    have he : e = e' := Option.some.inj hb
    subst he
    exact ⟨rfl, k σ re fun _ _ => rfl⟩
  | .nil, _ :: _, _, _, _, _, _, _, _, hb, _ => by cases hb
  | .cons _ _, [], _, _, _, _, _, _, _, hb, _ => by cases hb
  | .cons t ts, x :: xs, _, e, e', σ, Q, r, re, hb, k => by
    cases r with
    | cons r1 r2 =>
      have hb : (match bT t x e with | some e' => bTs ts xs e' | none => none) = some e' := hb
      cases e1 : bT t x e with
      | none => rw [e1] at hb; cases hb
      | some e2 =>
        rw [e1] at hb
        refine ⟨_, _, rfl, gOf_ok t x _ e e2 σ _ r1 re e1 fun σ2 re2 o2 => gsOf_ok ts xs _ e2 e' σ2 Q r2 re2 hb fun σ3 re3 o3 => k σ3 re3 fun vs h => ?_⟩
        have h' : t.own vs = true ∧ ts.own vs = true := by simpa [Tgts.own] using h
        exact (o3 vs h'.2).trans (o2 vs h'.1)
end

/-! ### 13. statements -/
section
variable {X : Cx} {st : Stmt} {rest : List Stmt} {t u : TSD} {e : Expr} {te : TD} {pos : Pos}
def dNext : TSD := fun D0 e S => D0.nx e S
def dSeq (t u : TSD) : TSD := fun D0 e S => t { D0 with nx := u D0 } e S
theorem em_next {K : PySem.W.Frag} {D1 : Ends} {σ : St} {H : Hp} (h : emS K dNext D1 σ H) : D1.nx σ H := by
  obtain ⟨e, S, D0, re, rs, ht, k⟩ := h
  exact k.nx e S σ H ht Post.refl re rs
theorem dss_nil : DSs X [] dNext := PSs.le pss_nil fun _ _ _ h => em_next h
theorem dss_cons (h1 : DS X st t) (h2 : DSs X rest u) : DSs X (st :: rest) (dSeq t u) := PSs.le (pss_cons h1 h2) fun D1 σ H h => by
  obtain ⟨e, S, D0, re, rs, ht, k⟩ := h
  refine ⟨e, S, { D0 with nx := u D0 }, re, rs, ht, ⟨fun e' S' σ' H' q p re' rs' => ?_, k.rt, k.bk, k.ct⟩⟩
  exact ⟨e', S', D0, re', rs', q, k.after p⟩
theorem dss_one (h1 : DS X st t) : DSs X [st] t := pss_one h1
theorem ds_pass : DS X (.Pass pos) dNext := PS.le ps_pass fun _ _ _ h => em_next h
theorem ds_doc {x j pos pos'} : DS X (.Expr (.Constant (.str x) j pos) pos') dNext := PS.le ps_doc fun _ _ _ h => em_next h
def dBrk : TSD := fun D0 e S => D0.bk e S
def dCnt : TSD := fun D0 e S => D0.ct e S
theorem ds_break : DS X (.Break pos) dBrk := PS.le ps_break fun D1 σ H h => by
  obtain ⟨e, S, D0, re, rs, ht, k⟩ := h
  exact k.bk e S σ H ht Post.refl re rs
theorem ds_continue : DS X (.Continue pos) dCnt := PS.le ps_continue fun D1 σ H h => by
  obtain ⟨e, S, D0, re, rs, ht, k⟩ := h
  exact k.ct e S σ H ht Post.refl re rs
def dRet (te : TD) : TSD := fun D0 e S => te e S D0.rt
theorem ds_ret (he : DE X e te) : DS X (.Return (some e) pos) (dRet te) := PS.le (ps_ret he) fun D1 σ H h => by
  obtain ⟨e, S, D0, re, rs, ht, k⟩ := h
  exact ⟨e, S, D0.rt, re, rs, ht, fun d S' v H' q p rs' r => k.rt d S' v H' q p r rs'⟩
def dRetN : TSD := fun D0 _ S => D0.rt .non S
theorem ds_retN : DS X (.Return none pos) dRetN := PS.le ps_retN fun D1 σ H h => by
  obtain ⟨e, S, D0, re, rs, ht, k⟩ := h
  exact k.rt _ S _ H ht Post.refl .non rs
def dDrop (te : TD) : TSD := fun D0 e S => te e S fun _ S1 => D0.nx e S1
theorem ds_expr (he : DE X e te) (hs : swapsWith e none pos.line X.env = pure false := by rfl) : DS X (.Expr e pos) (dDrop te) := PS.le (ps_expr he hs) fun D1 σ H h => by
  obtain ⟨e, S, D0, re, rs, ht, k⟩ := h
  exact ⟨e, S, _, re, rs, ht, fun d S' v H' q p rs' r => k.nx e S' σ H' q p (re.mono p.tk) rs'⟩
def dIfS (c : TTD) (t u : TSD) : TSD := fun D0 e S => c e S fun b S1 => match b with
  | true => t D0 e S1
  | false => u D0 e S1
theorem ds_if {c : Expr} {a b : List Stmt} {tc : TTD} (hc : DT X c tc) (ha : DSs X a t) (hb : DSs X b u) : DS X (.If c a b pos) (dIfS tc t u) := PS.le (ps_if hc ha hb) fun D1 σ H h => by
  obtain ⟨e, S, D0, re, rs, ht, k⟩ := h
  refine ⟨e, S, _, re, rs, ht, fun b S1 H1 q p rs1 => ?_⟩
  cases b with
  | true => exact iteT ⟨e, S1, D0, re.mono p.tk, rs1, q, k.after p⟩
  | false => exact iteF ⟨e, S1, D0, re.mono p.tk, rs1, q, k.after p⟩
def dNever : TSD := fun _ _ _ => False
theorem ds_never : DS X st dNever := PS.le ps_never fun D1 σ H h => by
  obtain ⟨e, S, D0, re, rs, ht, k⟩ := h
  exact ht.elim
theorem dss_never {sts : List Stmt} : DSs X sts dNever := PSs.le pss_never fun D1 σ H h => by
  obtain ⟨e, S, D0, re, rs, ht, k⟩ := h
  exact ht.elim
/-- a target of any form -/
def dAsg (te : TD) (t : Tgt) : TSD := fun D0 e S => te e S fun d S1 => match bT t d e with
  | some e' => D0.nx e' S1
  | none => False
theorem em_asg {K : PySem.W.Frag} {tt : Tgt} {D1 : Ends} {σ : St} {H : Hp} (h : emS K (dAsg te tt) D1 σ H) : tAsg (emE K te) (gOf K tt) D1 σ H := by
  obtain ⟨e, S, D0, re, rs, ht, k⟩ := h
  refine ⟨e, S, _, re, rs, ht, fun d S' v H' q p rs' r => ?_⟩
  split at q
  · rename_i e' eb
    exact gOf_ok tt d v e e' σ _ r (re.mono p.tk) eb fun σ' re' _ => k.nx e' S' σ' H' q p re' rs'
  · exact q.elim
theorem ds_set {i : Nat} {x : Str} {pos' : Pos} (hN : X.N.Nodup) (hi : X.N[i]? = some x) (hx : Loc X.env.scope x) (he : DE X e te) (hs : swapsWith e (some (.Name x pos')) pos.line X.env = pure false := by rfl) (hf : X.fn x = true ∨ X.env.scope.names.lookup x = some .local := by first | exact .inl rfl | exact .inr rfl | assumption) :
    DS X (.Assign [.Name x pos'] e pos) (dAsg te (.nm i)) := PS.le (ps_set hN hi hx he hs hf) fun _ _ _ h => em_asg h
theorem ds_asg {tg : Expr} {tt : Tgt} (he : DE X e te) (hg : PG X tg (gOf X.K tt)) (hs : swapsWithSole [tg] e pos.line X.env = pure false := by rfl) (hw : swappedStores [tg] e X.env = pure none := by rfl)
    (h1 : (assignEach [tg] X.env).map (·.2) = [assign tg X.env] := by rfl) : DS X (.Assign [tg] e pos) (dAsg te tt) := PS.le (ps_asg he hg hs hw h1) fun _ _ _ h => em_asg h
/-- a, b = x, y -/
def dPar (i j : Nat) (ta : TAD) : TSD := fun D0 e S => ta e S fun ds S1 => match ds with
  | [x, y] => D0.nx ((e.set i (some x)).set j (some y)) S1
  | _ => False
theorem ds_par {i j : Nat} {x y : Str} {a b : Expr} {ta : TAD} {px py pt : Pos} {kt k2 pt2} (hc : X.calm = true) (hN : X.N.Nodup) (hi : X.N[i]? = some x) (hj : X.N[j]? = some y) (hij : i ≠ j)
    (hx : X.env.scope.names.lookup x = some .local) (hy : X.env.scope.names.lookup y = some .local) (ha : DA X [a, b] ta)
    (hw : swappedStores [.Tuple [.Name x px, .Name y py] kt pt] (.Tuple [a, b] k2 pt2) X.env = pure (some [x, y]))
    (hs : swapsWithSole [.Tuple [.Name x px, .Name y py] kt pt] (.Tuple [a, b] k2 pt2) pos.line X.env = pure false := by rfl) :
    DS X (.Assign [.Tuple [.Name x px, .Name y py] kt pt] (.Tuple [a, b] k2 pt2) pos) (dPar i j ta) := PS.le (ps_par hc hN hi hj hij hx hy ha hw hs) fun D1 σ H h => by
  obtain ⟨e, S, D0, re, rs, ht, k⟩ := h
  refine ⟨e, S, _, re, rs, ht, fun ds S' vs H' q p rs' r => ?_⟩
  split at q
  · rename_i d1 d2
    obtain ⟨v, w, e1, r1, r2⟩ := reps_two r
    subst e1
    exact ⟨v, w, rfl, k.nx _ S' _ H' q p (((re.mono p.tk).set r1 i).set r2 j) rs'⟩
  · exact q.elim
/-- o[i] = e, a list -/
def setD (o i v : D) (S : Sto) (Q : Sto → Prop) : Prop := match o, i with
  | .loc p, .int k => match S p with
    | some (.lst xs) => match ixN xs.length k with
      | some j => Q (S.put p (.lst (xs.set j v)))
      | none => False
    | _ => False
  | _, _ => False
def dSub (te to ti : TD) : TSD := fun D0 e S => te e S fun d S1 => to e S1 fun o S2 => ti e S2 fun i S3 => setD o i d S3 fun S4 => D0.nx e S4
theorem RelS.cell {K : PySem.W.Frag} {S : Sto} {H : Hp} {p : Addr} {c0 c : Cell} {o : HO} (rs : RelS K S H) (e : S p = some c0) (new : CellAt K (L2.upd H p o) p c) : RelS K (S.put p c) (L2.upd H p o) := rs.put (rs p c0 e).free new
theorem ds_sub {o i : Expr} {to ti : TD} {tpos : Pos} (he : DE X e te) (ho : DE X o to) (hi : DE X i ti)
    (ha : ∀ v, assign (.Subscript o i tpos) X.env v = (do
      let ov ← holding [v] (eval o X.env)
      let iv ← holding [v, ov] (eval i X.env)
      standAt tpos
      holding [v, ov, iv] (setItem ov iv v)
      release [v, ov, iv] []) := by intro _; rfl)
    (hs : swapsWithSole [.Subscript o i tpos] e pos.line X.env = pure false := by rfl) (hw : swappedStores [.Subscript o i tpos] e X.env = pure none := by rfl)
    (h1 : (assignEach [.Subscript o i tpos] X.env).map (·.2) = [assign (.Subscript o i tpos) X.env] := by rfl) : DS X (.Assign [.Subscript o i tpos] e pos) (dSub te to ti) :=
  PS.le (ps_asg he (pg_sub ho hi set_list ha) hs hw h1) fun D1 σ H h => by
    obtain ⟨e, S, D0, re, rs, ht, k⟩ := h
    refine ⟨e, S, _, re, rs, ht, fun d S1 v H1 h1 p1 rs1 r1 => ?_⟩
    refine ⟨e, S1, _, re.mono p1.tk, rs1, h1, fun od S2 ov H2 h2 p2 rs2 r2 => ?_⟩
    refine ⟨e, S2, _, re.mono (p1.trans p2).tk, rs2, h2, fun id S3 iv H3 h3 p3 rs3 r3 => ?_⟩
    have pp := (p1.trans p2).trans p3
    unfold setD at h3
    split at h3
    · cases r2; cases r3
      rename_i q kk
      split at h3
      · rename_i xs e1
        obtain ⟨vs, a1, b1⟩ := rs3 _ _ e1
        split at h3
        · rename_i j e2
          refine ⟨_, _, _, _, rfl, rfl, a1, by rw [← b1.length]; exact e2, ?_⟩
          have rd := r1.mono (p2.trans p3).tk
          have f : Free (H3 q) := by rw [a1]; trivial
          exact k.nx e _ σ _ h3 (pp.trans (Post.write rs3 e1)) ((re.mono pp.tk).mono (TK.upd f)) (rs3.cell e1 ⟨_, upd_same, (b1.set rd j).mono (TK.upd f)⟩)
        · exact h3.elim
      · exact h3.elim
    · exact h3.elim
end

/-! ### 14. for -/
/-- cells that nobody needs may be dropped -/
def Sb (S' S : Sto) : Prop := ∀ a c, S' a = some c → S a = some c
theorem Sb.refl (S : Sto) : Sb S S := fun _ _ h => h
theorem Sb.trans {S S1 S2 : Sto} (a : Sb S S1) (b : Sb S1 S2) : Sb S S2 := fun x c h => b x c (a x c h)
theorem Sb.free {S' S : Sto} {a : Addr} (s : Sb S' S) (n : S a = none) : S' a = none := by
  cases h : S' a with
  | none => rfl
  | some c => rw [s a c h] at n; cases n
theorem Sb.put {S' S : Sto} (s : Sb S' S) {a : Addr} (n : S' a = none) (c : Cell) : Sb S' (S.put a c) := fun x d h => by
  rw [put_ne (ne_of_free h n)]
  exact s x d h
theorem Sb.puts {S' S : Sto} (s : Sb S' S) (a : Addr) (c : Cell) : Sb (S'.put a c) (S.put a c) := fun x d h => by
  by_cases e : x = a
  · subst e; rw [put_eq] at h ⊢; exact h
  · rw [put_ne e] at h ⊢; exact s x d h
theorem Post.sub {K : PySem.W.Frag} {S S1 S2 : Sto} {H H1 : Hp} (p : Post K S H S1 H1) (s : Sb S2 S1) : Post K S H S2 H1 := ⟨p.tk, p.frame, fun a n e => s.free (p.dom a n e)⟩
def forRun (t : Tgt) (tb : TSD) (chk : Sto → Prop) (D0 : EndsD) : List D → DEnv → Sto → Prop
  | [], e, S => chk S ∧ D0.nx e S
  | x :: r, e, S => chk S ∧ match bT t x e with
    | some e' => tb { nx := fun e2 S2 => ∃ S3, Sb S3 S2 ∧ forRun t tb chk D0 r e2 S3, rt := D0.rt, bk := D0.nx, ct := fun e2 S2 => ∃ S3, Sb S3 S2 ∧ forRun t tb chk D0 r e2 S3 } e' S
    | none => False
def dFor (ti : TID) (t : Tgt) (tb : TSD) : TSD := fun D0 e S => ti e S fun items chk S1 => forRun t tb chk D0 items e S1
section
variable {X : Cx} {pos : Pos}
theorem forRun_chk {t : Tgt} {tb : TSD} {chk : Sto → Prop} {D0 : EndsD} {items : List D} {e : DEnv} {S : Sto} (h : forRun t tb chk D0 items e S) : chk S := by
  cases items with
  | nil => exact h.1
  | cons x r => exact h.1
theorem em_for {K : PySem.W.Frag} {ti : TID} {t : Tgt} {tb : TSD} {D1 : Ends} {σ : St} {H : Hp} (h : emS K (dFor ti t tb) D1 σ H) : tFor (emI K ti) (gOf K t) (emS K tb) D1 σ H := by
  obtain ⟨e, S, D0, re, rs, ht, k⟩ := h
  refine ⟨e, S, _, re, rs, ht, fun items chk S1 J H1 q p rs1 line ok => ?_⟩
  refine ⟨fun i m σ' H' => ∃ e' S', RelE K H' e' σ' ∧ RelS K S' H' ∧ Post K S1 H1 S' H' ∧ i ≤ items.length ∧ m = items.length - i ∧ forRun t tb chk D0 (items.drop i) e' S', ⟨_, e, S1, re.mono p.tk, rs1, Post.refl, Nat.zero_le _, rfl, q⟩, ?_⟩
  rintro i m σ' H' ⟨e', S', re', rs', p', hi, rfl, run⟩
  obtain ⟨o1, o2⟩ := ok i S' H' p'.tk rs' (forRun_chk run)
  by_cases hl : i = items.length
  · subst hl
    rw [List.drop_length] at run
    exact .inl ⟨o1 rfl, k.nx e' S' σ' H' run.2 (p.trans p') re' rs'⟩
  · have hlt : i < items.length := by omega
    obtain ⟨d, hd⟩ : ∃ d, items[i]? = some d := ⟨items[i], by simp [hlt]⟩
    have ed : items.drop i = d :: items.drop (i + 1) := by
      rw [List.drop_eq_getElem_cons hlt]
      have : items[i] = d := by
        have q2 := List.getElem?_eq_getElem hlt
        rw [hd] at q2
        exact (Option.some.inj q2).symm
      rw [this]
    rw [ed] at run
    obtain ⟨g, y⟩ := o2 d hd
    refine .inr ⟨g, fun σ'' H'' => ∃ e'' S'', RelE K H'' e'' σ'' ∧ RelS K S'' H'' ∧ Post K S1 H1 S'' H'' ∧ forRun t tb chk D0 (items.drop (i + 1)) e'' S'', ?_, fun x H2 yl => ?_⟩
    · rintro σ'' H'' ⟨e'', S'', a, b, c, f⟩
      exact ⟨items.length - (i + 1), by omega, e'', S'', a, b, c, hlt, rfl, f⟩
    · obtain ⟨p2, rs2, r2⟩ := y x H2 yl
      have run := run.2
      split at run
      · rename_i e2 eb
        refine gOf_ok t d x e' e2 σ' _ r2 (re'.mono p2.tk) eb fun σ3 re3 _ => ?_
        refine ⟨e2, S', _, re3, rs2, run, ⟨fun e4 S4 σ4 H4 f p4 re4 rs4 => ?_, fun d4 S4 v4 H4 f p4 r4 rs4 => ?_, fun e4 S4 σ4 H4 f p4 re4 rs4 => ?_, fun e4 S4 σ4 H4 f p4 re4 rs4 => ?_⟩⟩
        · obtain ⟨S5, sb, f⟩ := f
          exact ⟨e4, S5, re4, rs4.sub sb, ((p'.trans p2).trans p4).sub sb, f⟩
        · exact k.rt d4 S4 v4 H4 f ((p.trans (p'.trans p2)).trans p4) r4 rs4
        · exact k.nx e4 S4 σ4 H4 f ((p.trans (p'.trans p2)).trans p4) re4 rs4
        · obtain ⟨S5, sb, f⟩ := f
          exact ⟨e4, S5, re4, rs4.sub sb, ((p'.trans p2).trans p4).sub sb, f⟩
      · exact run.elim
theorem ds_for {tg iter : Expr} {body : List Stmt} {ti : TID} {t : Tgt} {tb : TSD} (hp : PassesOwn (model X.prog X.w) X.A X.env X.xe) (hc : X.calm = true) (hi : DI X tg iter ti) (hg : PG X tg (gOf X.K t)) (hb : DSs X body tb)
    (hs : ∀ x, foldedSetIterable iter X.env x = pure x := by intro _; rfl) : DS X (.For tg iter body [] pos) (dFor ti t tb) :=
  PS.le (ps_for hp hc hi hg hb hs) fun _ _ _ h => em_for h
end

/-! ### 15. list comprehensions -/
def lcRun (t : Tgt) (tt : TTD) (te : TD) (chk : Sto → Prop) (e0 : DEnv) (Q : List D → Sto → Prop) : List D → List D → Sto → Prop
  | [], acc, S => chk S ∧ Q acc S
  | x :: r, acc, S => chk S ∧ match bT t x e0 with
    | some e' => tt e' S fun b S1 => match b with
      | true => te e' S1 fun d S2 => ∃ S3, Sb S3 S2 ∧ lcRun t tt te chk e0 Q r (acc ++ [d]) S3
      | false => ∃ S3, Sb S3 S1 ∧ lcRun t tt te chk e0 Q r acc S3
    | none => False
/-- what is done with the items of a list that nobody else has -/
abbrev RLD := List D → Sto → DK → Prop
def rdNew : RLD := fun acc S Q => ∀ a, S a = none → Q (.loc a) (S.put a (.lst acc))
def dLcK (rd : RLD) (ti : TID) (t : Tgt) (tt : TTD) (te : TD) (vs : List Nat) : TD := fun e S Q => ti e S fun items chk S1 => lcRun t tt te chk (wipeD e vs) (fun acc S2 => rd acc S2 Q) items [] S1
abbrev dLc (ti : TID) (t : Tgt) (tt : TTD) (te : TD) (vs : List Nat) : TD := dLcK rdNew ti t tt te vs
/-- .. soundly: the list stands at D, no cell tells of it -/
def LcK (K : PySem.W.Frag) (rd : RLD) (rv : V → Hp → VK → Prop) : Prop := ∀ D acc us S (Q0 : DK) H (Q : VK), RelS K S H → S D = none → H D = some (.lst us) → Reps K H acc us → rd acc S Q0 →
  (∀ d S' v H', Q0 d S' → (∀ S0 H0, Post K S0 H0 S H → (H0 D = none) → Post K S0 H0 S' H') → RelS K S' H' → Rep K H' d v → Q v H') → rv (.ref D) H Q
theorem lck_new {K : PySem.W.Frag} : LcK K rdNew (fun x H Q => Q x H) := fun D acc us S Q0 H Q rs nD hu ru run k => by
  refine k _ _ _ H (run D nD) (fun S0 H0 p hD => ⟨p.tk, p.frame, fun x n ex => ?_⟩) (fun a c ea => ?_) (.loc D)
  · rw [put_ne (fun z => ex (by rw [z]; exact hD))]
    exact p.dom x n ex
  · by_cases hb : a = D
    · subst hb
      rw [put_eq] at ea; cases ea
      exact ⟨us, hu, ru⟩
    · rw [put_ne hb] at ea
      exact rs a c ea
abbrev DTs (X : Cx) (ifs : List Expr) (t : TTD) : Prop := PTs X ifs (emT X.K t)
def dYes : TTD := fun _ S Q => Q true S
theorem dts_nil {X : Cx} : DTs X [] dYes := PTs.le pts_nil fun σ H Q h => by
  obtain ⟨e, S, Q0, re, rs, ht, k⟩ := h
  exact k true S H ht Post.refl rs
theorem dts_one {X : Cx} {c : Expr} {t : TTD} (h : DT X c t) : DTs X [c] t := pts_one h
theorem lcRun_chk {t : Tgt} {tt : TTD} {te : TD} {chk : Sto → Prop} {e0 : DEnv} {Q : List D → Sto → Prop} {items acc : List D} {S : Sto} (h : lcRun t tt te chk e0 Q items acc S) : chk S := by
  cases items with
  | nil => exact h.1
  | cons x r => exact h.1
theorem Post.inner {K : PySem.W.Frag} {S S' : Sto} {H H' : Hp} {D : Addr} {o : HO} (p : Post K S H S' H') (hD : H D = none) (f : Free (H' D)) : Post K S H S' (upd H' D o) :=
  ⟨p.tk.trans (TK.upd f), fun x u n e => by rw [upd_ne (ne_of_none e hD)]; exact p.frame x u n e, p.dom⟩
theorem em_lcK {K : PySem.W.Frag} {rd : RLD} {rv : V → Hp → VK → Prop} (hr : LcK K rd rv) {ti : TID} {t : Tgt} {tt : TTD} {te : TD} {vs : List Nat} (hv : t.own vs = true) {σ : St} {H : Hp} {Q : VK} (h : emE K (dLcK rd ti t tt te vs) σ H Q) :
    tLc (emI K ti) (gOf K t) (emT K tt) (emE K te) vs σ H fun x H' => rv x H' Q := by
  obtain ⟨e, S, Q0, re, rs, ht, k⟩ := h
  refine ⟨e, S, _, re, rs, ht, fun items chk S1 J H1 q p rs1 line ok => ?_⟩
  intro D hD
  have nD : S1 D = none := rs1.none_of hD
  refine ⟨fun i m H' => ∃ S' acc us, RelS K S' H' ∧ Post K S1 H1 S' H' ∧ S' D = none ∧ H' D = some (.lst us) ∧ Reps K H' acc us ∧ acc.length ≤ i ∧ i ≤ items.length ∧ m = items.length - i ∧
    lcRun t tt te chk (wipeD e vs) (fun acc S2 => rd acc S2 Q0) (items.drop i) acc S',
    ⟨_, S1, [], [], rs1.upd (by rw [hD]; trivial) nD, Post.lay hD, nD, upd_same, .nil, Nat.le_refl _, Nat.zero_le _, rfl, q⟩, ?_⟩
  rintro i m H' ⟨S', acc, us, rs', p', nD', hu, ru, ha, hi, rfl, run⟩
  obtain ⟨o1, o2⟩ := ok i S' H' p'.tk rs' (lcRun_chk run)
  by_cases hl : i = items.length
  · subst hl
    rw [List.drop_length] at run
    exact .inl ⟨o1 rfl, hr D acc us S' Q0 H' Q rs' nD' hu ru run.2 fun d S2 v H2 q2 pp rs2 r2 => k d S2 v H2 q2 (p.trans (pp S1 H1 p' hD)) rs2 r2⟩
  · have hlt : i < items.length := by omega
    obtain ⟨d, hd⟩ : ∃ d, items[i]? = some d := ⟨items[i], by simp [hlt]⟩
    have ed : items.drop i = d :: items.drop (i + 1) := by
      rw [List.drop_eq_getElem_cons hlt]
      have : items[i] = d := by
        have q2 := List.getElem?_eq_getElem hlt
        rw [hd] at q2
        exact (Option.some.inj q2).symm
      rw [this]
    rw [ed] at run
    obtain ⟨g, y⟩ := o2 d hd
    refine .inr ⟨g, fun H'' => ∃ S'' acc' us', RelS K S'' H'' ∧ Post K S1 H1 S'' H'' ∧ S'' D = none ∧ H'' D = some (.lst us') ∧ Reps K H'' acc' us' ∧ acc'.length ≤ i + 1 ∧
      lcRun t tt te chk (wipeD e vs) (fun acc S2 => rd acc S2 Q0) (items.drop (i + 1)) acc' S'', ?_, fun x H2 yl => ?_⟩
    · rintro H'' ⟨S'', acc', us', b1, b2, b3, b4, b5, b6, b7⟩
      exact ⟨items.length - (i + 1), by omega, S'', acc', us', b1, b2, b3, b4, b5, b6, hlt, rfl, b7⟩
    · obtain ⟨p2, rs2, r2⟩ := y x H2 yl
      have run := run.2
      have hu2 := p2.frame D _ nD' hu
      split at run
      · rename_i e2 eb
        have rw0 := (re.mono (p.trans (p'.trans p2)).tk).wipe vs
        refine gOf_ok t d x (wipeD e vs) e2 (wipe σ vs) _ r2 rw0 eb fun σ3 re3 o3 => ⟨(o3 vs hv).trans wipe_wipe, ?_⟩
        refine ⟨e2, S', _, re3, rs2, run, fun b S4 H4 f p4 rs4 => ?_⟩
        have nD4 := p4.dom D nD' (by rw [hu2]; simp)
        have hu4 := p4.frame D _ nD' hu2
        cases b with
        | true =>
          refine iteT ⟨e2, S4, _, re3.mono p4.tk, rs4, f, fun dd S5 v5 H5 f5 p5 rs5 r5 => ?_⟩
          obtain ⟨S6, sb, f5⟩ := f5
          have nD5 := p5.dom D nD4 (by rw [hu4]; simp)
          have hu5 := p5.frame D _ nD4 hu4
          have fr : Free (H5 D) := by rw [hu5]; trivial
          have rl := ru.length
          refine ⟨us, hu5, by omega, S6, acc ++ [dd], us ++ [v5], (rs5.sub sb).upd fr (sb.free nD5), ((((p'.trans p2).trans p4).trans p5).inner hD fr).sub sb, sb.free nD5, upd_same, ((ru.mono ((p2.trans p4).trans p5).tk).append (.cons r5 .nil)).mono (TK.upd fr), by simp; omega, f5⟩
        | false =>
          obtain ⟨S6, sb, f⟩ := f
          exact iteF ⟨S6, acc, us, rs4.sub sb, ((p'.trans p2).trans p4).sub sb, sb.free nD4, hu4, ru.mono (p2.trans p4).tk, by omega, f⟩
      · exact run.elim
theorem em_lc {K : PySem.W.Frag} {ti : TID} {t : Tgt} {tt : TTD} {te : TD} {vs : List Nat} (hv : t.own vs = true) {σ : St} {H : Hp} {Q : VK} (h : emE K (dLc ti t tt te vs) σ H Q) : tLc (emI K ti) (gOf K t) (emT K tt) (emE K te) vs σ H Q :=
  em_lcK lck_new hv h
section
variable {X : Cx} {pos : Pos}
theorem de_lc {elt tg iter : Expr} {ifs : List Expr} {scope : Scope} {own : List (Str × Nat)} {ti : TID} {t : Tgt} {tt : TTD} {te : TD} (hc : X.calm = true) (hN : X.N.Nodup) (hi : DI X tg iter ti) (ok : BlkOk X.N X.env.scope scope own) (hv : t.own (own.map (·.2)) = true)
    (hg : ∀ (s : Shared) (H : Hp) (C : Addr) (cl : List (Str × Addr)) (fp : List Addr), PG (X.blk s H scope (compEnvC scope cl C X.env) fp) tg (gOf X.K t))
    (ht : ∀ (s : Shared) (H : Hp) (C : Addr) (cl : List (Str × Addr)) (fp : List Addr), DTs (X.blk s H scope (compEnvC scope cl C X.env) fp) ifs tt)
    (he : ∀ (s : Shared) (H : Hp) (C : Addr) (cl : List (Str × Addr)) (fp : List Addr), DE (X.blk s H scope (compEnvC scope cl C X.env) fp) elt te) (hs : ∀ x, foldedSetIterable iter X.env x = pure x := by intro _; rfl) :
    DE X (.ListComp elt [⟨tg, iter, ifs, 0⟩] scope pos) (dLc ti t tt te (own.map (·.2))) :=
  PE.le (pe_lc hc hN hi ok hg ht he hs) fun _ _ _ h => em_lc hv h
theorem ds_setLc {i : Nat} {y : Str} {py : Pos} {elt tg iter : Expr} {ifs : List Expr} {scope : Scope} {own : List (Str × Nat)} {spos : Pos} {ti : TID} {t : Tgt} {tt : TTD} {te : TD} (hc : X.calm = true) (hN : X.N.Nodup) (hy : X.N[i]? = some y) (hyl : X.env.scope.names.lookup y = some .local)
    (hsw : swapsWith (.ListComp elt [⟨tg, iter, ifs, 0⟩] scope pos) (some (.Name y py)) spos.line X.env = pure true) (hi : DI X tg iter ti) (ok : BlkOk X.N X.env.scope scope own) (hv : t.own (own.map (·.2)) = true)
    (hg : ∀ (s : Shared) (H : Hp) (C : Addr) (cl : List (Str × Addr)) (fp : List Addr), PG (X.blk s H scope (compEnvC scope cl C X.env) fp) tg (gOf X.K t))
    (ht : ∀ (s : Shared) (H : Hp) (C : Addr) (cl : List (Str × Addr)) (fp : List Addr), DTs (X.blk s H scope (compEnvC scope cl C X.env) fp) ifs tt)
    (he : ∀ (s : Shared) (H : Hp) (C : Addr) (cl : List (Str × Addr)) (fp : List Addr), DE (X.blk s H scope (compEnvC scope cl C X.env) fp) elt te) (hs : ∀ x, foldedSetIterable iter X.env x = pure x := by intro _; rfl) :
    DS X (.Assign [.Name y py] (.ListComp elt [⟨tg, iter, ifs, 0⟩] scope pos) spos) (dAsg (dLc ti t tt te (own.map (·.2))) (.nm i)) :=
  PS.le (ps_setLc hc hN hy hyl hsw hi ok hg ht he hs) fun D1 σ H h => by
    have q := em_asg (te := dLc ti t tt te (own.map (·.2))) (tt := .nm i) h
    obtain ⟨e, S, Q0, re, rs, h1, k⟩ := q
    exact em_lc hv ⟨e, S, Q0, re, rs, h1, k⟩
end
end QL
end L2
namespace L2
namespace QL
open PySem PySem.Spec PyProof.Rows
/-! ### 16. defs -/
structure RoomG (k : Nat) (A : Around) : Prop where
  rm : Room k A
  gd : A.guards = some []
theorem RoomG.mono {j k : Nat} {A : Around} (r : RoomG k A) (h : j ≤ k) : RoomG j A := ⟨r.rm.mono h, r.gd⟩
theorem RoomG.deeper {k : Nat} {A : Around} (r : RoomG (k + 1) A) (env : Env) : RoomG k (A.deeper env) := ⟨r.rm.deeper env, r.gd⟩
theorem RoomG.make {k : Nat} {A : Around} (r : RoomG (k + 1) A) (C : Addr) (us : List Value) (kw : List (Str × Value)) : RoomG k (A.under (.builtin "type.__call__" ⟨.ref C :: us, kw⟩)) :=
  ⟨r.rm.make C us kw, by
    have g := r.gd
    first | exact g | (simpa [Around.under, Code.guards, Code.isGuard, guardIds, pushGuards] using g)⟩
/-- a def's promise over data -/
abbrev SpD := List D → Sto → DK → Prop
def emSp (K : PySem.W.Frag) (sp : SpD) (vs : List V) (H : Hp) (Q : VK) : Prop :=
  ∃ ds S Q0, Reps K H ds vs ∧ RelS K S H ∧ sp ds S Q0 ∧ ∀ d S' v H', Q0 d S' → Post K S H S' H' → RelS K S' H' → Rep K H' d v → Q v H'
abbrev noE : XK := fun _ _ _ => False
structure FnD (P : Program) (w : World) (K : PySem.W.Frag) (mg : Str → Option Value) (base : Heap) (k : Nat) (f : Addr) (fd : FuncData) (ps : List Str) (sp : SpD) : Prop where
  len : ∀ ds S Q, sp ds S Q → ds.length = ps.length
  run : ∀ (A : Around) (outer : List Env) (s : Shared) (H : Hp) (args : Args) (us : List Value) (vs : List V) (Q : VK), RoomG k A → Env0 P w K mg base A outer s H → BindsTo s fd args (ps.zip us) → Vals vs us → emSp K sp vs H Q →
    codeAny (model P w) A (.call (.ref f) args) (CR CX0 outer P w H s Q noE) s
theorem emSp.len {P : Program} {w : World} {K : PySem.W.Frag} {mg : Str → Option Value} {base : Heap} {k : Nat} {f : Addr} {fd : FuncData} {ps : List Str} {sp : SpD} (F : FnD P w K mg base k f fd ps sp) {vs : List V} {H : Hp} {Q : VK}
    (h : emSp K sp vs H Q) : vs.length = ps.length := by
  obtain ⟨ds, S, Q0, r, _, q, _⟩ := h
  rw [← r.length]
  exact F.len ds S Q0 q
theorem FnD.mono {P : Program} {w : World} {K : PySem.W.Frag} {mg : Str → Option Value} {base : Heap} {j k : Nat} {f : Addr} {fd : FuncData} {ps : List Str} {sp : SpD} (F : FnD P w K mg base j f fd ps sp) (h : j ≤ k) : FnD P w K mg base k f fd ps sp :=
  ⟨F.len, fun A outer s H args us vs Q hr => F.run A outer s H args us vs Q (hr.mono h)⟩
/-- the body's end: cells that nobody needs may be dropped -/
def bodyEnds (Q0 : DK) : EndsD where
  nx := fun _ S => ∃ S', Sb S' S ∧ Q0 .non S'
  rt := fun d S => ∃ S', Sb S' S ∧ Q0 d S'
/-- a def of the text, by its body over data -/
theorem fnd_of {P : Program} {w : World} {K : PySem.W.Frag} {mg : Str → Option Value} {base : Heap} {k : Nat} {f : Addr} {x qual : Str} {st : Stmt} {fd : FuncData} {N ps : List Str} {sp : SpD} {tb : TSD} (F : Fun K x qual st f fd) (S : FnScope N ps (defScope st))
    (len : ∀ ds S Q, sp ds S Q → ds.length = ps.length)
    (hbody : ∀ (A : Around) (outer : List Env) (s : Shared) (H : Hp) (cdv : Value), RoomG k (A.deeper (envOfC qual (defScope st) s.heap.objs.size f cdv)) → DSs (cxOf CX0 P w K mg base N qual (defScope st) f cdv A outer s H noE).nox (defBody st) tb)
    (plain : ∀ ds S Q0, sp ds S Q0 → tb (bodyEnds Q0) (startD N ds) S) : FnD P w K mg base (k + 1) f fd ps sp := by
  obtain ⟨oc, od, kV, doc, pm, an, cdv, ct, osl, rfl, lk, hcd⟩ := F.ex
  refine ⟨len, fun A outer s H args us vs Q hr e0 hb r hsp => ?_⟩
  obtain ⟨ds, S0, Q0, hreps, rs, hq, kk⟩ := hsp
  have hl : vs.length = ps.length := by rw [← hreps.length]; exact len ds S0 Q0 hq
  have KX : K.In s.heap := e0.mod.kin.keeps fun b o e => (e0.bs b o e).1
  have lim : s.heap.NoLimit := e0.mod.nolimit.keeps fun b o e => (e0.bs b o e).1
  have hkind : ∀ y ∈ ps.zip us, (defScope st).names.lookup y.1 = some .local ∨ ((defScope st).names.lookup y.1 = some .cell ∧ ((cellsFrom (s.heap.objs.size + 1) (defScope st).names []).lookup y.1).isSome = true) := fun ⟨n, v⟩ hy => by
    rcases S.par n (List.of_mem_zip hy).1 with q | q
    · exact .inl q
    · exact .inr ⟨q, PySem.W.cellsFrom_some _ _ _ (.inl q)⟩
  refine codeAny_call_function hr.rm.depth (KX _ _ lk) rfl S.co S.gen rfl (PySem.W.codeRec_of KX hcd) (hb _ _ _ _ ?_)
  refine wpAny_newFunctionEnv_cells S.kind hkind fun env he s1 x => ?_
  subst he
  refine ⟨lim.keeps x.toInCall.keep, codeAny_func ?_⟩
  have I : Inv (cxOf CX0 P w K mg base N qual (defScope st) f cdv A outer s H noE) [] (start N vs) H s1 := inv_start S hr.rm.hd e0 hl r x
  have fin : ∀ {d S' S2 v H'}, Q0 d S2 → Sb S2 S' → Post K S0 H S' H' → RelS K S' H' → Rep K H' d v → Q v H' := fun {d S' S2 v H'} q sb p rs' rp => kk d S2 v H' q (p.sub sb) (rs'.sub sb) rp
  refine wpAny_mono ((PSs.nox (hbody A outer s H cdv (hr.deeper _))).run [] s1 (start N vs) H { nx := fun _ H' => Q .non H', rt := Q } I
    ⟨startD N ds, S0, bodyEnds Q0, RelE.start hreps, rs, plain ds S0 Q0 hq, ⟨fun e' S' σ' H' q p re rs' => ?_, fun d S' v H' q p rp rs' => ?_, fun _ _ _ _ q => q.elim, fun _ _ _ _ q => q.elim⟩⟩) (fun fl s' hs => ?_) fun e s' hs => hs
  · obtain ⟨S2, sb, q⟩ := q
    exact fin q sb p rs' .non
  · obtain ⟨S2, sb, q⟩ := q
    exact fin q sb p rs' rp
  · have fin : ∀ {σ' : St} {H' : Hp} {v : V} {u : Value}, Inv (cxOf CX0 P w K mg base N qual (defScope st) f cdv A outer s H noE) [] σ' H' s' → RelV v u → Q v H' → CE outer P w H s Q u s' :=
      fun {σ' H' v u} J rv q => ⟨v, H', J.os, J.bare, J.base, J.hok, rv, q⟩
    cases fl with
    | ret u =>
      obtain ⟨v, σ', H', J, rv, q⟩ := hs
      exact fin J rv q
    | next =>
      obtain ⟨σ', H', J, q⟩ := hs
      exact fin (v := V.non) (u := Value.none) J rfl q
    | brk =>
      obtain ⟨_, _, _, q⟩ := hs
      exact False.elim q
    | cont =>
      obtain ⟨_, _, _, q⟩ := hs
      exact False.elim q
end QL
end L2
namespace L2
namespace QL
open PySem PySem.Spec PyProof.Rows
/-! ### 17. calls of one's own defs -/
section
variable {P : Program} {w : World} {K : PySem.W.Frag} {mg : Str → Option Value} {base : Heap}
structure CalD (P : Program) (w : World) (K : PySem.W.Frag) (mg : Str → Option Value) (base : Heap) (k : Nat) (x : Str) (sp : SpD) (dds : List D) : Prop where
  ex : ∃ (f : Addr) (fd : FuncData) (ps : List Str) (ds : List Value) (dvs : List V), FnD P w K mg base k f fd ps sp ∧ mg x = some (.ref f) ∧ PySem.W.keepIn K (.ref f) = true ∧ Binds K fd ps ds ∧ Vals dvs ds ∧ ∀ H, Reps K H dds dvs
structure MetD (P : Program) (w : World) (K : PySem.W.Frag) (mg : Str → Option Value) (base : Heap) (k : Nat) (C : Addr) (m : Str) (sp : SpD) (dds : List D) : Prop where
  ex : ∃ (f : Addr) (fd : FuncData) (ps : List Str) (ds : List Value) (dvs : List V), Cls K C ∧ Meth K C m f ∧ FnD P w K mg base k f fd ps sp ∧ Binds K fd ps ds ∧ Vals dvs ds ∧ ∀ H, Reps K H dds dvs
structure MakD (P : Program) (w : World) (K : PySem.W.Frag) (mg : Str → Option Value) (base : Heap) (k : Nat) (x : Str) (C : Addr) (sp : SpD) (dds : List D) : Prop where
  ex : ∃ (f : Addr) (fd : FuncData) (ps : List Str) (ds : List Value) (dvs : List V), Mk K C f ∧ FnD P w K mg base k f fd ps sp ∧ mg x = some (.ref C) ∧ Binds K fd ps ds ∧ Vals dvs ds ∧ ∀ H, Reps K H dds dvs
theorem CalD.of {k : Nat} {x : Str} {sp : SpD} {f : Addr} {fd : FuncData} {ps : List Str} (F : FnD P w K mg base k f fd ps sp) (hm : mg x = some (.ref f)) (hk : PySem.W.keepIn K (.ref f) = true) (hb : Binds K fd ps []) : CalD P w K mg base k x sp [] :=
  ⟨f, fd, ps, [], [], F, hm, hk, hb, .nil, fun _ => .nil⟩
end
def dCall (sp : SpD) (dds : List D) (t : TAD) : TD := fun e S Q => t e S fun ds S1 => sp (ds ++ dds) S1 Q
def dMeth (C : Addr) (m : Str) (sp : SpD) (dds : List D) (to : TD) (t : TAD) : TD := fun e S Q => to e S fun o S1 => match o with
  | .loc a => match S1 a with
    | some (.ins C' fs) => (C' = C ∧ fs.lookup m = none) ∧ t e S1 fun ds S2 => sp (.loc a :: (ds ++ dds)) S2 Q
    | _ => False
  | _ => False
def dMake (C : Addr) (sp : SpD) (dds : List D) (t : TAD) : TD := fun e S Q => t e S fun ds S1 => ∀ a, S1 a = none → sp (.loc a :: (ds ++ dds)) (S1.put a (.ins C [])) fun d S2 => d = .non ∧ Q (.loc a) S2
section
variable {X : Cx} {k j : Nat} {f C : Addr} {fd : FuncData} {ps : List Str} {sp : SpD} {dds : List D} {dvs : List V} {ds : List Value} {x m : Str} {p pos apos : Pos} {e o : Expr} {es : List Expr} {to : TD} {t : TAD}
theorem emA_nil {K : PySem.W.Frag} {σ : St} {H : Hp} {Q : List V → Hp → Prop} (h : emA K (fun e S Q => Q [] S) σ H Q) : Q [] H := by
  obtain ⟨e, S, Q0, re, rs, ht, k⟩ := h
  exact k [] S [] H ht Post.refl rs .nil
theorem run_fnd {pins : List (Addr × Obj)} {σ : St} {H : Hp} {s : Shared} {Q : VK} {us : List Value} {vs : List V} (F : FnD X.prog X.w X.K X.mg X.base k f fd ps sp) (hr : RoomG k X.A) (hb : Binds X.K fd ps ds) (hd : Vals dvs ds)
    (I : Inv X pins σ H s) (r : Vals vs us) (h : emSp X.K sp (vs ++ dvs) H Q) : wpAny (model X.prog X.w) X.A (call (.ref f) us) (EP X pins σ Q) X.xe s := by
  have r2 : Vals (vs ++ dvs) (us ++ ds) := r.append hd
  have hl : (us ++ ds).length = ps.length := by rw [← r2.length]; exact emSp.len F h
  refine wpAny_call (codeAny_mono (F.run X.A X.stack s H ⟨us, []⟩ (us ++ ds) (vs ++ dvs) Q hr I.env0 (hb s us I.kIn hl) r2 h) fun r s' hq => ?_)
  rcases r with _ | (_ | _ | _ | u)
  · exact hq.elim
  · exact False.elim hq
  · exact False.elim hq
  · exact False.elim hq
  · exact I.after hq
theorem em_callArgs {K : PySem.W.Frag} {σ : St} {H : Hp} {Q : VK} (hD : ∀ H, Reps K H dds dvs) (h : emE K (dCall sp dds t) σ H Q) : emA K t σ H fun vs H1 => emSp K sp (vs ++ dvs) H1 Q := by
  obtain ⟨e, S, Q0, re, rs, ht, k⟩ := h
  exact ⟨e, S, _, re, rs, ht, fun ds S1 vs H1 q p rs1 r => ⟨ds ++ dds, S1, Q0, r.append (hD H1), rs1, q, fun d S' v H' q' p' rs' r' => k d S' v H' q' (p.trans p') rs' r'⟩⟩
theorem de_call (c : CalD X.prog X.w X.K X.mg X.base k x sp dds) (hr : RoomG j X.A) (hk : k ≤ j) (hg : Gl X x) (ha : DA X (e :: es) t) (hdb : (x == ("__debug__" : Str)) = false := by decide)
    (he : starEach (e :: es) X.env = (false, eval e X.env) :: starEach es X.env := by rfl) (hpl : (backTo pos (starEach es X.env)).any (·.1) = false := by rfl) : DE X (.Call (.Name x p) (e :: es) [] pos) (dCall sp dds t) := by
  obtain ⟨f, fd, ps, ds, dvs, F, hm, hkp, hb, hd, hD⟩ := c.ex
  refine ⟨fun pins s σ H Q I h => ?_⟩
  refine wpAny_Call_Name_kw (ld_glob I hg hm ?_ hdb)
  refine PySem.W.callWith_K (h₀ := X.base) I.ok.mod.kin hkp (thn (ha.run pos pins s σ H _ I (em_callArgs hD h)) fun us s1 ⟨vs, H1, I1, r, q⟩ => ⟨I1.kIn, ?_⟩) he hpl
  exact run_fnd F (hr.mono hk) hb hd I1 r q
theorem de_call0 (c : CalD X.prog X.w X.K X.mg X.base k x sp dds) (hr : RoomG j X.A) (hk : k ≤ j) (hg : Gl X x) (hdb : (x == ("__debug__" : Str)) = false := by decide) :
    DE X (.Call (.Name x p) [] [] pos) (dCall sp dds fun _ S Q => Q [] S) := by
  obtain ⟨f, fd, ps, ds, dvs, F, hm, hkp, hb, hd, hD⟩ := c.ex
  refine ⟨fun pins s σ H Q I h => ?_⟩
  refine wpAny_Call_Name_kw (ld_glob I hg hm ?_ hdb)
  exact PySem.W.callWith_K0 I.kIn hkp (run_fnd (us := []) F (hr.mono hk) hb hd I .nil (emA_nil (em_callArgs hD h)))
theorem em_meth {K : PySem.W.Frag} {σ : St} {H : Hp} {Q : VK} (hD : ∀ H, Reps K H dds dvs) (h : emE K (dMeth C m sp dds to t) σ H Q) :
    emE K to σ H fun x H1 => ∃ a dx fs, x = .ref a ∧ H1 a = some (.ins C dx fs) ∧ fs.lookup m = none ∧ emA K t σ H1 fun vs H2 => emSp K sp (.ref a :: (vs ++ dvs)) H2 Q := by
  obtain ⟨e, S, Q0, re, rs, ht, k⟩ := h
  refine ⟨e, S, _, re, rs, ht, fun d S1 v H1 q p rs1 r => ?_⟩
  cases r with
  | loc a =>
    dsimp only at q
    split at q
    · rename_i C' fs e1
      obtain ⟨⟨rfl, hl⟩, q⟩ := q
      obtain ⟨dx, fq, e2, fr⟩ := rs1 _ _ e1
      refine ⟨a, dx, fq, rfl, e2, ?_, e, S1, _, re.mono p.tk, rs1, q, fun ds S2 vs H2 q2 p2 rs2 r2 => ?_⟩
      · clear e1 e2 q
        induction fr with
        | nil => rfl
        | cons h t ih =>
          rename_i a b _ _
          obtain ⟨g, x⟩ := a
          obtain ⟨g', x'⟩ := b
          obtain ⟨hg, _⟩ := h
          dsimp only at hg
          subst hg
          by_cases hm : (m == g) = true
          · simp [List.lookup, hm] at hl
          · simp only [Bool.not_eq_true] at hm
            simp only [List.lookup, hm] at hl ⊢
            exact ih hl
      · exact ⟨_, S2, Q0, .cons (.loc a) (r2.append (hD H2)), rs2, q2, fun d S' v H' q' p' rs' r' => k d S' v H' q' ((p.trans p2).trans p') rs' r'⟩
    · exact q.elim
  | _ => exact q.elim
theorem de_meth {pl : Sem Bool} (c : MetD X.prog X.w X.K X.mg X.base k C m sp dds) (hr : RoomG j X.A) (hk : k ≤ j) (ho : DE X o to) (ha : DA X (e :: es) t)
    (hst : starEach (e :: es) X.env = (false, eval e X.env) :: starEach es X.env := by rfl) (hpl : (backTo pos (starEach es X.env)).any (·.1) = false := by rfl)
    (ht : eval (.Call (.Attribute o m apos) (e :: es) [] pos) X.env = (do
      let ov ← eval o X.env
      standAt apos.atName
      let (f, first) ← holding [ov] (getMethod ov m pl)
      callWith pos f first (backTo pos (starEach (e :: es) X.env)) (backToKw pos (keywordEach [] X.env))) := by rfl) :
    DE X (.Call (.Attribute o m apos) (e :: es) [] pos) (dMeth C m sp dds to t) := by
  obtain ⟨f, fd, ps, ds, dvs, cl, me, F, hb, hd, hD⟩ := c.ex
  refine ⟨fun pins s σ H Q I h => ?_⟩
  refine PySem.W.methodCall_KW (pl := pl) (thn (ho.run pins s σ H _ I (em_meth hD h)) fun u s1 ⟨x, H1, I1, rx, a, dx, fs, ex, ea, l, q⟩ => ?_) ht
  subst ex
  obtain rfl : u = Value.ref a := rx
  refine getmeth_ok I1 ea cl me l ?_
  refine PySem.W.callWith_K (first := [.ref a]) (h₀ := X.base) I.ok.mod.kin me.kp (thn (ha.run pos pins s1 σ H1 _ I1 q) fun us s2 ⟨vs, H2, I2, r, q2⟩ => ⟨I2.kIn, ?_⟩) hst hpl
  exact run_fnd (us := .ref a :: us) (vs := .ref a :: vs) F (hr.mono hk) hb hd I2 (.cons rfl r) q2
theorem de_meth0 {pl : Sem Bool} (c : MetD X.prog X.w X.K X.mg X.base k C m sp dds) (hr : RoomG j X.A) (hk : k ≤ j) (ho : DE X o to)
    (ht : eval (.Call (.Attribute o m apos) [] [] pos) X.env = (do
      let ov ← eval o X.env
      standAt apos.atName
      let (f, first) ← holding [ov] (getMethod ov m pl)
      callWith pos f first (backTo pos (starEach [] X.env)) (backToKw pos (keywordEach [] X.env))) := by rfl) :
    DE X (.Call (.Attribute o m apos) [] [] pos) (dMeth C m sp dds to fun _ S Q => Q [] S) := by
  obtain ⟨f, fd, ps, ds, dvs, cl, me, F, hb, hd, hD⟩ := c.ex
  refine ⟨fun pins s σ H Q I h => ?_⟩
  refine PySem.W.methodCall_KW (pl := pl) (thn (ho.run pins s σ H _ I (em_meth hD h)) fun u s1 ⟨x, H1, I1, rx, a, dx, fs, ex, ea, l, q⟩ => ?_) ht
  subst ex
  obtain rfl : u = Value.ref a := rx
  refine getmeth_ok I1 ea cl me l ?_
  exact PySem.W.callWith_K0 (first := [.ref a]) I1.kIn me.kp (run_fnd (us := [.ref a]) (vs := [.ref a]) F (hr.mono hk) hb hd I1 (.cons rfl .nil) (emA_nil q))
theorem run_maked {pins : List (Addr × Obj)} {σ : St} {H : Hp} {s : Shared} {Q : VK} {us : List Value} {vs : List V} (M : Mk X.K C f) (F : FnD X.prog X.w X.K X.mg X.base k f fd ps sp) (hr : RoomG (k + 1) X.A) (hb : Binds X.K fd ps ds) (hd : Vals dvs ds)
    (I : Inv X pins σ H s) (r : Vals vs us)
    (h : ∀ x dx, H x = none → H dx = none → dx ≠ x → emSp X.K sp (.ref x :: (vs ++ dvs)) (upd (upd H dx (.own x)) x (.ins C dx [])) fun v H2 => v = .non ∧ Q (.ref x) H2) :
    wpAny (model X.prog X.w) X.A (call (.ref C) us) (EP X pins σ Q) X.xe s := by
  have hq := h (s.heap.objs.size + 1) s.heap.objs.size (I.hok.fresh (Nat.le_succ _)) (I.hok.fresh (Nat.le_refl _)) (Nat.ne_of_lt (Nat.lt_succ_self _))
  have I2 := Inv.made (C := C) I
  have r2 : Vals (V.ref (s.heap.objs.size + 1) :: (vs ++ dvs)) (Value.ref (s.heap.objs.size + 1) :: (us ++ ds)) := .cons rfl (r.append hd)
  have hl : (Value.ref (s.heap.objs.size + 1) :: us ++ ds).length = ps.length := by
    have e := r2.length
    rw [emSp.len F hq] at e
    exact e.symm
  refine wpAny_call (make_map (f := f) I.kIn M.makes M.init (beq_iff_eq.mp M.fn) (codeAny_mono (F.run _ X.stack _ _ ⟨Value.ref (s.heap.objs.size + 1) :: us, []⟩ (Value.ref (s.heap.objs.size + 1) :: (us ++ ds)) _ _ (hr.make C us [])
    (I2.env0.make C us []) (hb _ (Value.ref (s.heap.objs.size + 1) :: us) I2.kIn hl) r2 hq) fun r s' hq' => ?_))
  rcases r with _ | (_ | _ | _ | u)
  · exact hq'.elim
  · exact False.elim hq'
  · exact False.elim hq'
  · exact False.elim hq'
  · obtain ⟨v, H', I3, rv, ev, q3⟩ := I2.after hq'
    subst ev
    exact ⟨rv, ⟨V.ref (s.heap.objs.size + 1), H', I3, rfl, q3⟩⟩
theorem em_makeArgs {K : PySem.W.Frag} {σ : St} {H : Hp} {Q : VK} (hD : ∀ H, Reps K H dds dvs) (h : emE K (dMake C sp dds t) σ H Q) :
    emA K t σ H fun vs H1 => ∀ x dx, H1 x = none → H1 dx = none → dx ≠ x → emSp K sp (.ref x :: (vs ++ dvs)) (upd (upd H1 dx (.own x)) x (.ins C dx [])) fun v H2 => v = .non ∧ Q (.ref x) H2 := by
  obtain ⟨e, S, Q0, re, rs, ht, k⟩ := h
  refine ⟨e, S, _, re, rs, ht, fun ds S1 vs H1 q p rs1 r x dx hx hdx ne => ?_⟩
  have n1 : S1 x = none := rs1.none_of hx
  have f0 : Free (H1 dx) := by rw [hdx]; trivial
  have hx2 : (upd H1 dx (.own x)) x = none := by rw [upd_ne (Ne.symm ne)]; exact hx
  have f1 : Free ((upd H1 dx (.own x)) x) := by rw [hx2]; trivial
  have rs2 : RelS K S1 (upd H1 dx (.own x)) := rs1.upd f0 (rs1.none_of hdx)
  have p2 : Post K S1 H1 (S1.put x (.ins C [])) (upd (upd H1 dx (.own x)) x (.ins C dx [])) := (Post.lay hdx).trans (Post.new hx2)
  refine ⟨.loc x :: (ds ++ dds), S1.put x (.ins C []), _, .cons (.loc x) ((r.append (hD H1)).mono p2.tk), rs2.put f1 ⟨dx, [], upd_same, .nil⟩, q x n1, fun d S' v H' q' p' rs' r' => ?_⟩
  obtain ⟨rfl, q'⟩ := q'
  cases r'
  exact ⟨rfl, k _ S' _ H' q' (p.trans (p2.trans p')) rs' (.loc x)⟩
theorem de_make (c : MakD X.prog X.w X.K X.mg X.base k x C sp dds) (hr : RoomG j X.A) (hk : k + 1 ≤ j) (hg : Gl X x) (ha : DA X (e :: es) t) (hdb : (x == ("__debug__" : Str)) = false := by decide)
    (he : starEach (e :: es) X.env = (false, eval e X.env) :: starEach es X.env := by rfl) (hpl : (backTo pos (starEach es X.env)).any (·.1) = false := by rfl) : DE X (.Call (.Name x p) (e :: es) [] pos) (dMake C sp dds t) := by
  obtain ⟨f, fd, ps, ds, dvs, M, F, hm, hb, hd, hD⟩ := c.ex
  refine ⟨fun pins s σ H Q I h => ?_⟩
  refine wpAny_Call_Name_kw (ld_glob I hg hm ?_ hdb)
  refine PySem.W.callWith_K (h₀ := X.base) I.ok.mod.kin M.kp (thn (ha.run pos pins s σ H _ I (em_makeArgs hD h)) fun us s1 ⟨vs, H1, I1, r, q⟩ => ⟨I1.kIn, ?_⟩) he hpl
  exact run_maked M F (hr.mono hk) hb hd I1 r q
theorem de_make0 (c : MakD X.prog X.w X.K X.mg X.base k x C sp dds) (hr : RoomG j X.A) (hk : k + 1 ≤ j) (hg : Gl X x) (hdb : (x == ("__debug__" : Str)) = false := by decide) :
    DE X (.Call (.Name x p) [] [] pos) (dMake C sp dds fun _ S Q => Q [] S) := by
  obtain ⟨f, fd, ps, ds, dvs, M, F, hm, hb, hd, hD⟩ := c.ex
  refine ⟨fun pins s σ H Q I h => ?_⟩
  refine wpAny_Call_Name_kw (ld_glob I hg hm ?_ hdb)
  exact PySem.W.callWith_K0 I.kIn M.kp (run_maked (us := []) M F (hr.mono hk) hb hd I .nil (emA_nil (em_makeArgs hD h)))
end
/-! ### 18. attributes -/
def putFD (f : Str) (v : D) : List (Str × D) → List (Str × D)
  | [] => [(f, v)]
  | (g, x) :: r => if g = f then (g, v) :: r else (g, x) :: putFD f v r
section
variable {K : PySem.W.Frag} {H : Hp}
theorem fsr_put {f : Str} {d : D} {v : V} (r : Rep K H d v) : ∀ {fs : List (Str × D)} {q : List (Str × V)}, FSR K H fs q → FSR K H (putFD f d fs) (putF f v q)
  | _, _, .nil => .cons ⟨rfl, r⟩ .nil
  | (g, x) :: _, (g', x') :: _, .cons h t => by
    obtain ⟨e, hx⟩ := h
    dsimp only at e
    subst e
    unfold putFD putF
    by_cases hg : g = f
    · rw [if_pos hg, if_pos hg]
      exact .cons ⟨rfl, r⟩ t
    · rw [if_neg hg, if_neg hg]
      exact .cons ⟨rfl, hx⟩ (fsr_put r t)
theorem fsr_look {f : Str} {d : D} : ∀ {fs : List (Str × D)} {q : List (Str × V)}, FSR K H fs q → fs.lookup f = some d → ∃ v, q.lookup f = some v ∧ Rep K H d v
  | _, _, .nil, h => by simp at h
  | (g, x) :: _, (g', x') :: _, .cons h t, hl => by
    obtain ⟨e, hx⟩ := h
    dsimp only at e
    subst e
    by_cases hm : (f == g) = true
    · simp only [List.lookup, hm] at hl ⊢
      cases hl
      exact ⟨x', rfl, hx⟩
    · simp only [Bool.not_eq_true] at hm
      simp only [List.lookup, hm] at hl ⊢
      exact fsr_look t hl
end
def dFld (C : Addr) (f : Str) (to : TD) : TD := fun e S Q => to e S fun o S1 => match o with
  | .loc a => match S1 a with
    | some (.ins C' fs) => C' = C ∧ match fs.lookup f with
      | some d => Q d S1
      | none => False
    | _ => False
  | _ => False
def dFldS (C : Addr) (f : Str) (to tv : TD) : TSD := fun D0 e S => tv e S fun y S1 => to e S1 fun o S2 => match o with
  | .loc a => match S2 a with
    | some (.ins C' fs) => (C' = C ∧ fs.length < 1000) ∧ D0.nx e (S2.put a (.ins C (putFD f y fs)))
    | _ => False
  | _ => False
section
variable {X : Cx} {C : Addr} {f : Str} {o value : Expr} {to tv : TD} {pos pos' : Pos}
theorem de_fld (cl : Cls X.K C) (n : NoAttr X.K C f) (ho : DE X o to) (hb : attributeBase o f X.env (eval o X.env) = eval o X.env := by rfl) : DE X (.Attribute o f pos) (dFld C f to) :=
  PE.le (pe_fld ho hb) fun σ H Q h => by
    obtain ⟨e, S, Q0, re, rs, ht, k⟩ := h
    refine ⟨e, S, _, re, rs, ht, fun d S1 v H1 q p rs1 r => ?_⟩
    cases r with
    | loc a =>
      dsimp only at q
      split at q
      · rename_i C' fs e1
        obtain ⟨rfl, q⟩ := q
        split at q
        · rename_i d e3
          obtain ⟨dx, fq, e2, fr⟩ := rs1 _ _ e1
          obtain ⟨v, l, r'⟩ := fsr_look fr e3
          exact ⟨a, C', dx, fq, v, rfl, e2, cl, n, l, k _ S1 _ H1 q p rs1 r'⟩
        · exact q.elim
      · exact q.elim
    | _ => exact q.elim
theorem ds_fld (cl : Cls X.K C) (n : NoAttr X.K C f) (ho : DE X o to) (hv : DE X value tv) (hs : swapsWith value (some (.Attribute o f pos')) pos.line X.env = pure false := by rfl) : DS X (.Assign [.Attribute o f pos'] value pos) (dFldS C f to tv) :=
  PS.le (ps_fld ho hv hs) fun D1 σ H h => by
    obtain ⟨e, S, D0, re, rs, ht, k⟩ := h
    refine ⟨e, S, _, re, rs, ht, fun y S1 v H1 q p rs1 r => ?_⟩
    refine ⟨e, S1, _, re.mono p.tk, rs1, q, fun d S2 v2 H2 q2 p2 rs2 r2 => ?_⟩
    cases r2 with
    | loc a =>
      dsimp only at q2
      split at q2
      · rename_i C' fs e1
        obtain ⟨⟨rfl, hl⟩, q2⟩ := q2
        obtain ⟨dx, fq, e2, fr⟩ := rs2 _ _ e1
        have fre : Free (H2 a) := by rw [e2]; trivial
        have pw : Post X.K S2 H2 (S2.put a (.ins C' (putFD f y fs))) (upd H2 a (.ins C' dx (putF f v fq))) := Post.write rs2 e1
        refine ⟨a, C', dx, fq, rfl, e2, cl, n, by rw [← Paired.length fr]; exact hl, ?_⟩
        exact k.nx e _ σ _ q2 ((p.trans p2).trans pw) (re.mono ((p.trans p2).trans pw).tk) (rs2.cell e1 ⟨dx, _, upd_same, (fsr_put (r.mono p2.tk) fr).mono (TK.upd fre)⟩)
      · exact q2.elim
    | _ => exact q2.elim
end
end QL
end L2
namespace L2
namespace QL
open PySem PySem.Spec PyProof.Rows
/-! ### 19. calls with one argument -/
/-- b is a call with a as its argument; rv: what it makes of the value -/
structure C1 (X : Cx) (a b : Expr) (rv : V → Hp → VK → Prop) : Prop where
  to : ∀ ta, PE X a ta → PE X b (fun σ H Q => ta σ H fun x H1 => rv x H1 Q)
section
variable {X : Cx} {x : Str} {id T : String} {a b : Expr} {p pos : Pos} {r : List V → Hp → VK → Prop}
theorem c1_b (hc : CallR X (.builtin id) r) (hg : Gl X x) (hm : X.mg x = none) (hv : bootBuiltins x = some (.builtin id)) (hn : x ≠ "__name__" := by decide) (hdb : (x == ("__debug__" : Str)) = false := by decide)
    (he : starEach (a :: []) X.env = (false, eval a X.env) :: starEach [] X.env := by rfl) : C1 X a (.Call (.Name x p) [a] [] pos) (fun x H Q => r [x] H Q) :=
  ⟨fun ta h => pe_callB hc hg hm hv (pa_cons h pa_nil he) hn hdb he⟩
theorem c1_t (hc : CallR X (.type T) r) (hg : Gl X x) (hm : X.mg x = none) (hv : bootBuiltins x = some (.type T)) (hn : x ≠ "__name__" := by decide) (hdb : (x == ("__debug__" : Str)) = false := by decide)
    (he : starEach (a :: []) X.env = (false, eval a X.env) :: starEach [] X.env := by rfl) : C1 X a (.Call (.Name x p) [a] [] pos) (fun x H Q => r [x] H Q) :=
  ⟨fun ta h => pe_callTy hc hg hm hv (pa_cons h pa_nil he) hn hdb he⟩
end
/-- the items of a list, of a list or a tuple -/
def lstD (S : Sto) : D → Option (List D)
  | .rol xs => some xs
  | .loc p => match S p with
    | some (.lst xs) => some xs
    | _ => none
  | _ => none
def LstR (K : PySem.W.Frag) (rd : RLD) (rv : V → Hp → VK → Prop) : Prop := ∀ a xs vs S H (Q0 : DK) (Q : VK), SqL K H a vs → Reps K H xs vs → RelS K S H → rd xs S Q0 → (∀ d S' v H', Q0 d S' → Post K S H S' H' → RelS K S' H' → Rep K H' d v → Q v H') → rv (.ref a) H Q
def TupR (K : PySem.W.Frag) (rd : RLD) (rv : V → Hp → VK → Prop) : Prop := ∀ a xs vs S H (Q0 : DK) (Q : VK), SqT K H a vs → Reps K H xs vs → RelS K S H → rd xs S Q0 → (∀ d S' v H', Q0 d S' → Post K S H S' H' → RelS K S' H' → Rep K H' d v → Q v H') → rv (.ref a) H Q
theorem lck_of {K : PySem.W.Frag} {rd : RLD} {rv : V → Hp → VK → Prop} (h : LstR K rd rv) : LcK K rd rv := fun D acc us S Q0 H Q rs nD hu ru run k =>
  h D acc us S H Q0 Q (.of hu) ru rs run fun d S' v H' q p rs' r' => k d S' v H' q (fun S0 H0 p0 _ => p0.trans p) rs' r'
def dL1 (rd : RLD) (ta : TD) : TD := fun e S Q => ta e S fun x S1 => match lstD S1 x with
  | some xs => rd xs S1 Q
  | none => False
def dQ1 (rd : RLD) (ta : TD) : TD := fun e S Q => ta e S fun x S1 => match seqD S1 x with
  | some xs => rd xs S1 Q
  | none => False
theorem lst_sql {K : PySem.W.Frag} {S : Sto} {H : Hp} {d : D} {v : V} {xs : List D} (rs : RelS K S H) (r : Rep K H d v) (e : lstD S d = some xs) : ∃ a vs, v = .ref a ∧ SqL K H a vs ∧ Reps K H xs vs := by
  cases r with
  | rol hq q =>
    have e2 : some _ = some xs := e
    cases e2
    exact ⟨_, _, rfl, ro_sql hq, q⟩
  | loc a =>
    dsimp only [lstD] at e
    split at e
    · rename_i ys e2
      cases e
      obtain ⟨vs, a1, b1⟩ := rs _ _ e2
      exact ⟨_, _, rfl, .of a1, b1⟩
    · cases e
  | _ => cases e
section
variable {X : Cx} {a b : Expr} {rv : V → Hp → VK → Prop} {rd : RLD} {ta : TD} {pos : Pos}
theorem de_l1 (c : C1 X a b rv) (hs : LstR X.K rd rv) (ha : DE X a ta) : DE X b (dL1 rd ta) := PE.le (c.to _ ha) fun σ H Q h => by
  obtain ⟨e, S, Q0, re, rs, ht, k⟩ := h
  refine ⟨e, S, _, re, rs, ht, fun d S1 v H1 q p rs1 r => ?_⟩
  split at q
  · rename_i xs ex
    obtain ⟨a, vs, rfl, g, rr⟩ := lst_sql rs1 r ex
    exact hs a xs vs S1 H1 Q0 Q g rr rs1 q fun d S' v H' q' p' rs' r' => k d S' v H' q' (p.trans p') rs' r'
  · exact q.elim
theorem de_q1 (c : C1 X a b rv) (hs : LstR X.K rd rv) (ht : TupR X.K rd rv) (ha : DE X a ta) : DE X b (dQ1 rd ta) := PE.le (c.to _ ha) fun σ H Q h => by
  obtain ⟨e, S, Q0, re, rs, h1, k⟩ := h
  refine ⟨e, S, _, re, rs, h1, fun d S1 v H1 q p rs1 r => ?_⟩
  split at q
  · rename_i xs ex
    obtain ⟨kk, a, rfl, g⟩ := src_of rs1 r ex
    obtain ⟨vs, g0, rr⟩ := g S1 H1 TK.refl rs1 ex
    cases kk with
    | true => exact hs a xs vs S1 H1 Q0 Q g0 rr rs1 q fun d S' v H' q' p' rs' r' => k d S' v H' q' (p.trans p') rs' r'
    | false => exact ht a xs vs S1 H1 Q0 Q g0 rr rs1 q fun d S' v H' q' p' rs' r' => k d S' v H' q' (p.trans p') rs' r'
  · exact q.elim
/-- f([.. for ..]) -/
theorem de_l1lc {elt tg iter : Expr} {ifs : List Expr} {scope : Scope} {own : List (Str × Nat)} {ti : TID} {t : Tgt} {tt : TTD} {te : TD} (c : C1 X (.ListComp elt [⟨tg, iter, ifs, 0⟩] scope pos) b rv) (hs : LstR X.K rd rv) (hc : X.calm = true) (hN : X.N.Nodup) (hi : DI X tg iter ti) (ok : BlkOk X.N X.env.scope scope own) (hv : t.own (own.map (·.2)) = true)
    (hg : ∀ (s : Shared) (H : Hp) (C : Addr) (cl : List (Str × Addr)) (fp : List Addr), PG (X.blk s H scope (compEnvC scope cl C X.env) fp) tg (gOf X.K t))
    (ht : ∀ (s : Shared) (H : Hp) (C : Addr) (cl : List (Str × Addr)) (fp : List Addr), DTs (X.blk s H scope (compEnvC scope cl C X.env) fp) ifs tt)
    (he : ∀ (s : Shared) (H : Hp) (C : Addr) (cl : List (Str × Addr)) (fp : List Addr), DE (X.blk s H scope (compEnvC scope cl C X.env) fp) elt te) (hsi : ∀ x, foldedSetIterable iter X.env x = pure x := by intro _; rfl) :
    DE X b (dLcK rd ti t tt te (own.map (·.2))) :=
  PE.le (c.to _ (pe_lc hc hN hi ok hg ht he hsi)) fun _ _ _ h => em_lcK (lck_of hs) hv h
end
/-! sum, len, max, min, any, all, sorted, tuple, list -/
def rdSum : RLD := fun xs S Q => ∃ ns : List Int, xs = ns.map D.int ∧ Q (.int ns.sum) S
def rdLen : RLD := fun xs S Q => Q (.int xs.length) S
def rdMax : RLD := fun xs S Q => ∃ ns : List Int, xs = ns.map D.int ∧ 0 < ns.length ∧ ∀ m, m ∈ ns → (∀ y, y ∈ ns → y ≤ m) → Q (.int m) S
def rdMin : RLD := fun xs S Q => ∃ ns : List Int, xs = ns.map D.int ∧ 0 < ns.length ∧ ∀ m, m ∈ ns → (∀ y, y ∈ ns → m ≤ y) → Q (.int m) S
def rdAny : RLD := fun xs S Q => ∃ bs : List Bool, xs = bs.map D.bl ∧ Q (.bl (bs.any id)) S
def rdAll : RLD := fun xs S Q => ∃ bs : List Bool, xs = bs.map D.bl ∧ Q (.bl (bs.all id)) S
def rdSort : RLD := fun xs S Q => ∃ ns : List Int, xs = ns.map D.int ∧ ∀ (ns' : List Int) (p : Addr), ns'.Perm ns → ns'.Pairwise (· ≤ ·) → S p = none → Q (.loc p) (S.put p (.lst (ns'.map D.int)))
def rdTup : RLD := fun xs S Q => Q (.tup xs) S
section
variable {X : Cx} {K : PySem.W.Frag}
theorem cr_sumA (hc : X.calm = true) : CallR X (.builtin "sum") (fun vs H Q => ∃ (a : Addr) (ns : List Int), vs = [V.ref a] ∧ (SqL X.K H a (ns.map V.int) ∨ SqT X.K H a (ns.map V.int)) ∧ Q (.int ns.sum) H) := by
  intro pins s σ H vs us Q I r h
  obtain ⟨a, ns, rfl, hs, q⟩ := h
  rcases hs with hs | hs
  · exact cr_sum hc pins s σ H [.ref a] us Q I r ⟨a, ns, rfl, hs, q⟩
  · obtain ⟨its, rv, hl, _⟩ := I.tuple hs
    rw [Vals.ref1 r]
    obtain ⟨xs, e⟩ := rv.ints.allInts.items
    have hn : numsOf (intItems xs).toList = ns := by rw [← e]; exact rv.ints.numsOf
    rw [nums_intItems] at hn
    rw [e] at hl
    refine PySem.W.ktm_sumG (I.ok.hd hc) hl fun h' tk t' hk => ⟨.int _, H, I.kept hk, ⟨_, rfl⟩, ?_⟩
    rw [preSum_eq, List.take_of_length_le (by simp), hn]
    exact q
theorem lr_sum : LstR K rdSum (fun x H Q => ∃ (a : Addr) (ns : List Int), [x] = [V.ref a] ∧ (SqL K H a (ns.map V.int) ∨ SqT K H a (ns.map V.int)) ∧ Q (.int ns.sum) H) := fun a xs vs S H Q0 Q g rr rs h k => by
  obtain ⟨ns, rfl, q⟩ := h
  rw [rr.ints] at g
  exact ⟨a, ns, rfl, .inl g, k _ S _ H q Post.refl rs (.int _)⟩
theorem tr_sum : TupR K rdSum (fun x H Q => ∃ (a : Addr) (ns : List Int), [x] = [V.ref a] ∧ (SqL K H a (ns.map V.int) ∨ SqT K H a (ns.map V.int)) ∧ Q (.int ns.sum) H) := fun a xs vs S H Q0 Q g rr rs h k => by
  obtain ⟨ns, rfl, q⟩ := h
  rw [rr.ints] at g
  exact ⟨a, ns, rfl, .inr g, k _ S _ H q Post.refl rs (.int _)⟩
theorem lr_max : LstR K rdMax (fun x H Q => rMax K [x] H Q) := fun a xs vs S H Q0 Q g rr rs h k => by
  obtain ⟨ns, rfl, hl, q⟩ := h
  rw [rr.ints] at g
  exact ⟨a, ns, rfl, g, hl, fun m h1 h2 => k _ S _ H (q m h1 h2) Post.refl rs (.int _)⟩
theorem lr_min : LstR K rdMin (fun x H Q => rMin K [x] H Q) := fun a xs vs S H Q0 Q g rr rs h k => by
  obtain ⟨ns, rfl, hl, q⟩ := h
  rw [rr.ints] at g
  exact ⟨a, ns, rfl, g, hl, fun m h1 h2 => k _ S _ H (q m h1 h2) Post.refl rs (.int _)⟩
theorem lr_any : LstR K rdAny (fun x H Q => rAny K [x] H Q) := fun a xs vs S H Q0 Q g rr rs h k => by
  obtain ⟨ns, rfl, q⟩ := h
  rw [rr.bls] at g
  exact ⟨a, ns, rfl, g, k _ S _ H q Post.refl rs (.bl _)⟩
theorem lr_all : LstR K rdAll (fun x H Q => rAll K [x] H Q) := fun a xs vs S H Q0 Q g rr rs h k => by
  obtain ⟨ns, rfl, q⟩ := h
  rw [rr.bls] at g
  exact ⟨a, ns, rfl, g, k _ S _ H q Post.refl rs (.bl _)⟩
theorem lr_sort : LstR K rdSort (fun x H Q => rSortedI K [x] H Q) := fun a xs vs S H Q0 Q g rr rs h k => by
  obtain ⟨ns, rfl, q⟩ := h
  rw [rr.ints] at g
  exact ⟨a, ns, rfl, g, fun ns' p h1 h2 hp => k _ _ _ _ (q ns' p h1 h2 (rs.none_of hp)) (Post.new hp) (new_lst rs hp (Reps.of_ints ns')) (.loc p)⟩
theorem lr_tup : LstR K rdTup (fun x H Q => ∃ p ys, [x] = [V.ref p] ∧ ((SqL K H p ys ∧ ∀ l, H l = none → Q (.ref l) (upd H l (.tup ys))) ∨ (SqT K H p ys ∧ Q (.ref p) H))) := fun a xs vs S H Q0 Q g rr rs h k =>
  ⟨a, vs, rfl, .inl ⟨g, fun l hl => by
    have f : Free (H l) := by rw [hl]; trivial
    exact k _ S _ _ h (Post.lay hl) (rs.upd f (rs.none_of hl)) (.tup (.of upd_same) (rr.mono (TK.upd f)))⟩⟩
theorem tr_tup : TupR K rdTup (fun x H Q => ∃ p ys, [x] = [V.ref p] ∧ ((SqL K H p ys ∧ ∀ l, H l = none → Q (.ref l) (upd H l (.tup ys))) ∨ (SqT K H p ys ∧ Q (.ref p) H))) := fun a xs vs S H Q0 Q g rr rs h k =>
  ⟨a, vs, rfl, .inr ⟨g, k _ S _ _ h Post.refl rs (.tup g rr)⟩⟩
theorem lr_lst : LstR K rdNew (fun x H Q => ∃ p ys, [x] = [V.ref p] ∧ (SqL K H p ys ∨ SqT K H p ys) ∧ ∀ l, H l = none → Q (.ref l) (upd H l (.lst ys))) := fun a xs vs S H Q0 Q g rr rs h k =>
  ⟨a, vs, rfl, .inl g, fun l hl => k _ _ _ _ (h l (rs.none_of hl)) (Post.new hl) (new_lst rs hl rr) (.loc l)⟩
theorem tr_lst : TupR K rdNew (fun x H Q => ∃ p ys, [x] = [V.ref p] ∧ (SqL K H p ys ∨ SqT K H p ys) ∧ ∀ l, H l = none → Q (.ref l) (upd H l (.lst ys))) := fun a xs vs S H Q0 Q g rr rs h k =>
  ⟨a, vs, rfl, .inr g, fun l hl => k _ _ _ _ (h l (rs.none_of hl)) (Post.new hl) (new_lst rs hl rr) (.loc l)⟩
end
/-! the calls by their words -/
def rvSum (K : PySem.W.Frag) : V → Hp → VK → Prop := fun x H Q => ∃ (a : Addr) (ns : List Int), [x] = [V.ref a] ∧ (SqL K H a (ns.map V.int) ∨ SqT K H a (ns.map V.int)) ∧ Q (.int ns.sum) H
def rvTup (K : PySem.W.Frag) : V → Hp → VK → Prop := fun x H Q => ∃ p ys, [x] = [V.ref p] ∧ ((SqL K H p ys ∧ ∀ l, H l = none → Q (.ref l) (upd H l (.tup ys))) ∨ (SqT K H p ys ∧ Q (.ref p) H))
def rvLst (K : PySem.W.Frag) : V → Hp → VK → Prop := fun x H Q => ∃ p ys, [x] = [V.ref p] ∧ (SqL K H p ys ∨ SqT K H p ys) ∧ ∀ l, H l = none → Q (.ref l) (upd H l (.lst ys))
section
variable {X : Cx} {a : Expr} {p pos : Pos} {ta : TD}
theorem c_sum (hc : X.calm = true) (hg : Gl X "sum") (hm : X.mg "sum" = none) (he : starEach (a :: []) X.env = (false, eval a X.env) :: starEach [] X.env := by rfl) : C1 X a (.Call (.Name "sum" p) [a] [] pos) (rvSum X.K) := c1_b (cr_sumA hc) hg hm boot_sum (he := he)
theorem c_max (hc : X.calm = true) (hg : Gl X "max") (hm : X.mg "max" = none) (he : starEach (a :: []) X.env = (false, eval a X.env) :: starEach [] X.env := by rfl) : C1 X a (.Call (.Name "max" p) [a] [] pos) (fun x H Q => rMax X.K [x] H Q) := c1_b (cr_max hc) hg hm boot_max (he := he)
theorem c_min (hc : X.calm = true) (hg : Gl X "min") (hm : X.mg "min" = none) (he : starEach (a :: []) X.env = (false, eval a X.env) :: starEach [] X.env := by rfl) : C1 X a (.Call (.Name "min" p) [a] [] pos) (fun x H Q => rMin X.K [x] H Q) := c1_b (cr_min hc) hg hm boot_min (he := he)
theorem c_any (hc : X.calm = true) (hg : Gl X "any") (hm : X.mg "any" = none) (he : starEach (a :: []) X.env = (false, eval a X.env) :: starEach [] X.env := by rfl) : C1 X a (.Call (.Name "any" p) [a] [] pos) (fun x H Q => rAny X.K [x] H Q) := c1_b (cr_any hc) hg hm boot_any (he := he)
theorem c_all (hc : X.calm = true) (hg : Gl X "all") (hm : X.mg "all" = none) (he : starEach (a :: []) X.env = (false, eval a X.env) :: starEach [] X.env := by rfl) : C1 X a (.Call (.Name "all" p) [a] [] pos) (fun x H Q => rAll X.K [x] H Q) := c1_b (cr_all hc) hg hm boot_all (he := he)
theorem c_sort (hg : Gl X "sorted") (hm : X.mg "sorted" = none) (he : starEach (a :: []) X.env = (false, eval a X.env) :: starEach [] X.env := by rfl) : C1 X a (.Call (.Name "sorted" p) [a] [] pos) (fun x H Q => rSortedI X.K [x] H Q) := c1_b cr_sortedI hg hm boot_sorted (he := he)
theorem c_tup (hg : Gl X "tuple") (hm : X.mg "tuple" = none) (he : starEach (a :: []) X.env = (false, eval a X.env) :: starEach [] X.env := by rfl) : C1 X a (.Call (.Name "tuple" p) [a] [] pos) (rvTup X.K) := c1_t call_tuple_of hg hm PyProof.Rows.boot_tuple (he := he)
theorem c_lst (hg : Gl X "list") (hm : X.mg "list" = none) (he : starEach (a :: []) X.env = (false, eval a X.env) :: starEach [] X.env := by rfl) : C1 X a (.Call (.Name "list" p) [a] [] pos) (rvLst X.K) := c1_t call_list_of hg hm PyProof.Rows.boot_list (he := he)
/-- len: lists, tuples, texts, dicts -/
def dLen (ta : TD) : TD := fun e S Q => ta e S fun x S1 => match x with
  | .tup xs => Q (.int xs.length) S1
  | .rol xs => Q (.int xs.length) S1
  | .str z => z.length ≤ sizeLine ∧ Q (.int z.length) S1
  | .loc q => match S1 q with
    | some (.lst xs) => Q (.int xs.length) S1
    | some (.dic kvs) => Q (.int kvs.length) S1
    | _ => False
  | _ => False
theorem call_lenA : CallR X (.builtin "len") (fun xs H Q => (∃ x n, xs = [x] ∧ LenV X.K x H n ∧ Q (.int n) H) ∨ ∃ a kvs, xs = [V.ref a] ∧ H a = some (.dK kvs) ∧ Q (.int kvs.length) H) := by
  intro pins s σ H xs us Q I r h
  rcases h with h | h
  · exact call_len pins s σ H xs us Q I r h
  · exact call_lenD pins s σ H xs us Q I r h
theorem de_len (hg : Gl X "len") (hm : X.mg "len" = none) (ha : DE X a ta) (he : starEach (a :: []) X.env = (false, eval a X.env) :: starEach [] X.env := by rfl) : DE X (.Call (.Name "len" p) [a] [] pos) (dLen ta) :=
  PE.le ((c1_b (p := p) (pos := pos) call_lenA hg hm PySem.boot_len (he := he)).to _ ha) fun σ H Q h => by
    obtain ⟨e, S, Q0, re, rs, h1, k⟩ := h
    refine ⟨e, S, _, re, rs, h1, fun d S1 v H1 q p rs1 r => ?_⟩
    cases r with
    | tup hq rr => exact .inl ⟨_, _, rfl, .inr ⟨_, hq, rfl⟩, by rw [← rr.length]; exact k _ S1 _ H1 q p rs1 (.int _)⟩
    | rol hq rr => exact .inl ⟨_, _, rfl, .inl ⟨_, ro_sql hq, rfl⟩, by rw [← rr.length]; exact k _ S1 _ H1 q p rs1 (.int _)⟩
    | str z => exact .inl ⟨_, _, rfl, ⟨q.1, rfl⟩, k _ S1 _ H1 q.2 p rs1 (.int _)⟩
    | loc a =>
      dsimp only at q
      split at q
      · rename_i xs ex
        obtain ⟨vs, a1, b1⟩ := rs1 _ _ ex
        exact .inl ⟨_, _, rfl, .inl ⟨_, .of a1, rfl⟩, by rw [← b1.length]; exact k _ S1 _ H1 q p rs1 (.int _)⟩
      · rename_i kvs ex
        obtain ⟨vs, a1, b1⟩ := rs1 _ _ ex
        exact .inr ⟨_, _, rfl, a1, by rw [← Paired.length b1]; exact k _ S1 _ H1 q p rs1 (.int _)⟩
      · exact q.elim
    | _ => exact q.elim
/-- calls that want plain values -/
def dFn (f : List D → Option D) (t : TAD) : TD := fun e S Q => t e S fun ds S1 => match f ds with
  | some d => Q d S1
  | none => False
theorem em_fn {K : PySem.W.Frag} {f : List D → Option D} {t : TAD} {r : List V → Hp → VK → Prop} (hr : ∀ ds d vs H (Q : VK), f ds = some d → Reps K H ds vs → (∀ v, Rep K H d v → Q v H) → r vs H Q) {σ : St} {H : Hp} {Q : VK} (h : emE K (dFn f t) σ H Q) : tCB r (emA K t) σ H Q := by
  obtain ⟨e, S, Q0, re, rs, h1, k⟩ := h
  refine ⟨e, S, _, re, rs, h1, fun ds S1 vs H1 q p rs1 rr => ?_⟩
  split at q
  · rename_i d ed
    exact hr ds d vs H1 Q ed rr fun v rv => k d S1 v H1 q p rs1 rv
  · exact q.elim
theorem rmax_eq (i j : Int) : (if j > i then j else i) = max i j := by split <;> omega
theorem rmin_eq (i j : Int) : (if j < i then j else i) = min i j := by split <;> omega
def fMax2 : List D → Option D
  | [.int i, .int j] => some (.int (max i j))
  | _ => none
def fMin2 : List D → Option D
  | [.int i, .int j] => some (.int (min i j))
  | _ => none
variable {b : Expr} {t : TAD}
theorem de_max2 (hc : X.calm = true) (hg : Gl X "max") (hm : X.mg "max" = none) (ha : DA X [a, b] t) (he : starEach [a, b] X.env = (false, eval a X.env) :: starEach [b] X.env := by rfl) (hpl : (backTo pos (starEach [b] X.env)).any (·.1) = false := by rfl) : DE X (.Call (.Name "max" p) [a, b] [] pos) (dFn fMax2 t) :=
  PE.le (pe_callB (call_max2 hc) hg hm boot_max ha (he := he) (hpl := hpl)) fun σ H Q h => em_fn (fun ds d vs H Q e rr k => by
    unfold fMax2 at e
    split at e
    · obtain ⟨v, w, rfl, r1, r2⟩ := reps_two rr
      cases r1; cases r2; cases e
      exact ⟨_, _, rfl, by rw [rmax_eq]; exact k _ (.int _)⟩
    · cases e) h
theorem de_min2 (hc : X.calm = true) (hg : Gl X "min") (hm : X.mg "min" = none) (ha : DA X [a, b] t) (he : starEach [a, b] X.env = (false, eval a X.env) :: starEach [b] X.env := by rfl) (hpl : (backTo pos (starEach [b] X.env)).any (·.1) = false := by rfl) : DE X (.Call (.Name "min" p) [a, b] [] pos) (dFn fMin2 t) :=
  PE.le (pe_callB (call_min2 hc) hg hm boot_min ha (he := he) (hpl := hpl)) fun σ H Q h => em_fn (fun ds d vs H Q e rr k => by
    unfold fMin2 at e
    split at e
    · obtain ⟨v, w, rfl, r1, r2⟩ := reps_two rr
      cases r1; cases r2; cases e
      exact ⟨_, _, rfl, by rw [rmin_eq]; exact k _ (.int _)⟩
    · cases e) h
def fInt : List D → Option D
  | [.int i] => some (.int i)
  | [.bl b] => some (.int (if b then 1 else 0))
  | _ => none
def fAbs : List D → Option D
  | [.int i] => some (.int (if i < 0 then -i else i))
  | _ => none
theorem de_int1 (hg : Gl X "int") (hm : X.mg "int" = none) (ha : DA X [a] t) (he : starEach [a] X.env = (false, eval a X.env) :: starEach [] X.env := by rfl) : DE X (.Call (.Name "int" p) [a] [] pos) (dFn fInt t) :=
  PE.le (pe_callTy call_int1 hg hm PyProof.Rows.boot_int ha (he := he)) fun σ H Q h => em_fn (fun ds d vs H Q e rr k => by
    unfold fInt at e
    split at e
    · obtain ⟨v, rfl, r1⟩ := reps_one rr
      cases r1; cases e
      exact .inl ⟨_, rfl, k _ (.int _)⟩
    · obtain ⟨v, rfl, r1⟩ := reps_one rr
      cases r1; cases e
      exact .inr ⟨_, rfl, k _ (.int _)⟩
    · cases e) h
theorem de_abs1 (hg : Gl X "abs") (hm : X.mg "abs" = none) (ha : DA X [a] t) (he : starEach [a] X.env = (false, eval a X.env) :: starEach [] X.env := by rfl) : DE X (.Call (.Name "abs" p) [a] [] pos) (dFn fAbs t) :=
  PE.le (pe_callB call_abs hg hm boot_abs ha (he := he)) fun σ H Q h => em_fn (fun ds d vs H Q e rr k => by
    unfold fAbs at e
    split at e
    · obtain ⟨v, rfl, r1⟩ := reps_one rr
      cases r1; cases e
      exact ⟨_, rfl, k _ (.int _)⟩
    · cases e) h
end
end QL
end L2
namespace L2
namespace QL
open PySem PySem.Spec PyProof.Rows
/-! ### 20. lists that grow -/
def dApp (to te : TD) : TD := fun e S Q => to e S fun o S1 => match o with
  | .loc p => match S1 p with
    | some (.lst _) => te e S1 fun y S2 => match S2 p with
      | some (.lst xs) => xs.length < sizeLine ∧ Q .non (S2.put p (.lst (xs ++ [y])))
      | _ => False
    | _ => False
  | _ => False
def rdExt (p : Addr) : RLD := fun acc S Q => match S p with
  | some (.lst xs) => xs.length + acc.length ≤ sizeLine ∧ Q .non (S.put p (.lst (xs ++ acc)))
  | _ => False
def dExt (to te : TD) : TD := fun e S Q => to e S fun o S1 => match o with
  | .loc p => match S1 p with
    | some (.lst _) => te e S1 fun y S2 => match y with
      | .loc q => match S2 q with
        | some (.lst ys) => rdExt p ys S2 Q
        | _ => False
      | _ => False
    | _ => False
  | _ => False
def dExtLc (to : TD) (ti : TID) (t : Tgt) (tt : TTD) (te : TD) (vs : List Nat) : TD := fun e S Q => to e S fun o S1 => match o with
  | .loc p => match S1 p with
    | some (.lst _) => dLcK (rdExt p) ti t tt te vs e S1 Q
    | _ => False
  | _ => False
section
variable {X : Cx} {o a : Expr} {to te : TD} {apos pos : Pos}
theorem lst_wr {K : PySem.W.Frag} {S : Sto} {H : Hp} {p : Addr} {xs ys : List D} {vs us : List V} (rs : RelS K S H) (e : S p = some (.lst xs)) (h : H p = some (.lst vs)) (r : Reps K H ys us) : Post K S H (S.put p (.lst ys)) (upd H p (.lst us)) ∧ RelS K (S.put p (.lst ys)) (upd H p (.lst us)) := by
  have f : Free (H p) := by rw [h]; trivial
  exact ⟨Post.write rs e, rs.cell e ⟨_, upd_same, r.mono (TK.upd f)⟩⟩
theorem de_app (ho : DE X o to) (ha : DE X a te) (hbase : attributeBase o "append" X.env (eval o X.env) = eval o X.env := by rfl) (hline : (apos.endLine == pos.line) = true := by rfl) (hs : starEach [a] X.env = (false, eval a X.env) :: starEach [] X.env := by rfl)
    (hfew : ((backTo pos (starEach [a] X.env)).all (fun x => !x.1) && (backToKw pos (keywordEach [] X.env)).all (fun x => x.1.isSome)
      && decide (([a] : List Expr).length + ([] : List Keyword).length + (if ([] : List Keyword).isEmpty then 0 else 1) < 30)) = true := by rfl) :
    DE X (.Call (.Attribute o "append" apos) [a] [] pos) (dApp to te) :=
  PE.le (pe_bm PySem.F.plainAttrs_list PySem.F.slot_list_append PySem.F.type_list_append mt_append ho (pa_cons ha pa_nil hs) hbase hfew hline hs) fun σ H Q h => by
    obtain ⟨e, S, Q0, re, rs, h1, k⟩ := h
    refine ⟨e, S, _, re, rs, h1, fun d S1 v H1 q p rs1 r => ?_⟩
    cases r with
    | loc a =>
      dsimp only at q
      split at q
      · rename_i xs0 e0
        obtain ⟨vs0, a0, _⟩ := rs1 _ _ e0
        refine ⟨.inl ⟨rfl, _, SqL.of a0⟩, e, S1, _, re.mono p.tk, rs1, q, fun y S2 w H2 q2 p2 rs2 r2 => ?_⟩
        split at q2
        · rename_i xs e1
          obtain ⟨vs, a1, b1⟩ := rs2 _ _ e1
          obtain ⟨pp, rs3⟩ := lst_wr rs2 e1 a1 (b1.append (.cons r2 .nil))
          exact ⟨_, vs, w, rfl, rfl, a1, by rw [← b1.length]; exact q2.1, k _ _ _ _ q2.2 ((p.trans p2).trans pp) rs3 .non⟩
        · exact q2.elim
      · exact q.elim
    | _ => exact q.elim
theorem em_ext {K : PySem.W.Frag} {S : Sto} {H : Hp} {p b : Addr} {ys : List D} {us : List V} {Q0 : DK} {Q : VK} (rs : RelS K S H) (hb : H b = some (.lst us)) (ry : Reps K H ys us) (h : rdExt p ys S Q0)
    (k : ∀ d S' v H', Q0 d S' → Post K S H S' H' → RelS K S' H' → Rep K H' d v → Q v H') : rExtend (.ref p) [.ref b] H Q := by
  unfold rdExt at h
  split at h
  · rename_i xs e1
    obtain ⟨vs, a1, b1⟩ := rs _ _ e1
    obtain ⟨pp, rs3⟩ := lst_wr rs e1 a1 (b1.append ry)
    exact ⟨_, _, vs, us, rfl, rfl, a1, hb, by rw [← b1.length, ← ry.length]; exact h.1, k _ _ _ _ h.2 pp rs3 .non⟩
  · exact h.elim
theorem de_ext (ho : DE X o to) (ha : DE X a te) (hbase : attributeBase o "extend" X.env (eval o X.env) = eval o X.env := by rfl) (hline : (apos.endLine == pos.line) = true := by rfl) (hs : starEach [a] X.env = (false, eval a X.env) :: starEach [] X.env := by rfl)
    (hfew : ((backTo pos (starEach [a] X.env)).all (fun x => !x.1) && (backToKw pos (keywordEach [] X.env)).all (fun x => x.1.isSome)
      && decide (([a] : List Expr).length + ([] : List Keyword).length + (if ([] : List Keyword).isEmpty then 0 else 1) < 30)) = true := by rfl) :
    DE X (.Call (.Attribute o "extend" apos) [a] [] pos) (dExt to te) :=
  PE.le (pe_bm PySem.F.plainAttrs_list PySem.F.slot_list_extend PySem.F.type_list_extend mt_extend ho (pa_cons ha pa_nil hs) hbase hfew hline hs) fun σ H Q h => by
    obtain ⟨e, S, Q0, re, rs, h1, k⟩ := h
    refine ⟨e, S, _, re, rs, h1, fun d S1 v H1 q p rs1 r => ?_⟩
    cases r with
    | loc a =>
      dsimp only at q
      split at q
      · rename_i xs0 e0
        obtain ⟨vs0, a0, _⟩ := rs1 _ _ e0
        refine ⟨.inl ⟨rfl, _, SqL.of a0⟩, e, S1, _, re.mono p.tk, rs1, q, fun y S2 w H2 q2 p2 rs2 r2 => ?_⟩
        cases r2 with
        | loc b =>
          dsimp only at q2
          split at q2
          · rename_i ys e2
            obtain ⟨us, a2, b2⟩ := rs2 _ _ e2
            exact em_ext rs2 a2 b2 q2 fun d S' v H' q' p' rs' r' => k d S' v H' q' ((p.trans p2).trans p') rs' r'
          · exact q2.elim
        | _ => exact q2.elim
      · exact q.elim
    | _ => exact q.elim
theorem lck_ext {K : PySem.W.Frag} {p : Addr} : LcK K (rdExt p) (fun x H Q => rExtend (.ref p) [x] H Q) := fun D acc us S Q0 H Q rs nD hu ru run k =>
  em_ext rs hu ru run fun d S' v H' q pp rs' r' => k d S' v H' q (fun S0 H0 p0 _ => p0.trans pp) rs' r'
theorem de_extlc {elt tg iter : Expr} {ifs : List Expr} {scope : Scope} {own : List (Str × Nat)} {cpos : Pos} {ti : TID} {t : Tgt} {tt : TTD} {te : TD} (ho : DE X o to) (hc : X.calm = true) (hN : X.N.Nodup) (hi : DI X tg iter ti) (ok : BlkOk X.N X.env.scope scope own) (hv : t.own (own.map (·.2)) = true)
    (hg : ∀ (s : Shared) (H : Hp) (C : Addr) (cl : List (Str × Addr)) (fp : List Addr), PG (X.blk s H scope (compEnvC scope cl C X.env) fp) tg (gOf X.K t))
    (ht : ∀ (s : Shared) (H : Hp) (C : Addr) (cl : List (Str × Addr)) (fp : List Addr), DTs (X.blk s H scope (compEnvC scope cl C X.env) fp) ifs tt)
    (he : ∀ (s : Shared) (H : Hp) (C : Addr) (cl : List (Str × Addr)) (fp : List Addr), DE (X.blk s H scope (compEnvC scope cl C X.env) fp) elt te) (hsi : ∀ x, foldedSetIterable iter X.env x = pure x := by intro _; rfl)
    (hbase : attributeBase o "extend" X.env (eval o X.env) = eval o X.env := by rfl) (hline : (apos.endLine == pos.line) = true := by rfl)
    (hfew : ((backTo pos (starEach [.ListComp elt [⟨tg, iter, ifs, 0⟩] scope cpos] X.env)).all (fun x => !x.1) && (backToKw pos (keywordEach [] X.env)).all (fun x => x.1.isSome)
      && decide (([.ListComp elt [⟨tg, iter, ifs, 0⟩] scope cpos] : List Expr).length + ([] : List Keyword).length + (if ([] : List Keyword).isEmpty then 0 else 1) < 30)) = true := by rfl) :
    DE X (.Call (.Attribute o "extend" apos) [.ListComp elt [⟨tg, iter, ifs, 0⟩] scope cpos] [] pos) (dExtLc to ti t tt te (own.map (·.2))) :=
  PE.le (pe_bm PySem.F.plainAttrs_list PySem.F.slot_list_extend PySem.F.type_list_extend mt_extend ho (pa_cons (pe_lc hc hN hi ok hg ht he hsi) pa_nil) hbase hfew hline) fun σ H Q h => by
    obtain ⟨e, S, Q0, re, rs, h1, k⟩ := h
    refine ⟨e, S, _, re, rs, h1, fun d S1 v H1 q p rs1 r => ?_⟩
    cases r with
    | loc a =>
      dsimp only at q
      split at q
      · rename_i xs0 e0
        obtain ⟨vs0, a0, _⟩ := rs1 _ _ e0
        exact ⟨.inl ⟨rfl, _, SqL.of a0⟩, em_lcK lck_ext hv ⟨e, S1, Q0, re.mono p.tk, rs1, q, fun d S' v H' q' p' rs' r' => k d S' v H' q' (p.trans p') rs' r'⟩⟩
      · exact q.elim
    | _ => exact q.elim
end
/-! ### 21. while -/
def dWhile (c : TTD) (tb : TSD) : TSD := fun D0 e S => ∃ W : Nat → DEnv → Sto → Prop, (∃ m, W m e S) ∧ ∀ m e S, W m e S → c e S fun b S1 => match b with
  | true => tb { nx := fun e' S' => ∃ S2 m', Sb S2 S' ∧ m' < m ∧ W m' e' S2, rt := D0.rt, bk := D0.nx, ct := fun e' S' => ∃ S2 m', Sb S2 S' ∧ m' < m ∧ W m' e' S2 } e S1
  | false => D0.nx e S1
theorem ds_while {X : Cx} {c : Expr} {body : List Stmt} {tc : TTD} {tb : TSD} {pos : Pos} (hp : PassesOwn (model X.prog X.w) X.A X.env X.xe) (hc : DT X c tc) (hb : DSs X body tb) : DS X (.While c body [] pos) (dWhile tc tb) :=
  PS.le (ps_while hp hc hb) fun D1 σ H h => by
    obtain ⟨e, S, D0, re, rs, ⟨W, ⟨m0, w0⟩, turn⟩, k⟩ := h
    refine ⟨fun m σ' H' => ∃ e' S', RelE X.K H' e' σ' ∧ RelS X.K S' H' ∧ Post X.K S H S' H' ∧ W m e' S', ⟨m0, e, S, re, rs, Post.refl, w0⟩, ?_⟩
    rintro m σ' H' ⟨e', S', re', rs', p', w'⟩
    refine ⟨e', S', _, re', rs', turn m e' S' w', fun b S2 H2 q p2 rs2 => ?_⟩
    cases b with
    | false => exact iteF (k.nx e' S2 σ' H2 q (p'.trans p2) (re'.mono p2.tk) rs2)
    | true =>
      refine iteT ⟨fun σ'' H'' => ∃ m', m' < m ∧ ∃ e'' S'', RelE X.K H'' e'' σ'' ∧ RelS X.K S'' H'' ∧ Post X.K S H S'' H'' ∧ W m' e'' S'', fun σ'' H'' h => h, e', S2, _, re'.mono p2.tk, rs2, q,
        ⟨fun e4 S4 σ4 H4 f p4 re4 rs4 => ?_, fun d4 S4 v4 H4 f p4 r4 rs4 => ?_, fun e4 S4 σ4 H4 f p4 re4 rs4 => ?_, fun e4 S4 σ4 H4 f p4 re4 rs4 => ?_⟩⟩
      · obtain ⟨S5, m', sb, hm, w⟩ := f
        exact ⟨m', hm, e4, S5, re4, rs4.sub sb, ((p'.trans p2).trans p4).sub sb, w⟩
      · exact k.rt d4 S4 v4 H4 f ((p'.trans p2).trans p4) r4 rs4
      · exact k.nx e4 S4 σ4 H4 f ((p'.trans p2).trans p4) re4 rs4
      · obtain ⟨S5, m', sb, hm, w⟩ := f
        exact ⟨m', hm, e4, S5, re4, rs4.sub sb, ((p'.trans p2).trans p4).sub sb, w⟩
/-! ### 22. repr -/
structure PyOk (y : PyData) : Prop where
  sh : y.showable = true
  nd : y.hasDict = false
  dp : y.depth ≤ 60
  ln : y.shown.length ≤ sizeLine
theorem cr_repr {X : Cx} (hg : X.A.guards = some []) (hu : X.A.units + 64 < cLine) : CallR X (.builtin "repr") (fun xs H Q => (∃ i, xs = [.int i] ∧ i.natAbs.log2 < 1920 ∧ Q (.str (toString i)) H) ∨
    ∃ a y, xs = [.ref a] ∧ Dp X.K H (.ref a) y ∧ PyOk y ∧ Q (.str y.shown) H) := by
  intro pins s σ H xs us Q I r h
  rcases h with h | ⟨a, y, rfl, dp, ok, q⟩
  · exact SkE.call_repr_int pins s σ H xs us Q I r h
  · rw [Vals.ref1 r]
    obtain ⟨as, hr⟩ := Dp.reads I y (.ref a) (.ref a) dp rfl
    have h1 := ok.dp
    exact repr_of_reads' hr ok.sh (PyData.noDict_hsm ok.nd) hg (by omega) (fun _ _ e => e) (fun h' u tk hk => ⟨.str y.shown, H, I.kept hk, ⟨_, rfl⟩, q⟩) ok.ln
/-- what may be printed: at most n deep, the text of at most b signs -/
structure RB (n b : Nat) (d : D) : Prop where
  fn : fine n d
  sh : (toPy d).showable = true
  nd : (toPy d).hasDict = false
  ln : (toPy d).shown.length ≤ b
theorem fine_mono : ∀ {n m : Nat} {d : D}, n ≤ m → fine n d → fine m d
  | 0, 0, _, _, h => h
  | 0, m + 1, d, _, h => by
    cases d with
    | non => trivial
    | bl b => trivial
    | int i => trivial
    | str x => exact h
    | _ => exact (show False from h).elim
  | n + 1, m + 1, d, hm, h => by
    cases d with
    | non => trivial
    | bl b => trivial
    | int i => trivial
    | str x => exact h
    | tup xs => exact fun x hx => fine_mono (Nat.le_of_succ_le_succ hm) (h x hx)
    | _ => exact (show False from h).elim
  | n + 1, 0, _, hm, _ => by omega
theorem RB.mono {n m b c : Nat} {d : D} (r : RB n b d) (h1 : n ≤ m) (h2 : b ≤ c) : RB m c d := ⟨fine_mono h1 r.fn, r.sh, r.nd, Nat.le_trans r.ln h2⟩
theorem log_small {i : Int} (h : i.natAbs < 10 ^ 12) : i.natAbs.log2 < 1920 := by
  by_cases e : i.natAbs = 0
  · rw [e]; decide
  · refine (Nat.log2_lt e).mpr (Nat.lt_of_lt_of_le h ?_)
    calc 10 ^ 12 ≤ 2 ^ 40 := by decide
      _ ≤ 2 ^ 1920 := Nat.pow_le_pow_right (by decide) (by decide)
theorem RB.int {i : Int} (h : i.natAbs < 10 ^ 12) : RB 0 13 (.int i) := ⟨trivial, by
  show decide _ = true
  exact decide_eq_true (log_small h), rfl, PyData.shown_int_le h⟩
theorem RB.bl {b : Bool} : RB 0 5 (.bl b) := ⟨trivial, rfl, rfl, by cases b <;> decide⟩
theorem RB.non : RB 0 4 .non := ⟨trivial, rfl, rfl, by decide⟩
theorem rb_all : ∀ {n b : Nat} (xs : List D), (∀ x ∈ xs, RB n b x) → PyData.showableAll (toPys xs) = true ∧ PyData.hasDictAll (toPys xs) = false ∧ ((PyData.shownAll (toPys xs)).map (·.length)).sum ≤ b * xs.length ∧ (PyData.shownAll (toPys xs)).length = xs.length
  | _, _, [], _ => ⟨rfl, rfl, by simp [toPys, PyData.shownAll], rfl⟩
  | n, b, x :: xs, h => by
    obtain ⟨a1, a2, a3, a4⟩ := rb_all xs fun y hy => h y (List.mem_cons_of_mem _ hy)
    have r := h x List.mem_cons_self
    refine ⟨?_, ?_, ?_, ?_⟩
    · show ((toPy x).showable && PyData.showableAll (toPys xs)) = true
      rw [r.sh, a1]; rfl
    · show ((toPy x).hasDict || PyData.hasDictAll (toPys xs)) = false
      rw [r.nd, a2]; rfl
    · show ((((toPy x).shown :: PyData.shownAll (toPys xs)).map (·.length)).sum) ≤ b * (xs.length + 1)
      rw [List.map_cons, List.sum_cons, Nat.mul_add, Nat.mul_one]
      have := r.ln
      omega
    · show (PyData.shownAll (toPys xs)).length + 1 = xs.length + 1
      rw [a4]
theorem RB.tup {n b : Nat} {xs : List D} (m : Nat) (hl : xs.length ≤ m) (h : ∀ x ∈ xs, RB n b x) : RB (n + 1) ((b + 2) * m + 3) (.tup xs) := by
  obtain ⟨a1, a2, a3, a4⟩ := rb_all xs h
  refine ⟨fun x hx => (h x hx).fn, a1, a2, ?_⟩
  show (tupleText (PyData.shownAll (toPys xs))).length ≤ _
  have q := tupleText_len_le (PyData.shownAll (toPys xs))
  rw [a4] at q
  have q2 : b * xs.length + 2 * xs.length ≤ (b + 2) * m := by
    rw [← Nat.add_mul]
    exact Nat.mul_le_mul_left _ hl
  omega
theorem RB.ok {n b : Nat} {d : D} (r : RB n b d) (hn : n ≤ 50) (hb : b ≤ sizeLine) : PyOk (toPy d) := ⟨r.sh, r.nd, by have := (fine_lay n d r.fn).2; omega, Nat.le_trans r.ln hb⟩
def dRepr (ta : TD) : TD := fun e S Q => ta e S fun x S1 => match x with
  | .int i => i.natAbs < 10 ^ 12 ∧ Q (.str (PyData.int i).shown) S1
  | .tup xs => RB 50 16000000 (.tup xs) ∧ Q (.str (PyData.tuple (toPys xs)).shown) S1
  | .loc p => match S1 p with
    | some (.lst xs) => RB 50 16000000 (.tup xs) ∧ Q (.str (PyData.list (toPys xs)).shown) S1
    | _ => False
  | _ => False
theorem list_ok {xs : List D} (r : RB 50 16000000 (.tup xs)) : PyOk (.list (toPys xs)) := by
  have f := (fine_lay 50 _ r.fn).2
  refine ⟨r.sh, r.nd, by simp only [toPy, PyData.depth] at f ⊢; omega, ?_⟩
  have h := r.ln
  show (listText (PyData.shownAll (toPys xs))).length ≤ _
  have h' : (tupleText (PyData.shownAll (toPys xs))).length ≤ 16000000 := h
  generalize PyData.shownAll (toPys xs) = ts at h'
  rw [sizeLine_eq]
  cases ts with
  | nil => decide
  | cons t r =>
    have e := join_length_add (t :: r) (by simp)
    have p1 : ∀ (us : List Str), piled us = (us.map (·.length)).sum + 2 * us.length := by
      intro us
      induction us with
      | nil => rfl
      | cons u us ih => simp only [piled, List.map_cons, List.sum_cons, List.length_cons] at *; omega
    have q := listText_len_le (t :: r)
    have q2 := p1 (t :: r)
    unfold tupleText at h'
    rw [strLen_append, strLen_append] at h'
    omega
theorem de_repr {X : Cx} {a : Expr} {ta : TD} {p pos : Pos} {k : Nat} (hr : RoomG k X.A) (hg : Gl X "repr") (hm : X.mg "repr" = none) (ha : DE X a ta) (he : starEach (a :: []) X.env = (false, eval a X.env) :: starEach [] X.env := by rfl) : DE X (.Call (.Name "repr" p) [a] [] pos) (dRepr ta) :=
  PE.le ((c1_b (p := p) (pos := pos) (cr_repr hr.gd hr.rm.units) hg hm boot_repr (he := he)).to _ ha) fun σ H Q h => by
    obtain ⟨e, S, Q0, re, rs, h1, k⟩ := h
    refine ⟨e, S, _, re, rs, h1, fun d S1 v H1 q p rs1 r => ?_⟩
    cases r with
    | int i => exact .inl ⟨i, rfl, log_small q.1, k _ S1 _ H1 q.2 p rs1 (.str _)⟩
    | tup hq rr => exact .inr ⟨_, _, rfl, fine_dp 50 _ q.1.fn _ (.tup hq rr), q.1.ok (Nat.le_refl _) (by rw [sizeLine_eq]; decide), k _ S1 _ H1 q.2 p rs1 (.str _)⟩
    | loc a =>
      dsimp only at q
      split at q
      · rename_i xs ex
        obtain ⟨vs, a1, b1⟩ := rs1 _ _ ex
        exact .inr ⟨_, _, rfl, .lst (.of a1) (reps_dp _ (fun d hd => fine_dp 49 d (q.1.fn d hd)) _ b1), list_ok q.1, k _ S1 _ H1 q.2 p rs1 (.str _)⟩
      · exact q.elim
    | _ => exact q.elim
end QL
end L2
namespace L2
namespace QL
open PySem PySem.Spec PyProof.Rows
/-! ### 23. the law's call -/
theorem law_callD {P : Program} {w : World} {K : PySem.W.Frag} {mg mb : Str → Option Value} {k : Nat} {fa a : Addr} {fd : FuncData} {x : Str} {sp : SpD} {s₁ : Shared} {vs : List Value} {ns : List Int}
    (KX : K.In s₁.heap) (hns : s₁.heap.Ns mainGlobals mg) (hb : s₁.heap.Ns builtinsNs mb) (hbb : ∀ x : Str, x ≠ "__name__" → mb x = bootBuiltins x) (hlim : s₁.heap.NoLimit) (hg : s₁.gens = #[])
    (ha : s₁.heap.get? a = some { cls := .type "list", data := .seq vs.toArray }) (hi : IntsAre vs ns) (hl : ns.length ≤ sizeLine) (hr : RoomG k callerA)
    (F : ∀ base : Heap, K.In base → base.Ns mainGlobals mg → FnD P w K mg base k fa fd [x] sp) (hbind : ∀ (s : Shared) (u : Value), BindsTo s fd ⟨[u], []⟩ [(x, u)])
    (hsp : sp [.rol (ns.map D.int)] (fun _ => none) (fun d _ => d = .bl true)) :
    codeAny (model P w) callerA (.call (.ref fa) ⟨[.ref a], []⟩) (fun r s' => r = .ok (.ret (.bool true)) ∧ OldK s₁.heap s'.heap ∧ s'.os = s₁.os ∧ AllBare s'.gens) s₁ := by
  have rv := vals_ints hi
  have lenV := hi.length
  have core : ∀ H : Hp, Only H → Ro K H a (ns.map V.int) → HOk P w H s₁.heap → (∀ b, H b ≠ none → b = a) → (H a ≠ none → K.lookup a = none) →
      codeAny (model P w) callerA (.call (.ref fa) ⟨[.ref a], []⟩) (fun r s' => r = .ok (.ret (.bool true)) ∧ OldK s₁.heap s'.heap ∧ s'.os = s₁.os ∧ AllBare s'.gens) s₁ := by
    intro H hO hS hok hA hK
    have bo : ∀ {b : Addr} {o : Obj}, s₁.heap.get? b = some o → H b = none → (hidT s₁.heap H).get? b = some o := fun e n => hidT_get e n
    have noD : ∀ {b : Addr} {o : Obj} {es : Array DictEntry} {ep : Nat}, s₁.heap.get? b = some o → o.data = .dict es ep → H b = none := fun {b o es ep} e d => by
      cases q : H b with
      | none => rfl
      | some u =>
        obtain rfl : b = a := hA b (by rw [q]; simp)
        rw [ha] at e; cases e
        cases (show Data.seq vs.toArray _ = Data.dict es ep from d)
    have nsK : ∀ {b : Addr} {m : Str → Option Value}, s₁.heap.Ns b m → (hidT s₁.heap H).Ns b m := fun {b m} ⟨o, es, ep, e, d, r⟩ => ⟨o, es, ep, bo e (noD e d), d, r⟩
    have kIn : K.In (hidT s₁.heap H) := fun b o e => bo (KX b o e) (by
      cases q : H b with
      | none => rfl
      | some u =>
        obtain rfl : b = a := hA b (by rw [q]; simp)
        rw [hK (by rw [q]; simp)] at e; cases e)
    have hM : Mod K mg (hidT s₁.heap H) := ⟨kIn, nsK hns, ⟨mb, nsK hb, hbb⟩, let ⟨mc, h1, h2⟩ := hlim; ⟨mc, nsK h1, h2⟩⟩
    have e0 : Env0 P w K mg (hidT s₁.heap H) callerA [] s₁ H := ⟨rfl, hM, fun b o e => of_hidT e, Nat.le_of_eq (hidT_size _ _), trivial, fun b hb => absurd (show b ∈ ([] : List Addr) from hb) (by simp), hok, .of_eq hg⟩
    refine codeAny_mono ((F _ kIn (nsK hns)).run callerA [] s₁ H ⟨[.ref a], []⟩ [.ref a] [.ref a] (fun v _ => v = .bl true) hr e0 (hbind s₁ (.ref a)) (.cons rfl .nil)
      ⟨_, fun _ => none, _, .cons (.rol hS (Reps.of_ints ns)) .nil, fun _ _ z => (nomatch z), hsp, fun d S' v H' q _ _ r => by subst q; cases r; rfl⟩) fun r s' h => ?_
    rcases r with _ | (_ | _ | _ | u)
    · exact h.elim
    · exact False.elim h
    · exact False.elim h
    · exact False.elim h
    · obtain ⟨v, H', os, bare, un, hok', r', q⟩ := h
      obtain rfl : v = .bl true := q
      obtain rfl : u = Value.bool true := r'
      refine ⟨rfl, OldK.of_keep fun b o e => ?_, os, bare⟩
      rcases hO b with z | ⟨ob, xs, z⟩
      · exact un.keep b o e z (by intro z; exact absurd (show b ∈ ([] : List Addr) from z) (by simp)) (by simp)
      · obtain ⟨e1, _⟩ := hok b _ z
        obtain ⟨e2, _⟩ := hok' b _ (un.frzs b ob _ z)
        rw [e] at e1; cases e1
        exact e2
  cases hk : K.lookup a with
  | some o =>
    have e := KX a o hk
    rw [ha] at e
    cases e
    exact core (fun _ => none) (fun _ => .inl rfl) (.inr (.inr ⟨_, vs.toArray, _, hk, rfl, rfl, rfl, by rw [List.size_toArray, lenV]; exact hl, by simpa using rv⟩)) (fun b u z => nomatch z) (fun b z => absurd rfl z) fun z => absurd rfl z
  | none =>
    refine core (fun b => if b = a then some (.frz { cls := .type "list", data := .seq vs.toArray } (.lst (ns.map V.int))) else none) (fun b => ?_) (.inl ⟨{ cls := .type "list", data := .seq vs.toArray }, if_pos rfl⟩) (fun b u z => ?_) (fun b z => ?_) fun _ => hk
    · by_cases hb : b = a
      · exact .inr ⟨_, _, if_pos hb⟩
      · exact .inl (if_neg hb)
    · by_cases hb : b = a
      · have z' := (if_pos hb).symm.trans z
        cases z'
        subst hb
        exact ⟨ha, by rw [List.length_map]; exact hl, vs, _, rv, ha⟩
      · have z' := (if_neg hb).symm.trans z
        cases z'
    · by_cases hb : b = a
      · exact hb
      · exact absurd (if_neg hb) z
theorem walk_ofD {l : PySem.W.OpenLaw} {n k : Nat} {q : Program} {loose : List Str} {XP : (Str → Option Value) → Heap → Prop} {YP : World → Heap → Prop} {d : DefRec} {K : Params → PySem.W.Frag} {sp : SpD} {x : Str}
    (hn : l.most = some n) (hn2 : n ≤ sizeLine) (hdf : d.params.defaults = []) (hr : RoomG k callerA) (hY : ∀ (w : World) (h : Heap), YP w h → (K w.params).In h)
    (F : ∀ (w : World) (mg : Str → Option Value) (fa : Addr) (h : Heap), (K w.params).In h → h.Ns mainGlobals mg → mg d.name = some (.ref fa) →
      ∃ fd : FuncData, (∀ (s : Shared) (u : Value), BindsTo s fd ⟨[u], []⟩ [(x, u)]) ∧ ∀ base : Heap, (K w.params).In base → base.Ns mainGlobals mg → FnD l.prog w (K w.params) mg base k fa fd [x] sp)
    (hsp : ∀ ns : List Int, ns.length ≤ n → sp [.rol (ns.map D.int)] (fun _ => none) (fun d _ => d = .bl true)) : PySem.W.WalkO q loose XP YP l.row.toRowW d [] (fun f vs => PySem.call f vs) := by
  refine Att.attach_call hn hdf fun w s₀ s₁ mg mb fa o pm cd doc a vs ns G Y ho hd hcd hmg hobj hints hlen hg => ?_
  obtain ⟨fd, hb, hF⟩ := F w mg fa _ (hY w _ Y) G.T.g hmg
  exact law_callD (hY w _ Y) G.T.g G.T.b G.T.builtins G.T.nolimit hg hobj hints (Nat.le_trans hlen hn2) hr hF hb (hsp ns hlen)
theorem roomG {k : Nat} (h : k ≤ 100 := by decide) : RoomG k callerA := ⟨Room.mono ⟨rfl, by decide, by decide⟩ h, rfl⟩
/-- the law's promise -/
def spLaw (n : Nat) : SpD := fun ds _ Q => ∃ ns : List Int, ds = [.rol (ns.map D.int)] ∧ ns.length ≤ n ∧ ∀ S, Q (.bl true) S
end QL
end L2
namespace L2
namespace QL
open PySem PySem.Spec PyProof.Rows
/-! ### 24. walking the readings -/
theorem forRun_inv {t : Tgt} {tb : TSD} {chk : Sto → Prop} {D0 : EndsD} {items : List D} (I : List D → DEnv → Sto → Prop)
    (step : ∀ pre x post e S (N : DEnv → Sto → Prop), items = pre ++ x :: post → I pre e S → (∀ e' S', I (pre ++ [x]) e' S' → N e' S') →
      chk S ∧ match bT t x e with
        | some e' => tb { nx := fun e2 S2 => ∃ S3, Sb S3 S2 ∧ N e2 S3, rt := D0.rt, bk := D0.nx, ct := fun e2 S2 => ∃ S3, Sb S3 S2 ∧ N e2 S3 } e' S
        | none => False)
    (fin : ∀ e S, I items e S → chk S ∧ D0.nx e S) {e : DEnv} {S : Sto} (h0 : I [] e S) : forRun t tb chk D0 items e S := by
  have go : ∀ (r pre : List D) (e : DEnv) (S : Sto), items = pre ++ r → I pre e S → forRun t tb chk D0 r e S := by
    intro r
    induction r with
    | nil =>
      intro pre e S he h
      rw [List.append_nil] at he
      subst he
      exact fin e S h
    | cons x r ih =>
      intro pre e S he h
      exact step pre x r e S _ he h fun e' S' h' => ih (pre ++ [x]) e' S' (by rw [he, List.append_assoc]; rfl) h'
  exact go items [] e S rfl h0
theorem lcRun_inv {t : Tgt} {tt : TTD} {te : TD} {chk : Sto → Prop} {e0 : DEnv} {Q : List D → Sto → Prop} {items : List D} (I : List D → List D → Sto → Prop)
    (step : ∀ pre x post acc S (N : List D → Sto → Prop), items = pre ++ x :: post → I pre acc S → (∀ acc' S', I (pre ++ [x]) acc' S' → N acc' S') →
      chk S ∧ match bT t x e0 with
        | some e' => tt e' S fun b S1 => match b with
          | true => te e' S1 fun d S2 => ∃ S3, Sb S3 S2 ∧ N (acc ++ [d]) S3
          | false => ∃ S3, Sb S3 S1 ∧ N acc S3
        | none => False)
    (fin : ∀ acc S, I items acc S → chk S ∧ Q acc S) {S : Sto} (h0 : I [] [] S) : lcRun t tt te chk e0 Q items [] S := by
  have go : ∀ (r pre acc : List D) (S : Sto), items = pre ++ r → I pre acc S → lcRun t tt te chk e0 Q r acc S := by
    intro r
    induction r with
    | nil =>
      intro pre acc S he h
      rw [List.append_nil] at he
      subst he
      exact fin acc S h
    | cons x r ih =>
      intro pre acc S he h
      exact step pre x r acc S _ he h fun acc' S' h' => ih (pre ++ [x]) acc' S' (by rw [he, List.append_assoc]; rfl) h'
  exact go items [] [] S rfl h0
/-! .. over the items of typed lists, over ranges -/
theorem forRun_map {α : Type} {f : α → D} {xs : List α} {t : Tgt} {tb : TSD} {chk : Sto → Prop} {D0 : EndsD} (I : List α → DEnv → Sto → Prop)
    (step : ∀ p x r e S (N : DEnv → Sto → Prop), xs = p ++ x :: r → I p e S → (∀ e' S', I (p ++ [x]) e' S' → N e' S') →
      chk S ∧ match bT t (f x) e with
        | some e' => tb { nx := fun e2 S2 => ∃ S3, Sb S3 S2 ∧ N e2 S3, rt := D0.rt, bk := D0.nx, ct := fun e2 S2 => ∃ S3, Sb S3 S2 ∧ N e2 S3 } e' S
        | none => False)
    (fin : ∀ e S, I xs e S → chk S ∧ D0.nx e S) {e : DEnv} {S : Sto} (h0 : I [] e S) : forRun t tb chk D0 (xs.map f) e S := by
  have go : ∀ (r p : List α) (e : DEnv) (S : Sto), xs = p ++ r → I p e S → forRun t tb chk D0 (r.map f) e S := by
    intro r
    induction r with
    | nil =>
      intro p e S he h
      rw [List.append_nil] at he
      subst he
      exact fin e S h
    | cons x r ih =>
      intro p e S he h
      exact step p x r e S _ he h fun e' S' h' => ih (p ++ [x]) e' S' (by rw [he, List.append_assoc]; rfl) h'
  exact go xs [] e S rfl h0
theorem lcRun_map {α : Type} {f : α → D} {xs : List α} {t : Tgt} {tt : TTD} {te : TD} {chk : Sto → Prop} {e0 : DEnv} {Q : List D → Sto → Prop} (I : List α → List D → Sto → Prop)
    (step : ∀ p x r acc S (N : List D → Sto → Prop), xs = p ++ x :: r → I p acc S → (∀ acc' S', I (p ++ [x]) acc' S' → N acc' S') →
      chk S ∧ match bT t (f x) e0 with
        | some e' => tt e' S fun b S1 => match b with
          | true => te e' S1 fun d S2 => ∃ S3, Sb S3 S2 ∧ N (acc ++ [d]) S3
          | false => ∃ S3, Sb S3 S1 ∧ N acc S3
        | none => False)
    (fin : ∀ acc S, I xs acc S → chk S ∧ Q acc S) {S : Sto} (h0 : I [] [] S) : lcRun t tt te chk e0 Q (xs.map f) [] S := by
  have go : ∀ (r p : List α) (acc : List D) (S : Sto), xs = p ++ r → I p acc S → lcRun t tt te chk e0 Q (r.map f) acc S := by
    intro r
    induction r with
    | nil =>
      intro p acc S he h
      rw [List.append_nil] at he
      subst he
      exact fin acc S h
    | cons x r ih =>
      intro p acc S he h
      exact step p x r acc S _ he h fun acc' S' h' => ih (p ++ [x]) acc' S' (by rw [he, List.append_assoc]; rfl) h'
  exact go xs [] [] S rfl h0
/-- nothing is changed: the items one by one -/
theorem lc_pure {α : Type} {f g : α → D} {xs : List α} {t : Tgt} {te : TD} {chk : Sto → Prop} {e0 : DEnv} {Q : List D → Sto → Prop} {S : Sto} (hc : chk S)
    (h : ∀ x ∈ xs, ∀ K : DK, K (g x) S → match bT t (f x) e0 with
      | some e' => te e' S K
      | none => False) (fin : Q (xs.map g) S) : lcRun t dYes te chk e0 Q (xs.map f) [] S := by
  refine lcRun_map (fun p acc S' => acc = p.map g ∧ S' = S) ?_ ?_ ⟨rfl, rfl⟩
  · rintro p x r acc S1 N he ⟨rfl, rfl⟩ hN
    refine ⟨hc, ?_⟩
    have q := h x (by rw [he]; simp) (fun d S2 => ∃ S3, Sb S3 S2 ∧ N (p.map g ++ [d]) S3) ⟨S1, Sb.refl _, hN _ _ ⟨by simp, rfl⟩⟩
    exact q
  · rintro acc S1 ⟨rfl, rfl⟩
    exact ⟨hc, fin⟩
theorem lc_filter {α : Type} {f g : α → D} {b : α → Bool} {xs : List α} {t : Tgt} {tt : TTD} {te : TD} {chk : Sto → Prop} {e0 : DEnv} {Q : List D → Sto → Prop} {S : Sto} (hc : chk S)
    (h : ∀ x ∈ xs, ∀ K : DK, ∀ K2 : Sto → Prop, (b x = true → K (g x) S) → (b x = false → K2 S) → match bT t (f x) e0 with
      | some e' => tt e' S fun c S1 => match c with
        | true => te e' S1 K
        | false => K2 S1
      | none => False) (fin : Q ((xs.filter b).map g) S) : lcRun t tt te chk e0 Q (xs.map f) [] S := by
  refine lcRun_map (fun p acc S' => acc = (p.filter b).map g ∧ S' = S) ?_ ?_ ⟨rfl, rfl⟩
  · rintro p x r acc S1 N he ⟨rfl, rfl⟩ hN
    refine ⟨hc, ?_⟩
    have q := h x (by rw [he]; simp) (fun d S2 => ∃ S3, Sb S3 S2 ∧ N ((p.filter b).map g ++ [d]) S3) (fun S2 => ∃ S3, Sb S3 S2 ∧ N ((p.filter b).map g) S3)
      (fun hb => ⟨S1, Sb.refl _, hN _ _ ⟨by simp [List.filter_append, hb], rfl⟩⟩) (fun hb => ⟨S1, Sb.refl _, hN _ _ ⟨by simp [List.filter_append, hb], rfl⟩⟩)
    exact q
  · rintro acc S1 ⟨rfl, rfl⟩
    exact ⟨hc, fin⟩
theorem forRun_rng {lo : Int} {n : Nat} {t : Tgt} {tb : TSD} {chk : Sto → Prop} {D0 : EndsD} (I : Nat → DEnv → Sto → Prop)
    (step : ∀ i e S (N : DEnv → Sto → Prop), i < n → I i e S → (∀ e' S', I (i + 1) e' S' → N e' S') →
      chk S ∧ match bT t (.int (lo + i)) e with
        | some e' => tb { nx := fun e2 S2 => ∃ S3, Sb S3 S2 ∧ N e2 S3, rt := D0.rt, bk := D0.nx, ct := fun e2 S2 => ∃ S3, Sb S3 S2 ∧ N e2 S3 } e' S
        | none => False)
    (fin : ∀ e S, I n e S → chk S ∧ D0.nx e S) {e : DEnv} {S : Sto} (h0 : I 0 e S) : forRun t tb chk D0 (rngD lo n) e S := by
  refine forRun_map (f := fun (k : Nat) => D.int (lo + k)) (fun p e S => I p.length e S) (fun p x r e S N he h hN => ?_) (fun e S h => fin e S (by simpa using h)) h0
  have hl := congrArg List.length he
  rw [List.length_range, List.length_append, List.length_cons] at hl
  have hx : x = p.length := by
    have e1 : (List.range n)[p.length]? = some x := by rw [he]; simp
    rw [List.getElem?_range (by omega)] at e1
    exact (Option.some.inj e1).symm
  subst hx
  exact step p.length e S N (by omega) h fun e' S' h' => hN e' S' (by rw [List.length_append]; exact h')
theorem lcRun_rng {lo : Int} {n : Nat} {t : Tgt} {tt : TTD} {te : TD} {chk : Sto → Prop} {e0 : DEnv} {Q : List D → Sto → Prop} (I : Nat → List D → Sto → Prop)
    (step : ∀ i acc S (N : List D → Sto → Prop), i < n → I i acc S → (∀ acc' S', I (i + 1) acc' S' → N acc' S') →
      chk S ∧ match bT t (.int (lo + i)) e0 with
        | some e' => tt e' S fun b S1 => match b with
          | true => te e' S1 fun d S2 => ∃ S3, Sb S3 S2 ∧ N (acc ++ [d]) S3
          | false => ∃ S3, Sb S3 S1 ∧ N acc S3
        | none => False)
    (fin : ∀ acc S, I n acc S → chk S ∧ Q acc S) {S : Sto} (h0 : I 0 [] S) : lcRun t tt te chk e0 Q (rngD lo n) [] S := by
  refine lcRun_map (f := fun (k : Nat) => D.int (lo + k)) (fun p acc S => I p.length acc S) (fun p x r acc S N he h hN => ?_) (fun acc S h => fin acc S (by simpa using h)) h0
  have hl := congrArg List.length he
  rw [List.length_range, List.length_append, List.length_cons] at hl
  have hx : x = p.length := by
    have e1 : (List.range n)[p.length]? = some x := by rw [he]; simp
    rw [List.getElem?_range (by omega)] at e1
    exact (Option.some.inj e1).symm
  subst hx
  exact step p.length acc S N (by omega) h fun acc' S' h' => hN acc' S' (by rw [List.length_append]; exact h')
theorem Sb.put1 {S : Sto} {a : Addr} (n : S a = none) (c : Cell) : Sb S (S.put a c) := (Sb.refl S).put n c
theorem put_at {S : Sto} {a b : Addr} {c : Cell} : S.put a c b = if b = a then some c else S b := rfl
theorem ixN_of {n : Nat} {i : Int} (h0 : 0 ≤ i) (h1 : i < n) : ixN n i = some i.toNat := by
  unfold ixN
  rw [if_pos h0, if_pos h1]
theorem atI_of {xs : List D} {i : Int} (h0 : 0 ≤ i) (h1 : i < xs.length) : atI xs i = some (xs[i.toNat]'(by omega)) := by
  unfold atI
  rw [ixN_of h0 h1]
  exact List.getElem?_eq_getElem _
theorem atI_map {α : Type} {f : α → D} {xs : List α} {i : Int} (h0 : 0 ≤ i) (h1 : i < xs.length) : atI (xs.map f) i = some (f (xs[i.toNat]'(by omega))) := by
  rw [atI_of h0 (by rw [List.length_map]; exact h1), List.getElem_map]
theorem cmul_l {i j : Int} (h : -(2 ^ 64) < i ∧ i < 2 ^ 64) : MulOk i j := .inl (.inl h)
theorem cmul_r {i j : Int} (h : -(2 ^ 64) < j ∧ j < 2 ^ 64) : MulOk i j := .inl (.inr h)
theorem cmul_w {i j : Int} {a b : Nat} (ha : i.natAbs < 2 ^ a) (hb : j.natAbs < 2 ^ b) (h0 : 0 < a) (h1 : 0 < b) (h : a + b ≤ 1000000) : MulOk i j := .inr (wide_mul ha hb h0 h1 h)
theorem cdiv {i j : Int} (h : 0 < j) (h1 : j < 2 ^ 64) : CDivW i j := wide_div (b := 64) h (by omega) (by decide) (by decide)
/-! the pen -/
/-- a list of three: the script's numbers (at q), how often it was dipped, what is left -/
structure Pen (b : Nat) (p q : Addr) (S : Sto) : Prop where
  ex : ∃ at_ st : Int, S p = some (.lst [.loc q, .int at_, .int st]) ∧ 0 ≤ at_ ∧ at_ ≤ (b : Int)
  sc : ∃ cs : List Int, S q = some (.lst (cs.map D.int))
  ne : q ≠ p
/-- all but p is as it was, something may be new -/
def Ext (p : Addr) (S S' : Sto) : Prop := ∀ a c, a ≠ p → S a = some c → S' a = some c
theorem Ext.refl (p : Addr) (S : Sto) : Ext p S S := fun _ _ _ h => h
theorem Ext.trans {p : Addr} {S S1 S2 : Sto} (a : Ext p S S1) (b : Ext p S1 S2) : Ext p S S2 := fun x c h e => b x c h (a x c h e)
theorem Ext.put {p : Addr} {S : Sto} {c : Cell} : Ext p S (S.put p c) := fun _ _ h e => by rw [put_ne h]; exact e
theorem Ext.of {p : Addr} {S S' : Sto} (h : Sb S S') : Ext p S S' := fun a c _ e => h a c e
theorem Ext.new {p a : Addr} {S : Sto} {c : Cell} (h : S a = none) : Ext p S (S.put a c) := .of ((Sb.refl S).put h c)
theorem Pen.le {b c : Nat} {p q : Addr} {S : Sto} (h : Pen b p q S) (k : b ≤ c) : Pen c p q S := by
  obtain ⟨a, s, h1, h4, h5⟩ := h.ex
  exact ⟨⟨a, s, h1, h4, by omega⟩, h.sc, h.ne⟩
theorem Pen.sb {b : Nat} {p q : Addr} {S S' : Sto} (h : Pen b p q S) (s : Sb S S') : Pen b p q S' := by
  obtain ⟨a, t, h1, h4, h5⟩ := h.ex
  obtain ⟨cs, h2⟩ := h.sc
  exact ⟨⟨a, t, s _ _ h1, h4, h5⟩, ⟨cs, s _ _ h2⟩, h.ne⟩
theorem Pen.set {b c : Nat} {p q : Addr} {S S1 : Sto} {i st : Int} (h : Pen b p q S1) (s : Ext p S1 S) (h0 : 0 ≤ i) (h1 : i ≤ (c : Int)) : Pen c p q (S.put p (.lst [.loc q, .int i, .int st])) := by
  obtain ⟨cs, h2⟩ := h.sc
  exact ⟨⟨i, st, put_eq, h0, h1⟩, ⟨cs, by rw [put_ne h.ne]; exact s _ _ h.ne h2⟩, h.ne⟩
theorem Pen.new {b : Nat} {p q a : Addr} {S : Sto} {c : Cell} (h : Pen b p q S) (ha : S a = none) : Pen b p q (S.put a c) := h.sb ((Sb.refl S).put ha c)
theorem Pen.nep {b : Nat} {p q a : Addr} {S : Sto} (h : Pen b p q S) (ha : S a = none) : a ≠ p := by
  obtain ⟨_, _, e, _⟩ := h.ex
  exact (ne_of_free e ha).symm
/-! one step of a walk -/
theorem put_none {S : Sto} {a b : Addr} {c : Cell} (h : S.put a c b = none) : b ≠ a ∧ S b = none := by
  by_cases e : b = a
  · subst e; rw [put_eq] at h; cases h
  · exact ⟨e, by rw [put_ne e] at h; exact h⟩
theorem seq_ {t u : TSD} {D0 : EndsD} {e : DEnv} {S : Sto} (h : ∀ N : DEnv → Sto → Prop, (∀ e S, u D0 e S → N e S) → t { D0 with nx := N } e S) : dSeq t u D0 e S := h _ fun _ _ h => h
theorem at_new {S : Sto} {a p : Addr} {c d : Cell} (f : S p = some c) (ha : S a = none) : (S.put a d) p = some c := by rw [put_ne (ne_of_free f ha)]; exact f
theorem eqv_ints_nil (xs : List D) : PyData.eqvAll (toPys xs) (toPys []) = xs.isEmpty := by cases xs <;> rfl
theorem fine_ints (n : Nat) (cs : List Int) : ∀ x ∈ cs.map D.int, fine n x := fun x hx => by
  obtain ⟨c, _, rfl⟩ := List.mem_map.mp hx
  cases n <;> trivial
theorem abs31 {v m : Int} (h0 : 0 < m) (h1 : m ≤ 2 ^ 63) : -(2 ^ 64) < v % m ∧ v % m < 2 ^ 64 := by
  have a := Int.emod_nonneg v (show m ≠ 0 by omega)
  have b := Int.emod_lt_of_pos v h0
  omega
theorem rb_ints {xs : List Int} (m : Nat) (hl : xs.length ≤ m) (h : ∀ x ∈ xs, x.natAbs < 10 ^ 12) : RB 1 (15 * m + 3) (.tup (xs.map D.int)) :=
  RB.tup m (by rw [List.length_map]; exact hl) fun x hx => by
    obtain ⟨i, hi, rfl⟩ := List.mem_map.mp hx
    exact .int (h i hi)
theorem RB.pair {n b : Nat} {x y : D} (hx : RB n b x) (hy : RB n b y) : RB (n + 1) ((b + 2) * 2 + 3) (.tup [x, y]) := RB.tup 2 (Nat.le_refl _) fun z hz => by
  rcases List.mem_cons.mp hz with rfl | hz
  · exact hx
  · rw [List.mem_singleton.mp hz]; exact hy
theorem RB.maps {α : Type} {n b : Nat} {f : α → D} {xs : List α} (m : Nat) (hl : xs.length ≤ m) (h : ∀ x ∈ xs, RB n b (f x)) : RB (n + 1) ((b + 2) * m + 3) (.tup (xs.map f)) :=
  RB.tup m (by rw [List.length_map]; exact hl) fun x hx => by
    obtain ⟨i, hi, rfl⟩ := List.mem_map.mp hx
    exact h i hi
theorem str_fine (n : Nat) {x : Str} (h : PyData.canLay0 (.str x) = true) : fine n (.str x) := by cases n <;> exact h
theorem cut_map {α : Type} (f : α → D) (xs : List α) (lo hi : Option Int) : cutD (xs.map f) lo hi = (cutD xs lo hi).map f := by
  unfold cutD
  rw [List.length_map, List.map_take, List.map_drop]
theorem cut_from {α : Type} {xs : List α} {v : Int} (h : 0 ≤ v) : cutD xs (some v) none = xs.drop v.toNat := by
  unfold cutD HT.sIx
  simp only
  rw [if_neg (by omega)]
  by_cases hv : v.toNat ≤ xs.length
  · rw [Nat.min_eq_left hv]
    exact List.take_of_length_le (by rw [List.length_drop]; exact Nat.le_refl _)
  · rw [Nat.min_eq_right (by omega), List.drop_length, List.take_nil, List.drop_eq_nil_of_le (by omega)]
theorem cut_to {α : Type} {xs : List α} {v : Int} (h : 0 ≤ v) : cutD xs none (some v) = xs.take v.toNat := by
  unfold cutD HT.sIx
  simp only
  rw [if_neg (by omega), List.drop_zero, Nat.sub_zero]
  by_cases hv : v.toNat ≤ xs.length
  · rw [Nat.min_eq_left hv]
  · rw [Nat.min_eq_right (by omega), List.take_length, List.take_of_length_le (by omega)]
theorem rngD_length (lo : Int) (n : Nat) : (rngD lo n).length = n := by simp [rngD]
/-- the i-th of a range -/
theorem rng_at {lo : Int} {n : Nat} {pre post : List D} {x : D} (h : rngD lo n = pre ++ x :: post) : x = .int (lo + (pre.length : Nat)) ∧ pre.length < n := by
  have hl := congrArg List.length h
  rw [rngD_length, List.length_append, List.length_cons] at hl
  have hi : pre.length < n := by omega
  have e : (rngD lo n)[pre.length]? = some x := by rw [h]; simp
  unfold rngD at e
  rw [List.getElem?_map, List.getElem?_range hi] at e
  exact ⟨(Option.some.inj e).symm, hi⟩
theorem map_at {α : Type} {f : α → D} {xs : List α} {pre post : List D} {x : D} (h : xs.map f = pre ++ x :: post) : ∃ p a q, xs = p ++ a :: q ∧ pre = p.map f ∧ x = f a ∧ post = q.map f := by
  obtain ⟨p, r, e, h1, h2⟩ := List.map_eq_append_iff.mp h
  obtain ⟨a, q, e2, h3, h4⟩ := List.map_eq_cons_iff.mp h2
  exact ⟨p, a, q, by rw [e, e2], h1.symm, h3.symm, h4.symm⟩
end QL
end L2
namespace L2
namespace QL
open PySem PySem.Spec PyProof.Rows
/-! ### 25. more words -/
section
variable {X : Cx} {pos : Pos}
theorem de_gintE {x : Str} {i : Int} {pos : Pos} (hg : Gl X x) (hm : ∃ k, X.mg x = some (.int i k)) (hd : (x == ("__debug__" : Str)) = false := by decide) : DE X (.Name x pos) (dC (.int i)) := by
  obtain ⟨k, hm⟩ := hm
  exact de_gint hg hm hd
theorem de_gstrE {x y : Str} {pos : Pos} (hg : Gl X x) (hm : ∃ k, X.mg x = some (.str y k)) (hd : (x == ("__debug__" : Str)) = false := by decide) : DE X (.Name x pos) (dC (.str y)) := by
  obtain ⟨k, hm⟩ := hm
  exact de_gstr hg hm hd
def dPar3 (i j l : Nat) (ta : TAD) : TSD := fun D0 e S => ta e S fun ds S1 => match ds with
  | [x, y, z] => D0.nx (((e.set i (some x)).set j (some y)).set l (some z)) S1
  | _ => False
theorem reps_three {K : PySem.W.Frag} {H : Hp} {d e f : D} {vs : List V} (r : Reps K H [d, e, f] vs) : ∃ v w u, vs = [v, w, u] ∧ Rep K H d v ∧ Rep K H e w ∧ Rep K H f u := by
  cases r with
  | cons h t =>
    obtain ⟨w, u, e, r1, r2⟩ := reps_two t
    subst e
    exact ⟨_, _, _, rfl, h, r1, r2⟩
theorem ds_par3 {i j l : Nat} {x y z : Str} {a b c : Expr} {ta : TAD} {px py pz pt pos : Pos} {kt k2 pt2} (hc : X.calm = true) (hN : X.N.Nodup) (hi : X.N[i]? = some x) (hj : X.N[j]? = some y) (hl : X.N[l]? = some z) (hij : i ≠ j) (hil : i ≠ l) (hjl : j ≠ l)
    (hx : X.env.scope.names.lookup x = some .local) (hy : X.env.scope.names.lookup y = some .local) (hz : X.env.scope.names.lookup z = some .local) (ha : DA X [a, b, c] ta)
    (hw : swappedStores [.Tuple [.Name x px, .Name y py, .Name z pz] kt pt] (.Tuple [a, b, c] k2 pt2) X.env = pure (some [x, y, z]))
    (hs : swapsWithSole [.Tuple [.Name x px, .Name y py, .Name z pz] kt pt] (.Tuple [a, b, c] k2 pt2) pos.line X.env = pure false := by rfl) :
    DS X (.Assign [.Tuple [.Name x px, .Name y py, .Name z pz] kt pt] (.Tuple [a, b, c] k2 pt2) pos) (dPar3 i j l ta) := PS.le (ps_par3 hc hN hi hj hl hij hil hjl hx hy hz ha hw hs) fun D1 σ H h => by
  obtain ⟨e, S, D0, re, rs, ht, k⟩ := h
  refine ⟨e, S, _, re, rs, ht, fun ds S' vs H' q p rs' r => ?_⟩
  split at q
  · obtain ⟨v, w, u, e1, r1, r2, r3⟩ := reps_three r
    subst e1
    exact ⟨v, w, u, rfl, k.nx _ S' _ H' q p ((((re.mono p.tk).set r1 i).set r2 j).set r3 l) rs'⟩
  · exact q.elim
end
/-! x in y: flat items of a tuple, data of any depth in a list -/
def rdInA (g : Bool → Bool) : RD := fun x y S Q => match y with
  | .tup ys => (flatD x = true ∧ ∀ z ∈ ys, flatD z = true) ∧ Q (.bl (g (inD x ys))) S
  | .rol ys => (flatD x = true ∧ ∀ z ∈ ys, flatD z = true) ∧ Q (.bl (g (inD x ys))) S
  | .loc p => match S p with
    | some (.lst ys) => (fine 50 x ∧ ∀ z ∈ ys, fine 50 z) ∧ Q (.bl (g ((toPys ys).any fun z => PyData.eqv z (toPy x)))) S
    | _ => False
  | _ => False
def rInA (K : PySem.W.Frag) : R2 := fun x y H Q => rIn K false x y H Q ∨ rInD K x y H Q
def rNotInA (K : PySem.W.Frag) : R2 := fun x y H Q => rIn K true x y H Q ∨ rNotInD K x y H Q
theorem u65 {X : Cx} {k : Nat} (h : Room k X.A) : X.A.units + 65 < cLine := by have := h.un; omega
theorem op_inA {X : Cx} {k : Nat} (h : Room k X.A) : OpR X (compareOp .In) (rInA X.K) := op_in_seq.or (op_inD (u65 h))
theorem op_notInA {X : Cx} {k : Nat} (h : Room k X.A) : OpR X (compareOp .NotIn) (rNotInA X.K) := op_notIn_seq.or (op_notInD (u65 h))
section
variable {K : PySem.W.Frag}
theorem em_inA {g : Bool → Bool} {d1 d2 : D} {S : Sto} {Q0 : DK} {v1 v2 : V} {H : Hp} {Q : VK} (rs : RelS K S H) (r1 : Rep K H d1 v1) (r2 : Rep K H d2 v2) (h : rdInA g d1 d2 S Q0)
    (k : ∀ d S' v H', Q0 d S' → Post K S H S' H' → RelS K S' H' → Rep K H' d v → Q v H') : (∃ p xs, v2 = .ref p ∧ (SqL K H p xs ∨ SqT K H p xs) ∧ flatV v1 = true ∧ xs.all flatV = true ∧ Q (.bl (g (inV v1 xs))) H) ∨
      ∃ d ds, Dp K H v1 d ∧ Dp K H v2 (.list ds) ∧ SeqAt.shaped d = true ∧ SeqAt.shaped (.list ds) = true ∧ Q (.bl (g (ds.any fun z => PyData.eqv z d))) H := by
  cases r2 with
  | loc a =>
    dsimp only [rdInA] at h
    split at h
    · rename_i ys e
      obtain ⟨a1, b1⟩ := dp_lst rs e h.1.2
      exact .inr ⟨_, _, fine_dp 50 _ h.1.1 _ r1, a1, fine_shaped h.1.1 (by decide), b1, k _ S _ H h.2 Post.refl rs (.bl _)⟩
    · exact h.elim
  | tup hq r => exact .inl (em_in rs r1 (.tup hq r) h k)
  | rol hq r => exact .inl (em_in rs r1 (.rol hq r) h k)
  | _ => exact (show False from h).elim
theorem od_inA : OpD K (rInA K) (rdInA fun b => b) := fun _ _ _ _ _ _ _ _ rs r1 r2 h k => em_inA rs r1 r2 h k
theorem od_notInA : OpD K (rNotInA K) (rdInA fun b => !b) := fun _ _ _ _ _ _ _ _ rs r1 r2 h k => em_inA rs r1 r2 h k
end
/-! isinstance(x, T), T a built-in type -/
def tnD (S : Sto) : D → Option String
  | .non => some "NoneType"
  | .bl _ => some "bool"
  | .int _ => some "int"
  | .str _ => some "str"
  | .tup _ => some "tuple"
  | .rol _ => some "list"
  | .loc p => match S p with
    | some (.lst _) => some "list"
    | some (.dic _) => some "dict"
    | _ => none
  | .ty _ => none
def isiB : String → String → Option Bool
  | "NoneType", "tuple" => some false | "bool", "tuple" => some false | "int", "tuple" => some false | "str", "tuple" => some false | "tuple", "tuple" => some true | "list", "tuple" => some false | "dict", "tuple" => some false
  | "NoneType", "bool" => some false | "bool", "bool" => some true | "int", "bool" => some false | "str", "bool" => some false | "tuple", "bool" => some false | "list", "bool" => some false | "dict", "bool" => some false
  | "NoneType", "int" => some false | "bool", "int" => some true | "int", "int" => some true | "str", "int" => some false | "tuple", "int" => some false | "list", "int" => some false | "dict", "int" => some false
  | "NoneType", "str" => some false | "bool", "str" => some false | "int", "str" => some false | "str", "str" => some true | "tuple", "str" => some false | "list", "str" => some false | "dict", "str" => some false
  | "NoneType", "list" => some false | "bool", "list" => some false | "int", "list" => some false | "str", "list" => some false | "tuple", "list" => some false | "list", "list" => some true | "dict", "list" => some false
  | _, _ => none
theorem isiB_ok {a b : String} {r : Bool} (h : isiB a b = some r) : kitB a b = some r := by
  unfold isiB at h
  split at h <;> first | (cases h; decide +kernel) | cases h
def dIsi (T : String) (ta : TD) : TD := fun e S Q => ta e S fun x S1 => match tnD S1 x with
  | some t => match isiB t T with
    | some b => Q (.bl b) S1
    | none => False
  | none => False
theorem ty_sqt {K : PySem.W.Frag} {H : Hp} {a : Addr} {xs : List V} (h : SqT K H a xs) : TyX K H (.ref a) (.type "tuple") := by
  rcases h with (h | ⟨o, h⟩) | ⟨o, its, n, e, c, _⟩
  · exact .base (.tup h)
  · exact .fTuple h
  · exact .kTuple e c
theorem ty_sql {K : PySem.W.Frag} {H : Hp} {a : Addr} {xs : List V} (h : SqL K H a xs) : TyX K H (.ref a) (.type "list") := by
  rcases h with (h | ⟨o, h⟩) | ⟨o, its, n, e, c, _⟩
  · exact .base (.lst h)
  · exact .base (.frz h)
  · exact .kList e c
section
variable {X : Cx}
theorem de_isi {a : Expr} {x : Str} {T : String} {ta : TD} {p p2 pos : Pos} (hg : Gl X "isinstance") (hm : X.mg "isinstance" = none) (hgx : Gl X x) (hmx : X.mg x = none) (hv : bootBuiltins x = some (.type T)) (ha : DE X a ta)
    (hn : x ≠ "__name__" := by decide) (hd : (x == ("__debug__" : Str)) = false := by decide)
    (he : starEach [a, .Name x p2] X.env = (false, eval a X.env) :: starEach [.Name x p2] X.env := by rfl) (he2 : starEach [.Name x p2] X.env = (false, eval (.Name x p2) X.env) :: starEach [] X.env := by rfl) (hpl : (backTo pos (starEach [.Name x p2] X.env)).any (·.1) = false := by rfl) :
    DE X (.Call (.Name "isinstance" p) [a, .Name x p2] [] pos) (dIsi T ta) :=
  PE.le (pe_callB call_isi hg hm boot_isinstance (pa_cons ha (pa_cons (pe_bltn (v := .ty T) hgx hmx hv rfl hn hd) pa_nil he2) he) (he := he) (hpl := hpl)) fun σ H Q h => by
    obtain ⟨e, S, Q0, re, rs, ht, k⟩ := h
    refine ⟨e, S, _, re, rs, ht, fun d S1 v H1 q p rs1 r => ?_⟩
    split at q
    · rename_i t et
      split at q
      · rename_i b eb
        have fin : TyX X.K H1 v (.type t) → rIsi X.K [v, .ty T] H1 Q := fun ty => ⟨v, .ty T, .type t, .type T, b, rfl, .ty T, ty, kit_ty (isiB_ok eb), k _ S1 _ H1 q p rs1 (.bl _)⟩
        cases r with
        | non => cases et; exact fin (.base .non)
        | bl b => cases et; exact fin (.base (.bl _))
        | int i => cases et; exact fin (.base (.int _))
        | str x => cases et; exact fin (.base (.str _))
        | tup hq rr => cases et; exact fin (ty_sqt hq)
        | rol hq rr => cases et; exact fin (ty_sql (ro_sql hq))
        | loc a =>
          dsimp only [tnD] at et
          split at et
          · cases et
            rename_i xs ex
            obtain ⟨vs, a1, _⟩ := rs1 _ _ ex
            exact fin (.base (.lst a1))
          · cases et
            rename_i kvs ex
            obtain ⟨vs, a1, _⟩ := rs1 _ _ ex
            exact fin (.base (.dK a1))
          · cases et
        | ty n => cases et
      · exact q.elim
    · exact q.elim
end
/-! equality of ints, texts and tuples of such -/
mutual
inductive PlainD : D → Prop
  | int (i : Int) : PlainD (.int i)
  | str (x : Str) : PlainD (.str x)
  | tup {xs : List D} : PlainDs xs → PlainD (.tup xs)
inductive PlainDs : List D → Prop
  | nil : PlainDs []
  | cons {x : D} {xs : List D} : PlainD x → PlainDs xs → PlainDs (x :: xs)
end
mutual
theorem eqv_iff : ∀ {x y : D}, PlainD x → PlainD y → (PyData.eqv (toPy x) (toPy y) = true ↔ x = y)
  | _, _, .int i, .int j => by simp [toPy, PyData.eqv]
  | _, _, .int i, .str j => by simp [toPy, PyData.eqv]
  | _, _, .int i, .tup j => by simp [toPy, PyData.eqv]
  | _, _, .str i, .int j => by simp [toPy, PyData.eqv]
  | _, _, .str i, .str j => by simp [toPy, PyData.eqv]
  | _, _, .str i, .tup j => by simp [toPy, PyData.eqv]
  | _, _, .tup i, .int j => by simp [toPy, PyData.eqv]
  | _, _, .tup i, .str j => by simp [toPy, PyData.eqv]
  | _, _, .tup i, .tup j => by
    have h := eqvs_iff i j
    simp only [toPy, PyData.eqv]
    rw [h]
    exact ⟨fun e => by rw [e], fun e => by injection e⟩
theorem eqvs_iff : ∀ {xs ys : List D}, PlainDs xs → PlainDs ys → (PyData.eqvAll (toPys xs) (toPys ys) = true ↔ xs = ys)
  | _, _, .nil, .nil => by simp [toPys, PyData.eqvAll]
  | _, _, .nil, .cons h t => by simp [toPys, PyData.eqvAll]
  | _, _, .cons h t, .nil => by simp [toPys, PyData.eqvAll]
  | _, _, .cons h t, .cons h2 t2 => by
    have a := eqv_iff h h2
    have b := eqvs_iff t t2
    simp only [toPys, PyData.eqvAll, Bool.and_eq_true]
    rw [a, b]
    exact ⟨fun e => by rw [e.1, e.2], fun e => by injection e with e1 e2; exact ⟨e1, e2⟩⟩
end
theorem plain_ints : ∀ xs : List Int, PlainDs (xs.map D.int)
  | [] => .nil
  | x :: xs => .cons (.int x) (plain_ints xs)
theorem plain_map {α : Type} {f : α → D} (h : ∀ a, PlainD (f a)) : ∀ xs : List α, PlainDs (xs.map f)
  | [] => .nil
  | x :: xs => .cons (h x) (plain_map h xs)
theorem any_iff {x : D} (hx : PlainD x) : ∀ {ys : List D}, PlainDs ys → (((toPys ys).any fun z => PyData.eqv z (toPy x)) = true ↔ x ∈ ys)
  | _, .nil => by simp [toPys]
  | _, .cons h t => by
    have a := eqv_iff h hx
    have b := any_iff hx t
    simp only [toPys, List.any_cons, Bool.or_eq_true, List.mem_cons]
    rw [a, b]
    exact ⟨fun e => e.imp Eq.symm id, fun e => e.imp Eq.symm id⟩
theorem map_int_inj {a b : List Int} (h : a.map D.int = b.map D.int) : a = b := by
  refine (List.map_inj_right (f := D.int) fun x y e => ?_).mp h
  injection e
theorem tup_int_inj {a b : List Int} (h : D.tup (a.map D.int) = D.tup (b.map D.int)) : a = b := by
  injection h with h
  exact map_int_inj h
theorem bool_dec {b : Bool} {p : Prop} [Decidable p] (h : b = true ↔ p) : b = decide p := by
  by_cases hp : p
  · rw [decide_eq_true hp]; exact h.mpr hp
  · rw [decide_eq_false hp]
    cases b with
    | true => exact absurd (h.mp rfl) hp
    | false => rfl
theorem eqv_int_tups (a b : List Int) : PyData.eqvAll (toPys (a.map D.int)) (toPys (b.map D.int)) = decide (a = b) :=
  bool_dec ((eqvs_iff (plain_ints a) (plain_ints b)).trans ⟨map_int_inj, fun e => by rw [e]⟩)
theorem inD_ints (x : Int) (ys : List Int) : inD (.int x) (ys.map D.int) = decide (x ∈ ys) := by
  unfold inD
  rw [List.map_map]
  have e : (toV ∘ D.int) = V.int := rfl
  rw [e]
  refine bool_dec ?_
  unfold inV
  simp only [toV]
  induction ys with
  | nil => simp
  | cons y ys ih =>
    simp only [List.map_cons, List.any_cons, Bool.or_eq_true, List.mem_cons]
    rw [ih]
    show ((y == x) = true ∨ x ∈ ys) ↔ _
    rw [beq_iff_eq]
    exact ⟨fun h => h.imp Eq.symm id, fun h => h.imp Eq.symm id⟩
end QL
end L2
/-! tuple * int, any count up to 1000 -/
namespace L2
namespace QL
open PySem PySem.Spec PyProof.Rows
theorem tup_mul1 (l : Addr) (items : Array Value) (n : Nat) (dd : Option Addr) (sl : Array (Option Value)) (u : Tok) :
    Meets (Builtin.«tuple.__mul__» ⟨[.ref l, .int 1 u], []⟩) (fun _ R s => s.heap.get? l = some { cls := .type "tuple", dict := dd, data := .seq items n, slots := sl } ∧ R (.ok (.ret (Value.ref l))) s) :=
  .of_wp fun prog w A R s h => by
    obtain ⟨hp, g, d, tk, os⟩ := s
    obtain ⟨hl, h⟩ := h
    have f1 := AutoSeq1.idx_int
    have c0 : (decide ((1 : Int) < -(2 ^ 63)) || decide ((1 : Int) ≥ 2 ^ 63)) = false := by decide
    have c1 : (items.isEmpty || (1 : Int) == 1) = true := by rw [Bool.or_eq_true]; exact .inr rfl
    wp_walk using wpAny_loadPart' hl
    repeat (first
      | (refine wpAny_ite_false (decide_eq_false (by rw [c0]; exact Bool.false_ne_true)) ?_; wp_walk using wpAny_loadPart' hl)
      | (refine wpAny_ite_true (decide_eq_true c1) ?_; wp_walk using wpAny_loadPart' hl))
    exact ⟨_, rfl, h⟩
theorem tup_mul0 (l : Addr) (items : Array Value) (n : Nat) (dd : Option Addr) (sl : Array (Option Value)) (u : Tok) (hne : items.isEmpty = false) :
    Meets (Builtin.«tuple.__mul__» ⟨[.ref l, .int 0 u], []⟩) (fun _ R s => s.heap.get? l = some { cls := .type "tuple", dict := dd, data := .seq items n, slots := sl } ∧
      R (.ok (.ret (Value.ref s.heap.objs.size))) { s with heap := s.heap.push { cls := Value.type "tuple", data := Data.seq #[] }, toks := s.toks }) :=
  .of_wp fun prog w A R s h => by
    obtain ⟨hp, g, d, tk, os⟩ := s
    obtain ⟨hl, h⟩ := h
    have f1 := AutoSeq1.idx_int
    have c0 : (decide ((0 : Int) < -(2 ^ 63)) || decide ((0 : Int) ≥ 2 ^ 63)) = false := by decide
    have c1 : (items.isEmpty || (0 : Int) == 1) = false := by rw [hne]; rfl
    have c2 : (decide ((0 : Int) ≤ 0) || items.isEmpty) = true := by rw [Bool.or_eq_true]; exact .inl rfl
    wp_walk using wpAny_loadPart' hl
    repeat (first
      | (refine wpAny_ite_false (decide_eq_false (by rw [c0]; exact Bool.false_ne_true)) ?_; wp_walk using wpAny_loadPart' hl)
      | (refine wpAny_ite_false (decide_eq_false (by rw [c1]; exact Bool.false_ne_true)) ?_; wp_walk using wpAny_loadPart' hl)
      | (refine wpAny_ite_true (decide_eq_true c2) ?_; wp_walk using wpAny_loadPart' hl))
    exact ⟨_, rfl, h⟩
def rRepA (K : PySem.W.Frag) : R2 := fun x y H Q => rRepT K x y H Q ∨ (∃ l xs, x = .ref l ∧ y = .int 1 ∧ SqT K H l xs ∧ Q (.ref l) H) ∨ ∃ l xs, x = .ref l ∧ y = .int 0 ∧ SqT K H l xs ∧ xs ≠ [] ∧ ∀ p, H p = none → Q (.ref p) (upd H p (.tup []))
section
variable {X : Cx}
theorem op_repA : OpR X (binaryOp .Mult) (rRepA X.K) := by
  intro pins s σ H x y v u Q I rx ry h
  rcases h with h | ⟨l, xs, rfl, rfl, hT, q⟩ | ⟨l, xs, rfl, rfl, hT, hne, q⟩
  · exact op_repT pins s σ H x y v u Q I rx ry h
  · cases rx
    obtain ⟨t, rfl⟩ := ry
    obtain ⟨its, r, ⟨⟨cls, dd, data, sl⟩, ho, hc, n, hd⟩, hs⟩ := I.tuple hT
    simp only at hc hd
    subst hc hd
    exact wpAny_binaryOp_repeat_ref (T := "tuple") (U := "int") (by decide) ⟨_, ho, rfl⟩ (fun s' => typeIs_int s' 1 t) noFill_tuple_mul F.fills_int_mul F.slot_int_rmul repeat_tuple F.slot_int_index.lookup
      (call_meets F.slot_int_rmul (typeIs_int s 1 t) F.entry_int_rmul (F.args_int_rmul_2 _ _) (int_rmul_tuple 1 t l its.toArray n dd sl)
        ⟨ho, rfl, ⟨_, ho, rfl⟩, call_meets F.slot_tuple_mul ⟨_, ho, rfl⟩ F.entry_tuple_mul (F.args_tuple_mul_2 _ _) (tup_mul1 l its.toArray n dd sl t) ⟨ho, ⟨.ref l, H, I, rfl, q⟩⟩⟩)
  · cases rx
    obtain ⟨t, rfl⟩ := ry
    obtain ⟨its, r, ⟨⟨cls, dd, data, sl⟩, ho, hc, n, hd⟩, hs⟩ := I.tuple hT
    simp only at hc hd
    subst hc hd
    have hi : its.toArray.isEmpty = false := by
      cases r with
      | nil => exact absurd rfl hne
      | cons a b => rfl
    refine wpAny_binaryOp_repeat_ref (T := "tuple") (U := "int") (by decide) ⟨_, ho, rfl⟩ (fun s' => typeIs_int s' 0 t) noFill_tuple_mul F.fills_int_mul F.slot_int_rmul repeat_tuple F.slot_int_index.lookup
      (call_meets F.slot_int_rmul (typeIs_int s 0 t) F.entry_int_rmul (F.args_int_rmul_2 _ _) (int_rmul_tuple 0 t l its.toArray n dd sl)
        ⟨ho, rfl, ⟨_, ho, rfl⟩, call_meets F.slot_tuple_mul ⟨_, ho, rfl⟩ F.entry_tuple_mul (F.args_tuple_mul_2 _ _) (tup_mul0 l its.toArray n dd sl t hi) ⟨ho, ?_⟩⟩)
    exact ⟨.ref s.heap.objs.size, _, I.laid (t' := s.toks) (o := .tup []) (fun b ob q => Heap.get?_push_of_some _ q) (Nat.le_refl _) ⟨by decide, [], .nil, IsTup.new _ _⟩, rfl, q _ (I.hok.fresh (Nat.le_refl _))⟩
end
def rdRep : RD := fun x y S Q => match x, y with
  | .tup xs, .int k => (xs ≠ [] ∧ 0 ≤ k ∧ k ≤ 1000 ∧ xs.length ≤ 1000) ∧ Q (.tup (List.replicate k.toNat xs).flatten) S
  | _, _ => False
theorem Reps.rep {K : PySem.W.Frag} {H : Hp} {ds : List D} {vs : List V} (r : Reps K H ds vs) : ∀ n : Nat, Reps K H (List.replicate n ds).flatten (List.replicate n vs).flatten
  | 0 => .nil
  | n + 1 => by
    rw [List.replicate_succ, List.replicate_succ, List.flatten_cons, List.flatten_cons]
    exact r.append (Reps.rep r n)
theorem od_rep {K : PySem.W.Frag} : OpD K (rRepA K) rdRep := by
  intro d1 d2 S Q0 v1 v2 H Q rs r1 r2 h k
  unfold rdRep at h
  split at h
  · rename_i xs n
    obtain ⟨⟨hne, h0, h1, hz⟩, h⟩ := h
    cases r2
    cases r1 with
    | tup hq r =>
      rename_i a vs
      have hne' : vs ≠ [] := fun e => by
        subst e
        cases r
        exact hne rfl
      by_cases c0 : n = 0
      · subst c0
        refine .inr (.inr ⟨_, _, rfl, rfl, hq, hne', fun p hp => ?_⟩)
        have f : Free (H p) := by rw [hp]; trivial
        exact k _ S _ _ h (Post.lay hp) (rs.upd f (rs.none_of hp)) (.tup (.of upd_same) .nil)
      · by_cases c1 : n = 1
        · subst c1
          refine .inr (.inl ⟨_, _, rfl, rfl, hq, ?_⟩)
          have e : (List.replicate (1 : Int).toNat xs).flatten = xs := by simp
          rw [e] at h
          exact k _ S _ H h Post.refl rs (.tup hq r)
        · refine .inl ⟨_, _, _, rfl, rfl, hq, hne', by omega, h1, by rw [← r.length]; exact hz, fun p hp => ?_⟩
          have f : Free (H p) := by rw [hp]; trivial
          exact k _ S _ _ h (Post.lay hp) (rs.upd f (rs.none_of hp)) (.tup (.of upd_same) ((r.rep _).mono (TK.upd f)))
  · exact h.elim
theorem de_rep {X : Cx} {a b : Expr} {ta tb : TD} {pos : Pos} (ha : DE X a ta) (hb : DE X b tb) : DE X (.BinOp a .Mult b pos) (dBin rdRep ta tb) := de_op op_repA od_rep ha hb
end QL
end L2
/-! sorted(set(x)) of a list of ints; tuple * int for every int -/
namespace L2
namespace QL
open PySem PySem.Spec PyProof.Rows
section
variable {P : Program} {w : World} {A : Around} {E : Value → Shared → Prop} {s : Shared}
/-- a new set of the ints of a list, its table led -/
theorem set_of_list {l : Addr} {items : Array Value} (ns : List Int) {Q : Value → Shared → Prop} (hh : A.handled = none) (hl : s.heap.IsList l items) (hit : IntsAre items.toList ns) (hb : ns.length + 1 < scanBound)
    (h : ∀ (h' : Heap) (tk c : Nat), SetR w h' s.heap.objs.size (fun j => decide (j ∈ ns)) c → c ≤ ns.length → (∀ b o, s.heap.get? b = some o → h'.get? b = some o) → Q (.ref s.heap.objs.size) { s with heap := h', toks := tk }) :
    wpAny (model P w) A (call (.type "set") [.ref l]) Q E s := by
  have hisz : items.size = ns.length := by
    have q := IntsAre.length hit
    rwa [Array.length_toList] at q
  obtain ⟨ob, hob⟩ : ∃ ob : Obj, ob = { cls := .type "set", dict := none, data := .set #[] 0 (.fresh 0 0 (!w.params.followText "set-order")) } := ⟨_, rfl⟩
  obtain ⟨c, tl, hmro⟩ := F.called_set.mro
  have hmade := F.called_set.made
  have hsub := F.called_set.sub
  refine wpAny_call (codeAny_of_tree ?_)
  show wpAny _ _ (callAny (.type "set") _) _ _ _
  refine wpAny_pure ⟨Code.quiet_builtin _ (by decide +kernel), codeAny_builtin F.entry_type_call ?_⟩
  rw [Around.under_plain (weight_type_call_type "set" [.ref l] []) rfl]
  have h1 := F.called_set.notType
  have h2 := F.called_set.canCreate
  have hct := F.typeCall_set_1 (.ref l)
  repeat (any_goals (first | assumption | wp_step))
  refine codeAny_mono (code_set_led1 (.ref l) (E := E) (Q₁ := fun x s₁ => x = .ref s.heap.objs.size ∧ s₁ = { s with heap := s.heap.push ob }) ⟨rfl, by rw [hob]⟩) fun r s₁ hr => ?_
  rcases r with e | (_ | _ | _ | x)
  · exact hr
  · exact hr.elim
  · exact hr.elim
  · exact hr.elim
  obtain ⟨rfl, rfl⟩ := hr
  have hc0 : ob.cls = .type "set" := by rw [hob]
  have hS : (s.heap.push ob).get? s.heap.objs.size = some { cls := .type "set", dict := none, data := .set #[] 0 (.fresh 0 0 (!w.params.followText "set-order")) } := by
    rw [← hob]
    exact Heap.get?_push_size _ (by rw [hob] <;> rfl)
  have hT : Shared.TypeIs { s with heap := s.heap.push ob } (.ref s.heap.objs.size) "set" := ⟨_, hS, rfl⟩
  have hli := F.called_set.init.lookup
  have hbi := F.called_set.init.bind (.ref s.heap.objs.size)
  repeat (any_goals (first | assumption | wp_step))
  refine codeAny_mono (codeAny_call_builtin (R := wants (fun r s₂ => r = .none ∧ ∃ h' tk c, s₂ = { s with heap := h', toks := tk } ∧ SetR w h' s.heap.objs.size (fun j => decide (j ∈ ns)) c ∧ c ≤ ns.length ∧
      (∀ b o, s.heap.get? b = some o → h'.get? b = some o)) E) F.called_set.init.plain F.entry_set_init (check_set_init_1 hT ?_)) fun r₂ s₂ hr₂ => ?_
  · obtain ⟨⟨ocls, odict, odata, oslots⟩, hol, hcl, nl, hdl⟩ := hl
    simp only at hcl hdl
    subst hcl; subst hdl
    have hlS : l < s.heap.objs.size := Heap.lt_size hol
    have hol' : (s.heap.push ob).get? l = some { cls := .type "list", dict := odict, data := .seq items nl, slots := oslots } := Heap.get?_push_of_some _ hol
    have hsls : isSubtype (.type "list") (.type "set") = pure false := by rw [isSubtype_type]; kernel_rfl
    have hslf : isSubtype (.type "list") (.type "frozenset") = pure false := by rw [isSubtype_type]; kernel_rfl
    have hne : (Value.type "list" == Value.type "dict") = false := by decide
    have hl1 : (s.heap.push ob).IsList l items := ⟨_, hol', rfl, nl, rfl⟩
    unfold Builtin.«set.__init__» noKeywords Builtin.Frozenset.updateFrom
    generalize hPI : pyIter = PI
    wp_walk
    subst hPI
    refine wpAny_pyIter_list hl1 ?_
    refine wpAny_bind (wpAny_runValue ?_)
    have hh3 : A.in1.in1.in1.handled = none := by simp [hh]
    have hz1 : (s.heap.push ob).objs.size = s.heap.objs.size + 1 := Heap.size_push ..
    have hneI : l ≠ (s.heap.push ob).objs.size := by rw [hz1]; exact Nat.ne_of_lt (Nat.lt_succ_of_lt hlS)
    have hSf : s.heap.objs.size ∉ [(s.heap.push ob).objs.size, l] := by
      rw [hz1]; simp only [List.mem_cons, List.mem_singleton, List.not_mem_nil, or_false, not_or]
      exact ⟨Nat.ne_of_lt (Nat.lt_succ_self _), Nat.ne_of_gt hlS⟩
    have hval : ∀ (i : Nat) (v : Value), items[i]? = some v → ∃ k t, ns[i]? = some k ∧ v = .int k t := fun i v hv => by
      have hi : i < ns.length := by rw [← hisz]; exact (Array.getElem?_eq_some_iff.mp hv).1
      obtain ⟨t, e⟩ := PyProof.Rows.IntsAre.int_at hit i v (by rw [Array.getElem?_toList]; exact hv)
      refine ⟨ns[i], t, List.getElem?_eq_getElem hi, ?_⟩
      rw [e, List.getD_eq_getElem?_getD, List.getElem?_eq_getElem hi] <;> rfl
    refine set_update_ints ((Walks.list hh3 _ l hneI items).toS) s.heap.objs.size hSf ns hisz hb hval (items.size - 0) 0 _ (by omega) (Nat.zero_le _) ⟨⟨_, Heap.get?_push_size _ rfl, rfl, rfl⟩, (hl1.push _)⟩ ?hS0 ?hR
    case hS0 =>
      have g := Heap.get?_push_of_some { cls := .type "list_iterator", data := .fields #[.ref l, .int 0 0] } hS
      exact ⟨0, Nat.le_refl 0, setR_new_at g⟩
    case hR =>
      intro s' c' hm hc' hS'
      obtain ⟨h', g2, d', tk', os'⟩ := s'
      have eg : g2 = s.gens := hm.gens
      have ed : d' = s.drawn := hm.drawn
      have eo : os' = s.os := hm.os
      subst eg; subst ed; subst eo
      show wpAny _ _ _ _ _ _
      refine wpAny_pure ?_
      show wpAny _ _ (ret Value.none) _ _ _
      rw [hisz] at hc'
      refine wpAny_pure ⟨rfl, h', tk', c', rfl, hS', hc', fun b o e => ?_⟩
      have hb0 : b < s.heap.objs.size := Heap.lt_size e
      have hb2 : b ≠ (s.heap.push ob).objs.size := by rw [hz1]; exact Nat.ne_of_lt (Nat.lt_succ_of_lt hb0)
      exact hm.heap b o (by simp only [List.mem_cons, List.mem_singleton, List.not_mem_nil, or_false, not_or]; exact ⟨Nat.ne_of_lt hb0, hb2⟩) (Heap.get?_push_of_some _ (Heap.get?_push_of_some _ e))
  · rcases r₂ with e | (_ | _ | _ | x)
    · exact hr₂
    · exact hr₂.elim
    · exact hr₂.elim
    · exact hr₂.elim
    obtain ⟨rfl, h', tk, c', rfl, hS', hc', hk'⟩ := hr₂
    repeat (any_goals (first | assumption | wp_step))
    exact h _ _ _ hS' hc' hk'
end
/-- sorted(set(x)) -/
def rvSortSet (K : PySem.W.Frag) : V → Hp → VK → Prop := fun x H Q => ∃ (a : Addr) (ns : List Int), x = .ref a ∧ (SqL K H a (ns.map V.int) ∨ SqT K H a (ns.map V.int)) ∧ ns.length ≤ 4000 ∧ (∃ ms : List Int, ms.length < 64 ∧ ∀ n ∈ ns, n ∈ ms) ∧
  ∀ (ns' : List Int) (p : Addr), ns'.Pairwise (· < ·) → (∀ k, k ∈ ns' ↔ k ∈ ns) → H p = none → Q (.ref p) (upd H p (.lst (ns'.map V.int)))
theorem vals_of_ints : ∀ {us : List Value} {ns : List Int}, IntsAre us ns → Vals (ns.map V.int) us
  | _, _, .nil => .nil
  | _, _, .cons n t r => .cons ⟨t, rfl⟩ (vals_of_ints r)
theorem nodup_short {ns ms : List Int} (hd : ns.Nodup) (h : ∀ n ∈ ns, n ∈ ms) : ns.length ≤ ms.length := hd.length_le_of_subset h
theorem pw_nodup {ns : List Int} (h : ns.Pairwise (· < ·)) : ns.Nodup := h.imp fun {a b} h => Int.ne_of_lt h
end QL
end L2
namespace L2
namespace QL
open PySem PySem.Spec PyProof.Rows
section
variable {X : Cx} {a : Expr} {p p2 q pos : Pos}
theorem setR_few {w : World} {h : Heap} {b : Addr} {ns ms : List Int} {c : Nat} (R : SetR w h b (fun j => decide (j ∈ ns)) c) (hm : ∀ n ∈ ns, n ∈ ms) : c ≤ ms.length := by
  obtain ⟨o, es, ep, t, ho, hex, hd, g, nd, hk, hb, hf, hn, hr, hl⟩ := R
  have e : (es.toList.map keyOf).length = c := by rw [List.length_map, Array.length_toList]; exact hn
  rw [← e]
  exact nodup_short nd fun k hk2 => hm k (of_decide_eq_true ((hk k).mpr hk2))
theorem c_sortset (hc : X.calm = true) (hg : Gl X "sorted") (hm : X.mg "sorted" = none) (hg2 : Gl X "set") (hm2 : X.mg "set" = none) (na : starEach (a :: []) X.env = (false, eval a X.env) :: starEach [] X.env := by rfl) :
    C1 X a (.Call (.Name "sorted" p) [.Call (.Name "set" p2) [a] [] q] [] pos) (rvSortSet X.K) := ⟨fun ta ha => by
  refine ⟨fun pins s σ H Q I h => ?_⟩
  refine Call_ (ld_blt I hg hm boot_sorted ?_)
  refine PyProof.Rows.callWith_builtin1 (PyProof.Rows.args_cons ?_ rfl) rfl rfl
  refine Call_ (ld_blt I hg2 hm2 boot_set ?_)
  refine PyProof.Rows.callWith_type1 (PyProof.Rows.args_cons (thn (ha.run pins s σ H _ I h) fun v s1 ⟨x, H1, I1, r1, q1⟩ => PyProof.Rows.args_nil ?_) na) na rfl
  obtain ⟨l, ns, rfl, hq, hl, ⟨ms, hms, hin⟩, q1⟩ := q1
  cases r1
  have hb : ns.length + 1 < scanBound := by unfold scanBound; omega
  have fin : ∀ (h' : Heap) (tk c : Nat), SetR X.w h' s1.heap.objs.size (fun j => decide (j ∈ ns)) c → c ≤ ns.length → (∀ b o, s1.heap.get? b = some o → h'.get? b = some o) →
      wpAny (model X.prog X.w) X.A (call (.builtin "sorted") [.ref s1.heap.objs.size]) (EP X pins σ Q) X.xe { s1 with heap := h', toks := tk } := fun h' tk c R _ hk => by
    have I2 : Inv X pins σ H1 { s1 with heap := h', toks := tk } := I1.kept hk
    refine sorted_set R (I.ok.hd hc) (Nat.lt_of_le_of_lt (setR_few R hin) hms) fun s' p out c' ns' k g o hp hg' hi hs hm' hl' => ?_
    have hH : H1 p = none := I2.hok.fresh hp
    have len' : ns'.length ≤ sizeLine := by
      have := nodup_short (pw_nodup hs) (ms := ns) fun k hk => of_decide_eq_true ((hm' k).mp hk)
      rw [sizeLine_eq]; omega
    have hz' : (ns'.map V.int).length ≤ sizeLine := by rw [List.length_map]; exact len'
    have J : Inv X pins σ (upd H1 p (.lst (ns'.map V.int))) { { s1 with heap := h', toks := tk } with heap := s'.heap, gens := s'.gens, drawn := s'.drawn, toks := s'.toks } :=
      I2.call (ch := []) (Un.laid k hp hH) (I2.hok.laid k hp ⟨hz', out.toList, c', vals_of_ints hi, hg'⟩) (by rw [g]; exact I2.bare) (fun _ z => nomatch z)
    have e : s' = { { s1 with heap := h', toks := tk } with heap := s'.heap, gens := s'.gens, drawn := s'.drawn, toks := s'.toks } := by
      cases s'
      cases s1
      cases o
      rfl
    rw [e]
    exact ⟨.ref p, _, J, rfl, q1 ns' p hs (fun k => (hm' k).trans ⟨fun z => of_decide_eq_true z, fun z => decide_eq_true z⟩) hH⟩
  rcases hq with hq | hq
  · obtain ⟨its, r, pl, hz⟩ := I1.list hq
    exact set_of_list ns (I.ok.hd hc) pl.isList (by simpa using r.ints) hb fun h' tk c R hc' hk => PyProof.Rows.args_nil (fin h' tk c R hc' hk)
  · obtain ⟨its, r, pl, hz⟩ := I1.tuple hq
    exact call_set_tupI ns (I.ok.hd hc) pl (by simpa using r.ints) hb fun h' tk c R hc' hk => PyProof.Rows.args_nil (fin h' tk c R hc' hk)⟩
end
def rdSortSet : RLD := fun xs S Q => ∃ ns : List Int, xs = ns.map D.int ∧ ns.length ≤ 4000 ∧ (∃ ms : List Int, ms.length < 64 ∧ ∀ n ∈ ns, n ∈ ms) ∧
  ∀ (ns' : List Int) (p : Addr), ns'.Pairwise (· < ·) → (∀ k, k ∈ ns' ↔ k ∈ ns) → S p = none → Q (.loc p) (S.put p (.lst (ns'.map D.int)))
section
variable {K : PySem.W.Frag}
theorem lr_sortset : LstR K rdSortSet (rvSortSet K) := fun a xs vs S H Q0 Q g rr rs h k => by
  obtain ⟨ns, rfl, h1, h2, q⟩ := h
  rw [rr.ints] at g
  exact ⟨a, ns, rfl, .inl g, h1, h2, fun ns' p a1 a2 hp => k _ _ _ _ (q ns' p a1 a2 (rs.none_of hp)) (Post.new hp) (new_lst rs hp (Reps.of_ints ns')) (.loc p)⟩
theorem tr_sortset : TupR K rdSortSet (rvSortSet K) := fun a xs vs S H Q0 Q g rr rs h k => by
  obtain ⟨ns, rfl, h1, h2, q⟩ := h
  rw [rr.ints] at g
  exact ⟨a, ns, rfl, .inr g, h1, h2, fun ns' p a1 a2 hp => k _ _ _ _ (q ns' p a1 a2 (rs.none_of hp)) (Post.new hp) (new_lst rs hp (Reps.of_ints ns')) (.loc p)⟩
end
end QL
end L2
/-! sorted(x) of a list of tuples of ints -/
namespace L2
namespace QL
open PySem PySem.Spec PyProof.Rows
section
variable {prog : Program} {w : World} {A : Around} {E : Value → Shared → Prop} {s : Shared}
theorem sort_short {a : Addr} {vs : List Value} {n : Nat} {P : PySem.Fin → Shared → Prop} (ho : s.heap.get? a = some (seqObj "list" vs.toArray n)) (h1 : vs.length ≤ 1)
    (h : ∀ out : Array Value, out.toList = vs → P (.done (.ret .none)) { s with heap := sortedHeap s.heap a vs out }) : wpAny (model prog w) A (Builtin.«list.sort» ⟨[.ref a], []⟩) P E s := by
  refine SK.plain_sort (r := fun _ => 0) ho (Nat.lt_of_le_of_lt h1 (by decide)) (fun h2 => absurd (Nat.le_trans h2 h1) (by decide)) fun ps out a1 a2 _ => h out ?_
  have p := a2.map Prod.snd
  rw [List.map_snd_zip (Nat.le_refl _)] at p
  rw [a1]
  match vs, h1, p with
  | [], _, p => exact List.perm_nil.mp p
  | [v], _, p => exact List.perm_singleton.mp p
theorem sorted_short {l : Addr} {vs : List Value} {Q : Value → Shared → Prop} (hl : s.heap.IsList l vs.toArray) (h1 : vs.length ≤ 1)
    (h : ∀ out : Array Value, out.toList = vs → Q (.ref (s.heap.objs.size + 1)) { s with heap := sortedAll s.heap vs out }) : wpAny (model prog w) A (call (.builtin "sorted") [.ref l]) Q E s := by
  have hz : vs.length ≤ sizeLine := Nat.le_trans h1 (by rw [sizeLine_eq]; decide)
  refine Calls.call_function_entry kind_sorted plain_sorted entry_sorted (args_sorted1 _) ?_
  unfold Builtin.«sorted»
  refine wpAny_bind (m := checkCount "sorted" 1 1 _) (wpAny_pure ?_)
  refine wpAny_bind (collect_list hl ?_ hz)
  refine wpAny_bind (wpAny_newList ?_ hz)
  have hsz : ((s.heap.push (seqObj "list" #[] 0)).update s.heap.objs.size (Obj.mapSeq (· ++ vs.toArray))).objs.size = s.heap.objs.size + 1 := by
    rw [Heap.size_update, size_push']
  have hoL : (((s.heap.push (seqObj "list" #[] 0)).update s.heap.objs.size (Obj.mapSeq (· ++ vs.toArray))).push (seqObj "list" vs.toArray 0)).get? (s.heap.objs.size + 1) = some (seqObj "list" vs.toArray 0) := by
    rw [← hsz]; exact Heap.get?_push_size _ rfl
  show wpAny _ _ _ _ _ { s with heap := ((s.heap.push (seqObj "list" #[] 0)).update s.heap.objs.size (Obj.mapSeq (· ++ vs.toArray))).push (seqObj "list" vs.toArray 0) }
  rw [hsz]
  refine wpAny_bind (wpAny_holding (wpAny_call_entry slot_list_sort ⟨_, hoL, rfl⟩ entry_list_sort (sort_short hoL h1 fun out a1 => ⟨_, rfl, ?_⟩) (args_list_sort _)))
  exact wpAny_pure ⟨_, rfl, h out a1⟩
end
def rSort1 (K : PySem.W.Frag) : List V → Hp → VK → Prop := fun vs H Q => ∃ (a : Addr) (xs : List V), vs = [V.ref a] ∧ SqL K H a xs ∧ xs.length ≤ 1 ∧ ∀ p, H p = none → Q (.ref p) (upd H p (.lst xs))
theorem cr_sort1 {X : Cx} : CallR X (.builtin "sorted") (rSort1 X.K) := by
  intro pins s σ H vs us Q I r h
  obtain ⟨a, xs, rfl, hs, h1, q⟩ := h
  obtain ⟨its, rv, hl, hz⟩ := I.list hs
  rw [Vals.ref1 r]
  refine sorted_short hl.isList (by rw [← rv.length]; exact h1) fun out e => ?_
  obtain ⟨ep, he'⟩ := PyProof.Rows.sortedAll_at s.heap its out
  have rv' : Vals xs out.toList := by rw [e]; exact rv
  exact ⟨.ref _, upd H (s.heap.objs.size + 1) (.lst xs), I.laid (t' := s.toks) (fun _ _ => PyProof.Rows.sortedAll_old) (Nat.le_succ _) ⟨hz, out.toList, ep, rv', he'⟩, rfl, q _ (I.hok.fresh (Nat.le_succ _))⟩
/-- sorted(x) of ints, of tuples of ints, of at most one item -/
def rSortA (K : PySem.W.Frag) (xs : List V) (H : Hp) (Q : VK) : Prop := rSortedI K xs H Q ∨ rSort1 K xs H Q ∨ ∃ d B, 1 ≤ d ∧ rSortU K d B xs H Q
def rvSortA (K : PySem.W.Frag) : V → Hp → VK → Prop := fun x H Q => rSortA K [x] H Q
theorem c_sortA {X : Cx} {a : Expr} {p pos : Pos} (hg : Gl X "sorted") (hm : X.mg "sorted" = none) (he : starEach (a :: []) X.env = (false, eval a X.env) :: starEach [] X.env := by rfl) : C1 X a (.Call (.Name "sorted" p) [a] [] pos) (rvSortA X.K) :=
  c1_b (r := rSortA X.K) (fun pins s σ H xs us Q I r h => by
    rcases h with h | h | ⟨d, B, hd, h⟩
    · exact cr_sortedI pins s σ H xs us Q I r h
    · exact cr_sort1 pins s σ H xs us Q I r h
    · exact cr_sortT hd pins s σ H xs us Q I r h) hg hm boot_sorted (he := he)
abbrev tupI (l : List Int) : D := .tup (l.map D.int)
def rdSortT : RLD := fun xs S Q => ∃ (d : Nat) (B : Int) (ls : List (List Int)), xs = ls.map tupI ∧ ls.length < 64 ∧ (∀ l ∈ ls, l.length = d ∧ TS.Bd B l) ∧ (d = 0 → ls.length ≤ 1) ∧
  ∀ (ls' : List (List Int)) (p : Addr), ls'.Perm ls → ls'.Pairwise (fun x y => TS.code B x ≤ TS.code B y) → S p = none → Q (.loc p) (S.put p (.lst (ls'.map tupI)))
section
variable {K : PySem.W.Frag} {H : Hp}
theorem reps_perm {vs ys : List V} (h : ys.Perm vs) : ∀ {ls : List (List Int)}, Reps K H (ls.map tupI) vs → ∃ ls' : List (List Int), Reps K H (ls'.map tupI) ys ∧ ls'.Perm ls := by
  induction h with
  | nil => exact fun {ls} r => ⟨ls, r, .refl _⟩
  | cons x _ ih =>
    intro ls r
    cases ls with
    | nil => cases r
    | cons l ls =>
      cases r with
      | cons h t =>
        obtain ⟨ls', r', p'⟩ := ih t
        exact ⟨l :: ls', .cons h r', p'.cons _⟩
  | swap x y l =>
    intro ls r
    match ls, r with
    | a :: b :: ls, .cons h1 (.cons h2 t) => exact ⟨b :: a :: ls, .cons h2 (.cons h1 t), .swap _ _ _⟩
  | trans _ _ ih1 ih2 =>
    intro ls r
    obtain ⟨l1, r1, p1⟩ := ih2 r
    obtain ⟨l2, r2, p2⟩ := ih1 r1
    exact ⟨l2, r2, p2.trans p1⟩
theorem tupI_of {l : List Int} {v : V} (r : Rep K H (tupI l) v) : TupI K H v l := by
  cases r with
  | tup hq q =>
    rw [q.ints] at hq
    exact ⟨_, rfl, hq⟩
theorem pw_tup {B : Int} : ∀ {ls : List (List Int)} {ys : List V}, Reps K H (ls.map tupI) ys → ys.Pairwise (fun x y => ∀ n m, TupI K H x n → TupI K H y m → TS.code B n ≤ TS.code B m) → ls.Pairwise fun x y => TS.code B x ≤ TS.code B y
  | [], _, _, _ => .nil
  | l :: ls, _, .cons h t, pw => by
    obtain ⟨p1, p2⟩ := List.pairwise_cons.mp pw
    refine List.pairwise_cons.mpr ⟨fun m hm => ?_, pw_tup t p2⟩
    have go : ∀ {ls : List (List Int)} {ys : List V}, Reps K H (ls.map tupI) ys → m ∈ ls → ∃ y ∈ ys, TupI K H y m := by
      intro ls
      induction ls with
      | nil => intro _ _ hm; cases hm
      | cons a ls ih =>
        intro ys r hm
        cases r with
        | cons h t =>
          rcases List.mem_cons.mp hm with rfl | hm
          · exact ⟨_, List.mem_cons_self, tupI_of h⟩
          · obtain ⟨y, hy, q⟩ := ih t hm
            exact ⟨y, List.mem_cons_of_mem _ hy, q⟩
    obtain ⟨y, hy, q⟩ := go t hm
    exact p1 y hy l m (tupI_of h) q
theorem reps_tup : ∀ {ls : List (List Int)} {vs : List V}, Reps K H (ls.map tupI) vs → ∀ v ∈ vs, ∃ l ∈ ls, TupI K H v l
  | [], _, .nil, _, hv => nomatch hv
  | l :: ls, _, .cons h t, v, hv => by
    rcases List.mem_cons.mp hv with rfl | hv
    · exact ⟨l, List.mem_cons_self, tupI_of h⟩
    · obtain ⟨l', h1, h2⟩ := reps_tup t v hv
      exact ⟨l', List.mem_cons_of_mem _ h1, h2⟩
end
def rdSortA : RLD := fun xs S Q => rdSort xs S Q ∨ rdSortT xs S Q
theorem lr_sortA {K : PySem.W.Frag} : LstR K rdSortA (rvSortA K) := fun a xs vs S H Q0 Q g rr rs h k => by
  rcases h with h | ⟨d, B, ls, rfl, h64, hl, h0, q⟩
  · exact .inl (lr_sort a xs vs S H Q0 Q g rr rs h k)
  have hlen : vs.length = ls.length := by rw [← rr.length, List.length_map]
  by_cases hd : ls.length ≤ 1
  · refine .inr (.inl ⟨a, vs, rfl, g, by omega, fun p hp => ?_⟩)
    refine k _ _ _ _ (q ls p (.refl _) ?_ (rs.none_of hp)) (Post.new hp) (new_lst rs hp rr) (.loc p)
    match ls, hd with
    | [], _ => exact .nil
    | [x], _ => exact List.pairwise_singleton _ _
  · refine .inr (.inr ⟨d, B, by omega, a, vs, rfl, g, by omega, fun x hx => ?_, fun ys p hy hpw hp => ?_⟩)
    · obtain ⟨l, h1, h2⟩ := reps_tup rr x hx
      exact ⟨l, h2, hl l h1⟩
    · obtain ⟨ls', r', p'⟩ := reps_perm hy rr
      exact k _ _ _ _ (q ls' p p' (pw_tup r' hpw) (rs.none_of hp)) (Post.new hp) (new_lst rs hp r') (.loc p)
end QL
end L2
/-! keywords -/
namespace L2
namespace QL
open PySem PySem.Spec PyProof.Rows
def pick2 {α : Type} (idx : List (Sum Nat Nat)) (us ws : List α) : List α := idx.filterMap fun i => match i with
  | .inl a => us[a]?
  | .inr b => ws[b]?
theorem Paired.at {α β : Type} {F : α → β → Prop} : ∀ {xs : List α} {ys : List β} (i : Nat), Paired F xs ys → (xs[i]? = none ∧ ys[i]? = none) ∨ ∃ a b, xs[i]? = some a ∧ ys[i]? = some b ∧ F a b
  | _, _, _, .nil => .inl ⟨rfl, rfl⟩
  | _, _, 0, .cons h _ => .inr ⟨_, _, rfl, rfl, h⟩
  | _, _, i + 1, .cons _ t => by
    rcases Paired.at i t with h | ⟨a, b, h1, h2, h3⟩
    · exact .inl (by simpa using h)
    · exact .inr ⟨a, b, by simpa using h1, by simpa using h2, h3⟩
theorem pick2_rel {α β : Type} {F : α → β → Prop} {xs zs : List α} {ys ws : List β} (h1 : Paired F xs ys) (h2 : Paired F zs ws) : ∀ idx : List (Sum Nat Nat), Paired F (pick2 idx xs zs) (pick2 idx ys ws)
  | [] => .nil
  | .inl a :: idx => by
    have ih := pick2_rel h1 h2 idx
    unfold pick2 at ih ⊢
    rcases Paired.at a h1 with ⟨e1, e2⟩ | ⟨x, y, e1, e2, e3⟩
    · rw [List.filterMap_cons_none (by exact e1), List.filterMap_cons_none (by exact e2)]; exact ih
    · rw [List.filterMap_cons_some (by exact e1), List.filterMap_cons_some (by exact e2)]; exact .cons e3 ih
  | .inr a :: idx => by
    have ih := pick2_rel h1 h2 idx
    unfold pick2 at ih ⊢
    rcases Paired.at a h2 with ⟨e1, e2⟩ | ⟨x, y, e1, e2, e3⟩
    · rw [List.filterMap_cons_none (by exact e1), List.filterMap_cons_none (by exact e2)]; exact ih
    · rw [List.filterMap_cons_some (by exact e1), List.filterMap_cons_some (by exact e2)]; exact .cons e3 ih
theorem reps_paired {K : PySem.W.Frag} {H : Hp} : ∀ {ds : List D} {vs : List V}, Reps K H ds vs → Paired (Rep K H) ds vs
  | _, _, .nil => .nil
  | _, _, .cons h t => .cons h (reps_paired t)
theorem paired_reps {K : PySem.W.Frag} {H : Hp} : ∀ {ds : List D} {vs : List V}, Paired (Rep K H) ds vs → Reps K H ds vs
  | _, _, .nil => .nil
  | _, _, .cons h t => .cons h (paired_reps t)
/-- how a call with keywords binds -/
def KwB (K : PySem.W.Frag) (fd : FuncData) (ps : List Str) (n : Nat) (ks : List Str) (idx : List (Sum Nat Nat)) : Prop :=
  ∀ (s : Shared) (us ws : List Value), K.In s.heap → us.length = n → ws.length = ks.length → BindsTo s fd ⟨us, ks.zip ws⟩ (ps.zip (pick2 idx us ws))
theorem kwb_of {K : PySem.W.Frag} {x qual : Str} {st : Stmt} {f : Addr} {fd : FuncData} {ps : List Str} {n : Nat} {ks : List Str} {idx : List (Sum Nat Nat)} (F : Fun K x qual st f fd)
    (h : ∀ (kV doc pm : Value) (an : Option Addr) (cdv ct : Value) (us ws : List Value), us.length = n → ws.length = ks.length → bindArgs (PySem.W.fnOf x qual (defArgs st) (defBody st) (defScope st) .none kV doc pm an cdv ct) ⟨us, ks.zip ws⟩ = pure (ps.zip (pick2 idx us ws))) : KwB K fd ps n ks idx := by
  obtain ⟨oc, od, kV, doc, pm, an, cdv, ct, osl, rfl, lk, hcd⟩ := F.ex
  exact fun s us ws _ l1 l2 => .of_eq (h kV doc pm an cdv ct us ws l1 l2)
structure CalK (P : Program) (w : World) (K : PySem.W.Frag) (mg : Str → Option Value) (base : Heap) (k : Nat) (x : Str) (sp : SpD) (n : Nat) (ks : List Str) (idx : List (Sum Nat Nat)) : Prop where
  ex : ∃ (f : Addr) (fd : FuncData) (ps : List Str), FnD P w K mg base k f fd ps sp ∧ mg x = some (.ref f) ∧ PySem.W.keepIn K (.ref f) = true ∧ KwB K fd ps n ks idx
structure MakK (P : Program) (w : World) (K : PySem.W.Frag) (mg : Str → Option Value) (base : Heap) (k : Nat) (x : Str) (C : Addr) (sp : SpD) (n : Nat) (ks : List Str) (idx : List (Sum Nat Nat)) : Prop where
  ex : ∃ (f : Addr) (fd : FuncData) (ps : List Str), Mk K C f ∧ FnD P w K mg base k f fd ps sp ∧ mg x = some (.ref C) ∧ KwB K fd ps (n + 1) ks idx
structure MetK (P : Program) (w : World) (K : PySem.W.Frag) (mg : Str → Option Value) (base : Heap) (k : Nat) (C : Addr) (m : Str) (sp : SpD) (n : Nat) (ks : List Str) (idx : List (Sum Nat Nat)) : Prop where
  ex : ∃ (f : Addr) (fd : FuncData) (ps : List Str), Cls K C ∧ Meth K C m f ∧ FnD P w K mg base k f fd ps sp ∧ KwB K fd ps (n + 1) ks idx
abbrev DKw (X : Cx) (kws : List Keyword) (t : TAD) : Prop := PK X kws (emA X.K t)
theorem PK.le {X : Cx} {e : List Keyword} {t u : TA} (h : PK X e t) (k : ∀ σ H Q, u σ H Q → t σ H Q) : PK X e u := ⟨fun po pins s σ H Q I q => h.run po pins s σ H Q I (k _ _ _ q)⟩
section
variable {X : Cx}
theorem dk_nil : DKw X [] dNil := PK.le pk_nil fun σ H Q h => by
  obtain ⟨e, S, Q0, re, rs, ht, k⟩ := h
  exact k [] S _ H ht Post.refl rs .nil
theorem dk_cons {nm : Option Str} {e : Expr} {kpos : Pos} {kws : List Keyword} {te : TD} {t : TAD} (ha : DE X e te) (hr : DKw X kws t) : DKw X (⟨nm, e, kpos⟩ :: kws) (dCons te t) := PK.le (pk_cons ha hr) fun σ H Q h => by
  obtain ⟨e, S, Q0, re, rs, ht, k⟩ := h
  refine ⟨e, S, _, re, rs, ht, fun x S1 v1 H1 h1 p1 rs1 r1 => ?_⟩
  refine ⟨e, S1, _, re.mono p1.tk, rs1, h1, fun xs S2 vs H2 h2 p2 rs2 r2 => ?_⟩
  exact k _ S2 _ H2 h2 (p1.trans p2) rs2 (.cons (r1.mono p2.tk) r2)
end
def dCallK (n m : Nat) (sp : SpD) (idx : List (Sum Nat Nat)) (t tk : TAD) : TD := fun e S Q => t e S fun ds S1 => tk e S1 fun zs S2 => (ds.length = n ∧ zs.length = m) ∧ sp (pick2 idx ds zs) S2 Q
def dMakeK (C : Addr) (n m : Nat) (sp : SpD) (idx : List (Sum Nat Nat)) (t tk : TAD) : TD := fun e S Q => t e S fun ds S1 => tk e S1 fun zs S2 => (ds.length = n ∧ zs.length = m) ∧
  ∀ a, S2 a = none → sp (pick2 idx (.loc a :: ds) zs) (S2.put a (.ins C [])) fun d S3 => d = .non ∧ Q (.loc a) S3
section
variable {X : Cx} {k j n : Nat} {f C : Addr} {fd : FuncData} {ps ks : List Str} {sp : SpD} {idx : List (Sum Nat Nat)} {x : Str} {p pos : Pos} {e : Expr} {es : List Expr} {kws : List Keyword} {t tk : TAD}
theorem run_fndK {pins : List (Addr × Obj)} {σ : St} {H : Hp} {s : Shared} {Q : VK} {us ws : List Value} {vs zs : List V} (F : FnD X.prog X.w X.K X.mg X.base k f fd ps sp) (hr : RoomG k X.A) (hb : KwB X.K fd ps n ks idx)
    (I : Inv X pins σ H s) (r : Vals vs us) (rz : Vals zs ws) (l1 : vs.length = n) (l2 : zs.length = ks.length) (h : emSp X.K sp (pick2 idx vs zs) H Q) : wpAny (model X.prog X.w) X.A (call (.ref f) us (ks.zip ws)) (EP X pins σ Q) X.xe s := by
  refine wpAny_call (codeAny_mono (F.run X.A X.stack s H ⟨us, ks.zip ws⟩ (pick2 idx us ws) (pick2 idx vs zs) Q hr I.env0 (hb s us ws I.kIn (r.length.symm.trans l1) (rz.length.symm.trans l2)) (pick2_rel r rz idx) h) fun r s' hq => ?_)
  rcases r with _ | (_ | _ | _ | u)
  · exact hq.elim
  · exact False.elim hq
  · exact False.elim hq
  · exact False.elim hq
  · exact I.after hq
theorem em_callK {K : PySem.W.Frag} {m : Nat} {σ : St} {H : Hp} {Q : VK} (h : emE K (dCallK n m sp idx t tk) σ H Q) : emA K t σ H fun vs H1 => emA K tk σ H1 fun zs H2 => (vs.length = n ∧ zs.length = m) ∧ emSp K sp (pick2 idx vs zs) H2 Q := by
  obtain ⟨e, S, Q0, re, rs, ht, k⟩ := h
  refine ⟨e, S, _, re, rs, ht, fun ds S1 vs H1 q p rs1 r => ?_⟩
  refine ⟨e, S1, _, re.mono p.tk, rs1, q, fun zs S2 ws H2 q2 p2 rs2 r2 => ?_⟩
  refine ⟨⟨by rw [← r.length]; exact q2.1.1, by rw [← r2.length]; exact q2.1.2⟩, _, S2, Q0, paired_reps (pick2_rel (reps_paired (r.mono p2.tk)) (reps_paired r2) idx), rs2, q2.2, fun d S' v H' q' p' rs' r' => k d S' v H' q' ((p.trans p2).trans p') rs' r'⟩
theorem de_callK {lm : Nat} (c : CalK X.prog X.w X.K X.mg X.base k x sp n ks idx) (hr : RoomG j X.A) (hk : k ≤ j) (hg : Gl X x) (ha : DA X (e :: es) t) (hkw : DKw X kws tk)
    (hall : (backToKw pos (keywordEach kws X.env)).all (·.1.isSome) = true := by rfl) (hks : (backToKw pos (keywordEach kws X.env)).filterMap (·.1) = ks := by rfl)
    (hdb : (x == ("__debug__" : Str)) = false := by decide) (he : starEach (e :: es) X.env = (false, eval e X.env) :: starEach es X.env := by rfl)
    (hpl : ((backTo pos (starEach (e :: es) X.env)).any (·.1) || (backToKw pos (keywordEach kws X.env)).any (·.1.isNone)) = false := by rfl) (hlm : ks.length = lm := by rfl) : DE X (.Call (.Name x p) (e :: es) kws pos) (dCallK n lm sp idx t tk) := by
  subst hlm
  obtain ⟨f, fd, ps, F, hm, hkp, hb⟩ := c.ex
  refine ⟨fun pins s σ H Q I h => ?_⟩
  refine wpAny_Call_Name_kw (ld_glob I hg hm ?_ hdb)
  refine PySem.W.callWith_KW (h₀ := X.base) I.ok.mod.kin hkp hall (thn (ha.run pos pins s σ H _ I (em_callK h)) fun us s1 ⟨vs, H1, I1, r, q⟩ => ?_) hpl he
  refine thn (hkw.run pos pins s1 σ H1 _ I1 q) fun ws s2 ⟨zs, H2, I2, rz, l, q2⟩ => ⟨I2.kIn, ?_⟩
  rw [hks]
  exact run_fndK F (hr.mono hk) hb I2 r rz l.1 l.2 q2
theorem de_callK0 {lm : Nat} (c : CalK X.prog X.w X.K X.mg X.base k x sp 0 ks idx) (hr : RoomG j X.A) (hk : k ≤ j) (hg : Gl X x) (hkw : DKw X kws tk)
    (hall : (backToKw pos (keywordEach kws X.env)).all (·.1.isSome) = true := by rfl) (hks : (backToKw pos (keywordEach kws X.env)).filterMap (·.1) = ks := by rfl)
    (hdb : (x == ("__debug__" : Str)) = false := by decide)
    (hpl : ((backTo pos (starEach [] X.env)).any (·.1) || (backToKw pos (keywordEach kws X.env)).any (·.1.isNone)) = false := by rfl) (hlm : ks.length = lm := by rfl) : DE X (.Call (.Name x p) [] kws pos) (dCallK 0 lm sp idx dNil tk) := by
  subst hlm
  obtain ⟨f, fd, ps, F, hm, hkp, hb⟩ := c.ex
  refine ⟨fun pins s σ H Q I h => ?_⟩
  refine wpAny_Call_Name_kw (ld_glob I hg hm ?_ hdb)
  refine PySem.W.callWith_KW0 (h₀ := X.base) I.ok.mod.kin hkp hall ?_ hpl
  refine thn (hkw.run pos pins s σ H _ I (emA_nil (em_callK h))) fun ws s2 ⟨zs, H2, I2, rz, l, q2⟩ => ⟨I2.kIn, ?_⟩
  rw [hks]
  exact run_fndK (us := []) (vs := []) F (hr.mono hk) hb I2 .nil rz rfl l.2 q2
end
end QL
end L2
/-! len(x) by an own __len__ -/
namespace L2
namespace QL
open PySem PySem.Spec PyProof.Rows
open MeetsSeq MeetsSeq2 MeetsSeq3 SeqRoads2
def dLenO (C : Addr) (sp : SpD) (to : TD) : TD := fun e S Q => to e S fun o S1 => match o with
  | .loc a => match S1 a with
    | some (.ins C' fs) => C' = C ∧ sp [.loc a] S1 fun d S2 => match d with
      | .int i => (0 ≤ i ∧ i < 2 ^ 63) ∧ Q (.int i) S2
      | _ => False
    | _ => False
  | _ => False
section
variable {X : Cx} {k j : Nat} {f C : Addr} {fd : FuncData} {ps : List Str} {sp : SpD} {p pos : Pos} {a : Expr} {ta : TD}
theorem call_lenO (me : Meth X.K C "__len__" f) (F : FnD X.prog X.w X.K X.mg X.base k f fd ps sp) (hb : Binds X.K fd ps []) (hr : RoomG (k + 1) X.A) :
    CallR X (.builtin "len") (fun xs H Q => ∃ a dx fs, xs = [.ref a] ∧ H a = some (.ins C dx fs) ∧ emSp X.K sp [.ref a] H (fun v H' => ∃ i : Int, v = .int i ∧ (0 ≤ i ∧ i < 2 ^ 63) ∧ Q (.int i) H')) := by
  intro pins s σ H xs us Q I r h
  obtain ⟨a, dx, fs, rfl, ea, h⟩ := h
  obtain ⟨u, rfl, rx⟩ := vals1 r
  obtain rfl : u = Value.ref a := rx
  obtain ⟨mA, J, _⟩ := ins_get I.hok ea
  obtain ⟨od, J, _⟩ := J.look
  have hr1 : RoomG k X.A.in1 := ⟨hr.rm.in1, hr.gd⟩
  have e0 : Env0 X.prog X.w X.K X.mg X.base X.A.in1 X.stack s H := by
    have e := I.env0
    exact ⟨e.frames, e.mod, e.bs, e.bsz, e.funs, e.frf, e.hok, e.bare⟩
  have hl := emSp.len F h
  have run : wpAny (model X.prog X.w) X.A.in1 (call (.ref f) [.ref a]) (EP X pins σ fun v H' => ∃ i : Int, v = .int i ∧ (0 ≤ i ∧ i < 2 ^ 63) ∧ Q (.int i) H') X.xe s := by
    refine wpAny_call (codeAny_mono (F.run X.A.in1 X.stack s H ⟨[.ref a], []⟩ [.ref a] [.ref a] _ hr1 e0 (by
      have := hb s [.ref a] I.kIn (by simpa using hl)
      simpa using this) (.cons rfl .nil) h) fun r s' hq => ?_)
    rcases r with _ | (_ | _ | _ | u)
    · exact hq.elim
    · exact False.elim hq
    · exact False.elim hq
    · exact False.elim hq
    · exact I.after hq
  refine Calls.call_function_entry kind_len plain_len entry_len (args_len1 _) ?_
  unfold Builtin.«len»
  refine wpAny_bind (m := oneArg "len" _) (wpAny_pure ?_)
  refine wpAny_bind (m := callSpecial? (.ref a) (Str.ofString "__len__")) (PySem.W.special_fn I.kIn J me.at_ (beq_iff_eq.mp me.fn) (wpAny_mono run (fun r s' hr => ?_) fun _ _ y => y))
  obtain ⟨v, H', I', rv, i, rfl, hi, q⟩ := hr
  obtain ⟨t, rfl⟩ := rv
  refine wpAny_bind (wpAny_holding (wpAny_pure ?_))
  refine wpAny_bind (wpAny_letGo ?_)
  show wpAny _ _ (if i < 0 then _ else _) _ _ _
  rw [if_neg (by omega)]
  show wpAny _ _ (if i ≥ 2 ^ 63 then _ else _) _ _ _
  rw [if_neg (by omega)]
  exact wpAny_bind (wpAny_mkInt (wpAny_pure ⟨_, rfl, .int i, H', I'.tok _, ⟨_, rfl⟩, q⟩))
theorem de_lenO (c : MetD X.prog X.w X.K X.mg X.base k C "__len__" sp []) (hr : RoomG j X.A) (hk : k + 1 ≤ j) (hg : Gl X "len") (hm : X.mg "len" = none) (ha : DE X a ta)
    (he : starEach (a :: []) X.env = (false, eval a X.env) :: starEach [] X.env := by rfl) : DE X (.Call (.Name "len" p) [a] [] pos) (dLenO C sp ta) := by
  obtain ⟨f, fd, ps, ds, dvs, cl, me, F, hb, hd, hD⟩ := c.ex
  have hdv : dvs = [] := by
    have := (hD (fun _ => none)).length
    exact List.length_eq_zero_iff.mp (by simpa using this.symm)
  subst hdv
  cases hd
  refine PE.le ((c1_b (p := p) (pos := pos) (call_lenO me F hb (hr.mono hk)) hg hm PySem.boot_len (he := he)).to _ ha) fun σ H Q h => ?_
  obtain ⟨e, S, Q0, re, rs, h1, k⟩ := h
  refine ⟨e, S, _, re, rs, h1, fun d S1 v H1 q p rs1 r => ?_⟩
  cases r with
  | loc a =>
    dsimp only at q
    split at q
    · rename_i C' fs ex
      obtain ⟨rfl, q⟩ := q
      obtain ⟨dx, fq, e2, fr⟩ := rs1 _ _ ex
      refine ⟨a, dx, fq, rfl, e2, [.loc a], S1, _, .cons (.loc a) .nil, rs1, q, fun d2 S2 v2 H2 q2 p2 rs2 r2 => ?_⟩
      cases d2 with
      | int i =>
        cases r2
        exact ⟨i, rfl, q2.1, k _ S2 _ H2 q2.2 (p.trans p2) rs2 (.int i)⟩
      | _ => exact q2.elim
    · exact q.elim
  | _ => exact q.elim
end
end QL
end L2
/-! dicts: displays, copies, get, d[k] = v, walks and comprehensions over items -/
namespace L2
namespace QL
open PySem PySem.Spec PyProof.Rows
def keyD : D → Option Key
  | .int i => some (.inl i)
  | .str x => some (.inr x)
  | _ => none
def dKey : Key → D
  | .inl i => .int i
  | .inr x => .str x
def valD (kvs : List (Key × D)) (k : Key) : Option D := (kvs.find? fun kv => decide (kv.1 = k)).map (·.2)
def putD (kvs : List (Key × D)) (k : Key) (v : D) : List (Key × D) :=
  if (kvs.any fun kv => decide (kv.1 = k)) = true then kvs.map fun kv => if kv.1 = k then (kv.1, v) else kv else kvs ++ [(k, v)]
def mergeD (kvs more : List (Key × D)) : List (Key × D) := more.foldl (fun acc kv => putD acc kv.1 kv.2) kvs
theorem rep_key {K : PySem.W.Frag} {H : Hp} {d : D} {v : V} {k : Key} (r : Rep K H d v) (e : keyD d = some k) : v = kV k := by
  cases r <;> cases e <;> rfl
theorem key_rep {K : PySem.W.Frag} {H : Hp} (k : Key) : Rep K H (dKey k) (kV k) := by
  cases k
  · exact .int _
  · exact .str _
section
variable {K : PySem.W.Frag} {H : Hp}
def RepO (K : PySem.W.Frag) (H : Hp) : Option D → Option V → Prop
  | none, none => True
  | some d, some v => Rep K H d v
  | _, _ => False
theorem KVR.val : ∀ {x : List (Key × D)} {y : List (Key × V)} (k : Key), KVR K H x y → RepO K H (valD x k) (valV y k)
  | _, _, k, .nil => trivial
  | (a, d) :: x, (b, v) :: y, k, .cons h t => by
    obtain ⟨e, r⟩ := h
    have e : a = b := e
    subst e
    have ih := KVR.val (x := x) (y := y) k t
    by_cases hk : a = k
    · have e1 : valD ((a, d) :: x) k = some d := by simp [valD, List.find?_cons, hk]
      have e2 : valV ((a, v) :: y) k = some v := valV_pos hk
      rw [e1, e2]; exact r
    · have e1 : valD ((a, d) :: x) k = valD x k := by simp [valD, List.find?_cons, hk]
      have e2 : valV ((a, v) :: y) k = valV y k := valV_neg hk
      rw [e1, e2]; exact ih
theorem KVR.any : ∀ {x : List (Key × D)} {y : List (Key × V)} (k : Key), KVR K H x y → (x.any fun kv => decide (kv.1 = k)) = (y.any fun kv => decide (kv.1 = k))
  | _, _, k, .nil => rfl
  | (a, d) :: x, (b, v) :: y, k, .cons h t => by
    have e : a = b := h.1
    subst e
    rw [List.any_cons, List.any_cons, KVR.any (x := x) (y := y) k t]
theorem KVR.rep {d : D} {v : V} (r : Rep K H d v) : ∀ {x : List (Key × D)} {y : List (Key × V)} (k : Key), KVR K H x y → KVR K H (x.map fun kv => if kv.1 = k then (kv.1, d) else kv) (y.map fun kv => if kv.1 = k then (kv.1, v) else kv)
  | _, _, k, .nil => .nil
  | (a, d0) :: x, (b, v0) :: y, k, .cons h t => by
    obtain ⟨e, r0⟩ := h
    have e : a = b := e
    subst e
    refine .cons ?_ (KVR.rep r (x := x) (y := y) k t)
    by_cases hk : a = k
    · simp only [hk, if_true]; exact ⟨trivial, r⟩
    · simp only [hk, if_false]; exact ⟨trivial, r0⟩
theorem KVR.app {x x2 : List (Key × D)} {y y2 : List (Key × V)} (h : KVR K H x y) (h2 : KVR K H x2 y2) : KVR K H (x ++ x2) (y ++ y2) := by
  induction h with
  | nil => exact h2
  | cons a b ih => exact .cons a ih
theorem KVR.put {d : D} {v : V} {x : List (Key × D)} {y : List (Key × V)} (k : Key) (r : Rep K H d v) (h : KVR K H x y) : KVR K H (putD x k d) (putK y k v) := by
  unfold putD putK
  rw [h.any k]
  split
  · exact h.rep r k
  · exact h.app (.cons ⟨rfl, r⟩ .nil)
theorem KVR.merge : ∀ {m : List (Key × D)} {n : List (Key × V)}, KVR K H m n → ∀ {x : List (Key × D)} {y : List (Key × V)}, KVR K H x y → KVR K H (mergeD x m) (mergeK y n)
  | _, _, .nil, _, _, h => h
  | (a, d) :: m, (b, v) :: n, .cons h t, x, y, hx => by
    obtain ⟨e, r⟩ := h
    have e : a = b := e
    subst e
    exact KVR.merge (m := m) (n := n) t (KVR.put a r hx)
theorem KVR.length {x : List (Key × D)} {y : List (Key × V)} (h : KVR K H x y) : x.length = y.length := by
  induction h with
  | nil => rfl
  | cons a b ih => simp [ih]
theorem KVR.get {x : List (Key × D)} {y : List (Key × V)} (h : KVR K H x y) : ∀ {i : Nat} {k : Key} {d : D}, x[i]? = some (k, d) → ∃ v, y[i]? = some (k, v) ∧ Rep K H d v := by
  induction h with
  | nil => intro i k d e; simp at e
  | cons a b ih =>
    intro i k d e
    cases i with
    | zero =>
      simp at e
      subst e
      rename_i u _ _
      obtain ⟨e1, r⟩ := a
      refine ⟨u.2, ?_, r⟩
      simp at e1
      simp [e1]
    | succ i => exact ih (by simpa using e)
end

/-! displays -/
def dPairs : List (TD × TD) → DEnv → Sto → (List (D × D) → Sto → Prop) → Prop
  | [], _, S, Q => Q [] S
  | (tk, tv) :: r, e, S, Q => tk e S fun x S1 => tv e S1 fun y S2 => dPairs r e S2 fun ps S3 => Q ((x, y) :: ps) S3
def keysD : List (D × D) → Option (List (Key × D))
  | [] => some []
  | (x, y) :: r => match keyD x, keysD r with
    | some k, some ks => some ((k, y) :: ks)
    | _, _ => none
def dDisp (ts : List (TD × TD)) : TD := fun e S Q => dPairs ts e S fun ps S1 => match keysD ps with
  | some kvs => ∀ a, S1 a = none → Q (.loc a) (S1.put a (.dic (mergeD [] kvs)))
  | none => False
def PRs (K : PySem.W.Frag) (H : Hp) (x : List (D × D)) (y : List (V × V)) : Prop := Paired (fun (a : D × D) (b : V × V) => Rep K H a.1 b.1 ∧ Rep K H a.2 b.2) x y
theorem PRs.kvr {K : PySem.W.Frag} {H : Hp} : ∀ {x : List (D × D)} {y : List (V × V)} {kvs : List (Key × D)}, PRs K H x y → keysD x = some kvs → ∃ q, KVR K H kvs q ∧ y = q.map (fun kv => (kV kv.1, kv.2))
  | _, _, kvs, .nil, e => by cases e; exact ⟨[], .nil, rfl⟩
  | (a, b) :: x, (c, d) :: y, kvs, .cons h t, e => by
    unfold keysD at e
    cases e1 : keyD a with
    | none => rw [e1] at e; cases e
    | some k =>
      cases e2 : keysD x with
      | none => rw [e1, e2] at e; cases e
      | some ks =>
        rw [e1, e2] at e; cases e
        obtain ⟨q, q1, q2⟩ := PRs.kvr (x := x) (y := y) t e2
        refine ⟨(k, d) :: q, .cons ⟨rfl, h.2⟩ q1, ?_⟩
        rw [List.map_cons, ← q2]
        have : c = kV k := rep_key h.1 e1
        rw [this]
theorem KVR.len {K : PySem.W.Frag} {H : Hp} {x : List (D × D)} {y : List (V × V)} (h : PRs K H x y) : x.length = y.length := by
  induction h with
  | nil => rfl
  | cons a b ih => simp [ih]
theorem em_pairs {K : PySem.W.Frag} : ∀ {ts : List (TD × TD)} {e : DEnv} {S : Sto} {H : Hp} {σ : St} {Q0 : List (D × D) → Sto → Prop} {Q : List (V × V) → Hp → Prop}, RelE K H e σ → RelS K S H → dPairs ts e S Q0 →
    (∀ ps S' vs H', Q0 ps S' → Post K S H S' H' → RelS K S' H' → PRs K H' ps vs → ps.length = ts.length → Q vs H') → tPairs (ts.map fun t => (emE K t.1, emE K t.2)) σ H Q
  | [], e, S, H, σ, Q0, Q, re, rs, h, k => k [] S [] H h Post.refl rs .nil rfl
  | (tk, tv) :: r, e, S, H, σ, Q0, Q, re, rs, h, k => by
    refine ⟨e, S, _, re, rs, h, fun x S1 v1 H1 h1 p1 rs1 r1 => ?_⟩
    refine ⟨e, S1, _, re.mono p1.tk, rs1, h1, fun y S2 v2 H2 h2 p2 rs2 r2 => ?_⟩
    refine em_pairs (re.mono (p1.trans p2).tk) rs2 h2 fun ps S3 vs H3 q p3 rs3 r3 hl => ?_
    exact k _ S3 _ H3 q ((p1.trans p2).trans p3) rs3 (.cons ⟨r1.mono (p2.trans p3).tk, r2.mono p3.tk⟩ r3) (by simp [hl])
theorem new_dic {K : PySem.W.Frag} {S : Sto} {H : Hp} {p : Addr} {x : List (Key × D)} {q : List (Key × V)} (rs : RelS K S H) (f : Free (H p)) (r : KVR K H x q) : RelS K (S.put p (.dic x)) (upd H p (.dK q)) :=
  rs.put f ⟨q, upd_same, r.mono (TK.upd f)⟩
section
variable {X : Cx} {pos : Pos}
abbrev DPs (X : Cx) (pos : Pos) (ks : List (Option Expr)) (vs : List Expr) (ts : List (TD × TD)) : Prop := PPs X pos ks vs (ts.map fun t => (emE X.K t.1, emE X.K t.2))
theorem dps_nil : DPs X pos [] [] [] := pps_nil
theorem dps_cons {k v : Expr} {ks : List (Option Expr)} {vs : List Expr} {tk tv : TD} {ts : List (TD × TD)} (hk : DE X k tk) (hv : DE X v tv) (hr : DPs X pos ks vs ts) : DPs X pos (some k :: ks) (v :: vs) ((tk, tv) :: ts) := pps_cons hk hv hr
theorem de_disp {ks : List (Option Expr)} {vs : List Expr} {ts : List (TD × TD)} (h : DPs X pos ks vs ts) (ht : ts.length ≤ 15) (hall : ks.all (·.isSome) = true) (hl : ks.length = vs.length) (h0 : ks ≠ []) (h15 : ks.length ≤ 15) : DE X (.Dict ks vs pos) (dDisp ts) :=
  PE.le (pe_disp h hall hl h0 h15) fun σ H Q h => by
    obtain ⟨e, S, Q0, re, rs, h1, k⟩ := h
    intro p hp
    have f : Free (H p) := by rw [hp]; trivial
    have nS := rs.none_of hp
    refine em_pairs (re.mono (TK.upd f)) (rs.upd f nS) h1 fun ps S' vs H' q pp rs' r hl => ?_
    split at q
    · rename_i kvs ek
      have hH := pp.frame p _ nS upd_same
      have nS' := pp.dom p nS (by rw [upd_same]; simp)
      obtain ⟨qv, kv, ev⟩ := r.kvr ek
      have f' : Free (H' p) := by rw [hH]; trivial
      refine ⟨hH, qv, ev, ?_, ?_⟩
      · have := KVR.len r
        rw [ev, List.length_map] at this
        omega
      · have pl : Post X.K S H S (upd H p (.dK [])) := Post.lay hp
        refine k _ _ _ _ (q p nS') ?_ (new_dic rs' f' (KVR.merge kv .nil)) (.loc p)
        have p2 := pl.trans pp
        refine ⟨p2.tk.trans (TK.upd f'), fun x u n ex => by rw [upd_ne (ne_of_none ex hp)]; exact p2.frame x u n ex, fun x n ex => ?_⟩
        rw [put_ne (fun z => ex (by rw [z]; exact hp))]
        exact p2.dom x n ex
    · exact q.elim
def dDisp0 : TD := fun _ S Q => ∀ a, S a = none → Q (.loc a) (S.put a (.dic []))
theorem de_disp0 : DE X (.Dict [] [] pos) dDisp0 := PE.le pe_dnewK fun σ H Q h => by
  obtain ⟨e, S, Q0, re, rs, h1, k⟩ := h
  intro p hp
  have f : Free (H p) := by rw [hp]; trivial
  exact k _ _ _ _ (h1 p (rs.none_of hp)) (Post.new hp) (new_dic rs f .nil) (.loc p)

/-! dict(d) -/
def dDictC (t : TD) : TD := fun e S Q => t e S fun x S1 => match x with
  | .loc d => match S1 d with
    | some (.dic kvs) => ∀ a, S1 a = none → Q (.loc a) (S1.put a (.dic kvs))
    | _ => False
  | _ => False
theorem de_dictC {x : Expr} {t : TD} {p : Pos} (hg : Gl X "dict") (hm : X.mg "dict" = none) (ha : DE X x t) (he : starEach (x :: []) X.env = (false, eval x X.env) :: starEach [] X.env := by rfl) : DE X (.Call (.Name "dict" p) [x] [] pos) (dDictC t) :=
  PE.le (pe_callTy (he := he) (hpl := by rfl) call_dictD hg hm (by decide +kernel) (pa_cons ha pa_nil he)) fun σ H Q h => by
    obtain ⟨e, S, Q0, re, rs, h1, k⟩ := h
    refine ⟨e, S, _, re, rs, h1, fun d S1 v H1 q p rs1 r => ?_⟩
    cases r with
    | loc d =>
      dsimp only at q
      split at q
      · rename_i kvs e1
        obtain ⟨qv, a1, b1⟩ := rs1 _ _ e1
        refine ⟨d, qv, rfl, .inl a1, fun p' hp => ?_⟩
        have f : Free (H1 p') := by rw [hp]; trivial
        exact k _ _ _ _ (q p' (rs1.none_of hp)) (p.trans (Post.new hp)) (new_dic rs1 f b1) (.loc p')
      · exact q.elim
    | _ => exact q.elim

/-! d.get(k, x) -/
def dGet2 (to ti tx : TD) : TD := fun e S Q => to e S fun o S1 => match o with
  | .loc d => match S1 d with
    | some (.dic _) => ti e S1 fun y S2 => tx e S2 fun z S3 => match S3 d, keyD y with
      | some (.dic kvs), some k => Q ((valD kvs k).getD z) S3
      | _, _ => False
    | _ => False
  | _ => False
theorem de_get2 {o a b : Expr} {to ti tx : TD} {apos cpos : Pos} (hu : X.A.units + 1 < cLine) (ho : DE X o to) (ha : DE X a ti) (hb : DE X b tx) (m : M2 X o "get" apos a b cpos) : DE X (.Call (.Attribute o "get" apos) [a, b] [] cpos) (dGet2 to ti tx) :=
  PE.le (pe_dget2 hu ho ha hb m) fun σ H Q h => by
    obtain ⟨e, S, Q0, re, rs, h1, k⟩ := h
    refine ⟨e, S, _, re, rs, h1, fun d S1 v H1 q p rs1 r => ?_⟩
    cases r with
    | loc d =>
      dsimp only at q
      split at q
      · rename_i kv0 e0
        obtain ⟨q0, a0, b0⟩ := rs1 _ _ e0
        refine ⟨d, rfl, .inl ⟨q0, .inl a0⟩, e, S1, _, re.mono p.tk, rs1, q, fun y S2 v2 H2 h2 p2 rs2 r2 => ?_⟩
        refine ⟨e, S2, _, re.mono (p.trans p2).tk, rs2, h2, fun z S3 v3 H3 h3 p3 rs3 r3 => ?_⟩
        split at h3
        · rename_i kvs kk e1 e2
          obtain ⟨qv, a1, b1⟩ := rs3 _ _ e1
          obtain rfl := rep_key r2 e2
          refine ⟨_, DGet.k a1, k _ S3 _ H3 h3 ((p.trans p2).trans p3) rs3 ?_⟩
          have rv := KVR.val kk b1
          cases ed : valD kvs kk with
          | none =>
            cases ev : valV qv kk with
            | none => exact r3
            | some w => rw [ed, ev] at rv; exact rv.elim
          | some dd =>
            cases ev : valV qv kk with
            | none => rw [ed, ev] at rv; exact rv.elim
            | some w => rw [ed, ev] at rv; exact rv
        · exact h3.elim
      · exact q.elim
    | _ => exact q.elim
/-! d[k] -/
def dGetK (to ti : TD) : TD := fun e S Q => to e S fun o S1 => ti e S1 fun y S2 => match o with
  | .loc d => match S2 d, keyD y with
    | some (.dic kvs), some k => match valD kvs k with
      | some z => Q z S2
      | none => False
    | _, _ => False
  | _ => False
theorem de_getK {o a : Expr} {to ti : TD} (hu : X.A.units + 1 < cLine) (ho : DE X o to) (ha : DE X a ti) (hs : NoSl a) : DE X (.Subscript o a pos) (dGetK to ti) :=
  PE.le (pe_dget hu ho ha hs) fun σ H Q h => by
    obtain ⟨e, S, Q0, re, rs, h1, k⟩ := h
    refine ⟨e, S, _, re, rs, h1, fun d S1 v H1 q p rs1 r => ?_⟩
    refine ⟨e, S1, _, re.mono p.tk, rs1, q, fun y S2 v2 H2 h2 p2 rs2 r2 => ?_⟩
    cases r with
    | loc d =>
      dsimp only at h2
      split at h2
      · rename_i kvs kk e1 e2
        obtain ⟨qv, a1, b1⟩ := rs2 _ _ e1
        obtain rfl := rep_key r2 e2
        have rv := KVR.val kk b1
        split at h2
        · rename_i z ez
          rw [ez] at rv
          cases ev : valV qv kk with
          | none => rw [ev] at rv; exact rv.elim
          | some w => rw [ev] at rv; exact ⟨d, w, rfl, by rw [← ev]; exact DGet.k a1, k _ S2 _ H2 h2 (p.trans p2) rs2 rv⟩
        · exact h2.elim
      · exact h2.elim
    | _ => exact h2.elim

/-! d[k] = v -/
def dSubK (te to ti : TD) : TSD := fun D0 e S => te e S fun v S1 => to e S1 fun o S2 => ti e S2 fun i S3 => match o with
  | .loc d => match S3 d, keyD i with
    | some (.dic kvs), some k => kvs.length < sizeLine ∧ D0.nx e (S3.put d (.dic (putD kvs k v)))
    | _, _ => False
  | _ => False
theorem ds_subK {o i v : Expr} {to ti te : TD} {pos' : Pos} (hu : X.A.units + 1 < cLine) (he : DE X v te) (ho : DE X o to) (hi : DE X i ti) (hs : swapsWith v (some (.Subscript o i pos')) pos.line X.env = pure false := by rfl) :
    DS X (.Assign [.Subscript o i pos'] v pos) (dSubK te to ti) :=
  PS.le (ps_dput hu ho hi he hs) fun D1 σ H h => by
    obtain ⟨e, S, D0, re, rs, ht, k⟩ := h
    refine ⟨e, S, _, re, rs, ht, fun d S1 v H1 h1 p1 rs1 r1 => ?_⟩
    refine ⟨e, S1, _, re.mono p1.tk, rs1, h1, fun od S2 ov H2 h2 p2 rs2 r2 => ?_⟩
    refine ⟨e, S2, _, re.mono (p1.trans p2).tk, rs2, h2, fun id S3 iv H3 h3 p3 rs3 r3 => ?_⟩
    have pp := (p1.trans p2).trans p3
    cases r2 with
    | loc q =>
      dsimp only at h3
      split at h3
      · rename_i kvs kk e1 e2
        obtain ⟨qv, a1, b1⟩ := rs3 _ _ e1
        obtain rfl := rep_key r3 e2
        have f : Free (H3 q) := by rw [a1]; trivial
        have rd := r1.mono (p2.trans p3).tk
        refine ⟨q, _, rfl, DPut.k a1 (by rw [← KVR.length b1]; exact h3.1), ?_⟩
        exact k.nx e _ σ _ h3.2 (pp.trans (Post.write rs3 e1)) ((re.mono pp.tk).mono (TK.upd f)) (rs3.cell e1 ⟨_, upd_same, (KVR.put kk rd b1).mono (TK.upd f)⟩)
      · exact h3.elim
    | _ => exact h3.elim
end
end QL
end L2
/-! walks over the items of a dict -/
namespace L2
namespace QL
open PySem PySem.Spec PyProof.Rows
def delS (S : Sto) (d : Addr) : Sto := fun a => if a = d then none else S a
theorem delS_eq {S : Sto} {d : Addr} : delS S d d = none := if_pos rfl
theorem delS_ne {S : Sto} {d a : Addr} (h : a ≠ d) : delS S d a = S a := if_neg h
def kvD (kv : Key × D) : D := .tup [dKey kv.1, kv.2]
theorem TK.updF {K : PySem.W.Frag} {H : Hp} {p : Addr} {o : HO} (n1 : ∀ u, H p ≠ some (.tup u)) (n2 : ∀ o u, H p ≠ some (.frz o (.tup u))) (n3 : ∀ o u, H p ≠ some (.frz o (.lst u))) : TK K H (L2.upd H p o) := by
  constructor
  · intro a xs h
    rcases h with h | h
    · left
      rcases h with h | ⟨o', h⟩
      · exact .inl (by rw [upd_ne (fun z => n1 _ (z ▸ h))]; exact h)
      · exact .inr ⟨o', by rw [upd_ne (fun z => n2 _ _ (z ▸ h))]; exact h⟩
    · exact .inr h
  · intro a xs h
    rcases h with ⟨o', h⟩ | h
    · exact .inl ⟨o', by rw [upd_ne (fun z => n3 _ _ (z ▸ h))]; exact h⟩
    · exact .inr h
theorem CellAt.updT {K : PySem.W.Frag} {H : Hp} {p a : Addr} {o : HO} {c : Cell} (tk : TK K H (L2.upd H p o)) (ne : a ≠ p) (h : CellAt K H a c) : CellAt K (L2.upd H p o) a c := by
  cases c with
  | lst ds => obtain ⟨vs, h1, h2⟩ := h; exact ⟨vs, by rw [upd_ne ne]; exact h1, h2.mono tk⟩
  | dic kvs => obtain ⟨q, h1, h2⟩ := h; exact ⟨q, by rw [upd_ne ne]; exact h1, h2.mono tk⟩
  | ins C fs => obtain ⟨dx, q, h1, h2⟩ := h; exact ⟨dx, q, by rw [upd_ne ne]; exact h1, h2.mono tk⟩
theorem lockS {K : PySem.W.Frag} {S : Sto} {H : Hp} {d : Addr} {o : HO} (rs : RelS K S H) (f : Free (H d)) : RelS K (delS S d) (upd H d o) := fun a c e => by
  by_cases ha : a = d
  · subst ha; rw [delS_eq] at e; cases e
  · rw [delS_ne ha] at e
    exact (rs a c e).upd f ha
theorem unlockS {K : PySem.W.Frag} {S S' : Sto} {H H' : Hp} {d : Addr} {od : Obj} {kvs : List (Key × D)} {q : List (Key × V)} (e2 : S d = some (.dic kvs)) (a1 : H d = some (.dK q)) (b1 : KVR K H kvs q)
    (p : Post K (delS S d) (upd H d (.frz od (.dK q))) S' H') (rs' : RelS K S' H') :
    H' d = some (.frz od (.dK q)) ∧ Post K S H (S'.put d (.dic kvs)) (upd H' d (.dK q)) ∧ RelS K (S'.put d (.dic kvs)) (upd H' d (.dK q)) ∧ TK K H' (upd H' d (.dK q)) := by
  have hd : H' d = some (.frz od (.dK q)) := p.frame d _ delS_eq upd_same
  have tk : TK K H' (upd H' d (.dK q)) := TK.updF (H := H') (p := d) (fun u => by rw [hd]; simp) (fun o u => by rw [hd]; simp) (fun o u => by rw [hd]; simp)
  have f : Free (H d) := by rw [a1]; trivial
  have tk0 : TK K H (upd H' d (.dK q)) := ((TK.upd f).trans p.tk).trans tk
  refine ⟨hd, ⟨tk0, fun a o n e => ?_, fun a n e => ?_⟩, fun a c e => ?_, tk⟩
  · have ne : a ≠ d := fun z => by rw [z, e2] at n; cases n
    rw [upd_ne ne]
    exact p.frame a o (by rw [delS_ne ne]; exact n) (by rw [upd_ne ne]; exact e)
  · have ne : a ≠ d := fun z => by rw [z, e2] at n; cases n
    rw [put_ne ne]
    exact p.dom a (by rw [delS_ne ne]; exact n) (by rw [upd_ne ne]; exact e)
  · by_cases ha : a = d
    · subst ha; rw [put_eq] at e; cases e
      exact ⟨q, upd_same, b1.mono tk0⟩
    · rw [put_ne ha] at e
      exact (rs' a c e).updT tk ha
def dForItems (i : Nat) (t : Tgt) (tb : TSD) : TSD := fun D0 e S => match e[i]? with
  | some (some (.loc d)) => match S d with
    | some (.dic kvs) => forRun t tb (fun _ => True) { nx := fun e' S' => D0.nx e' (S'.put d (.dic kvs)), rt := fun v S' => D0.rt v (S'.put d (.dic kvs)), bk := fun e' S' => D0.bk e' (S'.put d (.dic kvs)), ct := fun e' S' => D0.ct e' (S'.put d (.dic kvs)) } (kvs.map kvD) e (delS S d)
    | _ => False
  | _ => False
theorem em_forItems {K : PySem.W.Frag} {i : Nat} {t : Tgt} {tb : TSD} {D1 : Ends} {σ : St} {H : Hp} (h : emS K (dForItems i t tb) D1 σ H) : tLock (tFor (iItems (tVar i)) (gOf K t) (emS K tb)) D1 σ H := by
  obtain ⟨e, S, D0, re, rs, ht, k0⟩ := h
  unfold dForItems at ht
  split at ht
  · rename_i d e1
    split at ht
    · rename_i kvs e2
      obtain ⟨q, a1, b1⟩ := rs _ _ e2
      refine ⟨d, .dK q, a1, trivial, fun od => ?_⟩
      have f : Free (H d) := by rw [a1]; trivial
      have re1 := re.mono (TK.upd (K := K) (o := .frz od (.dK q)) f)
      have rs1 := lockS (o := .frz od (.dK q)) rs f
      obtain ⟨v, ev, rv⟩ := re1.get e1
      cases rv
      obtain ⟨D0', hD0, ht⟩ : ∃ D0' : EndsD, D0' = { nx := fun e' S' => D0.nx e' (S'.put d (.dic kvs)), rt := fun v S' => D0.rt v (S'.put d (.dic kvs)), bk := fun e' S' => D0.bk e' (S'.put d (.dic kvs)), ct := fun e' S' => D0.ct e' (S'.put d (.dic kvs)) } ∧ forRun t tb (fun _ => True) D0' (kvs.map kvD) e (delS S d) := ⟨_, rfl, ht⟩
      have k : EndsOk K (delS S d) (upd H d (.frz od (.dK q))) D0'
          ⟨fun σ' H' => H' d = some (.frz od (.dK q)) ∧ D1.nx σ' (upd H' d (.dK q)), fun v H' => H' d = some (.frz od (.dK q)) ∧ D1.rt v (upd H' d (.dK q)), fun σ' H' => H' d = some (.frz od (.dK q)) ∧ D1.bk σ' (upd H' d (.dK q)), fun σ' H' => H' d = some (.frz od (.dK q)) ∧ D1.ct σ' (upd H' d (.dK q))⟩ := by
        subst hD0
        refine ⟨fun e' S' σ' H' n p re' rs' => ?_, fun d' S' v' H' n p r' rs' => ?_, fun e' S' σ' H' n p re' rs' => ?_, fun e' S' σ' H' n p re' rs' => ?_⟩
        · obtain ⟨x1, x2, x3, x4⟩ := unlockS e2 a1 b1 p rs'
          exact ⟨x1, k0.nx _ _ _ _ n x2 (re'.mono x4) x3⟩
        · obtain ⟨x1, x2, x3, x4⟩ := unlockS e2 a1 b1 p rs'
          exact ⟨x1, k0.rt _ _ _ _ n x2 (r'.mono x4) x3⟩
        · obtain ⟨x1, x2, x3, x4⟩ := unlockS e2 a1 b1 p rs'
          exact ⟨x1, k0.bk _ _ _ _ n x2 (re'.mono x4) x3⟩
        · obtain ⟨x1, x2, x3, x4⟩ := unlockS e2 a1 b1 p rs'
          exact ⟨x1, k0.ct _ _ _ _ n x2 (re'.mono x4) x3⟩
      refine ⟨.ref d, ev, d, od, q, rfl, upd_same, ?_⟩
      generalize hH1 : upd H d (.frz od (.dK q)) = H1 at *
      have hd1 : H1 d = some (.frz od (.dK q)) := by rw [← hH1]; exact upd_same
      have hbl := KVR.length b1
      refine ⟨fun j m σ' H' => ∃ e' S', RelE K H' e' σ' ∧ RelS K S' H' ∧ Post K (delS S d) H1 S' H' ∧ j ≤ q.length ∧ m = q.length - j ∧ forRun t tb (fun _ => True) D0' ((kvs.map kvD).drop j) e' S', ⟨_, e, _, re1, rs1, Post.refl, Nat.zero_le _, rfl, ht⟩, ?_⟩
      rintro j m σ' H' ⟨e', S', re', rs', p', hi, rfl, run⟩
      have hd' : H' d = some (.frz od (.dK q)) := p'.frame d _ delS_eq hd1
      by_cases hl : j = q.length
      · subst hl
        rw [List.drop_eq_nil_of_le (by simp [hbl])] at run
        exact .inl ⟨⟨hd', Nat.le_refl _⟩, k.nx e' S' σ' H' run.2 p' re' rs'⟩
      · have hlt : j < kvs.length := by omega
        obtain ⟨kk, dd, hd⟩ : ∃ kk dd, kvs[j]? = some (kk, dd) := ⟨kvs[j].1, kvs[j].2, by simp [hlt]⟩
        obtain ⟨vv, hv, rv⟩ := KVR.get b1 hd
        have ed : (kvs.map kvD).drop j = kvD (kk, dd) :: (kvs.map kvD).drop (j + 1) := by
          rw [List.drop_eq_getElem_cons (by simpa using hlt)]
          have : (kvs.map kvD)[j]'(by simpa using hlt) = kvD (kk, dd) := by
            rw [List.getElem_map]
            have q2 := List.getElem?_eq_getElem hlt
            rw [hd] at q2
            rw [← Option.some.inj q2]
          rw [this]
        rw [ed] at run
        refine .inr ⟨⟨hd', by omega⟩, fun σ'' H'' => ∃ e'' S'', RelE K H'' e'' σ'' ∧ RelS K S'' H'' ∧ Post K (delS S d) H1 S'' H'' ∧ forRun t tb (fun _ => True) D0' ((kvs.map kvD).drop (j + 1)) e'' S'', ?_, fun x H2 yl => ?_⟩
        · rintro σ'' H'' ⟨e'', S'', a, b, c, f⟩
          exact ⟨q.length - (j + 1), by omega, e'', S'', a, b, c, by omega, rfl, f⟩
        · obtain ⟨T, k', v', hk', rfl, hT, rfl⟩ := yl
          rw [hv] at hk'; cases hk'
          have tk1 : TK K H H1 := by rw [← hH1]; exact TK.upd f
          obtain ⟨p2, rs2, r2⟩ := pair_yld rs' hT (key_rep kk) (rv.mono (tk1.trans p'.tk))
          have run := run.2
          split at run
          · rename_i e2' eb
            refine gOf_ok t _ _ e' e2' σ' _ r2 (re'.mono p2.tk) eb fun σ3 re3 _ => ?_
            refine ⟨e2', S', _, re3, rs2, run, ⟨fun e4 S4 σ4 H4 f p4 re4 rs4 => ?_, fun d4 S4 v4 H4 f p4 r4 rs4 => ?_, fun e4 S4 σ4 H4 f p4 re4 rs4 => ?_, fun e4 S4 σ4 H4 f p4 re4 rs4 => ?_⟩⟩
            · obtain ⟨S5, sb, f⟩ := f
              exact ⟨e4, S5, re4, rs4.sub sb, ((p'.trans p2).trans p4).sub sb, f⟩
            · exact k.rt d4 S4 v4 H4 f ((p'.trans p2).trans p4) r4 rs4
            · exact k.nx e4 S4 σ4 H4 f ((p'.trans p2).trans p4) re4 rs4
            · obtain ⟨S5, sb, f⟩ := f
              exact ⟨e4, S5, re4, rs4.sub sb, ((p'.trans p2).trans p4).sub sb, f⟩
          · exact run.elim
    · exact ht.elim
  · exact ht.elim
theorem ds_forItems {X : Cx} {pos : Pos} {i : Nat} {x : Str} {elts : List Expr} {kk : Nat} {tpos vpos apos cpos : Pos} {body : List Stmt} {t : Tgt} {tb : TSD} (hp : PassesOwn (model X.prog X.w) X.A X.env X.xe) (hc : X.calm = true)
    (hN : X.N[i]? = some x) (hv : Vis X.env.scope x) (hg : PG X (.Tuple elts kk tpos) (gOf X.K t)) (hb : DSs X body tb)
    (hd : (x == ("__debug__" : Str)) = false := by decide) (hcd : (x == ("__classdict__" : Str)) = false := by decide)
    (hbase : attributeBase (.Name x vpos) "items" X.env (eval (.Name x vpos) X.env) = eval (.Name x vpos) X.env := by rfl) (hline : (apos.endLine == cpos.line) = true := by rfl)
    (hs : ∀ z, foldedSetIterable (.Call (.Attribute (.Name x vpos) "items" apos) [] [] cpos) X.env z = pure z := by intro _; rfl) :
    DS X (.For (.Tuple elts kk tpos) (.Call (.Attribute (.Name x vpos) "items" apos) [] [] cpos) body [] pos) (dForItems i t tb) :=
  PS.le (ps_lock (ps_for hp hc (pi_items (pe_var hN hv hd hcd) hbase hline) hg hb hs)) fun _ _ _ h => em_forItems h
/-! {k: v for .. in d.items()} -/
def dcRun (t : Tgt) (tk tv : TD) (e0 : DEnv) (Q : List (Key × D) → Sto → Prop) : List D → List (Key × D) → Sto → Prop
  | [], acc, S => Q acc S
  | x :: r, acc, S => match bT t x e0 with
    | some e' => tk e' S fun y S1 => tv e' S1 fun z S2 => match keyD y with
      | some k => ∃ S3, Sb S3 S2 ∧ dcRun t tk tv e0 Q r (putD acc k z) S3
      | none => False
    | none => False
def dDcItems (i : Nat) (t : Tgt) (tk tv : TD) (vs : List Nat) : TD := fun e S Q => match e[i]? with
  | some (some (.loc d)) => match S d with
    | some (.dic kvs) => kvs.length ≤ sizeLine ∧ dcRun t tk tv (wipeD e vs) (fun acc S' => ∀ a, S' a = none → a ≠ d → Q (.loc a) ((S'.put d (.dic kvs)).put a (.dic acc))) (kvs.map kvD) [] (delS S d)
    | _ => False
  | _ => False
theorem length_putD (kvs : List (Key × D)) (k : Key) (v : D) : (putD kvs k v).length ≤ kvs.length + 1 := by
  unfold putD
  split
  · simp
  · simp
theorem em_dcItems {K : PySem.W.Frag} {i : Nat} {t : Tgt} {tk tv : TD} {vs : List Nat} (hv : t.own vs = true) {σ : St} {H : Hp} {Q : VK} (h : emE K (dDcItems i t tk tv vs) σ H Q) :
    tLockE (tDc (iItems (tVar i)) (gOf K t) (emT K dYes) (emE K tk) (emE K tv) vs) σ H Q := by
  obtain ⟨e, S, Q0, re, rs, ht, k0⟩ := h
  unfold dDcItems at ht
  split at ht
  · rename_i d e1
    split at ht
    · rename_i kvs e2
      obtain ⟨hsz, ht⟩ := ht
      obtain ⟨Qd, hQd, ht⟩ : ∃ Qd : List (Key × D) → Sto → Prop, (∀ acc S', Qd acc S' → ∀ a, S' a = none → a ≠ d → Q0 (.loc a) ((S'.put d (.dic kvs)).put a (.dic acc))) ∧ dcRun t tk tv (wipeD e vs) Qd (kvs.map kvD) [] (delS S d) := ⟨_, fun _ _ h => h, ht⟩
      obtain ⟨q, a1, b1⟩ := rs _ _ e2
      refine ⟨d, .dK q, a1, trivial, fun od => ?_⟩
      have f : Free (H d) := by rw [a1]; trivial
      have re1 := re.mono (TK.upd (K := K) (o := .frz od (.dK q)) f)
      have rs1 := lockS (o := .frz od (.dK q)) rs f
      obtain ⟨v, ev, rv⟩ := re1.get e1
      cases rv
      have k := fun {S' H'} (p : Post K (delS S d) (upd H d (.frz od (.dK q))) S' H') rs' => unlockS (S := S) (H := H) e2 a1 b1 p rs'
      refine ⟨.ref d, ev, d, od, q, rfl, upd_same, fun D hD => ?_⟩
      generalize hH1 : upd H d (.frz od (.dK q)) = H1 at *
      have hd1 : H1 d = some (.frz od (.dK q)) := by rw [← hH1]; exact upd_same
      have hDd : D ≠ d := fun z => by rw [z, hd1] at hD; cases hD
      have nD : delS S d D = none := rs1.none_of hD
      have hbl := KVR.length b1
      refine ⟨fun j m H' => ∃ S' acc us, RelS K S' H' ∧ Post K (delS S d) H1 S' H' ∧ S' D = none ∧ H' D = some (.dK us) ∧ KVR K H' acc us ∧ acc.length ≤ j ∧ j ≤ q.length ∧ m = q.length - j ∧
        dcRun t tk tv (wipeD e vs) Qd ((kvs.map kvD).drop j) acc S',
        ⟨_, delS S d, [], [], rs1.upd (by rw [hD]; trivial) nD, Post.lay hD, nD, upd_same, .nil, Nat.le_refl _, Nat.zero_le _, rfl, ht⟩, ?_⟩
      rintro j m H' ⟨S', acc, us, rs', p', nD', hu, ru, ha, hi, rfl, run⟩
      have hd' : H' d = some (.frz od (.dK q)) := p'.frame d _ delS_eq hd1
      by_cases hl : j = q.length
      · subst hl
        rw [List.drop_eq_nil_of_le (by simp [hbl])] at run
        obtain ⟨x1, x2, x3, x4⟩ := k p' rs'
        refine .inl ⟨⟨hd', Nat.le_refl _⟩, x1, k0 _ _ _ _ (hQd _ _ run D nD' hDd) ⟨x2.tk, x2.frame, fun a n ex => ?_⟩ (fun a c ea => ?_) (.loc D)⟩
        · have ne : a ≠ D := fun z => by
            rw [z] at ex
            rw [← hH1, upd_ne hDd] at hD
            exact ex hD
          rw [put_ne ne]
          exact x2.dom a n ex
        · by_cases hb : a = D
          · subst hb
            rw [put_eq] at ea; cases ea
            exact ⟨us, by rw [upd_ne hDd]; exact hu, ru.mono x4⟩
          · rw [put_ne hb] at ea
            exact x3 a c ea
      · have hlt : j < kvs.length := by omega
        obtain ⟨kk, dd, hd⟩ : ∃ kk dd, kvs[j]? = some (kk, dd) := ⟨kvs[j].1, kvs[j].2, by simp [hlt]⟩
        obtain ⟨vv, hv1, rv⟩ := KVR.get b1 hd
        have ed : (kvs.map kvD).drop j = kvD (kk, dd) :: (kvs.map kvD).drop (j + 1) := by
          rw [List.drop_eq_getElem_cons (by simpa using hlt)]
          have : (kvs.map kvD)[j]'(by simpa using hlt) = kvD (kk, dd) := by
            rw [List.getElem_map]
            have q2 := List.getElem?_eq_getElem hlt
            rw [hd] at q2
            rw [← Option.some.inj q2]
          rw [this]
        rw [ed] at run
        refine .inr ⟨⟨hd', by omega⟩, fun H'' => ∃ S'' acc' us', RelS K S'' H'' ∧ Post K (delS S d) H1 S'' H'' ∧ S'' D = none ∧ H'' D = some (.dK us') ∧ KVR K H'' acc' us' ∧ acc'.length ≤ j + 1 ∧
          dcRun t tk tv (wipeD e vs) Qd ((kvs.map kvD).drop (j + 1)) acc' S'', ?_, fun x H2 yl => ?_⟩
        · rintro H'' ⟨S'', acc', us', b1, b2, b3, b4, b5, b6, b7⟩
          exact ⟨q.length - (j + 1), by omega, S'', acc', us', b1, b2, b3, b4, b5, b6, by omega, rfl, b7⟩
        · obtain ⟨T, k', v', hk', rfl, hT, rfl⟩ := yl
          rw [hv1] at hk'; cases hk'
          have tk1 : TK K H H1 := by rw [← hH1]; exact TK.upd f
          obtain ⟨p2, rs2, r2⟩ := pair_yld rs' hT (key_rep kk) (rv.mono (tk1.trans p'.tk))
          have hu2 := p2.frame D _ nD' hu
          unfold dcRun at run
          split at run
          · rename_i e3 eb
            have rw0 := (re1.mono (p'.trans p2).tk).wipe vs
            refine gOf_ok t _ _ (wipeD e vs) e3 (wipe σ vs) _ r2 rw0 eb fun σ3 re3 o3 => ⟨(o3 vs hv).trans wipe_wipe, ?_⟩
            refine ⟨e3, S', fun b S2 => b = true ∧ S2 = S', re3, rs2, ⟨rfl, rfl⟩, fun b S4 H4 f4 p4 rs4 => ?_⟩
            obtain ⟨rfl, rfl⟩ := f4
            refine iteT ⟨e3, S4, _, re3.mono p4.tk, rs4, run, fun yy S5 v5 H5 f5 p5 rs5 r5 => ?_⟩
            refine ⟨e3, S5, _, re3.mono (p4.trans p5).tk, rs5, f5, fun zz S6 v6 H6 f6 p6 rs6 r6 => ?_⟩
            have nD4 := p4.dom D nD' (by rw [hu2]; simp)
            have hu4 := p4.frame D _ nD' hu2
            have nD5 := p5.dom D nD4 (by rw [hu4]; simp)
            have hu5 := p5.frame D _ nD4 hu4
            have nD6 := p6.dom D nD5 (by rw [hu5]; simp)
            have hu6 := p6.frame D _ nD5 hu5
            split at f6
            · rename_i kk2 ek
              obtain ⟨S7, sb, f7⟩ := f6
              obtain rfl := rep_key r5 ek
              have fr : Free (H6 D) := by rw [hu6]; trivial
              have rl := KVR.length ru
              refine ⟨us, kk2, rfl, hu6, by omega, S7, putD acc kk2 zz, putK us kk2 v6, (rs6.sub sb).upd fr (sb.free nD6), (((((p'.trans p2).trans p4).trans p5).trans p6).inner hD fr).sub sb, sb.free nD6, upd_same, (KVR.put kk2 r6 (ru.mono (((p2.trans p4).trans p5).trans p6).tk)).mono (TK.upd fr), ?_, f7⟩
              have := length_putD acc kk2 zz
              omega
            · exact f6.elim
          · exact run.elim
    · exact ht.elim
  · exact ht.elim
theorem de_dcItems {X : Cx} {pos : Pos} {i : Nat} {x : Str} {elts : List Expr} {kk : Nat} {tpos vpos apos cpos : Pos} {kx vx : Expr} {scope : Scope} {own : List (Str × Nat)} {t : Tgt} {tk tv : TD} (hc : X.calm = true) (hN : X.N.Nodup)
    (hi : X.N[i]? = some x) (hvis : Vis X.env.scope x) (ok : BlkOk X.N X.env.scope scope own) (hv : t.own (own.map (·.2)) = true)
    (hg : ∀ (s : Shared) (H : Hp) (C : Addr) (cl : List (Str × Addr)) (fp : List Addr), PG (X.blk s H scope (compEnvC scope cl C X.env) fp) (.Tuple elts kk tpos) (gOf X.K t))
    (hk : ∀ (s : Shared) (H : Hp) (C : Addr) (cl : List (Str × Addr)) (fp : List Addr), DE (X.blk s H scope (compEnvC scope cl C X.env) fp) kx tk)
    (he : ∀ (s : Shared) (H : Hp) (C : Addr) (cl : List (Str × Addr)) (fp : List Addr), DE (X.blk s H scope (compEnvC scope cl C X.env) fp) vx tv)
    (hd : (x == ("__debug__" : Str)) = false := by decide) (hcd : (x == ("__classdict__" : Str)) = false := by decide)
    (hbase : attributeBase (.Name x vpos) "items" X.env (eval (.Name x vpos) X.env) = eval (.Name x vpos) X.env := by rfl) (hline : (apos.endLine == cpos.line) = true := by rfl)
    (hs : ∀ z, foldedSetIterable (.Call (.Attribute (.Name x vpos) "items" apos) [] [] cpos) X.env z = pure z := by intro _; rfl) :
    DE X (.DictComp kx vx [⟨.Tuple elts kk tpos, .Call (.Attribute (.Name x vpos) "items" apos) [] [] cpos, [], 0⟩] scope pos) (dDcItems i t tk tv (own.map (·.2))) :=
  PE.le (pe_lock (pe_dc (wi := iItems (tVar i)) (tt := emT X.K dYes) (tk := emE X.K tk) (tv := emE X.K tv) hc hN (pi_items (pe_var hi hvis hd hcd) hbase hline) ok hg (fun _ _ _ _ _ => dts_nil) hk he hs)) fun _ _ _ h => em_dcItems hv h
/-! a list, again and again -/
def rdRepL : RD := fun x y S Q => match x, y with
  | .loc p, .int k => match S p with
    | some (.lst xs) => (k < 2 ^ 63 ∧ -(2 ^ 63) ≤ k ∧ xs.length * k.toNat ≤ sizeLine) ∧ ∀ a, S a = none → Q (.loc a) (S.put a (.lst (List.replicate k.toNat xs).flatten))
    | _ => False
  | _, _ => False
theorem od_repL {K : PySem.W.Frag} : OpD K rRep rdRepL := by
  intro d1 d2 S Q0 v1 v2 H Q rs r1 r2 h k
  unfold rdRepL at h
  split at h
  · rename_i p n
    cases r1; cases r2
    split at h
    · rename_i xs e1
      obtain ⟨vs, a1, b1⟩ := rs _ _ e1
      obtain ⟨⟨h0, h1, h2⟩, h⟩ := h
      refine ⟨_, _, vs, rfl, rfl, a1, h1, h0, by rw [← b1.length]; exact h2, fun q hq => ?_⟩
      exact k _ _ _ _ (h q (rs.none_of hq)) (Post.new hq) (new_lst rs hq (b1.rep _)) (.loc q)
    · exact h.elim
  · exact h.elim
theorem de_repL {X : Cx} {a b : Expr} {ta tb : TD} {pos : Pos} (ha : DE X a ta) (hb : DE X b tb) : DE X (.BinOp a .Mult b pos) (dBin rdRepL ta tb) := de_op op_rep od_repL ha hb
end QL
end L2
/-! keywords: making, methods -/
namespace L2
namespace QL
open PySem PySem.Spec PyProof.Rows
section
variable {X : Cx} {k j n : Nat} {f C : Addr} {fd : FuncData} {ps ks : List Str} {sp : SpD} {idx : List (Sum Nat Nat)} {x m : Str} {p pos apos : Pos} {e o : Expr} {es : List Expr} {kws : List Keyword} {t tk : TAD} {to : TD}
theorem run_madeK {pins : List (Addr × Obj)} {σ : St} {H : Hp} {s : Shared} {Q : VK} {us ws : List Value} {vs zs : List V} (M : Mk X.K C f) (F : FnD X.prog X.w X.K X.mg X.base k f fd ps sp) (hr : RoomG (k + 1) X.A) (hb : KwB X.K fd ps (n + 1) ks idx)
    (I : Inv X pins σ H s) (r : Vals vs us) (rz : Vals zs ws) (l1 : vs.length = n) (l2 : zs.length = ks.length)
    (h : ∀ x dx, H x = none → H dx = none → dx ≠ x → emSp X.K sp (pick2 idx (.ref x :: vs) zs) (upd (upd H dx (.own x)) x (.ins C dx [])) fun v H2 => v = .non ∧ Q (.ref x) H2) :
    wpAny (model X.prog X.w) X.A (call (.ref C) us (ks.zip ws)) (EP X pins σ Q) X.xe s := by
  have hq := h (s.heap.objs.size + 1) s.heap.objs.size (I.hok.fresh (Nat.le_succ _)) (I.hok.fresh (Nat.le_refl _)) (Nat.ne_of_lt (Nat.lt_succ_self _))
  have I2 := Inv.made (C := C) I
  have r1 : Vals (V.ref (s.heap.objs.size + 1) :: vs) (Value.ref (s.heap.objs.size + 1) :: us) := .cons rfl r
  have r2 := pick2_rel r1 rz idx
  have n1 : (Value.ref (s.heap.objs.size + 1) :: us).length = n + 1 := by
    rw [List.length_cons, ← r.length, l1]
  refine wpAny_call (make_map (f := f) I.kIn M.makes M.init (beq_iff_eq.mp M.fn) (codeAny_mono (F.run _ X.stack _ _ ⟨Value.ref (s.heap.objs.size + 1) :: us, ks.zip ws⟩ (pick2 idx (Value.ref (s.heap.objs.size + 1) :: us) ws) _ _ (hr.make C us (ks.zip ws))
    (I2.env0.make C us (ks.zip ws)) (hb _ (Value.ref (s.heap.objs.size + 1) :: us) ws I2.kIn n1 (rz.length.symm.trans l2)) r2 hq) fun r s' hq' => ?_))
  rcases r with _ | (_ | _ | _ | u)
  · exact hq'.elim
  · exact False.elim hq'
  · exact False.elim hq'
  · exact False.elim hq'
  · obtain ⟨v, H', I3, rv, ev, q3⟩ := I2.after hq'
    subst ev
    exact ⟨rv, ⟨V.ref (s.heap.objs.size + 1), H', I3, rfl, q3⟩⟩
theorem em_makeK {K : PySem.W.Frag} {m : Nat} {σ : St} {H : Hp} {Q : VK} (h : emE K (dMakeK C n m sp idx t tk) σ H Q) :
    emA K t σ H fun vs H1 => emA K tk σ H1 fun zs H2 => (vs.length = n ∧ zs.length = m) ∧ ∀ x dx, H2 x = none → H2 dx = none → dx ≠ x → emSp K sp (pick2 idx (.ref x :: vs) zs) (upd (upd H2 dx (.own x)) x (.ins C dx [])) fun v H3 => v = .non ∧ Q (.ref x) H3 := by
  obtain ⟨e, S, Q0, re, rs, ht, k⟩ := h
  refine ⟨e, S, _, re, rs, ht, fun ds S1 vs H1 q p rs1 r => ?_⟩
  refine ⟨e, S1, _, re.mono p.tk, rs1, q, fun zs S2 ws H2 q2 p2 rs2 r2 => ?_⟩
  refine ⟨⟨by rw [← r.length]; exact q2.1.1, by rw [← r2.length]; exact q2.1.2⟩, fun x dx hx hdx ne => ?_⟩
  have n1 : S2 x = none := rs2.none_of hx
  have f0 : Free (H2 dx) := by rw [hdx]; trivial
  have hx2 : (upd H2 dx (.own x)) x = none := by rw [upd_ne (Ne.symm ne)]; exact hx
  have f1 : Free ((upd H2 dx (.own x)) x) := by rw [hx2]; trivial
  have rs3 : RelS K S2 (upd H2 dx (.own x)) := rs2.upd f0 (rs2.none_of hdx)
  have p3 : Post K S2 H2 (S2.put x (.ins C [])) (upd (upd H2 dx (.own x)) x (.ins C dx [])) := (Post.lay hdx).trans (Post.new hx2)
  refine ⟨_, S2.put x (.ins C []), _, paired_reps (pick2_rel (reps_paired (.cons (.loc x) (r.mono (p2.trans p3).tk))) (reps_paired (r2.mono p3.tk)) idx), rs3.put f1 ⟨dx, [], upd_same, .nil⟩, q2.2 x n1, fun d S' v H' q' p' rs' r' => ?_⟩
  obtain ⟨rfl, q'⟩ := q'
  cases r'
  exact ⟨rfl, k _ S' _ H' q' ((p.trans p2).trans (p3.trans p')) rs' (.loc x)⟩
theorem de_makeK {lm : Nat} (c : MakK X.prog X.w X.K X.mg X.base k x C sp n ks idx) (hr : RoomG j X.A) (hk : k + 1 ≤ j) (hg : Gl X x) (ha : DA X (e :: es) t) (hkw : DKw X kws tk)
    (hall : (backToKw pos (keywordEach kws X.env)).all (·.1.isSome) = true := by rfl) (hks : (backToKw pos (keywordEach kws X.env)).filterMap (·.1) = ks := by rfl)
    (hdb : (x == ("__debug__" : Str)) = false := by decide) (he : starEach (e :: es) X.env = (false, eval e X.env) :: starEach es X.env := by rfl)
    (hpl : ((backTo pos (starEach (e :: es) X.env)).any (·.1) || (backToKw pos (keywordEach kws X.env)).any (·.1.isNone)) = false := by rfl) (hlm : ks.length = lm := by rfl) : DE X (.Call (.Name x p) (e :: es) kws pos) (dMakeK C n lm sp idx t tk) := by
  subst hlm
  obtain ⟨f, fd, ps, M, F, hm, hb⟩ := c.ex
  refine ⟨fun pins s σ H Q I h => ?_⟩
  refine wpAny_Call_Name_kw (ld_glob I hg hm ?_ hdb)
  refine PySem.W.callWith_KW (h₀ := X.base) I.ok.mod.kin M.kp hall (thn (ha.run pos pins s σ H _ I (em_makeK h)) fun us s1 ⟨vs, H1, I1, r, q⟩ => ?_) hpl he
  refine thn (hkw.run pos pins s1 σ H1 _ I1 q) fun ws s2 ⟨zs, H2, I2, rz, l, q2⟩ => ⟨I2.kIn, ?_⟩
  rw [hks]
  exact run_madeK M F (hr.mono hk) hb I2 r rz l.1 l.2 q2
theorem de_makeK0 {lm : Nat} (c : MakK X.prog X.w X.K X.mg X.base k x C sp 0 ks idx) (hr : RoomG j X.A) (hk : k + 1 ≤ j) (hg : Gl X x) (hkw : DKw X kws tk)
    (hall : (backToKw pos (keywordEach kws X.env)).all (·.1.isSome) = true := by rfl) (hks : (backToKw pos (keywordEach kws X.env)).filterMap (·.1) = ks := by rfl)
    (hdb : (x == ("__debug__" : Str)) = false := by decide)
    (hpl : ((backTo pos (starEach [] X.env)).any (·.1) || (backToKw pos (keywordEach kws X.env)).any (·.1.isNone)) = false := by rfl) (hlm : ks.length = lm := by rfl) : DE X (.Call (.Name x p) [] kws pos) (dMakeK C 0 lm sp idx dNil tk) := by
  subst hlm
  obtain ⟨f, fd, ps, M, F, hm, hb⟩ := c.ex
  refine ⟨fun pins s σ H Q I h => ?_⟩
  refine wpAny_Call_Name_kw (ld_glob I hg hm ?_ hdb)
  refine PySem.W.callWith_KW0 (h₀ := X.base) I.ok.mod.kin M.kp hall ?_ hpl
  refine thn (hkw.run pos pins s σ H _ I (emA_nil (em_makeK h))) fun ws s2 ⟨zs, H2, I2, rz, l, q2⟩ => ⟨I2.kIn, ?_⟩
  rw [hks]
  exact run_madeK (us := []) (vs := []) M F (hr.mono hk) hb I2 .nil rz rfl l.2 q2
/-! o.m(e, .., k = v, ..) -/
def dMethK (C : Addr) (m : Str) (n l : Nat) (sp : SpD) (idx : List (Sum Nat Nat)) (to : TD) (t tk : TAD) : TD := fun e S Q => to e S fun o S1 => match o with
  | .loc a => match S1 a with
    | some (.ins C' fs) => (C' = C ∧ fs.lookup m = none) ∧ t e S1 fun ds S2 => tk e S2 fun zs S3 => (ds.length = n ∧ zs.length = l) ∧ sp (pick2 idx (.loc a :: ds) zs) S3 Q
    | _ => False
  | _ => False
theorem em_methK {K : PySem.W.Frag} {l : Nat} {σ : St} {H : Hp} {Q : VK} (h : emE K (dMethK C m n l sp idx to t tk) σ H Q) :
    emE K to σ H fun x H1 => ∃ a dx fs, x = .ref a ∧ H1 a = some (.ins C dx fs) ∧ fs.lookup m = none ∧ emA K t σ H1 fun vs H2 => emA K tk σ H2 fun zs H3 => (vs.length = n ∧ zs.length = l) ∧ emSp K sp (pick2 idx (.ref a :: vs) zs) H3 Q := by
  obtain ⟨e, S, Q0, re, rs, ht, k⟩ := h
  refine ⟨e, S, _, re, rs, ht, fun d S1 v H1 q p rs1 r => ?_⟩
  cases r with
  | loc a =>
    dsimp only at q
    split at q
    · rename_i C' fs e1
      obtain ⟨⟨rfl, hl⟩, q⟩ := q
      obtain ⟨dx, fq, e2, fr⟩ := rs1 _ _ e1
      refine ⟨a, dx, fq, rfl, e2, ?_, e, S1, _, re.mono p.tk, rs1, q, fun ds S2 vs H2 q2 p2 rs2 r2 => ?_⟩
      · clear e1 e2 q
        induction fr with
        | nil => rfl
        | cons h t ih =>
          rename_i a b _ _
          obtain ⟨g, x⟩ := a
          obtain ⟨g', x'⟩ := b
          obtain ⟨hg, _⟩ := h
          dsimp only at hg
          subst hg
          by_cases hm : (m == g) = true
          · simp [List.lookup, hm] at hl
          · simp only [Bool.not_eq_true] at hm
            simp only [List.lookup, hm] at hl ⊢
            exact ih hl
      · refine ⟨e, S2, _, re.mono (p.trans p2).tk, rs2, q2, fun zs S3 ws H3 q3 p3 rs3 r3 => ?_⟩
        refine ⟨⟨by rw [← r2.length]; exact q3.1.1, by rw [← r3.length]; exact q3.1.2⟩, _, S3, Q0, paired_reps (pick2_rel (reps_paired (.cons (.loc a) (r2.mono p3.tk))) (reps_paired r3) idx), rs3, q3.2, fun d S' v H' q' p' rs' r' => k d S' v H' q' (((p.trans p2).trans p3).trans p') rs' r'⟩
    · exact q.elim
  | _ => exact q.elim
theorem run_fndKM {pins : List (Addr × Obj)} {σ : St} {H : Hp} {s : Shared} {Q : VK} {us ws : List Value} {vs zs : List V} (F : FnD X.prog X.w X.K X.mg X.base k f fd ps sp) (hr : RoomG k X.A) (hb : KwB X.K fd ps (n + 1) ks idx) {a : Addr}
    (I : Inv X pins σ H s) (r : Vals vs us) (rz : Vals zs ws) (l1 : vs.length = n) (l2 : zs.length = ks.length) (h : emSp X.K sp (pick2 idx (.ref a :: vs) zs) H Q) : wpAny (model X.prog X.w) X.A (call (.ref f) (.ref a :: us) (ks.zip ws)) (EP X pins σ Q) X.xe s :=
  run_fndK (n := n + 1) (vs := .ref a :: vs) F hr hb I (.cons rfl r) rz (by simp [l1]) l2 h
theorem de_methK {lm : Nat} {pl : Sem Bool} (c : MetK X.prog X.w X.K X.mg X.base k C m sp n ks idx) (hr : RoomG j X.A) (hk : k ≤ j) (ho : DE X o to) (ha : DA X (e :: es) t) (hkw : DKw X kws tk)
    (hall : (backToKw pos (keywordEach kws X.env)).all (·.1.isSome) = true := by rfl) (hks : (backToKw pos (keywordEach kws X.env)).filterMap (·.1) = ks := by rfl)
    (hst : starEach (e :: es) X.env = (false, eval e X.env) :: starEach es X.env := by rfl) (hpl : ((backTo pos (starEach (e :: es) X.env)).any (·.1) || (backToKw pos (keywordEach kws X.env)).any (·.1.isNone)) = false := by rfl)
    (ht : eval (.Call (.Attribute o m apos) (e :: es) kws pos) X.env = (do
      let ov ← eval o X.env
      standAt apos.atName
      let (f, first) ← holding [ov] (getMethod ov m pl)
      callWith pos f first (backTo pos (starEach (e :: es) X.env)) (backToKw pos (keywordEach kws X.env))) := by rfl) (hlm : ks.length = lm := by rfl) : DE X (.Call (.Attribute o m apos) (e :: es) kws pos) (dMethK C m n lm sp idx to t tk) := by
  subst hlm
  obtain ⟨f, fd, ps, cl, me, F, hb⟩ := c.ex
  refine ⟨fun pins s σ H Q I h => ?_⟩
  refine PySem.W.methodCall_KW (pl := pl) (thn (ho.run pins s σ H _ I (em_methK h)) fun u s1 ⟨x, H1, I1, rx, a, dx, fs, ex, ea, l, q⟩ => ?_) ht
  subst ex
  obtain rfl : u = Value.ref a := rx
  refine getmeth_ok I1 ea cl me l ?_
  refine PySem.W.callWith_KW (first := [.ref a]) (h₀ := X.base) I.ok.mod.kin me.kp hall (thn (ha.run pos pins s1 σ H1 _ I1 q) fun us s2 ⟨vs, H2, I2, r, q2⟩ => ?_) hpl hst
  refine thn (hkw.run pos pins s2 σ H2 _ I2 q2) fun ws s3 ⟨zs, H3, I3, rz, l, q3⟩ => ⟨I3.kIn, ?_⟩
  rw [hks]
  exact run_fndKM F (hr.mono hk) hb I3 r rz l.1 l.2 q3
theorem de_methK0 {lm : Nat} {pl : Sem Bool} (c : MetK X.prog X.w X.K X.mg X.base k C m sp 0 ks idx) (hr : RoomG j X.A) (hk : k ≤ j) (ho : DE X o to) (hkw : DKw X kws tk)
    (hall : (backToKw pos (keywordEach kws X.env)).all (·.1.isSome) = true := by rfl) (hks : (backToKw pos (keywordEach kws X.env)).filterMap (·.1) = ks := by rfl)
    (hpl : ((backTo pos (starEach [] X.env)).any (·.1) || (backToKw pos (keywordEach kws X.env)).any (·.1.isNone)) = false := by rfl)
    (ht : eval (.Call (.Attribute o m apos) [] kws pos) X.env = (do
      let ov ← eval o X.env
      standAt apos.atName
      let (f, first) ← holding [ov] (getMethod ov m pl)
      callWith pos f first (backTo pos (starEach [] X.env)) (backToKw pos (keywordEach kws X.env))) := by rfl) (hlm : ks.length = lm := by rfl) : DE X (.Call (.Attribute o m apos) [] kws pos) (dMethK C m 0 lm sp idx to dNil tk) := by
  subst hlm
  obtain ⟨f, fd, ps, cl, me, F, hb⟩ := c.ex
  refine ⟨fun pins s σ H Q I h => ?_⟩
  refine PySem.W.methodCall_KW (pl := pl) (thn (ho.run pins s σ H _ I (em_methK h)) fun u s1 ⟨x, H1, I1, rx, a, dx, fs, ex, ea, l, q⟩ => ?_) ht
  subst ex
  obtain rfl : u = Value.ref a := rx
  refine getmeth_ok I1 ea cl me l ?_
  refine PySem.W.callWith_KW0 (first := [.ref a]) (h₀ := X.base) I.ok.mod.kin me.kp hall ?_ hpl
  refine thn (hkw.run pos pins s1 σ H1 _ I1 (emA_nil q)) fun ws s3 ⟨zs, H3, I3, rz, l, q3⟩ => ⟨I3.kIn, ?_⟩
  rw [hks]
  exact run_fndKM (us := []) (vs := []) F (hr.mono hk) hb I3 .nil rz rfl l.2 q3
end
/-! y = {k: v for .. in d.items()} -/
section
variable {X : Cx}
theorem dsw_true {kx vx : Expr} {gs : List Comprehension} {sco : Scope} {pp py : Pos} {y : Str} {l : Nat} {ev : Env} (e1 : ev.scope.kind = .function) (e2 : ev.scope.names.lookup y = some .local) (e3 : (py.line == pp.line) = true)
    (e4 : (sco.names.any fun (n, k) => n == y && (k == .local || k == .cell)) = false) : swapsWith (.DictComp kx vx gs sco pp) (some (.Name y py)) l ev = pure true := by
  have a1 : ev.kindOf y = some .local := e2
  have a2 : ev.blockKind = .function := by
    unfold Env.blockKind
    rw [e1]
    rfl
  unfold swapsWith
  simp only [a2, a1, e4, Expr.pos, e3]
  rfl
theorem ps_setDc {i : Nat} {y : Str} {py : Pos} {kx vx tg it : Expr} {ifs : List Expr} {sco : Scope} {own : List (Str × Nat)} {pp sp2 : Pos} {wi : TI} {g : TG} {tt : TT} {tk tv : TE} (hc : X.calm = true) (hN : X.N.Nodup) (hy : X.N[i]? = some y)
    (hyl : X.env.scope.names.lookup y = some .local) (hsw : swapsWith (.DictComp kx vx [⟨tg, it, ifs, 0⟩] sco pp) (some (.Name y py)) sp2.line X.env = pure true) (hi : PI X tg it wi) (ok : BlkOk X.N X.env.scope sco own)
    (pg : ∀ (s : Shared) (H : Hp) (C : Addr) (cl : List (Str × Addr)) (fp : List Addr), PG (X.blk s H sco (compEnvC sco cl C X.env) fp) tg g)
    (pt : ∀ (s : Shared) (H : Hp) (C : Addr) (cl : List (Str × Addr)) (fp : List Addr), PTs (X.blk s H sco (compEnvC sco cl C X.env) fp) ifs tt)
    (pk : ∀ (s : Shared) (H : Hp) (C : Addr) (cl : List (Str × Addr)) (fp : List Addr), PE (X.blk s H sco (compEnvC sco cl C X.env) fp) kx tk)
    (pv : ∀ (s : Shared) (H : Hp) (C : Addr) (cl : List (Str × Addr)) (fp : List Addr), PE (X.blk s H sco (compEnvC sco cl C X.env) fp) vx tv) (hs : ∀ z, foldedSetIterable it X.env z = pure z) :
    PS X (.Assign [.Name y py] (.DictComp kx vx [⟨tg, it, ifs, 0⟩] sco pp) sp2) (tAsg (tDc wi g tt tk tv (own.map (·.2))) (gName i)) := by
  refine ⟨fun pins s σ H D I q0 => ?_⟩
  rw [exec_Assign_Name_used _ _ _ _ hsw]
  refine wpAny_bind (wpAny_standAt (wpAny_bind ?_))
  show wpAny _ X.A (do
    let _ ← comprehension (.DictComp kx vx [⟨tg, it, ifs, 0⟩] sco pp) sco X.env (firstIterPos [⟨tg, it, ifs, 0⟩] pp) newDict false (eval it X.env) (some (assign (.Name y py) X.env))) _ _ s
  have q1 : tDc wi g tt tk tv (own.map (·.2)) σ H (fun x H1 => gName i x σ H1 D.nx) := q0
  refine wpAny_bind (thn (dc_core (Qf := fun _ s' => SP X pins D .next s') hc hN I hi ok pg pt pk pv hs q1 fun L C s' m H' I' q hn f => ?_) fun _ s' z => wpAny_pure (wpAny_pure z))
  show wpAny _ _ (assign (.Name y py) X.env (.ref L)) _ _ _
  refine wpAny_assign_Name (store_ok2 (v := V.ref L) I' hN hy (.inl hyl) rfl (fun s2 I2 ⟨a, sb, ha⟩ => ?_) (.inr hyl))
  obtain ⟨f0, f1, f2, f3, f4, f5⟩ := f
  have ne : C ≠ a := by
    rcases ha with z | z
    · intro e; rw [z] at e; exact f1 e
    · intro e; exact f4 y a z e.symm
  exact ⟨m, hn.sameBut sb ne, fun h3 sb3 => ⟨_, H', I2.turned (t' := s2.toks) (fun b o hb e => (sb3.2 b hb).trans e) f0 f1 f3 f4 f5, q⟩⟩
theorem ds_setDcItems {pos spos py : Pos} {j i : Nat} {y x : Str} {elts : List Expr} {kk : Nat} {tpos vpos apos cpos : Pos} {kx vx : Expr} {sco : Scope} {own : List (Str × Nat)} {t : Tgt} {tk tv : TD} (hc : X.calm = true) (hN : X.N.Nodup)
    (hy : X.N[j]? = some y) (hyl : X.env.scope.names.lookup y = some .local)
    (hsw : swapsWith (.DictComp kx vx [⟨.Tuple elts kk tpos, .Call (.Attribute (.Name x vpos) "items" apos) [] [] cpos, [], 0⟩] sco pos) (some (.Name y py)) spos.line X.env = pure true)
    (hi : X.N[i]? = some x) (hvis : Vis X.env.scope x) (ok : BlkOk X.N X.env.scope sco own) (hv : t.own (own.map (·.2)) = true)
    (hg : ∀ (s : Shared) (H : Hp) (C : Addr) (cl : List (Str × Addr)) (fp : List Addr), PG (X.blk s H sco (compEnvC sco cl C X.env) fp) (.Tuple elts kk tpos) (gOf X.K t))
    (hk : ∀ (s : Shared) (H : Hp) (C : Addr) (cl : List (Str × Addr)) (fp : List Addr), DE (X.blk s H sco (compEnvC sco cl C X.env) fp) kx tk)
    (he : ∀ (s : Shared) (H : Hp) (C : Addr) (cl : List (Str × Addr)) (fp : List Addr), DE (X.blk s H sco (compEnvC sco cl C X.env) fp) vx tv)
    (hd : (x == ("__debug__" : Str)) = false := by decide) (hcd : (x == ("__classdict__" : Str)) = false := by decide)
    (hbase : attributeBase (.Name x vpos) "items" X.env (eval (.Name x vpos) X.env) = eval (.Name x vpos) X.env := by rfl) (hline : (apos.endLine == cpos.line) = true := by rfl)
    (hs : ∀ z, foldedSetIterable (.Call (.Attribute (.Name x vpos) "items" apos) [] [] cpos) X.env z = pure z := by intro _; rfl) :
    DS X (.Assign [.Name y py] (.DictComp kx vx [⟨.Tuple elts kk tpos, .Call (.Attribute (.Name x vpos) "items" apos) [] [] cpos, [], 0⟩] sco pos) spos) (dAsg (dDcItems i t tk tv (own.map (·.2))) (.nm j)) :=
  PS.le (ps_lock (ps_setDc (wi := iItems (tVar i)) (tt := emT X.K dYes) (tk := emE X.K tk) (tv := emE X.K tv) hc hN hy hyl hsw (pi_items (pe_var hi hvis hd hcd) hbase hline) ok hg (fun _ _ _ _ _ => dts_nil) hk he hs)) fun D1 σ H h => by
    have q := em_asg (te := dDcItems i t tk tv (own.map (·.2))) (tt := .nm j) h
    obtain ⟨d, u, h1, h2, h3⟩ := em_dcItems hv q
    exact ⟨d, u, h1, h2, h3⟩
end
end QL
end L2
/-! small stores: what a def does not know of, it leaves as it was -/
namespace L2
namespace QL
open PySem PySem.Spec PyProof.Rows
def Sto.minus (S h : Sto) : Sto := fun a => match h a with
  | none => S a
  | some _ => none
def Sto.join (h F : Sto) : Sto := fun a => match h a with
  | none => F a
  | some c => some c
theorem minus_self (S : Sto) : S.minus S = fun _ => none := by
  funext a; unfold Sto.minus
  cases h : S a <;> rfl
theorem join_none (h : Sto) : h.join (fun _ => none) = h := by
  funext a; unfold Sto.join
  cases h a <;> rfl
theorem minus_some {S h : Sto} {a : Addr} {c : Cell} (e : S.minus h a = some c) : h a = none ∧ S a = some c := by
  unfold Sto.minus at e
  cases q : h a with
  | none => rw [q] at e; exact ⟨rfl, e⟩
  | some d => rw [q] at e; cases e
theorem minus_none {S h : Sto} {a : Addr} (q : h a = none) : S.minus h a = S a := by unfold Sto.minus; rw [q]
theorem minus_in {S h : Sto} {a : Addr} {c : Cell} (q : h a = some c) : S.minus h a = none := by unfold Sto.minus; rw [q]
theorem join_some {h F : Sto} {a : Addr} {c : Cell} (q : h a = some c) : h.join F a = some c := by unfold Sto.join; rw [q]
theorem join_else {h F : Sto} {a : Addr} (q : h a = none) : h.join F a = F a := by unfold Sto.join; rw [q]
/-- the promise, with a frame -/
structure frm (sp : SpD) (ds : List D) (S : Sto) (Q : DK) : Prop where
  ex : ∃ h, Sb h S ∧ sp ds h fun d h' => (∀ a, h' a ≠ none → S.minus h a = none) → Q d (h'.join (S.minus h))
theorem frm_id {sp : SpD} {ds : List D} {S : Sto} {Q : DK} (h : sp ds S fun d h' => Q d (h'.join (S.minus S))) : frm sp ds S Q := by
  refine ⟨⟨S, Sb.refl S, ?_⟩⟩
  have e : (fun d h' => (∀ a, h' a ≠ none → S.minus S a = none) → Q d (Sto.join h' (S.minus S))) = fun d h' => Q d (Sto.join h' (S.minus S)) := by
    funext d h'
    exact propext ⟨fun g => g fun a _ => by rw [minus_self], fun g _ => g⟩
  rw [e]
  exact h
theorem join_minus_self (h' S : Sto) : h'.join (S.minus S) = h' := by rw [minus_self, join_none]
/-- where the promise does not look at the end but hands it on -/
theorem frm_of {sp : SpD} {ds : List D} {S : Sto} {Q : DK} (h : sp ds S Q) : frm sp ds S Q := frm_id (by
  have e : (fun d h' => Q d (Sto.join h' (S.minus S))) = Q := by funext d h'; rw [join_minus_self]
  rw [e]; exact h)
theorem CellAt.keep {K : PySem.W.Frag} {S : Sto} {H H' : Hp} {S' : Sto} {a : Addr} {c : Cell} (p : Post K S H S' H') (n : S a = none) (h : CellAt K H a c) : CellAt K H' a c := by
  cases c with
  | lst ds => obtain ⟨vs, h1, h2⟩ := h; exact ⟨vs, p.frame a _ n h1, h2.mono p.tk⟩
  | dic kvs => obtain ⟨q, h1, h2⟩ := h; exact ⟨q, p.frame a _ n h1, h2.mono p.tk⟩
  | ins C fs => obtain ⟨dx, q, h1, h2⟩ := h; exact ⟨dx, q, p.frame a _ n h1, h2.mono p.tk⟩
theorem emSp_frm {K : PySem.W.Frag} {sp : SpD} {vs : List V} {H : Hp} {Q : VK} (h : emSp K (frm sp) vs H Q) : emSp K sp vs H Q := by
  obtain ⟨ds, S, Q0, r, rs, ⟨⟨h0, sb, hsp⟩⟩, k⟩ := h
  refine ⟨ds, h0, _, r, rs.sub sb, hsp, fun d h' v H' q p rs' r' => ?_⟩
  have dj : ∀ a, h' a ≠ none → S.minus h0 a = none := fun a ne => by
    cases q0 : h0 a with
    | some c => exact minus_in q0
    | none =>
      rw [minus_none q0]
      cases qs : S a with
      | none => rfl
      | some c => exact absurd (p.dom a q0 (rs a c qs).there) ne
  refine k d _ v H' (q dj) ⟨p.tk, fun a o n e => ?_, fun a n e => ?_⟩ (fun a c e => ?_) r'
  · have n0 : h0 a = none := sb.free n
    exact p.frame a o n0 e
  · have n0 : h0 a = none := sb.free n
    rw [join_else (p.dom a n0 e), minus_none n0]
    exact n
  · cases qa : h' a with
    | some d0 => rw [join_some qa] at e; cases e; exact rs' a _ qa
    | none =>
      rw [join_else qa] at e
      obtain ⟨n0, e⟩ := minus_some e
      exact (rs a c e).keep p n0
theorem FnD.frame {P : Program} {w : World} {K : PySem.W.Frag} {mg : Str → Option Value} {base : Heap} {k : Nat} {f : Addr} {fd : FuncData} {ps : List Str} {sp : SpD} (F : FnD P w K mg base k f fd ps sp) : FnD P w K mg base k f fd ps (frm sp) :=
  ⟨fun ds S Q ⟨⟨_, _, h⟩⟩ => F.len ds _ _ h, fun A outer s H args us vs Q hr e0 hb r h => F.run A outer s H args us vs Q hr e0 hb r (emSp_frm h)⟩
/-! assertions side by side -/
abbrev HP := Sto → Prop
inductive Star : List HP → Sto → Prop
  | nil {S : Sto} : Star [] S
  | cons {P : HP} {L : List HP} {S : Sto} (h : Sto) (p : P h) (sb : Sb h S) (r : Star L (S.minus h)) : Star (P :: L) S
def cell (a : Addr) (c : Cell) : HP := fun h => h a = some c
theorem minus_mono {S S' h : Sto} (s : Sb S S') : Sb (S.minus h) (S'.minus h) := fun a c e => by
  obtain ⟨n, e⟩ := minus_some e
  rw [minus_none n]
  exact s a c e
theorem minus_sb (S h : Sto) : Sb (S.minus h) S := fun a c e => (minus_some e).2
theorem Star.mono {L : List HP} {S : Sto} (h : Star L S) : ∀ {S' : Sto}, Sb S S' → Star L S' := by
  induction h with
  | nil => exact fun _ => .nil
  | cons h p sb r ih => exact fun s => .cons h p (sb.trans s) (ih (minus_mono s))
theorem Star.swap {P Q : HP} {L : List HP} {S : Sto} (h : Star (P :: Q :: L) S) : Star (Q :: P :: L) S := by
  cases h with
  | cons h1 p1 s1 r =>
    cases r with
    | cons h2 p2 s2 r =>
      refine .cons h2 p2 (s2.trans (minus_sb _ _)) (.cons h1 p1 (fun a c e => ?_) (r.mono fun a c e => ?_))
      · cases q : h2 a with
        | none => rw [minus_none q]; exact s1 a c e
        | some d => exact absurd (s2 a d q) (by rw [minus_in e]; simp)
      · obtain ⟨n2, e⟩ := minus_some e
        obtain ⟨n1, e⟩ := minus_some e
        rw [minus_none n1, minus_none n2]; exact e
theorem Star.perm {L L' : List HP} (p : L.Perm L') : ∀ {S : Sto}, Star L S → Star L' S := by
  induction p with
  | nil => exact fun h => h
  | cons x _ ih => intro S h; cases h with | cons h p sb r => exact .cons h p sb (ih r)
  | swap x y l => exact fun h => h.swap
  | trans _ _ ih1 ih2 => exact fun h => ih2 (ih1 h)
theorem Star.to (L1 : List HP) {P : HP} {L2 : List HP} {S : Sto} (h : Star (L1 ++ P :: L2) S) : Star (P :: (L1 ++ L2)) S := h.perm List.perm_middle
theorem Star.back (L1 : List HP) {P : HP} {L2 : List HP} {S : Sto} (h : Star (P :: (L1 ++ L2)) S) : Star (L1 ++ P :: L2) S := h.perm List.perm_middle.symm
theorem Star.drop {P : HP} {L : List HP} {S : Sto} (h : Star (P :: L) S) : Star L S := by
  cases h with | cons h p sb r => exact r.mono (minus_sb _ _)
theorem Star.left {L1 L2 : List HP} {S : Sto} (h : Star (L1 ++ L2) S) : Star L1 S := by
  have h2 := h.perm List.perm_append_comm
  clear h
  induction L2 with
  | nil => exact h2
  | cons P L2 ih => exact ih h2.drop
theorem Star.right (L1 : List HP) {L2 : List HP} {S : Sto} (h : Star (L1 ++ L2) S) : Star L2 S := by
  induction L1 with
  | nil => exact h
  | cons P L1 ih => exact ih h.drop
theorem Star.first {P : HP} {L : List HP} {S : Sto} (h : Star (P :: L) S) : ∃ h0, P h0 ∧ Sb h0 S := by
  cases h with | cons h p sb r => exact ⟨h, p, sb⟩
theorem Star.at1 {a : Addr} {c : Cell} {L : List HP} {S : Sto} (h : Star (cell a c :: L) S) : S a = some c := by
  obtain ⟨h0, p, sb⟩ := h.first
  exact sb a c p
/-- the cell at a place of the list -/
theorem Star.get (L1 : List HP) {a : Addr} {c : Cell} {L2 : List HP} {S : Sto} (h : Star (L1 ++ cell a c :: L2) S) : S a = some c := (h.to L1).at1
theorem Star.upd {P P' : HP} {L : List HP} {S S' : Sto} (h : Star (P :: L) S) (g : ∀ h0, P h0 → Sb h0 S → ∃ h', P' h' ∧ Sb h' S' ∧ ∀ a c, h0 a = none → S a = some c → S' a = some c ∧ h' a = none) : Star (P' :: L) S' := by
  cases h with
  | cons h0 p sb r =>
    obtain ⟨h', p', sb', fr⟩ := g h0 p sb
    refine .cons h' p' sb' (r.mono fun a c e => ?_)
    obtain ⟨n, e⟩ := minus_some e
    obtain ⟨e1, e2⟩ := fr a c n e
    rw [minus_none e2]; exact e1
def one (a : Addr) (c : Cell) : Sto := fun b => if b = a then some c else none
theorem one_eq {a : Addr} {c : Cell} : one a c a = some c := if_pos rfl
theorem one_ne {a b : Addr} {c : Cell} (h : b ≠ a) : one a c b = none := if_neg h
theorem one_sb {S : Sto} {a : Addr} {c : Cell} : Sb (one a c) (S.put a c) := fun b d e => by
  by_cases hb : b = a
  · subst hb; rw [one_eq] at e; cases e; exact put_eq
  · rw [one_ne hb] at e; cases e
theorem Star.put1 {a : Addr} {c c' : Cell} {L : List HP} {S : Sto} (h : Star (cell a c :: L) S) : Star (cell a c' :: L) (S.put a c') := by
  refine h.upd fun h0 p sb => ⟨one a c', one_eq, one_sb, fun b d n e => ?_⟩
  have hb : b ≠ a := fun z => by
    subst z
    have p : h0 b = some c := p
    rw [p] at n; cases n
  exact ⟨by rw [put_ne hb]; exact e, one_ne hb⟩
theorem Star.put (L1 : List HP) {a : Addr} {c c' : Cell} {L2 : List HP} {S : Sto} (h : Star (L1 ++ cell a c :: L2) S) : Star (L1 ++ cell a c' :: L2) (S.put a c') := (h.to L1).put1.back L1
theorem Star.new1 {a : Addr} {L : List HP} {S : Sto} (h : Star L S) (n : S a = none) (c : Cell) : Star (cell a c :: L) (S.put a c) := by
  refine .cons (one a c) one_eq one_sb (h.mono fun b d e => ?_)
  have hb : b ≠ a := fun z => by subst z; rw [n] at e; cases e
  rw [minus_none (one_ne hb), put_ne hb]; exact e
/-- a new cell, at the end of the list -/
theorem Star.new {a : Addr} {L : List HP} {S : Sto} (h : Star L S) (n : S a = none) (c : Cell) : Star (L ++ [cell a c]) (S.put a c) := by
  have := h.new1 n c
  exact this.perm (List.perm_append_comm (l₁ := [cell a c]) (l₂ := L))
/-- a def is called that knows the thing at the list's head -/
theorem frm_at {sp : SpD} {ds : List D} {S : Sto} {Q : DK} {P : HP} (L1 : List HP) {L2 : List HP} (hs : Star (L1 ++ P :: L2) S)
    (h : ∀ h0, P h0 → ∀ Q' : DK, (∀ d h', (∀ S2, (∀ P' : HP, P' h' → Star (L1 ++ P' :: L2) S2) → Q d S2) → Q' d h') → sp ds h0 Q') : frm sp ds S Q := by
  have hs' := hs.to L1
  cases hs' with
  | cons h0 p sb r =>
    refine ⟨⟨h0, sb, h h0 p _ fun d h' q dj => q _ fun P' p' => ?_⟩⟩
    refine Star.back L1 (.cons h' p' (fun a c e => join_some e) (r.mono fun a c e => ?_))
    have n : h' a = none := by
      cases q : h' a with
      | none => rfl
      | some d => exact absurd (dj a (by rw [q]; simp)) (by rw [e]; simp)
    rw [minus_none n, join_else n]; exact e
/-- nothing is known -/
def bas (S0 : Sto) : HP := fun h => Sb S0 h
theorem star_bas (S : Sto) : Star [bas S] S := .cons S (Sb.refl S) (Sb.refl S) .nil
theorem Star.sb {S0 : Sto} {L : List HP} {S : Sto} (h : Star (bas S0 :: L) S) : Sb S0 S := by
  obtain ⟨h0, p, sb⟩ := h.first
  exact Sb.trans p sb
end QL
end L2
/-! any of ints, in a list or a tuple -/
namespace L2
namespace QL
open PySem PySem.Spec PyProof.Rows
theorem truth_ints {prog : Program} {w : World} {A : Around} {ns : List Int} {its : List Value} (r : Vals (ns.map V.int) its) :
    TruthOf prog w A (fun i v => its.toArray[i]? = some v) (fun i => (ns.map fun n => n != 0).getD i false) := fun i v s Q E hv hq => by
  have hv' : its[i]? = some v := by simpa using hv
  have key : ∀ {ns : List Int} {its : List Value} {i : Nat}, Vals (ns.map V.int) its → its[i]? = some v → ∃ n, ns[i]? = some n ∧ RelV (V.int n) v := by
    intro ns
    induction ns with
    | nil => intro its i r e; cases r; simp at e
    | cons n ns ih =>
      intro its i r e
      cases r with
      | cons h t =>
        cases i with
        | zero => simp at e; subst e; exact ⟨n, rfl, h⟩
        | succ i => obtain ⟨m, h1, h2⟩ := ih t (by simpa using e); exact ⟨m, by simpa using h1, h2⟩
  obtain ⟨n, hn, t, rfl⟩ := key r hv'
  have e : (ns.map fun n => n != 0).getD i false = (n != 0) := by
    rw [List.getD_eq_getElem?_getD, List.getElem?_map, hn]; rfl
  have hq' : Q ((ns.map fun n => n != 0).getD i false) s := hq
  rw [e] at hq'
  exact PyProof.Rows.truthy_int hq'
theorem any_rng (ns : List Int) : (List.range (ns.map fun n => n != 0).length).any (fun i => (ns.map fun n => n != 0).getD i false) = ns.any fun n => n != 0 := by
  rw [any_range, List.any_map]; rfl
def rAnyI (K : PySem.W.Frag) : List V → Hp → VK → Prop := fun vs H Q => ∃ (a : Addr) (ns : List Int), vs = [V.ref a] ∧ (SqL K H a (ns.map V.int) ∨ SqT K H a (ns.map V.int)) ∧ Q (.bl (ns.any fun n => n != 0)) H
theorem cr_anyI {X : Cx} (hc : X.calm = true) : CallR X (.builtin "any") (rAnyI X.K) := by
  intro pins s σ H vs us Q I r h
  obtain ⟨a, ns, rfl, hs, q⟩ := h
  rw [Vals.ref1 r]
  rcases hs with hs | hs
  · obtain ⟨its, rv, hl, _⟩ := I.list hs
    refine call_any_walk (iter_any hl.isList fun s₂ e2 st hne => ?_)
    subst e2
    refine ⟨_, _, _, _, _, _, _, rfl, Walks.list (A := X.A.in1) (I.ok.hd hc) _ a hne its.toArray, st, truth_ints rv, fun h' tk hk => ?_⟩
    refine ⟨.bl _, H, I.kept fun b o eo => hk b o (fun hm => ?_) (Heap.get?_push_of_some _ eo), ?_, q⟩
    · rcases List.mem_cons.mp hm with e1 | hm
      · subst e1; exact absurd (Heap.lt_size eo) (Nat.lt_irrefl _)
      · cases hm
    · show Value.bool _ = Value.bool _
      have e := any_rng ns
      have hl2 := rv.length
      rw [List.length_map] at e hl2
      rw [← e, List.size_toArray, ← hl2]
  · obtain ⟨its, rv, hl, _⟩ := I.tuple hs
    have hl : s.heap.IsTuple a its.toArray := hl
    have hlt : a < s.heap.objs.size := by obtain ⟨_, e, _⟩ := hl; exact Heap.lt_size e
    refine call_any_walk (wpAny_pyIter_tuple hl ?_)
    refine ⟨_, _, _, _, _, _, _, rfl, Walks.tuple (A := X.A.in1) (I.ok.hd hc) _ a (Nat.ne_of_lt hlt) its.toArray, ⟨⟨_, Heap.get?_push_size _ rfl, rfl, rfl⟩, hl.push _⟩, truth_ints rv, fun h' tk hk => ?_⟩
    refine ⟨.bl _, H, I.kept fun b o eo => hk b o (fun hm => ?_) (Heap.get?_push_of_some _ eo), ?_, q⟩
    · rcases List.mem_cons.mp hm with e1 | hm
      · subst e1; exact absurd (Heap.lt_size eo) (Nat.lt_irrefl _)
      · cases hm
    · show Value.bool _ = Value.bool _
      have e := any_rng ns
      have hl2 := rv.length
      rw [List.length_map] at e hl2
      rw [← e, List.size_toArray, ← hl2]
def rdAnyI : RLD := fun xs S Q => ∃ ns : List Int, xs = ns.map D.int ∧ Q (.bl (ns.any fun n => n != 0)) S
section
variable {X : Cx} {a : Expr} {p pos : Pos} {K : PySem.W.Frag}
theorem lr_anyI : LstR K rdAnyI (fun x H Q => rAnyI K [x] H Q) := fun a xs vs S H Q0 Q g rr rs h k => by
  obtain ⟨ns, rfl, h⟩ := h
  rw [rr.ints] at g
  exact ⟨a, ns, rfl, .inl g, k _ S _ H h Post.refl rs (.bl _)⟩
theorem tr_anyI : TupR K rdAnyI (fun x H Q => rAnyI K [x] H Q) := fun a xs vs S H Q0 Q g rr rs h k => by
  obtain ⟨ns, rfl, h⟩ := h
  rw [rr.ints] at g
  exact ⟨a, ns, rfl, .inr g, k _ S _ H h Post.refl rs (.bl _)⟩
theorem c_anyI (hc : X.calm = true) (hg : Gl X "any") (hm : X.mg "any" = none) (he : starEach (a :: []) X.env = (false, eval a X.env) :: starEach [] X.env := by rfl) : C1 X a (.Call (.Name "any" p) [a] [] pos) (fun x H Q => rAnyI X.K [x] H Q) := c1_b (cr_anyI hc) hg hm boot_any (he := he)
/-- bools or ints -/
def rAnyM (K : PySem.W.Frag) : List V → Hp → VK → Prop := fun vs H Q => rAny K vs H Q ∨ rAnyI K vs H Q
theorem cr_anyM (hc : X.calm = true) : CallR X (.builtin "any") (rAnyM X.K) := by
  intro pins s σ H vs us Q I r h
  rcases h with h | h
  · exact cr_any hc pins s σ H vs us Q I r h
  · exact cr_anyI hc pins s σ H vs us Q I r h
def rdAnyM : RLD := fun xs S Q => rdAny xs S Q ∨ rdAnyI xs S Q
theorem lr_anyM : LstR K rdAnyM (fun x H Q => rAnyM K [x] H Q) := fun a xs vs S H Q0 Q g rr rs h k => by
  rcases h with h | h
  · exact .inl (lr_any a xs vs S H Q0 Q g rr rs h k)
  · exact .inr (lr_anyI a xs vs S H Q0 Q g rr rs h k)
theorem c_anyM (hc : X.calm = true) (hg : Gl X "any") (hm : X.mg "any" = none) (he : starEach (a :: []) X.env = (false, eval a X.env) :: starEach [] X.env := by rfl) : C1 X a (.Call (.Name "any" p) [a] [] pos) (fun x H Q => rAnyM X.K [x] H Q) := c1_b (cr_anyM hc) hg hm boot_any (he := he)
end
end QL
end L2
/-! a list of lists, and the empty list -/
namespace L2
namespace QL
open PySem PySem.Spec PyProof.Rows
def rdEqE (g : Bool → Bool) : RD := fun x y S Q => match x, y with
  | .loc p, .loc q => match S p, S q with
    | some (.lst xs), some (.lst []) => (∀ x ∈ xs, ∃ r ys, x = .loc r ∧ S r = some (.lst ys) ∧ ∀ y ∈ ys, fine 50 y) ∧ Q (.bl (g (decide (xs.length = 0)))) S
    | _, _ => False
  | _, _ => False
def rdEE : RD := rdEqE fun b => b
def rdNeE : RD := rdEqE fun b => !b
theorem dp_lsts {K : PySem.W.Frag} {S : Sto} {H : Hp} (rs : RelS K S H) : ∀ (xs : List D) (vs : List V), Reps K H xs vs → (∀ x ∈ xs, ∃ r ys, x = .loc r ∧ S r = some (.lst ys) ∧ ∀ y ∈ ys, fine 50 y) →
    ∃ ds : List PyData, DpAll K H vs ds ∧ ds.length = xs.length ∧ PyData.canLayAll0 ds = true ∧ PyData.depthAll ds ≤ 52
  | [], _, .nil, _ => ⟨[], .nil, rfl, rfl, by simp [PyData.depthAll]⟩
  | x :: xs, _, .cons h r, f => by
    obtain ⟨ds, a, b, c, d⟩ := dp_lsts rs xs _ r fun y hy => f y (List.mem_cons_of_mem _ hy)
    obtain ⟨p, ys, rfl, e, fy⟩ := f x List.mem_cons_self
    cases h
    obtain ⟨vs, a1, b1⟩ := rs _ _ e
    refine ⟨.list (toPys ys) :: ds, .cons (.lst (.of a1) (reps_dp _ (fun d hd => fine_dp 50 d (fy d hd)) _ b1)) a, by simp [b], ?_, ?_⟩
    · show (PyData.canLay0 (.list (toPys ys)) && PyData.canLayAll0 ds) = true
      rw [c, Bool.and_true]
      exact lay_all ys fun y hy => (fine_lay 50 y (fy y hy)).1
    · have q := deep_all ys 51 fun y hy => (fine_lay 50 y (fy y hy)).2
      simp only [PyData.depthAll, PyData.depth]
      omega
theorem em_eqE {K : PySem.W.Frag} {g : Bool → Bool} {d1 d2 : D} {S : Sto} {Q0 : DK} {v1 v2 : V} {H : Hp} {Q : VK} (rs : RelS K S H) (r1 : Rep K H d1 v1) (r2 : Rep K H d2 v2) (h : rdEqE g d1 d2 S Q0)
    (k : ∀ d S' v H', Q0 d S' → Post K S H S' H' → RelS K S' H' → Rep K H' d v → Q v H') : (∃ d e, Dp K H v1 d ∧ Dp K H v2 e ∧ SeqAt.shaped d = true ∧ SeqAt.shaped e = true ∧ Q (.bl (g (PyData.eqv d e))) H) ∨ (scal v1 v2 = true ∧ Q (.bl (g (decide (v1 = v2)))) H) := by
  unfold rdEqE at h
  split at h
  · cases r1; cases r2
    split at h
    · rename_i xs e1 e2
      obtain ⟨vs, a, b⟩ := rs _ _ e1
      obtain ⟨ds, p1, p2, p3, p4⟩ := dp_lsts rs _ _ b h.1
      obtain ⟨a2, b2⟩ := dp_lst rs e2 (fun _ h => by cases h)
      refine .inl ⟨.list ds, _, .lst (.of a) p1, a2, ?_, b2, ?_⟩
      · unfold SeqAt.shaped
        rw [Bool.and_eq_true]
        refine ⟨p3, decide_eq_true ?_⟩
        simp only [PyData.depth]
        omega
      · have e : PyData.eqv (.list ds) (.list (toPys [])) = decide (xs.length = 0) := by
          cases ds with
          | nil => cases xs with
            | nil => rfl
            | cons x xs => cases p2
          | cons d ds => cases xs with
            | nil => cases p2
            | cons x xs => rfl
        rw [e]
        exact k _ S _ H h.2 Post.refl rs (.bl _)
    · exact h.elim
  · exact h.elim
theorem od_eE {K : PySem.W.Frag} : OpD K (rEqA K) rdEE := fun _ _ _ _ _ _ _ _ rs r1 r2 h k => em_eqE rs r1 r2 h k
theorem od_neE {K : PySem.W.Frag} : OpD K (rNeA K) rdNeE := fun _ _ _ _ _ _ _ _ rs r1 r2 h k => em_eqE rs r1 r2 h k
theorem cr_reprS {X : Cx} : CallR X (.builtin "repr") (fun xs H Q => ∃ x, xs = [.str x] ∧ (reprText x).length ≤ sizeLine ∧ Q (.str (reprText x)) H) := by
  intro pins s σ H xs us Q I r h
  obtain ⟨x, rfl, hz, q⟩ := h
  obtain ⟨u, rfl, t, rfl⟩ := vals1 r
  exact PySem.P.repr_of_str ⟨.str _, H, I.tok _, ⟨_, rfl⟩, q⟩ hz
def dReprS (ta : TD) : TD := fun e S Q => ta e S fun x S1 => match x with
  | .str s => (reprText s).length ≤ sizeLine ∧ Q (.str (reprText s)) S1
  | _ => False
theorem de_reprS {X : Cx} {a : Expr} {ta : TD} {p pos : Pos} (hc : X.calm = true) (hg : Gl X "repr") (hm : X.mg "repr" = none) (ha : DE X a ta) (he : starEach (a :: []) X.env = (false, eval a X.env) :: starEach [] X.env := by rfl) : DE X (.Call (.Name "repr" p) [a] [] pos) (dReprS ta) :=
  PE.le ((c1_b (p := p) (pos := pos) cr_reprS hg hm boot_repr (he := he)).to _ ha) fun σ H Q h => by
    obtain ⟨e, S, Q0, re, rs, h1, k⟩ := h
    refine ⟨e, S, _, re, rs, h1, fun d S1 v H1 q p rs1 r => ?_⟩
    cases r with
    | str s => exact ⟨s, rfl, q.1, k _ S1 _ H1 q.2 p rs1 (.str _)⟩
    | _ => exact q.elim
theorem reprw (r : Str) (h : r = "new" ∨ r = "contradiction" ∨ r = "implied") : (reprText r).length ≤ sizeLine := by
  rw [sizeLine_eq]
  rcases h with rfl | rfl | rfl <;> decide +kernel
end QL
end L2
/-! sorted(x) of a list of texts; a list unpacked into names -/
namespace L2
namespace QL
open PySem PySem.Spec PyProof.Rows
theorem reps_strs {K : PySem.W.Frag} {H : Hp} : ∀ ks : List Str, Reps K H (ks.map D.str) (ks.map V.str)
  | [] => .nil
  | k :: ks => .cons (.str k) (reps_strs ks)
def rdSortS : RLD := fun xs S Q => ∃ ks : List Str, xs = ks.map D.str ∧ ks.length < 64 ∧ ∀ (ys : List Str) (p : Addr), ys.Perm ks → sortedS ys = true → S p = none → Q (.loc p) (S.put p (.lst (ys.map D.str)))
theorem lr_sortS {K : PySem.W.Frag} : LstR K rdSortS (fun x H Q => rSortedS K [x] H Q) := fun a xs vs S H Q0 Q g rr rs h k => by
  obtain ⟨ns, rfl, h64, q⟩ := h
  rw [rr.strs] at g
  exact ⟨a, ns, rfl, g, h64, fun ys p h1 h2 hp => k _ _ _ _ (q ys p h1 h2 (rs.none_of hp)) (Post.new hp) (new_lst rs hp (reps_strs ys)) (.loc p)⟩
section
variable {X : Cx} {a : Expr} {p pos : Pos}
theorem c_sortS (hg : Gl X "sorted") (hm : X.mg "sorted" = none) (he : starEach (a :: []) X.env = (false, eval a X.env) :: starEach [] X.env := by rfl) : C1 X a (.Call (.Name "sorted" p) [a] [] pos) (fun x H Q => rSortedS X.K [x] H Q) := c1_b cr_sortedS hg hm boot_sorted (he := he)
def dAsgL (te : TD) (ts : Tgts) : TSD := fun D0 e S => te e S fun d S1 => match lstD S1 d with
  | some xs => match bTs ts xs e with
    | some e' => D0.nx e' S1
    | none => False
  | none => False
theorem ds_asgL {es : List Expr} {k : Nat} {pos' : Pos} {e : Expr} {te : TD} {ts : Tgts} (hc : X.calm = true) (he : DE X e te) (hg : PGs X es (gsOf X.K ts)) (hl : (assignEach es X.env).length = ts.len := by rfl) (hf : List.findIdx? (fun x => x.fst) (assignEach es X.env) = none := by rfl)
    (hs : swapsWithSole [.Tuple es k pos'] e pos.line X.env = pure false := by rfl) (hw : swappedStores [.Tuple es k pos'] e X.env = pure none := by rfl)
    (h1 : (assignEach [.Tuple es k pos'] X.env).map (·.2) = [assign (.Tuple es k pos') X.env] := by rfl) : DS X (.Assign [.Tuple es k pos'] e pos) (dAsgL te ts) :=
  PS.le (ps_asg he (pg_lst hc hg hl hf) hs hw h1) fun D1 σ H h => by
    obtain ⟨e, S, D0, re, rs, ht, k⟩ := h
    refine ⟨e, S, _, re, rs, ht, fun d S' v H' q p rs' r => ?_⟩
    split at q
    · rename_i xs ex
      split at q
      · rename_i e' eb
        obtain ⟨a, vs, rfl, sq, rr⟩ := lst_sql rs' r ex
        exact ⟨a, vs, rfl, sq, by rw [← rr.length]; exact bTs_len ts xs e e' eb, gsOf_ok ts xs vs e e' σ _ rr (re.mono p.tk) eb fun σ' re' _ => k.nx e' S' σ' H' q p re' rs'⟩
      · exact q.elim
    · exact q.elim
end
section
variable {prog : Program} {w : World} {A : Around} {E : Value → Shared → Prop} {s : Shared}
/-- max(x) of a tuple of ints -/
theorem max_tup {xs : Array (Int × Tok)} {t : Addr} {Q : Value → Shared → Prop} (hh : A.handled = none) (ht : s.heap.IsTuple t (intItems xs)) (hne : 0 < xs.size)
    (h : ∀ v h' tk, (intItems xs)[argBest (fun i j => decide (numAt xs i > numAt xs j)) (xs.size - 1)]? = some v → (∀ b o, s.heap.get? b = some o → h'.get? b = some o) → Q v { s with heap := h', toks := tk }) :
    wpAny (model prog w) A (call (.builtin "max") [.ref t]) Q E s := by
  obtain ⟨o, ho, hc, n, hd⟩ := id ht
  have hlt : t < s.heap.objs.size := Heap.lt_size ho
  refine call_max_walk (wpAny_pyIter_tuple ht ?_)
  refine ⟨_, _, _, _, _, _, _, rfl, Walks.tuple (A := A.in1) hh _ t (Nat.ne_of_lt hlt) (intItems xs), ⟨⟨_, Heap.get?_push_size _ rfl, rfl, rfl⟩, ht.at fun o e => Heap.get?_push_of_some _ e⟩, fun b hb => ?_, by simpa [intItems] using hne, CmpOf.ints_gt (numAt xs) (fun _ _ => intItems_at), fun v h' tk hP hk => ?_⟩
  · rcases List.mem_cons.mp hb with rfl | hb
    · exact Heap.lt_size (Heap.get?_push_size _ rfl)
    · obtain rfl := List.mem_singleton.mp hb
      exact Heap.lt_size (Heap.get?_push_of_some _ ho)
  · refine h v h' tk (by simpa [intItems] using hP) fun b o e => hk b o (fun hm => ?_) (Heap.get?_push_of_some _ e)
    exact absurd (Heap.lt_size e) ((List.mem_singleton.mp hm) ▸ Nat.lt_irrefl _)
end
theorem mem_getD_at {l : List Int} {a : Int} (h : a ∈ l) : ∃ j, j < l.length ∧ l.getD j 0 = a := by
  obtain ⟨j, hj, e⟩ := List.getElem_of_mem h
  exact ⟨j, hj, by rw [List.getD_eq_getElem?_getD, List.getElem?_eq_getElem hj]; exact e⟩
def rMaxA (K : PySem.W.Frag) : List V → Hp → VK → Prop := fun vs H Q => ∃ (a : Addr) (ns : List Int), vs = [V.ref a] ∧ (SqL K H a (ns.map V.int) ∨ SqT K H a (ns.map V.int)) ∧ 0 < ns.length ∧ ∀ m, m ∈ ns → (∀ y, y ∈ ns → y ≤ m) → Q (.int m) H
theorem cr_maxA {X : Cx} (hc : X.calm = true) : CallR X (.builtin "max") (rMaxA X.K) := by
  intro pins s σ H vs us Q I r h
  obtain ⟨a, ns, rfl, hs, hne, q⟩ := h
  rcases hs with hs | hs
  · exact cr_max hc pins s σ H [.ref a] us Q I r ⟨a, ns, rfl, hs, hne, q⟩
  · obtain ⟨its, rv, hl, _⟩ := I.tuple hs
    rw [Vals.ref1 r]
    obtain ⟨xs, e⟩ := rv.ints.allInts.items
    have hn : numsOf (intItems xs).toList = ns := by rw [← e]; exact rv.ints.numsOf
    rw [nums_intItems] at hn
    subst hn
    rw [e] at hl
    have hsz : 0 < xs.size := by simpa using hne
    refine max_tup (I.ok.hd hc) hl hsz fun v h' tk hv hk => ?_
    obtain ⟨t, rfl⟩ := intItems_at hv
    obtain ⟨h1, h2⟩ := argBest_gt (numAt xs) (xs.size - 1)
    refine ⟨.int _, H, I.kept hk, ⟨_, rfl⟩, q _ ?_ fun a ha => ?_⟩
    · rw [numAt_eq]; exact PySem.getD_mem (by rw [List.length_map, Array.length_toList]; omega)
    · obtain ⟨j, hj, rfl⟩ := mem_getD_at ha
      rw [List.length_map, Array.length_toList] at hj
      rw [← numAt_eq]; exact h2 j (by omega)
theorem lr_maxA {K : PySem.W.Frag} : LstR K rdMax (fun x H Q => rMaxA K [x] H Q) := fun a xs vs S H Q0 Q g rr rs h k => by
  obtain ⟨ns, rfl, hl, q⟩ := h
  rw [rr.ints] at g
  exact ⟨a, ns, rfl, .inl g, hl, fun m h1 h2 => k _ S _ H (q m h1 h2) Post.refl rs (.int _)⟩
theorem tr_maxA {K : PySem.W.Frag} : TupR K rdMax (fun x H Q => rMaxA K [x] H Q) := fun a xs vs S H Q0 Q g rr rs h k => by
  obtain ⟨ns, rfl, hl, q⟩ := h
  rw [rr.ints] at g
  exact ⟨a, ns, rfl, .inr g, hl, fun m h1 h2 => k _ S _ H (q m h1 h2) Post.refl rs (.int _)⟩
section
variable {X : Cx} {a : Expr} {p pos : Pos}
theorem c_maxA (hc : X.calm = true) (hg : Gl X "max") (hm : X.mg "max" = none) (he : starEach (a :: []) X.env = (false, eval a X.env) :: starEach [] X.env := by rfl) : C1 X a (.Call (.Name "max" p) [a] [] pos) (fun x H Q => rMaxA X.K [x] H Q) := c1_b (cr_maxA hc) hg hm boot_max (he := he)
end
end QL
end L2
/-! range(i, j, c), tuple(range(n)) -/
namespace L2
namespace QL
open PySem PySem.Spec PyProof.Rows
def rngC (lo c : Int) (n : Nat) : List D := (List.range n).map fun (k : Nat) => .int (lo + k * c)
theorem iterOk_rngC {K : PySem.W.Frag} {H0 : Hp} {lo c : Int} {n : Nat} : IterOk K H0 (Itc lo c n) (rngC lo c n) (fun _ => True) := fun i S H tk rs _ => by
  have hl : (rngC lo c n).length = n := by simp [rngC]
  refine ⟨fun hi => by rw [hl] at hi; exact Nat.le_of_eq hi.symm, fun d hd => ?_⟩
  have hi : i < n := by rw [← hl]; exact (List.getElem?_eq_some_iff.mp hd).1
  refine ⟨hi, fun x H' y => ?_⟩
  obtain ⟨e1, e2⟩ := y
  subst e1 e2
  have e : d = .int (lo + i * c) := by
    unfold rngC at hd
    rw [List.getElem?_map, List.getElem?_range hi] at hd
    exact (Option.some.inj hd).symm
  rw [e]
  exact ⟨Post.refl, rs, .int _⟩
theorem rngC_fit {lo c : Int} {n : Nat} (h : n ≤ 1000000) : (rngC lo c n).length ≤ sizeLine := by
  simp only [rngC, List.length_map, List.length_range]
  rw [sizeLine_eq]; omega
theorem rgC_of {c : Int} {n : Nat} (h1 : 1 ≤ c) (h2 : c ≤ 1000) (hn : n ≤ 1000) : RgC 0 (n * c) c n := by
  have b0 : 0 ≤ (n : Int) * c := Int.mul_nonneg (by omega) (by omega)
  have b1 : (n : Int) * c ≤ 1000 * 1000 := Int.mul_le_mul (by omega) h2 (by omega) (by decide)
  have sz : Builtin.Range.rangeSize 0 (n * c) c = n := by
    rw [rangeSize_pos h1 b0]
    have e : (n : Int) * c + c - 1 = (c - 1) + n * c := by omega
    rw [e, Int.add_mul_ediv_right _ _ (by omega), Int.ediv_eq_zero_of_lt (by omega) (by omega)]
    omega
  refine ⟨by omega, by omega, ?_, ?_⟩
  · unfold Builtin.Range.small
    rw [sz]
    simp only [Builtin.Range.rangeFitsLong, Bool.and_eq_true, Bool.or_eq_true, decide_eq_true_eq, beq_iff_eq, if_pos (show c > 0 by omega)]
    generalize (n : Int) * c = m at b0 b1
    omega
  · exact sz
def dIRngS (ta : TAD) : TID := fun e S Q => ta e S fun ds S1 => match ds with
  | [.int i, .int j, .int c] => ∃ n, RgC i j c n ∧ n ≤ 100000 ∧ Q (rngC i c n) (fun _ => True) S1
  | _ => False
section
variable {X : Cx} {tg : Expr}
theorem di_rngS {a b c : Expr} {ta : TAD} {p pos : Pos} (hg : Gl X "range") (hm : X.mg "range" = none) (ha : DA X [a, b, c] ta)
    (hs : starEach [a, b, c] X.env = (false, eval a X.env) :: starEach [b, c] X.env := by rfl) (hpl : (backTo pos (starEach [b, c] X.env)).any (·.1) = false := by rfl) : DI X tg (.Call (.Name "range" p) [a, b, c] [] pos) (dIRngS ta) :=
  PI.le (pi_range3 hg hm ha hs hpl) fun σ H R h => by
    obtain ⟨e, S, Q0, re, rs, ht, k⟩ := h
    refine ⟨e, S, _, re, rs, ht, fun ds S1 vs H1 q p rs1 r => ?_⟩
    split at q
    · rename_i i j c
      obtain ⟨v, w, u, e1, r1, r2, r3⟩ := reps_three r
      cases r1; cases r2; cases r3
      obtain ⟨n, q1, q2, q3⟩ := q
      exact ⟨i, j, c, n, e1, q1, k _ _ S1 _ H1 q3 p rs1 (rngC_fit (by omega)) iterOk_rngC⟩
    · exact q.elim
def dTupRg (ta : TD) : TD := fun e S Q => ta e S fun x S1 => match x with
  | .int n => (0 ≤ n ∧ n ≤ 100000) ∧ Q (.tup (rngD 0 n.toNat)) S1
  | _ => False
theorem reps_rngT {K : PySem.W.Frag} {H : Hp} (n : Int) : Reps K H (rngD 0 n.toNat) (rgV 0 n) := by
  have e : rngD 0 n.toNat = ((List.range n.toNat).map fun (k : Nat) => (0 : Int) + k).map D.int := by unfold rngD; rw [List.map_map]; rfl
  have e2 : rgV 0 n = ((List.range n.toNat).map fun (k : Nat) => (0 : Int) + k).map V.int := by unfold rgV; rw [List.map_map, Int.sub_zero]; rfl
  rw [e, e2]
  exact Reps.of_ints _
theorem de_tupRg {a : Expr} {ta : TD} {p p2 pos pos2 : Pos} (hc : X.calm = true) (hg : Gl X "tuple") (hm : X.mg "tuple" = none) (hg2 : Gl X "range") (hm2 : X.mg "range" = none) (ha : DE X a ta) (he : starEach (a :: []) X.env = (false, eval a X.env) :: starEach [] X.env := by rfl) : DE X (.Call (.Name "tuple" p) [.Call (.Name "range" p2) [a] [] pos2] [] pos) (dTupRg ta) :=
  PE.le (pe_tupRg hc hg hm (prg_1 hg2 hm2 ha (na := he))) fun σ H Q h => by
    obtain ⟨e, S, Q0, re, rs, ht, kk⟩ := h
    refine ⟨e, S, _, re, rs, ht, fun d S1 v H1 q p rs1 r => ?_⟩
    cases r with
    | int n =>
      obtain ⟨⟨h0, h1⟩, q⟩ := q
      refine ⟨n, rfl, RgOk.of_le (Int.le_refl _) (by omega) (by omega) h0, fun a hl => ?_⟩
      have f : Free (H1 a) := by rw [hl]; trivial
      exact kk _ S1 _ _ q (p.trans (Post.lay hl)) (rs1.upd f (rs1.none_of hl)) (.tup (.of upd_same) (reps_rngT n))
    | _ => exact q.elim
end
end QL
end L2
/-! x in t, t a tuple of data of any depth -/
namespace L2
namespace QL
open PySem PySem.Spec PyProof.Rows
def rdInT (g : Bool → Bool) : RD := fun x y S Q => match y with
  | .tup ys => (fine 50 x ∧ fine 50 (.tup ys)) ∧ Q (.bl (g ((toPys ys).any fun z => PyData.eqv z (toPy x)))) S
  | _ => False
def rInT (K : PySem.W.Frag) : R2 := fun x y H Q => ∃ d ds, Dp K H x d ∧ Dp K H y (.tuple ds) ∧ SeqAt.shaped d = true ∧ SeqAt.shaped (.tuple ds) = true ∧ Q (.bl (ds.any fun z => PyData.eqv z d)) H
theorem op_inT {X : Cx} {k : Nat} (h : Room k X.A) : OpR X (compareOp .In) (rInT X.K) := by
  intro pins s σ H x y v u Q I rx ry h
  obtain ⟨d, ds, hd, he, sd, se, q⟩ := h
  obtain ⟨as, r1⟩ := Dp.reads I d x v hd rx
  obtain ⟨bs, r2⟩ := Dp.reads I (.tuple ds) y u he ry
  exact SeqAt.in_tuple_reads r2 r1 (SeqAt.canLay_of_shaped se) (SeqAt.canLay_of_shaped sd) (room_in_shaped sd (u65 ‹_›)) ⟨.bl _, H, I, rfl, q⟩
theorem od_inT {K : PySem.W.Frag} : OpD K (rInT K) (rdInT fun b => b) := fun d1 d2 S Q0 v1 v2 H Q rs r1 r2 h k => by
  cases d2 with
  | tup ys => exact ⟨_, _, fine_dp 50 _ h.1.1 _ r1, fine_dp 50 _ h.1.2 _ r2, fine_shaped h.1.1 (by decide), fine_shaped h.1.2 (by decide), k _ S _ H h.2 Post.refl rs (.bl _)⟩
  | _ => exact (show False from h).elim
end QL
end L2
/-! list(d), d a dict -/
namespace L2
namespace QL
open PySem PySem.Spec PyProof.Rows
def dListD (t : TD) : TD := fun e S Q => t e S fun x S1 => match x with
  | .loc d => match S1 d with
    | some (.dic kvs) => ∀ a, S1 a = none → Q (.loc a) (S1.put a (.lst (kvs.map fun kv => dKey kv.1)))
    | _ => False
  | _ => False
theorem KVR.keyReps {K : PySem.W.Frag} {H : Hp} : ∀ {x : List (Key × D)} {y : List (Key × V)}, KVR K H x y → Reps K H (x.map fun kv => dKey kv.1) (y.map fun kv => kV kv.1)
  | _, _, .nil => .nil
  | (a, d) :: x, (b, v) :: y, .cons h t => by
    obtain ⟨e, r⟩ := h
    have e : a = b := e
    subst e
    exact .cons (key_rep a) (KVR.keyReps (x := x) (y := y) t)
theorem de_listD {X : Cx} {x : Expr} {t : TD} {p pos : Pos} (hc : X.calm = true) (hg : Gl X "list") (hm : X.mg "list" = none) (ha : DE X x t) (he : starEach (x :: []) X.env = (false, eval x X.env) :: starEach [] X.env := by rfl) : DE X (.Call (.Name "list" p) [x] [] pos) (dListD t) :=
  PE.le (pe_callTy (he := he) (hpl := by rfl) (call_list_dK hc) hg hm (by decide +kernel) (pa_cons ha pa_nil he)) fun σ H Q h => by
    obtain ⟨e, S, Q0, re, rs, h1, k⟩ := h
    refine ⟨e, S, _, re, rs, h1, fun d S1 v H1 q p rs1 r => ?_⟩
    cases r with
    | loc d =>
      dsimp only at q
      split at q
      · rename_i kvs e1
        obtain ⟨qv, a1, b1⟩ := rs1 _ _ e1
        refine ⟨d, qv, rfl, a1, fun p' hp => ?_⟩
        have f : Free (H1 p') := by rw [hp]; trivial
        exact k _ _ _ _ (q p' (rs1.none_of hp)) (p.trans (Post.new hp)) (rs1.put f ⟨_, upd_same, (KVR.keyReps b1).mono (TK.upd f)⟩) (.loc p')
      · exact q.elim
    | _ => exact q.elim
end QL
end L2
namespace L2
namespace QL
open PySem PySem.Spec PyProof.Rows
/-! readings of the text -/
def nm__law_pen : List Str := ["_law_script"]
def tb__law_pen : TSD :=
  (dRet (dLst (dCons (dQ1 rdNew (dSl (dV 0) dNoPart (dPart (dC (.int 63))))) (dCons (dC (.int 0)) (dCons (dC (.int 0)) dNil)))))
def nm__law_fresh : List Str := ["_law_pen_here", "_law_at", "_law_cell", "_law_p", "_law_state", "_law_found", "_law_turn"]
def tb__law_fresh : TSD :=
  (dSeq (dAsg (dBin rdIx (dV 0) (dC (.int 1))) (.nm 1))
  (dSeq (dSub (dBin rdAdd (dV 1) (dC (.int 1))) (dV 0) (dC (.int 1)))
  (dSeq (dAsg (dC (.int 0)) (.nm 2))
  (dSeq (dIfS (dB (dBin rdNe (dBin rdIx (dV 0) (dC (.int 0))) (dLst dNil))) (dAsg (dBin rdIx (dBin rdIx (dV 0) (dC (.int 0))) (dBin rdMod (dV 1) (dLen (dBin rdIx (dV 0) (dC (.int 0)))))) (.nm 2)) dNext)
  (dSeq (dIfS (dAnd (dB (dBin rdLt (dV 1) (dLen (dBin rdIx (dV 0) (dC (.int 0)))))) (dB (dBin rdGe (dV 2) (dBin rdPow (dC (.int 10)) (dC (.int 18)))))) (dRet (dBin rdSub (dV 2) (dBin rdPow (dC (.int 10)) (dC (.int 18))))) dNext)
  (dSeq (dAsg (dC (.int 2305843009213693951)) (.nm 3))
  (dSeq (dAsg (dBin rdMod (dBin rdAdd (dBin rdAdd (dBin rdMul (dV 2) (dC (.int 48271))) (dBin rdMul (dC (.int 40692)) (dV 1))) (dC (.int 31))) (dV 3)) (.nm 4))
  (dSeq (dAsg (dV 4) (.nm 5))
  (dSeq (dFor (dIRng1 (dCons (dC (.int 6)) dNil)) (.nm 6) (dSeq (dAsg (dBin rdMod (dBin rdAdd (dBin rdAdd (dBin rdMul (dV 4) (dV 4)) (dBin rdMul (dBin rdMul (dC (.int 69621)) (dBin rdAdd (dV 6) (dC (.int 1)))) (dBin rdAdd (dV 1) (dC (.int 1))))) (dV 2)) (dV 3)) (.nm 4))
  (dAsg (dBin rdAdd (dBin rdMul (dV 5) (dV 3)) (dV 4)) (.nm 5))))
  (dRet (dV 5)))))))))))
def nm__law_draw : List Str := ["_law_pen_here", "_law_many", "_law_digit"]
def tb__law_draw (sp__law_fresh : SpD) : TSD :=
  (dSeq (dIfS (dB (dBin rdLt (dBin rdIx (dV 0) (dC (.int 2))) (dV 1))) (dSub (dCall sp__law_fresh [] (dCons (dV 0) dNil)) (dV 0) (dC (.int 2))) dNext)
  (dSeq (dAsg (dBin rdMod (dBin rdIx (dV 0) (dC (.int 2))) (dV 1)) (.nm 2))
  (dSeq (dSub (dBin rdDiv (dBin rdIx (dV 0) (dC (.int 2))) (dV 1)) (dV 0) (dC (.int 2)))
  (dRet (dV 2)))))
def nm__law_prime : List Str := ["_law_pen_here", "_law_some"]
def tb__law_prime (sp__law_draw : SpD) : TSD :=
  (dSeq (dAsg (dLst (dCons (dC (.int 2)) (dCons (dC (.int 3)) (dCons (dC (.int 5)) (dCons (dC (.int 7)) (dCons (dC (.int 11)) (dCons (dC (.int 13)) (dCons (dC (.int 2)) (dCons (dC (.int 3)) (dCons (dC (.int 5)) (dCons (dC (.int 5)) (dCons (dC (.int 7)) (dCons (dC (.int 101)) (dCons (dC (.int 97)) (dCons (dC (.int 31)) dNil))))))))))))))) (.nm 1))
  (dSeq (dAsg (dBin rdAdd (dV 1) (dLst (dCons (dC (.int 17)) (dCons (dC (.int 19)) (dCons (dC (.int 23)) (dCons (dC (.int 29)) (dCons (dC (.int 37)) (dCons (dC (.int 41)) (dCons (dC (.int 43)) (dCons (dC (.int 47)) (dCons (dC (.int 53)) (dCons (dC (.int 59)) (dCons (dC (.int 61)) (dCons (dC (.int 67)) (dCons (dC (.int 71)) (dCons (dC (.int 73)) (dCons (dC (.int 79)) (dCons (dC (.int 83)) (dCons (dC (.int 89)) dNil))))))))))))))))))) (.nm 1))
  (dRet (dBin rdIx (dV 1) (dCall sp__law_draw [] (dCons (dV 0) (dCons (dLen (dV 1)) dNil)))))))
def nm__law_shape : List Str := ["_law_pen_here", "_law_entries", "_law_m", "_law_found", "_law_k", "_law_some", "_law_j"]
def tb__law_shape (sp__law_draw : SpD) : TSD :=
  (dSeq (dAsg (dBin rdAdd (dC (.int 1)) (dCall sp__law_draw [] (dCons (dV 0) (dCons (dC (.int 6)) dNil)))) (.nm 2))
  (dSeq (dAsg (dLst dNil) (.nm 3))
  (dSeq (dFor (dIRng1 (dCons (dBin rdAdd (dC (.int 1)) (dCall sp__law_draw [] (dCons (dV 0) (dCons (dV 1) dNil)))) dNil)) (.nm 4) (dSeq (dAsg (dQ1 rdTup (dLcK rdSortSet (dIRng1 (dCons (dCall sp__law_draw [] (dCons (dV 0) (dCons (dC (.int 4)) dNil))) dNil)) (.nm 6) dYes (dCall sp__law_draw [] (dCons (dV 0) (dCons (dV 2) dNil))) [6])) (.nm 5))
  (dIfS (dB (dBin (rdInA fun b => !b) (dV 5) (dV 3))) (dDrop (dApp (dV 3) (dV 5))) dNext)))
  (dRet (dTup (dCons (dV 2) (dCons (dQ1 rdTup (dV 3)) dNil)))))))
def nm_is_prime : List Str := ["value", "divisor"]
def tb_is_prime : TSD :=
  (dSeq (dIfS (dOr (dNot (dTru (dIsi "int" (dV 0)))) (dOr (dTru (dIsi "bool" (dV 0))) (dNot (dB (dChain rdLe rdLe (dC (.int 2)) (dV 0) (dC (.int (101)))))))) (dRet (dC (.bl false))) dNext)
  (dRet (dLcK rdAll (dIRng2 (dCons (dC (.int 2)) (dCons (dV 0) dNil))) (.nm 1) dYes (dBin rdNe (dBin rdMod (dV 0) (dV 1)) (dC (.int 0))) [1])))
def nm_require_prime : List Str := ["q"]
def tb_require_prime (sp_is_prime : SpD) : TSD :=
  (dIfS (dNot (dTru (dCall sp_is_prime [] (dCons (dV 0) dNil)))) dNever dNext)
def nm_is_integer : List Str := ["value", "low", "high"]
def tb_is_integer : TSD :=
  (dRet (dAndV (dIsi "int" (dV 0)) (dAndV (dNotV (dIsi "bool" (dV 0))) (dChain rdLe rdLe (dV 1) (dV 0) (dV 2)))))
def nm_is_coordinate_tuple : List Str := ["value", "coordinates", "previous", "coordinate"]
def tb_is_coordinate_tuple (sp_is_integer : SpD) : TSD :=
  (dSeq (dIfS (dOr (dNot (dTru (dIsi "tuple" (dV 0)))) (dB (dBin rdGt (dLen (dV 0)) (dC (.int (3)))))) (dRet (dC (.bl false))) dNext)
  (dSeq (dAsg (dNeg (dC (.int 1))) (.nm 2))
  (dSeq (dFor (dISeq (dV 0)) (.nm 3) (dSeq (dIfS (dNot (dTru (dCall sp_is_integer [] (dCons (dV 3) (dCons (dBin rdAdd (dV 2) (dC (.int 1))) (dCons (dBin rdSub (dV 1) (dC (.int 1))) dNil)))))) (dRet (dC (.bl false))) dNext)
  (dAsg (dV 3) (.nm 2))))
  (dRet (dC (.bl true))))))
def nm_require_shape : List Str := ["shape", "entry", "coordinates"]
def tb_require_shape (sp_is_integer : SpD) (sp_is_coordinate_tuple : SpD) : TSD :=
  (dSeq (dIfS (dOr (dNot (dTru (dIsi "tuple" (dV 0)))) (dOr (dB (dBin rdNe (dLen (dV 0)) (dC (.int 2)))) (dNot (dTru (dCall sp_is_integer [] (dCons (dBin rdIx (dV 0) (dC (.int 0))) (dCons (dC (.int 1)) (dCons (dC (.int (6))) dNil)))))))) dNever dNext)
  (dSeq (dIfS (dOr (dNot (dTru (dIsi "tuple" (dBin rdIx (dV 0) (dC (.int 1)))))) (dNot (dB (dChain rdLe rdLe (dC (.int 1)) (dLen (dBin rdIx (dV 0) (dC (.int 1)))) (dC (.int (8))))))) dNever dNext)
  (dFor (dIEnum (dCons (dBin rdIx (dV 0) (dC (.int 1))) dNil)) (.tp (.cons (.nm 1) (.cons (.nm 2) .nil))) (dIfS (dOr (dNot (dTru (dCall sp_is_coordinate_tuple [] (dCons (dV 2) (dCons (dBin rdIx (dV 0) (dC (.int 0))) dNil))))) (dB (dBin (rdInT fun b => b) (dV 2) (dSl (dBin rdIx (dV 0) (dC (.int 1))) dNoPart (dPart (dV 1)))))) dNever dNext))))
def nm_point_of : List Str := ["shape", "entry", "coordinate"]
def tb_point_of : TSD :=
  (dRet (dLcK rdTup (dIRng1 (dCons (dBin rdIx (dV 0) (dC (.int 0))) dNil)) (.nm 2) dYes (dFn fInt (dCons (dBin (rdInA fun b => b) (dV 2) (dBin rdIx (dBin rdIx (dV 0) (dC (.int 1))) (dV 1))) dNil)) [2]))
def nm_entry_points : List Str := ["shape", "entry"]
def tb_entry_points (sp_point_of : SpD) : TSD :=
  (dRet (dLcK rdTup (dIRng1 (dCons (dLen (dBin rdIx (dV 0) (dC (.int 1)))) dNil)) (.nm 1) dYes (dCall sp_point_of [] (dCons (dV 0) (dCons (dV 1) dNil))) [1]))
def nm_is_vector : List Str := ["value", "length", "q", "part"]
def tb_is_vector (sp_is_integer : SpD) : TSD :=
  (dRet (dAndV (dIsi "tuple" (dV 0)) (dAndV (dBin rdEq (dLen (dV 0)) (dV 1)) (dLcK rdAll (dISeq (dV 0)) (.nm 3) dYes (dCall sp_is_integer [] (dCons (dV 3) (dCons (dC (.int 0)) (dCons (dBin rdSub (dV 2) (dC (.int 1))) dNil)))) [3]))))
def nm_are_vectors : List Str := ["value", "count", "length", "q", "part"]
def tb_are_vectors (sp_is_vector : SpD) : TSD :=
  (dRet (dAndV (dIsi "tuple" (dV 0)) (dAndV (dBin rdEq (dLen (dV 0)) (dV 1)) (dLcK rdAll (dISeq (dV 0)) (.nm 4) dYes (dCall sp_is_vector [] (dCons (dV 4) (dCons (dV 2) (dCons (dV 3) dNil)))) [4]))))
def nm_Scheme_is_part : List Str := ["self", "value", "coordinates", "entries"]
def tb_Scheme_is_part (C_Scheme : Addr) (sp_is_integer : SpD) (sp_are_vectors : SpD) (sp_is_vector : SpD) : TSD :=
  (dSeq (dIfS (dOr (dNot (dTru (dIsi "tuple" (dV 1)))) (dOr (dB (dBin rdNe (dLen (dV 1)) (dC (.int 4)))) (dNot (dTru (dCall sp_is_integer [] (dCons (dBin rdIx (dV 1) (dC (.int 0))) (dCons (dC (.int 0)) (dCons (dBin rdSub (dFld C_Scheme "servers" (dV 0)) (dC (.int 1))) dNil)))))))) (dRet (dC (.bl false))) dNext)
  (dSeq (dPar 2 3 (dCons (dBin rdIx (dFld C_Scheme "shape" (dV 0)) (dC (.int 0))) (dCons (dLen (dBin rdIx (dFld C_Scheme "shape" (dV 0)) (dC (.int 1)))) dNil)))
  (dSeq (dIfS (dNot (dTru (dCall sp_are_vectors [] (dCons (dBin rdIx (dV 1) (dC (.int 1))) (dCons (dV 2) (dCons (dFld C_Scheme "coins" (dV 0)) (dCons (dFld C_Scheme "q" (dV 0)) dNil))))))) (dRet (dC (.bl false))) dNext)
  (dRet (dAndV (dCall sp_are_vectors [] (dCons (dBin rdIx (dV 1) (dC (.int 2))) (dCons (dV 3) (dCons (dV 2) (dCons (dFld C_Scheme "q" (dV 0)) dNil))))) (dCall sp_is_vector [] (dCons (dBin rdIx (dV 1) (dC (.int 3))) (dCons (dFld C_Scheme "masks" (dV 0)) (dCons (dFld C_Scheme "q" (dV 0)) dNil)))))))))
def nm_Scheme___init__ : List Str := ["self", "q", "shape", "servers", "coins", "masks", "parts", "ranges", "index", "part", "value", "low", "high"]
def tb_Scheme___init__ (C_Scheme : Addr) (sp_require_prime : SpD) (sp_require_shape : SpD) (sp_is_integer : SpD) (sp_Scheme_is_part : SpD) : TSD :=
  (dSeq (dDrop (dCall sp_require_prime [] (dCons (dV 1) dNil)))
  (dSeq (dDrop (dCall sp_require_shape [] (dCons (dV 2) dNil)))
  (dSeq (dFldS C_Scheme "q" (dV 0) (dV 1))
  (dSeq (dFldS C_Scheme "shape" (dV 0) (dV 2))
  (dSeq (dFldS C_Scheme "servers" (dV 0) (dV 3))
  (dSeq (dFldS C_Scheme "coins" (dV 0) (dV 4))
  (dSeq (dFldS C_Scheme "masks" (dV 0) (dV 5))
  (dSeq (dFldS C_Scheme "parts" (dV 0) (dV 6))
  (dSeq (dAsg (dTup (dCons (dTup (dCons (dV 3) (dCons (dC (.int 1)) (dCons (dC (.int (6))) dNil)))) (dCons (dTup (dCons (dV 4) (dCons (dC (.int 0)) (dCons (dC (.int (12))) dNil)))) (dCons (dTup (dCons (dV 5) (dCons (dC (.int 0)) (dCons (dC (.int (3))) dNil)))) dNil)))) (.nm 7))
  (dSeq (dIfS (dNot (dTru (dLcK rdAll (dISeq (dV 7)) (.tp (.cons (.nm 10) (.cons (.nm 11) (.cons (.nm 12) .nil)))) dYes (dCall sp_is_integer [] (dCons (dV 10) (dCons (dV 11) (dCons (dV 12) dNil)))) [10, 11, 12]))) dNever dNext)
  (dSeq (dIfS (dOr (dNot (dTru (dIsi "tuple" (dV 6)))) (dNot (dB (dChain rdLe rdLe (dC (.int 1)) (dLen (dV 6)) (dC (.int (8))))))) dNever dNext)
  (dFor (dIEnum (dCons (dV 6) dNil)) (.tp (.cons (.nm 8) (.cons (.nm 9) .nil))) (dIfS (dNot (dTru (dMeth C_Scheme "is_part" sp_Scheme_is_part [] (dV 0) (dCons (dV 9) dNil)))) dNever dNext)))))))))))))
def nm_download : List Str := ["q", "shape", "servers", "matrix", "entries", "parts", "point"]
def tb_download (C_Scheme : Addr) (sp_require_prime : SpD) (sp_require_shape : SpD) (sp_is_integer : SpD) (sp_entry_points : SpD) (sp_Scheme___init__ : SpD) : TSD :=
  (dSeq (dDrop (dCall sp_require_prime [] (dCons (dV 0) dNil)))
  (dSeq (dDrop (dCall sp_require_shape [] (dCons (dV 1) dNil)))
  (dSeq (dIfS (dNot (dTru (dCall sp_is_integer [] (dCons (dV 2) (dCons (dC (.int 1)) (dCons (dC (.int (6))) dNil)))))) dNever dNext)
  (dSeq (dAsg (dBin rdRep (dTup (dCons (dTup dNil) dNil)) (dBin rdIx (dV 1) (dC (.int 0)))) (.nm 3))
  (dSeq (dAsg (dLen (dBin rdIx (dV 1) (dC (.int 1)))) (.nm 4))
  (dSeq (dAsg (dLc (dISeq (dCall sp_entry_points [] (dCons (dV 1) dNil))) (.nm 6) dYes (dTup (dCons (dC (.int 0)) (dCons (dV 3) (dCons (dBin rdRep (dTup (dCons (dV 6) dNil)) (dV 4)) (dCons (dTup dNil) dNil))))) [6]) (.nm 5))
  (dRet (dMake C_Scheme sp_Scheme___init__ [] (dCons (dV 0) (dCons (dV 1) (dCons (dV 2) (dCons (dC (.int 0)) (dCons (dC (.int 0)) (dCons (dQ1 rdTup (dV 5)) dNil))))))))))))))
def nm_Scheme___len__ : List Str := ["self"]
def tb_Scheme___len__ (C_Scheme : Addr) : TSD :=
  (dRet (dLen (dFld C_Scheme "parts" (dV 0))))
def nm_Scheme_question : List Str := ["self", "part", "entry", "coins", "matrix", "offset", "question", "row", "start", "total", "factor", "coin"]
def tb_Scheme_question (C_Scheme : Addr) : TSD :=
  (dSeq (dPar 4 5 (dCons (dBin rdIx (dBin rdIx (dFld C_Scheme "parts" (dV 0)) (dV 1)) (dC (.int 1))) (dCons (dBin rdIx (dBin rdIx (dBin rdIx (dFld C_Scheme "parts" (dV 0)) (dV 1)) (dC (.int 2))) (dV 2)) dNil)))
  (dSeq (dAsg (dLst dNil) (.nm 6))
  (dSeq (dFor (dIZip true (dCons (dV 4) (dCons (dV 5) dNil))) (.tp (.cons (.nm 7) (.cons (.nm 8) .nil))) (dSeq (dAsg (dBin rdAdd (dV 8) (dLcK rdSum (dIZip true (dCons (dV 7) (dCons (dV 3) dNil))) (.tp (.cons (.nm 10) (.cons (.nm 11) .nil))) dYes (dBin rdMul (dV 10) (dV 11)) [10, 11])) (.nm 9))
  (dDrop (dApp (dV 6) (dBin rdMod (dV 9) (dFld C_Scheme "q" (dV 0)))))))
  (dRet (dQ1 rdTup (dV 6))))))
def nm__law_point : List Str := ["_law_shape_here", "_law_entry", "_law_at"]
def tb__law_point : TSD :=
  (dRet (dLcK rdTup (dIRng1 (dCons (dBin rdIx (dV 0) (dC (.int 0))) dNil)) (.nm 2) dYes (dFn fInt (dCons (dBin (rdInA fun b => b) (dV 2) (dBin rdIx (dBin rdIx (dV 0) (dC (.int 1))) (dV 1))) dNil)) [2]))
def nm__law_row : List Str := ["_law_shape_here", "_law_question", "_law_q", "_law_found", "_law_some", "_law_number", "_law_at"]
def tb__law_row : TSD :=
  (dSeq (dAsg (dLst dNil) (.nm 3))
  (dSeq (dFor (dISeq (dBin rdIx (dV 0) (dC (.int 1)))) (.nm 4) (dSeq (dAsg (dC (.int 1)) (.nm 5))
  (dSeq (dFor (dISeq (dV 4)) (.nm 6) (dAsg (dBin rdMul (dV 5) (dBin rdIx (dV 1) (dV 6))) (.nm 5)))
  (dDrop (dApp (dV 3) (dBin rdMod (dV 5) (dV 2)))))))
  (dRet (dQ1 rdTup (dV 3)))))
def nm_Scheme_group_parts : List Str := ["self", "group", "index", "part"]
def tb_Scheme_group_parts (C_Scheme : Addr) : TSD :=
  (dRet (dLcK rdTup (dIEnum (dCons (dFld C_Scheme "parts" (dV 0)) dNil)) (.tp (.cons (.nm 2) (.cons (.nm 3) .nil))) (dB (dBin (rdInA fun b => b) (dBin rdIx (dV 3) (dC (.int 0))) (dV 1))) (dV 2) [2, 3]))
def nm_Scheme_seen_by : List Str := ["self", "group", "entry", "coins", "part"]
def tb_Scheme_seen_by (C_Scheme : Addr) (sp_Scheme_group_parts : SpD) (sp_Scheme_question : SpD) : TSD :=
  (dRet (dLcK rdTup (dISeq (dMeth C_Scheme "group_parts" sp_Scheme_group_parts [] (dV 0) (dCons (dV 1) dNil))) (.nm 4) dYes (dMeth C_Scheme "question" sp_Scheme_question [] (dV 0) (dCons (dV 4) (dCons (dV 2) (dCons (dV 3) dNil)))) [4]))
def nm__law_inverse : List Str := ["_law_number", "_law_q", "_law_found"]
def tb__law_inverse : TSD :=
  (dSeq (dFor (dIRng2 (dCons (dC (.int 1)) (dCons (dV 1) dNil))) (.nm 2) (dIfS (dB (dBin rdEq (dBin rdMod (dBin rdMul (dV 0) (dV 2)) (dV 1)) (dC (.int 1)))) (dRet (dV 2)) dNext))
  (dRet (dC (.int 0))))
def nm__law_reduced : List Str := ["_law_rows", "_law_q", "_law_found", "_law_row_here", "_law_rest", "_law_at", "_law_factor", "_law_places", "_law_pivot", "_law_scale", "_law_one", "_law_other", "_law_k", "_law_number"]
def tb__law_reduced (sp__law_inverse : SpD) : TSD :=
  (dSeq (dAsg dDisp0 (.nm 2))
  (dSeq (dFor (dISeq (dV 0)) (.nm 3) (dSeq (dAsg (dQ1 rdNew (dV 3)) (.nm 4))
  (dSeq (dFor (dISeq (dListD (dV 2))) (.nm 5) (dSeq (dAsg (dBin rdIx (dV 4) (dV 5)) (.nm 6))
  (dAsg (dLc (dIZip false (dCons (dV 4) (dCons (dGetK (dV 2) (dV 5)) dNil))) (.tp (.cons (.nm 10) (.cons (.nm 11) .nil))) dYes (dBin rdMod (dBin rdSub (dV 10) (dBin rdMul (dV 6) (dV 11))) (dV 1)) [10, 11]) (.nm 4))))
  (dSeq (dAsg (dLc (dIRng1 (dCons (dLen (dV 4)) dNil)) (.nm 12) (dB (dBin rdNe (dBin rdIx (dV 4) (dV 12)) (dC (.int 0)))) (dV 12) [12]) (.nm 7))
  (dIfS (dB (dBin rdNe (dV 7) (dLst dNil))) (dSeq (dAsg (dBin rdIx (dV 7) (dC (.int 0))) (.nm 8))
  (dSeq (dAsg (dCall sp__law_inverse [] (dCons (dBin rdIx (dV 4) (dV 8)) (dCons (dV 1) dNil))) (.nm 9))
  (dSeq (dAsg (dLc (dISeq (dV 4)) (.nm 13) dYes (dBin rdMod (dBin rdMul (dV 13) (dV 9)) (dV 1)) [13]) (.nm 4))
  (dSeq (dFor (dISeq (dListD (dV 2))) (.nm 5) (dSeq (dAsg (dBin rdIx (dGetK (dV 2) (dV 5)) (dV 8)) (.nm 6))
  (dSubK (dLc (dIZip false (dCons (dGetK (dV 2) (dV 5)) (dCons (dV 4) dNil))) (.tp (.cons (.nm 10) (.cons (.nm 11) .nil))) dYes (dBin rdMod (dBin rdSub (dV 10) (dBin rdMul (dV 6) (dV 11))) (dV 1)) [10, 11]) (dV 2) (dV 5))))
  (dSubK (dV 4) (dV 2) (dV 8)))))) dNext)))))
  (dRet (dV 2))))
def nm_law : List Str := ["_law_script", "_law_pen_here", "_law_turn", "_law_q", "_law_shape_here", "_law_servers", "_law_scheme", "_law_many", "_law_entry", "_law_rows", "_law_part", "_law_question", "_law_points"]
def tb_law (C_Scheme : Addr) (sp__law_pen : SpD) (sp__law_prime : SpD) (sp__law_shape : SpD) (sp__law_draw : SpD) (sp_download : SpD) (sp_Scheme___len__ : SpD) (sp_Scheme_question : SpD) (sp__law_point : SpD) (sp__law_row : SpD) (sp_Scheme_seen_by : SpD) (sp__law_reduced : SpD) : TSD :=
  (dSeq (dAsg (dCall sp__law_pen [] (dCons (dV 0) dNil)) (.nm 1))
  (dSeq (dFor (dIRng1 (dCons (dC (.int 4)) dNil)) (.nm 2) (dSeq (dAsg (dTup (dCons (dCall sp__law_prime [] (dCons (dV 1) dNil)) (dCons (dCall sp__law_shape [] (dCons (dV 1) (dCons (dC (.int 8)) dNil))) (dCons (dBin rdAdd (dC (.int 1)) (dCall sp__law_draw [] (dCons (dV 1) (dCons (dC (.int 6)) dNil)))) dNil)))) (.tp (.cons (.nm 3) (.cons (.nm 4) (.cons (.nm 5) .nil)))))
  (dSeq (dAsg (dCall sp_download [] (dCons (dV 3) (dCons (dV 4) (dCons (dV 5) dNil)))) (.nm 6))
  (dSeq (dAsg (dLen (dBin rdIx (dV 4) (dC (.int 1)))) (.nm 7))
  (dSeq (dIfS (dB (dBin rdNe (dTup (dCons (dFld C_Scheme "q" (dV 6)) (dCons (dFld C_Scheme "shape" (dV 6)) (dCons (dFld C_Scheme "servers" (dV 6)) (dCons (dFld C_Scheme "coins" (dV 6)) (dCons (dFld C_Scheme "masks" (dV 6)) dNil)))))) (dTup (dCons (dV 3) (dCons (dV 4) (dCons (dV 5) (dCons (dC (.int 0)) (dCons (dC (.int 0)) dNil)))))))) (dRet (dC (.bl false))) dNext)
  (dSeq (dIfS (dOr (dB (dBin rdNe (dLenO C_Scheme sp_Scheme___len__ (dV 6)) (dV 7))) (dB (dBin rdNe (dLc (dISeq (dFld C_Scheme "parts" (dV 6))) (.nm 10) dYes (dBin rdIx (dV 10) (dC (.int 0))) [10]) (dBin rdRepL (dLst (dCons (dC (.int 0)) dNil)) (dV 7))))) (dRet (dC (.bl false))) dNext)
  (dSeq (dPar 8 9 (dCons (dCall sp__law_draw [] (dCons (dV 1) (dCons (dV 7) dNil))) (dCons (dLst dNil) dNil)))
  (dSeq (dFor (dIRng1 (dCons (dV 7) dNil)) (.nm 10) (dSeq (dAsg (dMeth C_Scheme "question" sp_Scheme_question [] (dV 6) (dCons (dV 10) (dCons (dV 8) (dCons (dTup dNil) dNil)))) (.nm 11))
  (dSeq (dIfS (dB (dBin rdNe (dV 11) (dCall sp__law_point [] (dCons (dV 4) (dCons (dV 10) dNil))))) (dRet (dC (.bl false))) dNext)
  (dDrop (dApp (dV 9) (dCall sp__law_row [] (dCons (dV 4) (dCons (dV 11) (dCons (dV 3) dNil)))))))))
  (dSeq (dAsg (dLcK rdTup (dIRng1 (dCons (dV 7) dNil)) (.nm 10) dYes (dCall sp__law_point [] (dCons (dV 4) (dCons (dV 10) dNil))) [10]) (.nm 12))
  (dIfS (dOr (dB (dBin rdNe (dMeth C_Scheme "seen_by" sp_Scheme_seen_by [] (dV 6) (dCons (dTup (dCons (dC (.int 0)) dNil)) (dCons (dV 8) (dCons (dTup dNil) dNil)))) (dV 12))) (dB (dBin rdNe (dLen (dCall sp__law_reduced [] (dCons (dV 9) (dCons (dV 3) dNil)))) (dV 7)))) (dRet (dC (.bl false))) dNext))))))))))
  (dRet (dC (.bl true)))))
abbrev MQ (q a b : Int) : Prop := ∃ k : Int, a - b = q * k
theorem MQ.refl (q a : Int) : MQ q a a := ⟨0, by grind⟩
theorem MQ.symm {q a b : Int} : MQ q a b → MQ q b a := fun ⟨k, h⟩ => ⟨-k, by grind⟩
theorem MQ.trans {q a b c : Int} : MQ q a b → MQ q b c → MQ q a c := fun ⟨k, h⟩ ⟨l, h'⟩ => ⟨k + l, by grind⟩
theorem MQ.add {q a b c d : Int} : MQ q a b → MQ q c d → MQ q (a + c) (b + d) := fun ⟨k, h⟩ ⟨l, h'⟩ => ⟨k + l, by grind⟩
theorem MQ.mul {q a b c d : Int} : MQ q a b → MQ q c d → MQ q (a * c) (b * d) := fun ⟨k, h⟩ ⟨l, h'⟩ => ⟨k * c + b * l, by grind⟩
theorem MQ.mod {q a b : Int} : MQ q a b → a % q = b % q := fun ⟨k, h⟩ => by
  have e : a = b + q * k := by grind
  rw [e, Int.add_mul_emod_self_left]
theorem MQ.of {q a b : Int} (h : a % q = b % q) : MQ q a b := ⟨a / q - b / q, by
  have h1 := Int.mul_ediv_add_emod a q
  have h2 := Int.mul_ediv_add_emod b q
  grind⟩
theorem MQ.md (q a : Int) : MQ q (a % q) a := MQ.of (Int.emod_emod_of_dvd _ (Int.dvd_refl q))

def sumN : Nat → (Nat → Int) → Int
  | 0, _ => 0
  | n + 1, f => sumN n f + f n
namespace MQ
theorem neg {q a b : Int} (h : MQ q a b) : MQ q (-a) (-b) := by
  obtain ⟨k, e⟩ := h
  exact ⟨-k, by grind⟩
theorem sub {q a b c d : Int} (h : MQ q a b) (g : MQ q c d) : MQ q (a - c) (b - d) := by
  have := h.add g.neg
  rw [Int.sub_eq_add_neg, Int.sub_eq_add_neg]; exact this
theorem of_eq {q a b : Int} (h : a = b) : MQ q a b := h ▸ refl q a
theorem sum {q : Int} : ∀ {n : Nat} {f g : Nat → Int}, (∀ i, i < n → MQ q (f i) (g i)) → MQ q (sumN n f) (sumN n g)
  | 0, _, _, _ => refl q 0
  | n + 1, f, g, h => (sum (n := n) fun i hi => h i (by omega)).add (h n (by omega))
theorem zero_iff {q a : Int} : MQ q a 0 ↔ a % q = 0 := by
  constructor
  · intro h
    have := MQ.mod h
    rwa [Int.zero_emod] at this
  · intro h
    exact MQ.of (by rw [h, Int.zero_emod])
theorem eq_of {q a b : Int} (h : MQ q a b) (a0 : 0 ≤ a) (a1 : a < q) (b0 : 0 ≤ b) (b1 : b < q) : a = b := by
  have e := MQ.mod h
  rwa [Int.emod_eq_of_lt a0 a1, Int.emod_eq_of_lt b0 b1] at e
end MQ
structure Prm (q : Int) : Prop where
  lo : 2 ≤ q
  hi : q ≤ 101
  inv : ∀ a : Int, 0 < a → a < q → ∃ b, 0 < b ∧ b < q ∧ a * b % q = 1
theorem Prm.inv' {q : Int} (p : Prm q) {a : Int} (h : ¬ MQ q a 0) : ∃ b, 0 ≤ b ∧ b < q ∧ MQ q (a * b) 1 := by
  have hq := p.lo
  have h0 := Int.emod_nonneg a (show q ≠ 0 by omega)
  have h1 := Int.emod_lt_of_pos a (show 0 < q by omega)
  have h2 : a % q ≠ 0 := fun z => h (MQ.zero_iff.mpr z)
  obtain ⟨b, b0, b1, e⟩ := p.inv (a % q) (by omega) h1
  refine ⟨b, by omega, b1, ?_⟩
  have e1 : MQ q (a % q * b) 1 := (MQ.md q _).symm.trans (MQ.of_eq e)
  exact ((MQ.md q a).symm.mul (MQ.refl q b)).trans e1
theorem Prm.cancel {q : Int} (p : Prm q) {a b : Int} (h : MQ q (a * b) 0) : MQ q a 0 ∨ MQ q b 0 := by
  by_cases ha : MQ q a 0
  · exact .inl ha
  · obtain ⟨c, _, _, e⟩ := p.inv' ha
    right
    have e1 : MQ q (c * (a * b)) (c * 0) := (MQ.refl q c).mul h
    have e2 : c * (a * b) = a * c * b := by rw [Int.mul_comm a c, Int.mul_assoc]
    rw [e2, Int.mul_zero] at e1
    have e3 := (e.mul (MQ.refl q b)).symm.trans e1
    rwa [Int.one_mul] at e3
def primeB (q : Int) : Bool := decide (2 ≤ q) && decide (q ≤ 101) && (List.range 102).all fun a => decide (a = 0) || decide (q ≤ a) || (List.range 102).any fun b => decide ((b : Int) < q) && decide ((a : Int) * b % q = 1)
theorem prm_of {q : Int} (h : primeB q = true) : Prm q := by
  unfold primeB at h
  simp only [Bool.and_eq_true, decide_eq_true_eq, List.all_eq_true, List.mem_range, Bool.or_eq_true, List.any_eq_true] at h
  obtain ⟨⟨h1, h2⟩, h3⟩ := h
  refine ⟨h1, h2, fun a a0 a1 => ?_⟩
  rcases h3 a.toNat (by omega) with (h | h) | ⟨b, hb, h, e⟩
  · omega
  · omega
  · have ea : ((a.toNat : Nat) : Int) = a := by omega
    rw [ea] at e
    refine ⟨b, ?_, h, e⟩
    have : b ≠ 0 := fun z => by
      subst z
      simp at e
    omega
abbrev at_ (xs : List Int) (j : Nat) : Int := xs.getD j 0
def dotZ (xs ys : List Int) : Int := (List.zipWith (· * ·) xs ys).sum
theorem dotZ_cons (x y : Int) (xs ys : List Int) : dotZ (x :: xs) (y :: ys) = x * y + dotZ xs ys := rfl
theorem at_lt {xs : List Int} {j : Nat} (h : j < xs.length) : at_ xs j = xs[j] := by simp [at_, List.getD_eq_getElem?_getD, h]
theorem at_ge {xs : List Int} {j : Nat} (h : xs.length ≤ j) : at_ xs j = 0 := by simp [at_, List.getD_eq_getElem?_getD, h]
theorem ext_at {xs ys : List Int} (hl : xs.length = ys.length) (h : ∀ j, j < xs.length → at_ xs j = at_ ys j) : xs = ys := by
  refine List.ext_getElem hl fun j h1 h2 => ?_
  have := h j h1
  rwa [at_lt h1, at_lt h2] at this
structure RowQ (q : Int) (n : Nat) (xs : List Int) : Prop where
  len : xs.length = n
  res : ∀ x ∈ xs, 0 ≤ x ∧ x < q
theorem RowQ.at {q : Int} {n : Nat} {xs : List Int} (hq : 0 < q) (h : RowQ q n xs) (j : Nat) : 0 ≤ at_ xs j ∧ at_ xs j < q := by
  by_cases hj : j < xs.length
  · rw [at_lt hj]; exact h.res _ (List.getElem_mem hj)
  · rw [at_ge (by omega)]; exact ⟨Int.le_refl 0, hq⟩
def lookO (wd : List (Int × Int)) (k : Int) : Option Int := (wd.find? fun e => decide (e.1 = k)).map (·.2)
def lookI (wd : List (Int × Int)) (k : Int) : Int := (lookO wd k).getD 0
def putI (wd : List (Int × Int)) (k v : Int) : List (Int × Int) :=
  if (wd.any fun e => decide (e.1 = k)) = true then wd.map fun e => if e.1 = k then (e.1, v) else e else wd ++ [(k, v)]
def kvI (e : Int × Int) : Key × D := (.inl e.1, .int e.2)
theorem look_nil (k : Int) : lookI [] k = 0 := rfl
theorem look_cons (e : Int × Int) (wd : List (Int × Int)) (k : Int) : lookI (e :: wd) k = if e.1 = k then e.2 else lookI wd k := by
  unfold lookI lookO
  by_cases h : e.1 = k
  · simp [h]
  · rw [List.find?_cons_of_neg (by simpa using h), if_neg h]
theorem look_absent : ∀ {wd : List (Int × Int)} {k : Int}, k ∉ wd.map (·.1) → lookI wd k = 0
  | [], _, _ => rfl
  | e :: wd, k, h => by
    rw [look_cons, if_neg fun z => h (by rw [← z]; simp)]
    exact look_absent fun z => h (by rw [List.map_cons]; exact List.mem_cons_of_mem _ z)
theorem any_key {wd : List (Int × Int)} {k : Int} : (wd.any fun e => decide (e.1 = k)) = true ↔ k ∈ wd.map (·.1) := by
  simp [List.any_eq_true, List.mem_map]
theorem keys_put (wd : List (Int × Int)) (k v : Int) : (putI wd k v).map (·.1) = if k ∈ wd.map (·.1) then wd.map (·.1) else wd.map (·.1) ++ [k] := by
  unfold putI
  by_cases h : k ∈ wd.map (·.1)
  · rw [if_pos (any_key.mpr h), if_pos h, List.map_map]
    refine List.map_congr_left fun e _ => ?_
    by_cases g : e.1 = k <;> simp [g]
  · rw [if_neg (fun z => h (any_key.mp z)), if_neg h]; simp
theorem look_map_put (k v : Int) : ∀ (wd : List (Int × Int)) (j : Int), lookI (wd.map fun e => if e.1 = k then (e.1, v) else e) j = if j = k ∧ k ∈ wd.map (·.1) then v else lookI wd j
  | [], j => by simp [look_nil]
  | e :: wd, j => by
    rw [List.map_cons, look_cons, look_cons, look_map_put k v wd j]
    by_cases h : e.1 = k
    · simp only [h, if_true]
      by_cases g : j = k
      · subst g; simp [h]
      · simp [g, Ne.symm g]
    · rw [if_neg h]
      by_cases g : e.1 = j
      · simp only [g, if_true]
        rw [if_neg]
        rintro ⟨rfl, _⟩; exact h g
      · simp only [g, if_false]
        have : k ∈ List.map (·.1) (e :: wd) ↔ k ∈ List.map (·.1) wd := by simp [Ne.symm h]
        simp only [this]
theorem look_app (wd : List (Int × Int)) (k v j : Int) (h : k ∉ wd.map (·.1)) : lookI (wd ++ [(k, v)]) j = if j = k then v else lookI wd j := by
  induction wd with
  | nil =>
    rw [List.nil_append, look_cons, look_nil]
    by_cases g : k = j
    · simp [g]
    · simp [g, Ne.symm g]
  | cons e wd ih =>
    have h' : k ∉ wd.map (·.1) := fun z => h (List.mem_cons_of_mem _ z)
    have h0 : e.1 ≠ k := fun z => h (by rw [← z]; simp)
    rw [List.cons_append, look_cons, look_cons, ih h']
    by_cases g : e.1 = j
    · rw [if_pos g, if_pos g, if_neg (fun z => h0 (by rw [g, z]))]
    · rw [if_neg g, if_neg g]
theorem look_put (wd : List (Int × Int)) (k v j : Int) : lookI (putI wd k v) j = if j = k then v else lookI wd j := by
  by_cases h : k ∈ wd.map (·.1)
  · unfold putI
    rw [if_pos (any_key.mpr h), look_map_put]
    simp only [h, and_true]
  · unfold putI
    rw [if_neg (fun z => h (any_key.mp z)), look_app wd k v j h]
theorem nodup_put {wd : List (Int × Int)} (k v : Int) (h : (wd.map (·.1)).Nodup) : ((putI wd k v).map (·.1)).Nodup := by
  rw [keys_put]
  split
  · exact h
  · rename_i g
    rw [List.nodup_append]
    exact ⟨h, by simp, fun a ha b hb e => by
      rw [List.mem_singleton] at hb
      subst hb; subst e; exact g ha⟩
theorem mem_put {wd : List (Int × Int)} {k v : Int} {e : Int × Int} (h : e ∈ putI wd k v) : e ∈ wd ∨ e = (k, v) := by
  unfold putI at h
  split at h
  · obtain ⟨x, hx, rfl⟩ := List.mem_map.mp h
    by_cases g : x.1 = k
    · right; simp [g]
    · left; simp [g, hx]
  · rcases List.mem_append.mp h with h | h
    · exact .inl h
    · exact .inr (List.mem_singleton.mp h)
theorem nodup_len : ∀ (m : Nat) (l : List Int), l.Nodup → (∀ x ∈ l, 0 ≤ x ∧ x < (m : Int)) → l.length ≤ m
  | 0, l, _, h => by
    cases l with
    | nil => exact Nat.le_refl _
    | cons x l => have := h x List.mem_cons_self; omega
  | m + 1, l, hn, h => by
    have ih := nodup_len m (l.filter fun x => decide (x ≠ (m : Int))) (hn.filter _) fun x hx => by
      obtain ⟨h1, h2⟩ := List.mem_filter.mp hx
      have := h x h1
      have : x ≠ (m : Int) := by simpa using h2
      omega
    have c : ∀ l : List Int, l.Nodup → l.length ≤ (l.filter fun x => decide (x ≠ (m : Int))).length + 1 := by
      intro l hn
      induction l with
      | nil => simp
      | cons y l ih =>
        rw [List.nodup_cons] at hn
        by_cases e : y = (m : Int)
        · subst e
          have : (l.filter fun x => decide (x ≠ (m : Int))) = l := List.filter_eq_self.mpr fun a ha => by
            have : a ≠ (m : Int) := fun z => hn.1 (z ▸ ha)
            simpa using this
          rw [List.filter_cons_of_neg (by simp), this]; simp
        · rw [List.filter_cons_of_pos (by simpa using e)]
          have := ih hn.2
          simp only [List.length_cons]; omega
    have := c l hn
    omega
structure WOk (q : Int) (m : Nat) (wd : List (Int × Int)) : Prop where
  nd : (wd.map (·.1)).Nodup
  key : ∀ e ∈ wd, 0 ≤ e.1 ∧ e.1 < (m : Int)
  res : ∀ e ∈ wd, 0 ≤ e.2 ∧ e.2 < q
theorem WOk.len {q : Int} {m : Nat} {wd : List (Int × Int)} (h : WOk q m wd) : wd.length ≤ m := by
  have := nodup_len m (wd.map (·.1)) h.nd fun x hx => by
    obtain ⟨e, he, rfl⟩ := List.mem_map.mp hx
    exact h.key e he
  simpa using this
theorem WOk.at {q : Int} {m : Nat} {wd : List (Int × Int)} (hq : 0 < q) (h : WOk q m wd) (k : Int) : 0 ≤ lookI wd k ∧ lookI wd k < q := by
  have key : ∀ wd : List (Int × Int), (∀ e ∈ wd, 0 ≤ e.2 ∧ e.2 < q) → 0 ≤ lookI wd k ∧ lookI wd k < q := by
    intro wd
    induction wd with
    | nil => exact fun _ => ⟨Int.le_refl 0, hq⟩
    | cons e wd ih =>
      intro h
      rw [look_cons]
      split
      · exact h e List.mem_cons_self
      · exact ih fun x hx => h x (List.mem_cons_of_mem _ hx)
  exact key wd h.res
theorem WOk.mono {q : Int} {m n : Nat} {wd : List (Int × Int)} (h : WOk q m wd) (l : m ≤ n) : WOk q n wd := ⟨h.nd, fun e he => by have := h.key e he; omega, h.res⟩
theorem WOk.put {q : Int} {m : Nat} {wd : List (Int × Int)} (h : WOk q m wd) {k v : Int} (k0 : 0 ≤ k) (k1 : k < (m : Int)) (v0 : 0 ≤ v) (v1 : v < q) : WOk q m (putI wd k v) :=
  ⟨nodup_put k v h.nd, fun e he => (mem_put he).elim (h.key e) fun z => by rw [z]; exact ⟨k0, k1⟩, fun e he => (mem_put he).elim (h.res e) fun z => by rw [z]; exact ⟨v0, v1⟩⟩
theorem WOk.out {q : Int} {m : Nat} {wd : List (Int × Int)} (h : WOk q m wd) {k : Nat} (hk : m ≤ k) : lookI wd k = 0 := look_absent fun z => by
  obtain ⟨e, he, g⟩ := List.mem_map.mp z
  have := h.key e he
  omega
def mqS (q : Int) : Setoid Int := ⟨fun a b => MQ q a b, ⟨fun a => MQ.refl q a, fun h => MQ.symm h, fun h g => MQ.trans h g⟩⟩
def QZ (q : Int) : Type := Quotient (mqS q)
def zq (q : Int) (a : Int) : QZ q := Quotient.mk (mqS q) a
theorem QZ.ex {q : Int} (x : QZ q) : ∃ a, zq q a = x := Quotient.exists_rep x
namespace QZ
variable {q : Int}
theorem eq_iff {a b : Int} : zq q a = zq q b ↔ MQ q a b := ⟨fun h => Quotient.exact h, fun h => Quotient.sound h⟩
theorem ind {P : QZ q → Prop} (h : ∀ a, P (zq q a)) (x : QZ q) : P x := Quotient.ind h x
def add (x y : QZ q) : QZ q := Quotient.liftOn₂ x y (fun a b => zq q (a + b)) fun _ _ _ _ h g => Quotient.sound (MQ.add h g)
def mul (x y : QZ q) : QZ q := Quotient.liftOn₂ x y (fun a b => zq q (a * b)) fun _ _ _ _ h g => Quotient.sound (MQ.mul h g)
def neg (x : QZ q) : QZ q := Quotient.liftOn x (fun a => zq q (-a)) fun _ _ h => Quotient.sound (MQ.neg h)
instance : Add (QZ q) := ⟨add⟩
instance : Mul (QZ q) := ⟨mul⟩
instance : Neg (QZ q) := ⟨neg⟩
instance : _root_.Sub (QZ q) := ⟨fun x y => x + -y⟩
instance (n : Nat) : OfNat (QZ q) n := ⟨zq q (n : Int)⟩
instance : NatCast (QZ q) := ⟨fun n => zq q (n : Int)⟩
instance : IntCast (QZ q) := ⟨fun n => zq q n⟩
def pow (x : QZ q) : Nat → QZ q
  | 0 => 1
  | n + 1 => pow x n * x
instance : HPow (QZ q) Nat (QZ q) := ⟨pow⟩
instance : SMul Nat (QZ q) := ⟨fun n x => (n : QZ q) * x⟩
instance : SMul Int (QZ q) := ⟨fun n x => (n : QZ q) * x⟩
theorem z_add (a b : Int) : zq q (a + b) = zq q a + zq q b := rfl
theorem z_mul (a b : Int) : zq q (a * b) = zq q a * zq q b := rfl
theorem z_neg (a : Int) : zq q (-a) = -zq q a := rfl
theorem z_sub (a b : Int) : zq q (a - b) = zq q a - zq q b := by
  rw [Int.sub_eq_add_neg]; rfl
theorem z_mod (a : Int) : zq q (a % q) = zq q a := eq_iff.mpr (MQ.md q a)
theorem z_zero : zq q 0 = 0 := rfl
theorem z_one : zq q 1 = 1 := rfl
instance : Lean.Grind.CommRing (QZ q) where
  add_zero := ind fun a => congrArg (zq q) (Int.add_zero a)
  add_comm := ind fun a => ind fun b => congrArg (zq q) (Int.add_comm a b)
  add_assoc := ind fun a => ind fun b => ind fun c => congrArg (zq q) (Int.add_assoc a b c)
  mul_assoc := ind fun a => ind fun b => ind fun c => congrArg (zq q) (Int.mul_assoc a b c)
  mul_one := ind fun a => congrArg (zq q) (Int.mul_one a)
  one_mul := ind fun a => congrArg (zq q) (Int.one_mul a)
  left_distrib := ind fun a => ind fun b => ind fun c => congrArg (zq q) (Int.mul_add a b c)
  right_distrib := ind fun a => ind fun b => ind fun c => congrArg (zq q) (Int.add_mul a b c)
  zero_mul := ind fun a => congrArg (zq q) (Int.zero_mul a)
  mul_zero := ind fun a => congrArg (zq q) (Int.mul_zero a)
  mul_comm := ind fun a => ind fun b => congrArg (zq q) (Int.mul_comm a b)
  pow_zero := fun _ => rfl
  pow_succ := fun _ _ => rfl
  neg_add_cancel := ind fun a => congrArg (zq q) (Int.add_left_neg a)
  sub_eq_add_neg := fun _ _ => rfl
  neg_zsmul := fun i => ind fun a => congrArg (zq q) (Int.neg_mul i a)
end QZ
section
variable {q : Int} {α β : Type}
def sumL (l : List α) (f : α → QZ q) : QZ q := l.foldr (fun x s => f x + s) 0
theorem sumL_nil (f : α → QZ q) : sumL [] f = 0 := rfl
theorem sumL_cons (x : α) (l : List α) (f : α → QZ q) : sumL (x :: l) f = f x + sumL l f := rfl
theorem sumL_app (l m : List α) (f : α → QZ q) : sumL (l ++ m) f = sumL l f + sumL m f := by
  induction l with
  | nil => rw [List.nil_append, sumL_nil]; grind
  | cons x l ih => rw [List.cons_append, sumL_cons, sumL_cons, ih]; grind
theorem sumL_one (x : α) (f : α → QZ q) : sumL [x] f = f x := by rw [sumL_cons, sumL_nil]; grind
theorem sumL_congr {l : List α} {f g : α → QZ q} (h : ∀ x ∈ l, f x = g x) : sumL l f = sumL l g := by
  induction l with
  | nil => rfl
  | cons x l ih => rw [sumL_cons, sumL_cons, h x List.mem_cons_self, ih fun y hy => h y (List.mem_cons_of_mem _ hy)]
theorem sumL_zero {l : List α} {f : α → QZ q} (h : ∀ x ∈ l, f x = 0) : sumL l f = 0 := by
  induction l with
  | nil => rfl
  | cons x l ih => rw [sumL_cons, h x List.mem_cons_self, ih fun y hy => h y (List.mem_cons_of_mem _ hy)]; grind
theorem sumL_add (l : List α) (f g : α → QZ q) : sumL l (fun x => f x + g x) = sumL l f + sumL l g := by
  induction l with
  | nil => simp only [sumL_nil]; grind
  | cons x l ih => rw [sumL_cons, sumL_cons, sumL_cons, ih]; grind
theorem sumL_sub (l : List α) (f g : α → QZ q) : sumL l (fun x => f x - g x) = sumL l f - sumL l g := by
  induction l with
  | nil => simp only [sumL_nil]; grind
  | cons x l ih => rw [sumL_cons, sumL_cons, sumL_cons, ih]; grind
theorem sumL_mul (l : List α) (c : QZ q) (f : α → QZ q) : sumL l (fun x => c * f x) = c * sumL l f := by
  induction l with
  | nil => simp only [sumL_nil]; grind
  | cons x l ih => rw [sumL_cons, sumL_cons, ih]; grind
theorem sumL_mulr (l : List α) (c : QZ q) (f : α → QZ q) : sumL l (fun x => f x * c) = sumL l f * c := by
  induction l with
  | nil => simp only [sumL_nil]; grind
  | cons x l ih => rw [sumL_cons, sumL_cons, ih]; grind
theorem sumL_neg (l : List α) (f : α → QZ q) : sumL l (fun x => -f x) = -sumL l f := by
  induction l with
  | nil => simp only [sumL_nil]; grind
  | cons x l ih => rw [sumL_cons, sumL_cons, ih]; grind
theorem sumL_comm (l : List α) (m : List β) (f : α → β → QZ q) : sumL l (fun x => sumL m (f x)) = sumL m (fun y => sumL l fun x => f x y) := by
  induction l with
  | nil => rw [sumL_nil]; exact (sumL_zero fun _ _ => rfl).symm
  | cons x l ih => rw [sumL_cons, ih, ← sumL_add]; rfl
theorem sumL_map (g : α → β) (l : List α) (f : β → QZ q) : sumL (l.map g) f = sumL l fun x => f (g x) := by
  induction l with
  | nil => rfl
  | cons x l ih => rw [List.map_cons, sumL_cons, sumL_cons, ih]
theorem sumL_range_succ (n : Nat) (f : Nat → QZ q) : sumL (List.range (n + 1)) f = sumL (List.range n) f + f n := by
  rw [List.range_succ, sumL_app, sumL_one]
theorem sumL_range_front (n : Nat) (f : Nat → QZ q) : sumL (List.range (n + 1)) f = f 0 + sumL (List.range n) fun i => f (i + 1) := by
  rw [List.range_succ_eq_map, sumL_cons, sumL_map]
theorem sumL_delta {n k : Nat} (f : Nat → QZ q) (h : k < n) : sumL (List.range n) (fun i => if i = k then f i else 0) = f k := by
  induction n with
  | zero => omega
  | succ n ih =>
    rw [sumL_range_succ]
    by_cases e : n = k
    · subst e
      rw [if_pos rfl, sumL_zero fun i hi => if_neg (by have := List.mem_range.mp hi; omega)]; grind
    · rw [if_neg e, ih (by omega)]; grind
theorem zq_dot : ∀ {n : Nat} {xs ys : List Int}, xs.length = n → ys.length = n → zq q (dotZ xs ys) = sumL (List.range n) fun j => zq q (at_ xs j) * zq q (at_ ys j)
  | 0, [], [], _, _ => rfl
  | n + 1, x :: xs, y :: ys, h1, h2 => by
    rw [dotZ_cons, QZ.z_add, QZ.z_mul, zq_dot (n := n) (xs := xs) (ys := ys) (by simpa using h1) (by simpa using h2), sumL_range_front]
    rfl
end
theorem zq_inj {q a b : Int} (h : zq q a = zq q b) (a0 : 0 ≤ a) (a1 : a < q) (b0 : 0 ≤ b) (b1 : b < q) : a = b := MQ.eq_of (QZ.eq_iff.mp h) a0 a1 b0 b1
theorem zq_emod {q a b : Int} (h : zq q a = zq q b) : a % q = b % q := MQ.mod (QZ.eq_iff.mp h)
theorem zq_res {q : Int} (hq : 0 < q) (x : QZ q) : ∃ a, 0 ≤ a ∧ a < q ∧ zq q a = x := by
  obtain ⟨a, rfl⟩ := QZ.ex x
  exact ⟨a % q, Int.emod_nonneg _ (by omega), Int.emod_lt_of_pos _ hq, QZ.z_mod a⟩

theorem zq_lookcomb {q : Int} (hq : 0 < q) {m : Nat} (f : Int) : ∀ (o w : List (Int × Int)), WOk q m w → WOk q m o →
    WOk q m (o.foldl (fun acc e => putI acc e.1 ((lookI acc e.1 - f * e.2) % q)) w) ∧ ∀ k, zq q (lookI (o.foldl (fun acc e => putI acc e.1 ((lookI acc e.1 - f * e.2) % q)) w) k) = zq q (lookI w k) - zq q f * zq q (lookI o k)
  | [], w, hw, _ => ⟨hw, fun k => by
    show zq q (lookI w k) = zq q (lookI w k) - zq q f * zq q 0
    rw [QZ.z_zero]; grind⟩
  | e :: o, w, hw, ho => by
    have e0 := Int.emod_nonneg (lookI w e.1 - f * e.2) (show q ≠ 0 by omega)
    have e1 := Int.emod_lt_of_pos (lookI w e.1 - f * e.2) hq
    have hk := ho.key e List.mem_cons_self
    have hn := ho.nd
    rw [List.map_cons, List.nodup_cons] at hn
    obtain ⟨h1, h2⟩ := zq_lookcomb hq f o (putI w e.1 ((lookI w e.1 - f * e.2) % q)) (hw.put hk.1 hk.2 e0 e1) ⟨hn.2, fun x hx => ho.key x (List.mem_cons_of_mem _ hx), fun x hx => ho.res x (List.mem_cons_of_mem _ hx)⟩
    refine ⟨h1, fun k => ?_⟩
    rw [List.foldl_cons, h2 k, look_put, look_cons]
    by_cases g : k = e.1
    · subst g
      rw [if_pos rfl, if_pos rfl, look_absent hn.1, QZ.z_mod, QZ.z_sub, QZ.z_mul, QZ.z_zero]; grind
    · rw [if_neg g, if_neg (Ne.symm g)]
def combI (q : Int) (w : List (Int × Int)) (f : Int) (o : List (Int × Int)) : List (Int × Int) := o.foldl (fun acc e => putI acc e.1 ((lookI acc e.1 - f * e.2) % q)) w
def redL (q : Int) (l : List Int) (f : Int) (r : List Int) : List Int := List.zipWith (fun a b => (a - f * b) % q) l r
theorem at_zip {g : Int → Int → Int} {l r : List Int} {j : Nat} (h1 : j < l.length) (h2 : j < r.length) : at_ (List.zipWith g l r) j = g (at_ l j) (at_ r j) := by
  rw [at_lt (by rw [List.length_zipWith]; omega), at_lt h1, at_lt h2, List.getElem_zipWith]
theorem redL_row {q : Int} (hq : 0 < q) {n : Nat} {l r : List Int} (f : Int) (hl : l.length = n) (hr : r.length = n) : RowQ q n (redL q l f r) := by
  refine ⟨by unfold redL; rw [List.length_zipWith]; omega, fun x hx => ?_⟩
  unfold redL at hx
  obtain ⟨j, hj, rfl⟩ := List.getElem_of_mem hx
  rw [List.getElem_zipWith]
  exact ⟨Int.emod_nonneg _ (by omega), Int.emod_lt_of_pos _ hq⟩
theorem zq_redL {q : Int} {n : Nat} {l r : List Int} (f : Int) (hl : l.length = n) (hr : r.length = n) (j : Nat) : zq q (at_ (redL q l f r) j) = zq q (at_ l j) - zq q f * zq q (at_ r j) := by
  by_cases hj : j < n
  · unfold redL
    rw [at_zip (by omega) (by omega), QZ.z_mod, QZ.z_sub, QZ.z_mul]
  · rw [at_ge (by unfold redL; rw [List.length_zipWith]; omega), at_ge (by omega), at_ge (by omega), QZ.z_zero]; grind
structure Bas where
  pv : Nat
  row : List Int
  res : Int
  wd : List (Int × Int)
structure SpSt where
  n : Nat
  q : Int
  rows : List (List Int)
  ans : List Int
  bs : List Bas
  fail : Option (List (Int × Int))
abbrev RR (rows : List (List Int)) (i j : Nat) : Int := at_ (rows.getD i []) j
def wS (q : Int) (rows : List (List Int)) (w : Nat → QZ q) (j : Nat) : QZ q := sumL (List.range rows.length) fun i => w i * zq q (RR rows i j)
def wA (q : Int) (ans : List Int) (w : Nat → QZ q) : QZ q := sumL (List.range ans.length) fun i => w i * zq q (at_ ans i)
theorem RR_old {rows : List (List Int)} {v : List Int} {i : Nat} (h : i < rows.length) (j : Nat) : RR (rows ++ [v]) i j = RR rows i j := by
  unfold RR; rw [List.getD_eq_getElem?_getD, List.getD_eq_getElem?_getD, List.getElem?_append_left h]
theorem RR_new (rows : List (List Int)) (v : List Int) (j : Nat) : RR (rows ++ [v]) rows.length j = at_ v j := by
  unfold RR; rw [List.getD_eq_getElem?_getD]; simp
theorem at_old {ans : List Int} {a : Int} {i : Nat} (h : i < ans.length) : at_ (ans ++ [a]) i = at_ ans i := by
  unfold at_; rw [List.getD_eq_getElem?_getD, List.getD_eq_getElem?_getD, List.getElem?_append_left h]
theorem at_new' (ans : List Int) (a : Int) : at_ (ans ++ [a]) ans.length = a := by
  unfold at_; rw [List.getD_eq_getElem?_getD]; simp
theorem wS_snoc {q : Int} (rows : List (List Int)) (v : List Int) (w : Nat → QZ q) (j : Nat) : wS q (rows ++ [v]) w j = wS q rows w j + w rows.length * zq q (at_ v j) := by
  unfold wS
  rw [List.length_append, List.length_singleton, sumL_range_succ, RR_new, sumL_congr fun i hi => by rw [RR_old (List.mem_range.mp hi)]]
theorem wA_snoc {q : Int} (ans : List Int) (a : Int) (w : Nat → QZ q) : wA q (ans ++ [a]) w = wA q ans w + w ans.length * zq q a := by
  unfold wA
  rw [List.length_append, List.length_singleton, sumL_range_succ, at_new', sumL_congr fun i hi => by rw [at_old (List.mem_range.mp hi)]]
theorem wS_lin {q : Int} (rows : List (List Int)) (u v : Nat → QZ q) (c : QZ q) (j : Nat) : wS q rows (fun i => u i + c * v i) j = wS q rows u j + c * wS q rows v j := by
  unfold wS
  rw [← sumL_mul, ← sumL_add]
  exact sumL_congr fun i _ => by grind
theorem wA_lin {q : Int} (ans : List Int) (u v : Nat → QZ q) (c : QZ q) : wA q ans (fun i => u i + c * v i) = wA q ans u + c * wA q ans v := by
  unfold wA
  rw [← sumL_mul, ← sumL_add]
  exact sumL_congr fun i _ => by grind
theorem wS_sum {q : Int} {β : Type} (rows : List (List Int)) (bs : List β) (c : β → QZ q) (u : β → Nat → QZ q) (j : Nat) : wS q rows (fun i => sumL bs fun b => c b * u b i) j = sumL bs fun b => c b * wS q rows (u b) j := by
  unfold wS
  have e : ∀ b ∈ bs, c b * sumL (List.range rows.length) (fun i => u b i * zq q (RR rows i j)) = sumL (List.range rows.length) fun i => c b * u b i * zq q (RR rows i j) := fun b _ => by
    rw [← sumL_mul]; exact sumL_congr fun i _ => by grind
  rw [sumL_congr e, sumL_comm]
  exact sumL_congr fun i _ => (sumL_mulr _ _ _).symm
theorem wA_sum {q : Int} {β : Type} (ans : List Int) (bs : List β) (c : β → QZ q) (u : β → Nat → QZ q) : wA q ans (fun i => sumL bs fun b => c b * u b i) = sumL bs fun b => c b * wA q ans (u b) := by
  unfold wA
  have e : ∀ b ∈ bs, c b * sumL (List.range ans.length) (fun i => u b i * zq q (at_ ans i)) = sumL (List.range ans.length) fun i => c b * u b i * zq q (at_ ans i) := fun b _ => by
    rw [← sumL_mul]; exact sumL_congr fun i _ => by grind
  rw [sumL_congr e, sumL_comm]
  exact sumL_congr fun i _ => (sumL_mulr _ _ _).symm
theorem wS_congr {q : Int} {rows : List (List Int)} {u v : Nat → QZ q} (h : ∀ i, i < rows.length → u i = v i) (j : Nat) : wS q rows u j = wS q rows v j := sumL_congr fun i hi => by rw [h i (List.mem_range.mp hi)]
theorem wA_congr {q : Int} {ans : List Int} {u v : Nat → QZ q} (h : ∀ i, i < ans.length → u i = v i) : wA q ans u = wA q ans v := sumL_congr fun i hi => by rw [h i (List.mem_range.mp hi)]
abbrev wz (q : Int) (w : List (Int × Int)) : Nat → QZ q := fun i => zq q (lookI w (i : Int))
structure BasOk (n : Nat) (q : Int) (m : Nat) (b : Bas) : Prop where
  pv : b.pv < n
  row : RowQ q n b.row
  res : 0 ≤ b.res ∧ b.res < q
  wd : WOk q m b.wd
  one : at_ b.row b.pv = 1
structure SpOk (st : SpSt) : Prop where
  prm : Prm st.q
  nn : 1 ≤ st.n ∧ st.n ≤ 1000
  mm : st.rows.length ≤ 1000
  rows : ∀ r ∈ st.rows, RowQ st.q st.n r
  alen : st.ans.length = st.rows.length
  ares : ∀ x ∈ st.ans, 0 ≤ x ∧ x < st.q
  bl : st.bs.length ≤ st.rows.length
  bas : ∀ b ∈ st.bs, BasOk st.n st.q st.rows.length b
  piv : st.bs.Pairwise fun b c => at_ b.row c.pv = 0 ∧ at_ c.row b.pv = 0
  com : ∀ b ∈ st.bs, (∀ j, zq st.q (at_ b.row j) = wS st.q st.rows (wz st.q b.wd) j) ∧ zq st.q b.res = wA st.q st.ans (wz st.q b.wd)
  gen : ∀ i, i < st.rows.length → ∀ j, zq st.q (RR st.rows i j) = sumL st.bs fun b => zq st.q (RR st.rows i b.pv) * zq st.q (at_ b.row j)
  fai : match st.fail with
    | none => ∀ i, i < st.rows.length → zq st.q (at_ st.ans i) = sumL st.bs fun b => zq st.q (RR st.rows i b.pv) * zq st.q b.res
    | some w => WOk st.q st.rows.length w ∧ (∀ j, wS st.q st.rows (wz st.q w) j = 0) ∧ wA st.q st.ans (wz st.q w) ≠ 0
structure DivI (st : SpSt) (v : List Int) (a : Int) (w0 : Nat → QZ st.q) (s : QZ st.q) (M : Nat) (p : List Bas) (l : List Int) (a' : Int) (w : List (Int × Int)) : Prop where
  row : RowQ st.q st.n l
  eqn : ∀ j, zq st.q (at_ l j) = zq st.q (at_ v j) - sumL p fun b => zq st.q (at_ v b.pv) * zq st.q (at_ b.row j)
  res : 0 ≤ a' ∧ a' < st.q
  req : zq st.q a' = zq st.q a - sumL p fun b => zq st.q (at_ v b.pv) * zq st.q b.res
  wok : WOk st.q M w
  weq : ∀ k, wz st.q w k = w0 k + s * sumL p fun b => zq st.q (at_ v b.pv) * wz st.q b.wd k
theorem SpOk.before {st : SpSt} (ok : SpOk st) {p r : List Bas} {b c : Bas} (e : st.bs = p ++ b :: r) (hc : c ∈ p) : at_ c.row b.pv = 0 ∧ at_ b.row c.pv = 0 := by
  have h := ok.piv
  rw [e, List.pairwise_append] at h
  exact h.2.2 c hc b List.mem_cons_self
theorem DivI.fac {st : SpSt} (ok : SpOk st) {v : List Int} {a : Int} {w0 : Nat → QZ st.q} {s : QZ st.q} {M : Nat} {p r : List Bas} {b : Bas} {l : List Int} {a' : Int} {w : List (Int × Int)} (d : DivI st v a w0 s M p l a' w) (e : st.bs = p ++ b :: r) :
    zq st.q (at_ l b.pv) = zq st.q (at_ v b.pv) := by
  rw [d.eqn, sumL_zero fun c hc => by rw [(ok.before e hc).1, QZ.z_zero]; grind]
  grind
theorem DivI.step {st : SpSt} (ok : SpOk st) {v : List Int} {a : Int} {w0 : Nat → QZ st.q} {s : QZ st.q} {M : Nat} {p r : List Bas} {b : Bas} {l : List Int} {a' g : Int} {w : List (Int × Int)} (d : DivI st v a w0 s M p l a' w) (e : st.bs = p ++ b :: r)
    (hM : st.rows.length ≤ M) (hg : zq st.q g = -(s * zq st.q (at_ l b.pv))) :
    DivI st v a w0 s M (p ++ [b]) (redL st.q l (at_ l b.pv) b.row) ((a' - at_ l b.pv * b.res) % st.q) (combI st.q w g b.wd) := by
  have hq : 0 < st.q := by have := ok.prm.lo; omega
  have hb := ok.bas b (by rw [e]; simp)
  have hf := d.fac ok e
  obtain ⟨c1, c2⟩ := zq_lookcomb hq g b.wd w d.wok (hb.wd.mono hM)
  refine ⟨redL_row hq _ d.row.len hb.row.len, fun j => ?_, ⟨Int.emod_nonneg _ (by omega), Int.emod_lt_of_pos _ hq⟩, ?_, c1, fun k => ?_⟩
  · rw [zq_redL _ d.row.len hb.row.len, d.eqn, sumL_app, sumL_one, hf]; grind
  · rw [QZ.z_mod, QZ.z_sub, QZ.z_mul, d.req, sumL_app, sumL_one, hf]; grind
  · show zq st.q (lookI (combI st.q w g b.wd) k) = _
    unfold combI
    rw [c2, sumL_app, sumL_one]
    have := d.weq k
    unfold wz at this
    rw [this, hg, hf]; unfold wz; grind
theorem DivI.piv {st : SpSt} (ok : SpOk st) {v : List Int} {a : Int} {w0 : Nat → QZ st.q} {s : QZ st.q} {M : Nat} {l : List Int} {a' : Int} {w : List (Int × Int)} (d : DivI st v a w0 s M st.bs l a' w) {b : Bas} (hb : b ∈ st.bs) : at_ l b.pv = 0 := by
  have hq : 0 < st.q := by have := ok.prm.lo; omega
  have h0 := d.row.at hq b.pv
  refine zq_inj (q := st.q) ?_ h0.1 h0.2 (Int.le_refl 0) hq
  obtain ⟨p, r, e⟩ := List.append_of_mem hb
  have hp := ok.piv
  rw [e, List.pairwise_append] at hp
  rw [d.eqn, e, sumL_app, sumL_cons, (ok.bas b hb).one, sumL_zero fun c hc => by rw [(ok.before e hc).1, QZ.z_zero]; grind]
  rw [sumL_zero fun c hc => by rw [((List.pairwise_cons.mp hp.2.1).1 c hc).2, QZ.z_zero]; grind, QZ.z_zero, QZ.z_one]
  grind
def InSp (q : Int) (rows : List (List Int)) (v : List Int) : Prop := ∃ w : Nat → QZ q, ∀ j, zq q (at_ v j) = wS q rows w j
theorem SpOk.insp {st : SpSt} (ok : SpOk st) {v : List Int} (h : InSp st.q st.rows v) (j : Nat) : zq st.q (at_ v j) = sumL st.bs fun b => zq st.q (at_ v b.pv) * zq st.q (at_ b.row j) := by
  obtain ⟨w, hw⟩ := h
  have e : ∀ b ∈ st.bs, zq st.q (at_ v b.pv) * zq st.q (at_ b.row j) = sumL (List.range st.rows.length) fun i => w i * (zq st.q (RR st.rows i b.pv) * zq st.q (at_ b.row j)) := fun b _ => by
    rw [hw]; unfold wS
    rw [← sumL_mulr]
    exact sumL_congr fun i _ => by grind
  rw [sumL_congr e, sumL_comm, hw]
  unfold wS
  refine sumL_congr fun i hi => ?_
  rw [sumL_mul, ← ok.gen i (List.mem_range.mp hi)]

def clearB (q : Int) (p : Nat) (row : List Int) (res : Int) (wd : List (Int × Int)) (b : Bas) : Bas :=
  ⟨b.pv, redL q b.row (at_ b.row p) row, (b.res - at_ b.row p * res) % q, combI q b.wd (at_ b.row p) wd⟩
def scaleL (q : Int) (l : List Int) (s : Int) : List Int := l.map fun x => x * s % q
def scaleW (q : Int) (w : List (Int × Int)) (s : Int) : List (Int × Int) := w.map fun e => (e.1, e.2 * s % q)
theorem at_map {f : Int → Int} (h0 : f 0 = 0) (l : List Int) (j : Nat) : at_ (l.map f) j = f (at_ l j) := by
  by_cases hj : j < l.length
  · rw [at_lt (by simpa using hj), at_lt hj, List.getElem_map]
  · rw [at_ge (by simpa using hj), at_ge (by omega), h0]
theorem at_scale (q : Int) (l : List Int) (s : Int) (j : Nat) : at_ (scaleL q l s) j = at_ l j * s % q := at_map (by rw [Int.zero_mul, Int.zero_emod]) l j
theorem scaleL_row {q : Int} (hq : 0 < q) {n : Nat} {l : List Int} (s : Int) (h : l.length = n) : RowQ q n (scaleL q l s) := ⟨by unfold scaleL; rw [List.length_map]; exact h, fun x hx => by
  obtain ⟨y, _, rfl⟩ := List.mem_map.mp hx
  exact ⟨Int.emod_nonneg _ (by omega), Int.emod_lt_of_pos _ hq⟩⟩
theorem look_scale (q : Int) (w : List (Int × Int)) (s k : Int) : zq q (lookI (scaleW q w s) k) = zq q (lookI w k) * zq q s := by
  induction w with
  | nil => show zq q 0 = zq q 0 * zq q s; rw [QZ.z_zero]; grind
  | cons e w ih =>
    show zq q (lookI ((e.1, e.2 * s % q) :: scaleW q w s) k) = _
    rw [look_cons, look_cons]
    by_cases h : e.1 = k
    · simp only [h, if_true]; rw [QZ.z_mod, QZ.z_mul]
    · simp only [h, if_false]; exact ih
theorem WOk.scale {q : Int} (hq : 0 < q) {m : Nat} {w : List (Int × Int)} (h : WOk q m w) (s : Int) : WOk q m (scaleW q w s) := by
  refine ⟨?_, fun e he => ?_, fun e he => ?_⟩
  · have : (scaleW q w s).map (·.1) = w.map (·.1) := by unfold scaleW; rw [List.map_map]; rfl
    rw [this]; exact h.nd
  · obtain ⟨x, hx, rfl⟩ := List.mem_map.mp he
    exact h.key x hx
  · obtain ⟨x, hx, rfl⟩ := List.mem_map.mp he
    exact ⟨Int.emod_nonneg _ (by omega), Int.emod_lt_of_pos _ hq⟩
def dlt (q : Int) (m : Nat) : Nat → QZ q := fun k => if k = m then 1 else 0
def SpSt.add (st : SpSt) (v : List Int) (a : Int) (p : Nat) (row : List Int) (res : Int) (wd : List (Int × Int)) : SpSt :=
  { st with rows := st.rows ++ [v], ans := st.ans ++ [a], bs := st.bs.map (clearB st.q p row res wd) ++ [⟨p, row, res, wd⟩] }
theorem one_mod {q : Int} (h : 2 ≤ q) : (1 : Int) % q = 1 := Int.emod_eq_of_lt (by decide) (by omega)
theorem getD_mem {α : Type} {xs : List α} {i : Nat} {d : α} (h : i < xs.length) : xs.getD i d ∈ xs := by
  rw [List.getD_eq_getElem?_getD, List.getElem?_eq_getElem h]
  exact List.getElem_mem h
theorem SpOk.add {st : SpSt} (ok : SpOk st) {v : List Int} {a : Int} (hv : RowQ st.q st.n v) (ha : 0 ≤ a ∧ a < st.q) (hm : st.rows.length < 1000) {l : List Int} {a' sc : Int} {w : List (Int × Int)}
    (d : DivI st v a (dlt st.q st.rows.length) (-1) (st.rows.length + 1) st.bs l a' w) {p : Nat} (hp : p < st.n) (hs : at_ l p * sc % st.q = 1) :
    SpOk (st.add v a p (scaleL st.q l sc) (a' * sc % st.q) (scaleW st.q w sc)) := by
  have hq2 := ok.prm.lo
  have hq : 0 < st.q := by omega
  have hrow : ∀ j, zq st.q (at_ (scaleL st.q l sc) j) = zq st.q (at_ l j) * zq st.q sc := fun j => by rw [at_scale, QZ.z_mod, QZ.z_mul]
  have hz : ∀ b ∈ st.bs, at_ (scaleL st.q l sc) b.pv = 0 := fun b hb => by rw [at_scale, d.piv ok hb, Int.zero_mul, Int.zero_emod]
  have hone : at_ (scaleL st.q l sc) p = 1 := by rw [at_scale]; exact hs
  have hsc : zq st.q (at_ l p) * zq st.q sc = 1 := by rw [← hrow, hone, QZ.z_one]
  have rowR := scaleL_row hq sc d.row.len
  have wdR := d.wok.scale hq sc
  have hwd : ∀ k, wz st.q (scaleW st.q w sc) k = wz st.q w k * zq st.q sc := fun k => look_scale st.q w sc k
  have hout : ∀ b ∈ st.bs, wz st.q b.wd st.rows.length = 0 := fun b hb => by
    unfold wz; rw [(ok.bas b hb).wd.out (Nat.le_refl _), QZ.z_zero]
  have hb' : ∀ b ∈ st.bs, ∀ j, zq st.q (at_ b.row j) = wS st.q (st.rows ++ [v]) (wz st.q b.wd) j := fun b hb j => by
    rw [wS_snoc, hout b hb, (ok.com b hb).1 j]; grind
  have hr' : ∀ b ∈ st.bs, zq st.q b.res = wA st.q (st.ans ++ [a]) (wz st.q b.wd) := fun b hb => by
    rw [wA_snoc, ok.alen, hout b hb, (ok.com b hb).2]; grind
  have hres : zq st.q (a' * sc % st.q) = zq st.q a' * zq st.q sc := by rw [QZ.z_mod, QZ.z_mul]
  have hwm : wz st.q (scaleW st.q w sc) st.rows.length = zq st.q sc := by
    rw [hwd, d.weq, sumL_zero fun b hb => by rw [hout b hb]; grind]
    unfold dlt; rw [if_pos rfl]; grind
  have hwi : ∀ i, i < st.rows.length → wz st.q (scaleW st.q w sc) i = sumL st.bs fun b => (-(zq st.q sc) * zq st.q (at_ v b.pv)) * wz st.q b.wd i := fun i hi => by
    rw [hwd, d.weq]
    unfold dlt; rw [if_neg (by omega)]
    have e : ∀ b ∈ st.bs, (-(zq st.q sc) * zq st.q (at_ v b.pv)) * wz st.q b.wd i = -(zq st.q sc) * (zq st.q (at_ v b.pv) * wz st.q b.wd i) := fun b _ => by grind
    rw [sumL_congr e, sumL_mul]; grind
  have hnew : ∀ j, zq st.q (at_ (scaleL st.q l sc) j) = wS st.q (st.rows ++ [v]) (wz st.q (scaleW st.q w sc)) j := fun j => by
    rw [wS_snoc, hwm, wS_congr hwi, wS_sum, hrow, d.eqn]
    have e : ∀ b ∈ st.bs, (-(zq st.q sc) * zq st.q (at_ v b.pv)) * wS st.q st.rows (wz st.q b.wd) j = -(zq st.q sc) * (zq st.q (at_ v b.pv) * zq st.q (at_ b.row j)) := fun b hb => by
      rw [(ok.com b hb).1 j]; grind
    rw [sumL_congr e, sumL_mul]; grind
  have hnewr : zq st.q (a' * sc % st.q) = wA st.q (st.ans ++ [a]) (wz st.q (scaleW st.q w sc)) := by
    rw [wA_snoc, ok.alen, hwm, wA_congr (v := fun i => sumL st.bs fun b => (-(zq st.q sc) * zq st.q (at_ v b.pv)) * wz st.q b.wd i) (fun i hi => hwi i (by have := ok.alen; omega)), wA_sum, hres, d.req]
    have e : ∀ b ∈ st.bs, (-(zq st.q sc) * zq st.q (at_ v b.pv)) * wA st.q st.ans (wz st.q b.wd) = -(zq st.q sc) * (zq st.q (at_ v b.pv) * zq st.q b.res) := fun b hb => by
      rw [(ok.com b hb).2]; grind
    rw [sumL_congr e, sumL_mul]; grind
  have hcl : ∀ b ∈ st.bs, ∀ j, zq st.q (at_ (clearB st.q p (scaleL st.q l sc) (a' * sc % st.q) (scaleW st.q w sc) b).row j) = zq st.q (at_ b.row j) - zq st.q (at_ b.row p) * zq st.q (at_ (scaleL st.q l sc) j) := fun b hb j =>
    zq_redL _ (ok.bas b hb).row.len rowR.len j
  have hclr : ∀ b, zq st.q (clearB st.q p (scaleL st.q l sc) (a' * sc % st.q) (scaleW st.q w sc) b).res = zq st.q b.res - zq st.q (at_ b.row p) * zq st.q (a' * sc % st.q) := fun b => by
    show zq st.q ((b.res - at_ b.row p * (a' * sc % st.q)) % st.q) = _
    rw [QZ.z_mod, QZ.z_sub, QZ.z_mul]
  have hclw : ∀ b ∈ st.bs, WOk st.q (st.rows.length + 1) (combI st.q b.wd (at_ b.row p) (scaleW st.q w sc)) ∧ ∀ k, wz st.q (combI st.q b.wd (at_ b.row p) (scaleW st.q w sc)) k = wz st.q b.wd k + -(zq st.q (at_ b.row p)) * wz st.q (scaleW st.q w sc) k := fun b hb => by
    obtain ⟨c1, c2⟩ := zq_lookcomb hq (at_ b.row p) (scaleW st.q w sc) b.wd ((ok.bas b hb).wd.mono (Nat.le_succ _)) wdR
    exact ⟨c1, fun k => by have := c2 k; unfold wz combI; rw [this]; grind⟩
  have key : ∀ b ∈ st.bs, ∀ c ∈ st.bs, at_ (clearB st.q p (scaleL st.q l sc) (a' * sc % st.q) (scaleW st.q w sc) b).row c.pv = at_ b.row c.pv % st.q := fun b hb c hc => by
    show at_ (redL st.q b.row (at_ b.row p) (scaleL st.q l sc)) c.pv = _
    have h1 := (ok.bas c hc).pv
    unfold redL
    rw [at_zip (by rw [(ok.bas b hb).row.len]; exact h1) (by rw [rowR.len]; exact h1), hz c hc, Int.mul_zero, Int.sub_zero]
  -- a row, by the new reduced rows
  have gen : ∀ (g : Nat → Int) (j : Nat), sumL (st.bs.map (clearB st.q p (scaleL st.q l sc) (a' * sc % st.q) (scaleW st.q w sc)) ++ [⟨p, scaleL st.q l sc, a' * sc % st.q, scaleW st.q w sc⟩]) (fun b => zq st.q (g b.pv) * zq st.q (at_ b.row j)) =
      (sumL st.bs fun b => zq st.q (g b.pv) * zq st.q (at_ b.row j)) + (zq st.q (g p) - sumL st.bs fun b => zq st.q (g b.pv) * zq st.q (at_ b.row p)) * zq st.q (at_ (scaleL st.q l sc) j) := fun g j => by
    rw [sumL_app, sumL_map, sumL_one]
    have e : ∀ b ∈ st.bs, zq st.q (g (clearB st.q p (scaleL st.q l sc) (a' * sc % st.q) (scaleW st.q w sc) b).pv) * zq st.q (at_ (clearB st.q p (scaleL st.q l sc) (a' * sc % st.q) (scaleW st.q w sc) b).row j) =
        zq st.q (g b.pv) * zq st.q (at_ b.row j) - zq st.q (g b.pv) * zq st.q (at_ b.row p) * zq st.q (at_ (scaleL st.q l sc) j) := fun b hb => by
      rw [hcl b hb j]
      show zq st.q (g b.pv) * _ = _
      grind
    rw [sumL_congr e, sumL_sub, sumL_mulr]; grind
  have genr : ∀ (g : Nat → Int), sumL (st.bs.map (clearB st.q p (scaleL st.q l sc) (a' * sc % st.q) (scaleW st.q w sc)) ++ [⟨p, scaleL st.q l sc, a' * sc % st.q, scaleW st.q w sc⟩]) (fun b => zq st.q (g b.pv) * zq st.q b.res) =
      (sumL st.bs fun b => zq st.q (g b.pv) * zq st.q b.res) + (zq st.q (g p) - sumL st.bs fun b => zq st.q (g b.pv) * zq st.q (at_ b.row p)) * zq st.q (a' * sc % st.q) := fun g => by
    rw [sumL_app, sumL_map, sumL_one]
    have e : ∀ b ∈ st.bs, zq st.q (g (clearB st.q p (scaleL st.q l sc) (a' * sc % st.q) (scaleW st.q w sc) b).pv) * zq st.q (clearB st.q p (scaleL st.q l sc) (a' * sc % st.q) (scaleW st.q w sc) b).res =
        zq st.q (g b.pv) * zq st.q b.res - zq st.q (g b.pv) * zq st.q (at_ b.row p) * zq st.q (a' * sc % st.q) := fun b hb => by
      rw [hclr b]
      show zq st.q (g b.pv) * _ = _
      grind
    rw [sumL_congr e, sumL_sub, sumL_mulr]; grind
  have hle : (st.rows ++ [v]).length = st.rows.length + 1 := by simp
  refine ⟨ok.prm, ok.nn, ?_, ?_, ?_, ?_, ?_, ?_, ?_, ?_, ?_, ?_⟩
  · show (st.rows ++ [v]).length ≤ 1000
    omega
  · intro r hr
    rcases List.mem_append.mp hr with hr | hr
    · exact ok.rows r hr
    · rw [List.mem_singleton.mp hr]; exact hv
  · show (st.ans ++ [a]).length = (st.rows ++ [v]).length
    have := ok.alen
    simp [this]
  · intro x hx
    rcases List.mem_append.mp hx with hx | hx
    · exact ok.ares x hx
    · rw [List.mem_singleton.mp hx]; exact ha
  · show (st.bs.map _ ++ [_]).length ≤ (st.rows ++ [v]).length
    have := ok.bl
    simp; omega
  · intro b hb
    show BasOk st.n st.q (st.rows ++ [v]).length b
    rw [hle]
    rcases List.mem_append.mp hb with hb | hb
    · obtain ⟨c, hc, rfl⟩ := List.mem_map.mp hb
      have k := ok.bas c hc
      refine ⟨k.pv, redL_row hq _ k.row.len rowR.len, ⟨Int.emod_nonneg _ (by omega), Int.emod_lt_of_pos _ hq⟩, (hclw c hc).1, ?_⟩
      have := key c hc c hc
      rw [k.one, one_mod hq2] at this
      exact this
    · rw [List.mem_singleton.mp hb]
      exact ⟨hp, rowR, ⟨Int.emod_nonneg _ (by omega), Int.emod_lt_of_pos _ hq⟩, wdR, hone⟩
  · show List.Pairwise _ (st.bs.map _ ++ [_])
    rw [List.pairwise_append]
    refine ⟨?_, List.pairwise_singleton _ _, ?_⟩
    · rw [List.pairwise_map]
      refine List.Pairwise.imp_of_mem ?_ ok.piv
      intro b c hb hc h
      have h1 := key b hb c hc
      have h2 := key c hc b hb
      rw [h.1, Int.zero_emod] at h1
      rw [h.2, Int.zero_emod] at h2
      exact ⟨h1, h2⟩
    · intro x hx y hy
      obtain ⟨b, hb, rfl⟩ := List.mem_map.mp hx
      rw [List.mem_singleton.mp hy]
      refine ⟨?_, hz b hb⟩
      show at_ (redL st.q b.row (at_ b.row p) (scaleL st.q l sc)) p = 0
      unfold redL
      rw [at_zip (by rw [(ok.bas b hb).row.len]; exact hp) (by rw [rowR.len]; exact hp), hone, Int.mul_one, Int.sub_self, Int.zero_emod]
  · intro b hb
    rcases List.mem_append.mp hb with hb | hb
    · obtain ⟨c, hc, rfl⟩ := List.mem_map.mp hb
      refine ⟨fun j => ?_, ?_⟩
      · show _ = wS st.q (st.rows ++ [v]) (wz st.q (combI st.q c.wd (at_ c.row p) (scaleW st.q w sc))) j
        rw [wS_congr (v := fun k => wz st.q c.wd k + -(zq st.q (at_ c.row p)) * wz st.q (scaleW st.q w sc) k) (fun i _ => (hclw c hc).2 i), wS_lin, ← hb' c hc, ← hnew]
        show zq st.q (at_ (clearB st.q p (scaleL st.q l sc) (a' * sc % st.q) (scaleW st.q w sc) c).row j) = _
        rw [hcl c hc j]; grind
      · show _ = wA st.q (st.ans ++ [a]) (wz st.q (combI st.q c.wd (at_ c.row p) (scaleW st.q w sc)))
        rw [wA_congr (v := fun k => wz st.q c.wd k + -(zq st.q (at_ c.row p)) * wz st.q (scaleW st.q w sc) k) (fun i _ => (hclw c hc).2 i), wA_lin, ← hr' c hc, ← hnewr]
        show zq st.q (clearB st.q p (scaleL st.q l sc) (a' * sc % st.q) (scaleW st.q w sc) c).res = _
        rw [hclr c]; grind
    · rw [List.mem_singleton.mp hb]
      exact ⟨hnew, hnewr⟩
  · intro i hi j
    have hi : i < (st.rows ++ [v]).length := hi
    show zq st.q (RR (st.rows ++ [v]) i j) = sumL (st.bs.map (clearB st.q p (scaleL st.q l sc) (a' * sc % st.q) (scaleW st.q w sc)) ++ [⟨p, scaleL st.q l sc, a' * sc % st.q, scaleW st.q w sc⟩]) fun b => zq st.q (RR (st.rows ++ [v]) i b.pv) * zq st.q (at_ b.row j)
    rw [gen fun k => RR (st.rows ++ [v]) i k]
    by_cases h : i < st.rows.length
    · simp only [RR_old h]
      rw [← ok.gen i h j, ← ok.gen i h p]; grind
    · have : i = st.rows.length := by omega
      subst this
      simp only [RR_new]
      have e1 := d.eqn j
      have e2 := d.eqn p
      have e3 := hrow j
      rw [e3]
      grind
  · show match st.fail with
      | none => ∀ i, i < (st.rows ++ [v]).length → zq st.q (at_ (st.ans ++ [a]) i) = sumL (st.bs.map (clearB st.q p (scaleL st.q l sc) (a' * sc % st.q) (scaleW st.q w sc)) ++ [⟨p, scaleL st.q l sc, a' * sc % st.q, scaleW st.q w sc⟩]) fun b => zq st.q (RR (st.rows ++ [v]) i b.pv) * zq st.q b.res
      | some w => WOk st.q (st.rows ++ [v]).length w ∧ (∀ j, wS st.q (st.rows ++ [v]) (wz st.q w) j = 0) ∧ wA st.q (st.ans ++ [a]) (wz st.q w) ≠ 0
    have f := ok.fai
    cases hf : st.fail with
    | none =>
      rw [hf] at f
      have f : ∀ i, i < st.rows.length → zq st.q (at_ st.ans i) = sumL st.bs fun b => zq st.q (RR st.rows i b.pv) * zq st.q b.res := f
      intro i hi
      rw [genr fun k => RR (st.rows ++ [v]) i k]
      by_cases h : i < st.rows.length
      · simp only [RR_old h]
        rw [at_old (by rw [ok.alen]; exact h), ← f i h, ← ok.gen i h p]; grind
      · have : i = st.rows.length := by omega
        subst this
        have ea : at_ (st.ans ++ [a]) st.rows.length = a := by rw [← ok.alen]; exact at_new' _ _
        simp only [RR_new, ea]
        have e1 := d.req
        have e2 := d.eqn p
        rw [hres]
        grind
    | some u =>
      rw [hf] at f
      obtain ⟨f1, f2, f3⟩ := f
      have u0 : wz st.q u st.rows.length = 0 := by unfold wz; rw [f1.out (Nat.le_refl _), QZ.z_zero]
      refine ⟨f1.mono (by omega), fun j => ?_, ?_⟩
      · rw [wS_snoc, f2, u0]; grind
      · rw [wA_snoc, ok.alen, u0]
        intro z
        exact f3 (by rw [← z]; grind)

def Cons (q : Int) (n : Nat) (rows : List (List Int)) (ans : List Int) : Prop := ∃ x : Nat → QZ q, ∀ i, i < rows.length → sumL (List.range n) (fun j => zq q (RR rows i j) * x j) = zq q (at_ ans i)
theorem DivI.ws {st : SpSt} (ok : SpOk st) {v : List Int} {a : Int} {l : List Int} {a' : Int} {w : List (Int × Int)} (d : DivI st v a (dlt st.q st.rows.length) (-1) (st.rows.length + 1) st.bs l a' w) :
    (∀ j, wS st.q (st.rows ++ [v]) (wz st.q w) j = zq st.q (at_ l j)) ∧ wA st.q (st.ans ++ [a]) (wz st.q w) = zq st.q a' := by
  have hout : ∀ b ∈ st.bs, wz st.q b.wd st.rows.length = 0 := fun b hb => by
    unfold wz; rw [(ok.bas b hb).wd.out (Nat.le_refl _), QZ.z_zero]
  have hwm : wz st.q w st.rows.length = 1 := by
    rw [d.weq, sumL_zero fun b hb => by rw [hout b hb]; grind]
    unfold dlt; rw [if_pos rfl]; grind
  have hwi : ∀ i, i < st.rows.length → wz st.q w i = sumL st.bs fun b => (-(zq st.q (at_ v b.pv))) * wz st.q b.wd i := fun i hi => by
    rw [d.weq]
    unfold dlt; rw [if_neg (by omega)]
    have e : ∀ b ∈ st.bs, (-(zq st.q (at_ v b.pv))) * wz st.q b.wd i = -(zq st.q (at_ v b.pv) * wz st.q b.wd i) := fun b _ => by grind
    rw [sumL_congr e, sumL_neg]; grind
  refine ⟨fun j => ?_, ?_⟩
  · rw [wS_snoc, hwm, wS_congr hwi, wS_sum, d.eqn]
    have e : ∀ b ∈ st.bs, (-(zq st.q (at_ v b.pv))) * wS st.q st.rows (wz st.q b.wd) j = -(zq st.q (at_ v b.pv) * zq st.q (at_ b.row j)) := fun b hb => by
      rw [(ok.com b hb).1 j]; grind
    rw [sumL_congr e, sumL_neg]; grind
  · rw [wA_snoc, ok.alen, hwm, wA_congr (v := fun i => sumL st.bs fun b => (-(zq st.q (at_ v b.pv))) * wz st.q b.wd i) (fun i hi => hwi i (by have := ok.alen; omega)), wA_sum, d.req]
    have e : ∀ b ∈ st.bs, (-(zq st.q (at_ v b.pv))) * wA st.q st.ans (wz st.q b.wd) = -(zq st.q (at_ v b.pv) * zq st.q b.res) := fun b hb => by
      rw [(ok.com b hb).2]; grind
    rw [sumL_congr e, sumL_neg]; grind
theorem SpOk.more {st : SpSt} (ok : SpOk st) {v : List Int} {a : Int} (hv : RowQ st.q st.n v) (ha : 0 ≤ a ∧ a < st.q) (hm : st.rows.length < 1000) {l : List Int} {a' : Int} {w : List (Int × Int)}
    (d : DivI st v a (dlt st.q st.rows.length) (-1) (st.rows.length + 1) st.bs l a' w) (hl : ∀ j, at_ l j = 0) {f' : Option (List (Int × Int))} (hf : (f' = st.fail ∧ (st.fail = none → a' = 0)) ∨ (st.fail = none ∧ a' ≠ 0 ∧ f' = some w)) :
    SpOk { st with rows := st.rows ++ [v], ans := st.ans ++ [a], fail := f' } := by
  have hle : (st.rows ++ [v]).length = st.rows.length + 1 := by simp
  have hq : 0 < st.q := by have := ok.prm.lo; omega
  have hout : ∀ b ∈ st.bs, wz st.q b.wd st.rows.length = 0 := fun b hb => by
    unfold wz; rw [(ok.bas b hb).wd.out (Nat.le_refl _), QZ.z_zero]
  have e0 : ∀ j, zq st.q (at_ v j) = sumL st.bs fun b => zq st.q (at_ v b.pv) * zq st.q (at_ b.row j) := fun j => by
    have := d.eqn j
    rw [hl, QZ.z_zero] at this
    grind
  refine ⟨ok.prm, ok.nn, ?_, ?_, ?_, ?_, ?_, ?_, ok.piv, ?_, ?_, ?_⟩
  · show (st.rows ++ [v]).length ≤ 1000
    omega
  · intro r hr
    rcases List.mem_append.mp hr with hr | hr
    · exact ok.rows r hr
    · rw [List.mem_singleton.mp hr]; exact hv
  · show (st.ans ++ [a]).length = (st.rows ++ [v]).length
    have := ok.alen
    simp [this]
  · intro x hx
    rcases List.mem_append.mp hx with hx | hx
    · exact ok.ares x hx
    · rw [List.mem_singleton.mp hx]; exact ha
  · show st.bs.length ≤ (st.rows ++ [v]).length
    have := ok.bl
    simp; omega
  · intro b hb
    show BasOk st.n st.q (st.rows ++ [v]).length b
    rw [hle]
    have k := ok.bas b hb
    exact ⟨k.pv, k.row, k.res, k.wd.mono (Nat.le_succ _), k.one⟩
  · intro b hb
    refine ⟨fun j => ?_, ?_⟩
    · show _ = wS st.q (st.rows ++ [v]) (wz st.q b.wd) j
      rw [wS_snoc, hout b hb, (ok.com b hb).1 j]; grind
    · show _ = wA st.q (st.ans ++ [a]) (wz st.q b.wd)
      rw [wA_snoc, ok.alen, hout b hb, (ok.com b hb).2]; grind
  · intro i hi j
    have hi : i < (st.rows ++ [v]).length := hi
    show zq st.q (RR (st.rows ++ [v]) i j) = sumL st.bs fun b => zq st.q (RR (st.rows ++ [v]) i b.pv) * zq st.q (at_ b.row j)
    by_cases h : i < st.rows.length
    · simp only [RR_old h]; exact ok.gen i h j
    · have : i = st.rows.length := by omega
      subst this
      simp only [RR_new]; exact e0 j
  · show match (generalizing := false) f' with
      | none => ∀ i, i < (st.rows ++ [v]).length → zq st.q (at_ (st.ans ++ [a]) i) = sumL st.bs fun b => zq st.q (RR (st.rows ++ [v]) i b.pv) * zq st.q b.res
      | some w => WOk st.q (st.rows ++ [v]).length w ∧ (∀ j, wS st.q (st.rows ++ [v]) (wz st.q w) j = 0) ∧ wA st.q (st.ans ++ [a]) (wz st.q w) ≠ 0
    have f := ok.fai
    rcases hf with ⟨rfl, h0⟩ | ⟨h0, h1, rfl⟩
    · cases hf : st.fail with
      | none =>
        rw [hf] at f
        have f : ∀ i, i < st.rows.length → zq st.q (at_ st.ans i) = sumL st.bs fun b => zq st.q (RR st.rows i b.pv) * zq st.q b.res := f
        intro i hi
        by_cases h : i < st.rows.length
        · simp only [RR_old h]
          rw [at_old (by rw [ok.alen]; exact h)]; exact f i h
        · have : i = st.rows.length := by omega
          subst this
          have ea : at_ (st.ans ++ [a]) st.rows.length = a := by rw [← ok.alen]; exact at_new' _ _
          simp only [RR_new, ea]
          have e1 := d.req
          rw [h0 hf, QZ.z_zero] at e1
          grind
      | some u =>
        rw [hf] at f
        obtain ⟨f1, f2, f3⟩ := f
        have u0 : wz st.q u st.rows.length = 0 := by unfold wz; rw [f1.out (Nat.le_refl _), QZ.z_zero]
        refine ⟨f1.mono (by omega), fun j => ?_, ?_⟩
        · rw [wS_snoc, f2, u0]; grind
        · rw [wA_snoc, ok.alen, u0]
          intro z
          exact f3 (by rw [← z]; grind)
    · obtain ⟨d1, d2⟩ := d.ws ok
      refine ⟨by rw [hle]; exact d.wok, fun j => by rw [d1, hl, QZ.z_zero], ?_⟩
      rw [d2]
      intro z
      exact h1 (zq_inj (by rw [z]; rfl) d.res.1 d.res.2 (Int.le_refl 0) hq)
theorem at_set {x : List Int} {k : Nat} (h : k < x.length) (v : Int) (j : Nat) : at_ (x.set k v) j = if j = k then v else at_ x j := by
  unfold at_
  rw [List.getD_eq_getElem?_getD, List.getD_eq_getElem?_getD, List.getElem?_set]
  by_cases e : k = j
  · subst e; simp [h]
  · rw [if_neg e, if_neg (Ne.symm e)]
structure PivI (n : Nat) (q : Int) (x0 : Nat → Int) (g : Bas → Int) (p : List Bas) (x : List Int) : Prop where
  row : RowQ q n x
  off : ∀ j, (∀ b ∈ p, b.pv ≠ j) → at_ x j = x0 j
  at_ : ∀ b ∈ p, at_ x b.pv = g b
theorem PivI.step {st : SpSt} (ok : SpOk st) {x0 : Nat → Int} {g : Bas → Int} {p r : List Bas} {b : Bas} {x : List Int} (h : PivI st.n st.q x0 g p x) (e : st.bs = p ++ b :: r) (hg : 0 ≤ g b ∧ g b < st.q) : PivI st.n st.q x0 g (p ++ [b]) (x.set b.pv (g b)) := by
  have hb := ok.bas b (by rw [e]; simp)
  have hl : b.pv < x.length := by rw [h.row.len]; exact hb.pv
  have ne : ∀ c ∈ p, c.pv ≠ b.pv := fun c hc z => by
    have h1 := (ok.before e hc).1
    rw [← z, (ok.bas c (by rw [e]; exact List.mem_append_left _ hc)).one] at h1
    exact absurd h1 (by decide)
  refine ⟨⟨by rw [List.length_set]; exact h.row.len, fun y hy => ?_⟩, fun j hj => ?_, fun c hc => ?_⟩
  · rcases List.mem_or_eq_of_mem_set hy with hy | rfl
    · exact h.row.res y hy
    · exact hg
  · rw [at_set hl, if_neg fun z => hj b (by simp) z.symm]
    exact h.off j fun c hc => hj c (List.mem_append_left _ hc)
  · rw [at_set hl]
    rcases List.mem_append.mp hc with hc | hc
    · rw [if_neg (ne c hc)]; exact h.at_ c hc
    · rw [List.mem_singleton.mp hc, if_pos rfl]
theorem piv_sum {st : SpSt} (ok : SpOk st) (R : Nat → QZ st.q) (y : Nat → QZ st.q) : ∀ bs : List Bas, (∀ b ∈ bs, b ∈ st.bs) → bs.Pairwise (fun b c => b.pv ≠ c.pv) → (∀ j, j < st.n → (∀ b ∈ bs, b.pv ≠ j) → y j = 0) →
    sumL (List.range st.n) (fun j => R j * y j) = sumL bs fun b => R b.pv * y b.pv := by
  intro bs hb hp h0
  have e : ∀ j ∈ List.range st.n, R j * y j = sumL bs fun b => if j = b.pv then R j * y j else 0 := fun j hj => by
    have hj' := List.mem_range.mp hj
    by_cases h : ∀ b ∈ bs, b.pv ≠ j
    · rw [h0 j hj' h, sumL_zero fun b hb' => by rw [if_neg (h b hb').symm]]; grind
    · simp only [Classical.not_forall] at h
      obtain ⟨b, hb1, hb2⟩ := h
      have hb2 : b.pv = j := Classical.not_not.mp hb2
      obtain ⟨s, t, rfl⟩ := List.append_of_mem hb1
      rw [List.pairwise_append, List.pairwise_cons] at hp
      rw [sumL_app, sumL_cons, if_pos hb2.symm, sumL_zero fun c hc => if_neg fun z => hp.2.2 c hc b List.mem_cons_self (by rw [hb2, z]), sumL_zero fun c hc => if_neg fun z => hp.2.1.1 c hc (by rw [hb2, z])]
      grind
  rw [sumL_congr e, sumL_comm]
  refine sumL_congr fun b hb' => ?_
  have := sumL_delta (n := st.n) (k := b.pv) (fun j => R j * y j) (ok.bas b (hb b hb')).pv
  exact this
theorem SpOk.pivne {st : SpSt} (ok : SpOk st) : st.bs.Pairwise fun b c => b.pv ≠ c.pv := List.Pairwise.imp_of_mem (fun {b c} hb hc h z => by
  have h1 := h.1
  rw [← z, (ok.bas b hb).one] at h1
  exact absurd h1 (by decide)) ok.piv
structure SolQ (q : Int) (n : Nat) (rows : List (List Int)) (ans : List Int) (x : List Int) : Prop where
  row : RowQ q n x
  sol : ∀ i, i < rows.length → sumL (List.range n) (fun j => zq q (RR rows i j) * zq q (at_ x j)) = zq q (at_ ans i)
theorem SolQ.cons {q : Int} {n : Nat} {rows : List (List Int)} {ans x : List Int} (h : SolQ q n rows ans x) : Cons q n rows ans := ⟨_, h.sol⟩
structure ConQ (q : Int) (rows : List (List Int)) (ans : List Int) (w : List Int) : Prop where
  row : RowQ q rows.length w
  zer : ∀ j, wS q rows (fun i => zq q (at_ w i)) j = 0
  ne : wA q ans (fun i => zq q (at_ w i)) ≠ 0
theorem ConQ.not {q : Int} {n : Nat} {rows : List (List Int)} {ans w : List Int} (ha : ans.length = rows.length) (h : ConQ q rows ans w) : ¬ Cons q n rows ans := by
  rintro ⟨x, hx⟩
  refine h.ne ?_
  unfold wA
  have e : ∀ i ∈ List.range ans.length, zq q (at_ w i) * zq q (at_ ans i) = sumL (List.range n) fun j => zq q (at_ w i) * zq q (RR rows i j) * x j := fun i hi => by
    rw [← hx i (by have := List.mem_range.mp hi; omega), ← sumL_mul]
    exact sumL_congr fun j _ => by grind
  rw [sumL_congr e, sumL_comm, ha]
  refine sumL_zero fun j _ => ?_
  rw [sumL_mulr]
  have := h.zer j
  unfold wS at this
  rw [this]; grind
structure CombQ (q : Int) (rows : List (List Int)) (v w : List Int) : Prop where
  row : RowQ q rows.length w
  eqn : ∀ j, zq q (at_ v j) = wS q rows (fun i => zq q (at_ w i)) j
theorem CombQ.insp {q : Int} {rows : List (List Int)} {v w : List Int} (h : CombQ q rows v w) : InSp q rows v := ⟨_, h.eqn⟩
theorem DivI.zero {st : SpSt} (ok : SpOk st) {v : List Int} {a : Int} {w0 : Nat → QZ st.q} {s : QZ st.q} {M : Nat} {l : List Int} {a' : Int} {w : List (Int × Int)} (d : DivI st v a w0 s M st.bs l a' w) :
    (∀ j, at_ l j = 0) ↔ InSp st.q st.rows v := by
  have hq : 0 < st.q := by have := ok.prm.lo; omega
  constructor
  · intro h
    refine ⟨fun i => sumL st.bs fun b => zq st.q (at_ v b.pv) * wz st.q b.wd i, fun j => ?_⟩
    have := d.eqn j
    rw [h, QZ.z_zero] at this
    rw [wS_sum]
    have e : ∀ b ∈ st.bs, zq st.q (at_ v b.pv) * wS st.q st.rows (wz st.q b.wd) j = zq st.q (at_ v b.pv) * zq st.q (at_ b.row j) := fun b hb => by rw [(ok.com b hb).1 j]
    rw [sumL_congr e]; grind
  · intro h j
    have h0 := d.row.at hq j
    refine zq_inj (q := st.q) ?_ h0.1 h0.2 (Int.le_refl 0) hq
    rw [d.eqn, ← ok.insp h j, QZ.z_zero]; grind
structure DirQ (q : Int) (n : Nat) (rows : List (List Int)) (v x : List Int) : Prop where
  row : RowQ q n x
  ort : ∀ i, i < rows.length → sumL (List.range n) (fun j => zq q (RR rows i j) * zq q (at_ x j)) = 0
  ne : sumL (List.range n) (fun j => zq q (at_ v j) * zq q (at_ x j)) ≠ 0
theorem DivI.dir {st : SpSt} (ok : SpOk st) {v : List Int} {a : Int} {w0 : Nat → QZ st.q} {s : QZ st.q} {M : Nat} {l : List Int} {a' : Int} {w : List (Int × Int)} (d : DivI st v a w0 s M st.bs l a' w) {f : Nat} (hf : f < st.n) (h : at_ l f ≠ 0) {x : List Int}
    (hx : PivI st.n st.q (fun j => if j = f then 1 else 0) (fun b => -at_ b.row f % st.q) st.bs x) : DirQ st.q st.n st.rows v x := by
  have hq : 0 < st.q := by have := ok.prm.lo; omega
  have fp : ∀ b ∈ st.bs, b.pv ≠ f := fun b hb z => h (z ▸ d.piv ok hb)
  have key : ∀ R : Nat → QZ st.q, sumL (List.range st.n) (fun j => R j * zq st.q (at_ x j)) = R f - sumL st.bs fun b => R b.pv * zq st.q (at_ b.row f) := fun R => by
    have e : ∀ j ∈ List.range st.n, R j * zq st.q (at_ x j) = R j * (zq st.q (at_ x j) - (if j = f then 1 else 0)) + (if j = f then R j else 0) := fun j _ => by
      by_cases z : j = f
      · rw [if_pos z, if_pos z]; grind
      · rw [if_neg z, if_neg z]; grind
    rw [sumL_congr e, sumL_add, sumL_delta R hf, piv_sum ok R (fun j => zq st.q (at_ x j) - (if j = f then 1 else 0)) st.bs (fun _ h => h) ok.pivne fun j _ hj => by
      rw [hx.off j hj]
      by_cases z : j = f
      · simp only [z, if_true]; rw [QZ.z_one]; grind
      · simp only [z, if_false]; rw [QZ.z_zero]; grind]
    have e2 : ∀ b ∈ st.bs, R b.pv * (zq st.q (at_ x b.pv) - (if b.pv = f then 1 else 0)) = -(R b.pv * zq st.q (at_ b.row f)) := fun b hb => by
      rw [hx.at_ b hb, if_neg (fp b hb), QZ.z_mod, QZ.z_neg]; grind
    rw [sumL_congr e2, sumL_neg]; grind
  refine ⟨hx.row, fun i hi => ?_, ?_⟩
  · rw [key fun j => zq st.q (RR st.rows i j), ← ok.gen i hi f]; grind
  · rw [key fun j => zq st.q (at_ v j), ← d.eqn f]
    intro z
    have h0 := d.row.at hq f
    exact h (zq_inj (q := st.q) (by rw [z]; rfl) h0.1 h0.2 (Int.le_refl 0) hq)
theorem DirQ.not {q : Int} {n : Nat} {rows : List (List Int)} {v x : List Int} (h : DirQ q n rows v x) : ¬ InSp q rows v := by
  rintro ⟨w, hw⟩
  refine h.ne ?_
  have e : ∀ j ∈ List.range n, zq q (at_ v j) * zq q (at_ x j) = sumL (List.range rows.length) fun i => w i * (zq q (RR rows i j) * zq q (at_ x j)) := fun j _ => by
    rw [hw]; unfold wS
    rw [← sumL_mulr]
    exact sumL_congr fun i _ => by grind
  rw [sumL_congr e, sumL_comm]
  refine sumL_zero fun i hi => ?_
  rw [sumL_mul, h.ort i (List.mem_range.mp hi)]; grind
def insWord (q : Int) (n : Nat) (rows : List (List Int)) (ans : List Int) (v : List Int) (a : Int) (r : Str) : Prop :=
  (¬ InSp q rows v ∧ r = "new") ∨ (InSp q rows v ∧ (Cons q n rows ans ∧ ¬ Cons q n (rows ++ [v]) (ans ++ [a])) ∧ r = "contradiction") ∨ (InSp q rows v ∧ ¬ (Cons q n rows ans ∧ ¬ Cons q n (rows ++ [v]) (ans ++ [a])) ∧ r = "implied")

theorem SpOk.div {st : SpSt} (ok : SpOk st) {v : List Int} {a : Int} {w0 : Nat → QZ st.q} {M : Nat} (hM : st.rows.length ≤ M) : ∀ (r p : List Bas) (l : List Int) (a' : Int) (w : List (Int × Int)), st.bs = p ++ r → DivI st v a w0 (-1) M p l a' w → ∃ l a' w, DivI st v a w0 (-1) M (p ++ r) l a' w
  | [], p, l, a', w, _, d => ⟨l, a', w, by rw [List.append_nil]; exact d⟩
  | b :: r, p, l, a', w, e, d => by
    have d2 := d.step ok e hM (g := at_ l b.pv) (by grind)
    obtain ⟨l2, a2, w2, d3⟩ := SpOk.div ok hM r (p ++ [b]) _ _ _ (by rw [e]; simp) d2
    exact ⟨l2, a2, w2, by rw [List.append_assoc] at d3; exact d3⟩
theorem SpOk.divided {st : SpSt} (ok : SpOk st) {v : List Int} {x : Int} (hv : RowQ st.q st.n v) (hx : 0 ≤ x ∧ x < st.q) : ∃ l a' w, DivI st v x (dlt st.q st.rows.length) (-1) (st.rows.length + 1) st.bs l a' w := by
  have q2 := ok.prm.lo
  have d0 : DivI st v x (dlt st.q st.rows.length) (-1) (st.rows.length + 1) [] v x [((st.rows.length : Nat), 1)] := by
    refine ⟨hv, fun j => by rw [sumL_nil]; grind, hx, by rw [sumL_nil]; grind, ⟨by simp, fun e he => ?_, fun e he => ?_⟩, fun k => ?_⟩
    · rw [List.mem_singleton.mp he]; exact ⟨by simp, by simp; omega⟩
    · rw [List.mem_singleton.mp he]; exact ⟨by simp, by simp; omega⟩
    · rw [sumL_nil]
      unfold wz dlt
      rw [look_cons, look_nil]
      by_cases h : k = st.rows.length
      · subst h; simp only [if_true]; rw [QZ.z_one]; grind
      · rw [if_neg (by omega), if_neg h, QZ.z_zero]; grind
  exact ok.div (Nat.le_succ _) st.bs [] _ _ _ rfl d0
theorem first_at (l : List Int) (h : ¬ ∀ j, at_ l j = 0) : ∃ p, p < l.length ∧ at_ l p ≠ 0 := by
  simp only [Classical.not_forall] at h
  obtain ⟨p, hp⟩ := h
  refine ⟨p, ?_, hp⟩
  by_cases g : p < l.length
  · exact g
  · exact absurd (at_ge (by omega)) hp
theorem SpOk.grow {st : SpSt} (ok : SpOk st) {v : List Int} {x : Int} (hv : RowQ st.q st.n v) (hx : 0 ≤ x ∧ x < st.q) (hm : st.rows.length < 1000) : ∃ st' : SpSt, SpOk st' ∧ st'.n = st.n ∧ st'.q = st.q ∧ st'.rows = st.rows ++ [v] ∧ st'.ans = st.ans ++ [x] := by
  have q2 := ok.prm.lo
  obtain ⟨l, a', w, d⟩ := ok.divided hv hx
  by_cases hl : ∀ j, at_ l j = 0
  · by_cases ha : st.fail = none → a' = 0
    · exact ⟨{ st with rows := st.rows ++ [v], ans := st.ans ++ [x], fail := st.fail }, ok.more hv hx hm d hl (.inl ⟨rfl, ha⟩), rfl, rfl, rfl, rfl⟩
    · have h1 : st.fail = none := Classical.byContradiction fun z => ha fun y => absurd y z
      have h2 : a' ≠ 0 := fun z => ha fun _ => z
      exact ⟨{ st with rows := st.rows ++ [v], ans := st.ans ++ [x], fail := some w }, ok.more hv hx hm d hl (.inr ⟨h1, h2, rfl⟩), rfl, rfl, rfl, rfl⟩
  · obtain ⟨p, pl, pn⟩ := first_at l hl
    have h0 := d.row.at (by omega) p
    obtain ⟨sc, _, _, e⟩ := ok.prm.inv (at_ l p) (by omega) h0.2
    exact ⟨_, ok.add hv hx hm d (by rw [← d.row.len]; exact pl) e, rfl, rfl, rfl, rfl⟩
theorem SpOk.init {n : Nat} {q : Int} (hq : Prm q) (hn : 1 ≤ n ∧ n ≤ 1000) : SpOk ⟨n, q, [], [], [], none⟩ :=
  ⟨hq, hn, (Nat.zero_le _), (fun _ h => by cases h), rfl, (fun _ h => by cases h), (Nat.zero_le _), (fun _ h => by cases h), .nil, (fun _ h => by cases h), fun i h => absurd h (Nat.not_lt_zero i), fun i h => absurd h (Nat.not_lt_zero i)⟩
structure SysQ (q : Int) (n : Nat) (rows : List (List Int)) (ans : List Int) : Prop where
  prm : Prm q
  nn : 1 ≤ n ∧ n ≤ 1000
  mm : rows.length ≤ 1000
  rowq : ∀ r ∈ rows, RowQ q n r
  alen : ans.length = rows.length
  ares : ∀ x ∈ ans, 0 ≤ x ∧ x < q
theorem SysQ.ex {q : Int} {n : Nat} {rows : List (List Int)} {ans : List Int} (h : SysQ q n rows ans) : ∃ st : SpSt, SpOk st ∧ st.n = n ∧ st.q = q ∧ st.rows = rows ∧ st.ans = ans := by
  have go : ∀ k, k ≤ rows.length → ∃ st : SpSt, SpOk st ∧ st.n = n ∧ st.q = q ∧ st.rows = rows.take k ∧ st.ans = ans.take k := by
    intro k
    induction k with
    | zero => exact fun _ => ⟨_, SpOk.init h.prm h.nn, rfl, rfl, by simp, by simp⟩
    | succ k ih =>
      intro hk
      obtain ⟨st, ok, rfl, rfl, e1, e2⟩ := ih (by omega)
      have hk' : k < rows.length := by omega
      have ha' : k < ans.length := by rw [h.alen]; exact hk'
      obtain ⟨st', ok', f1, f2, f3, f4⟩ := ok.grow (h.rowq _ (List.getElem_mem hk')) (h.ares _ (List.getElem_mem ha')) (by rw [e1, List.length_take]; have := h.mm; omega)
      refine ⟨st', ok', f1, f2, ?_, ?_⟩
      · rw [f3, e1, List.take_append_getElem]
      · rw [f4, e2, List.take_append_getElem]
  obtain ⟨st, ok, e1, e2, e3, e4⟩ := go rows.length (Nat.le_refl _)
  exact ⟨st, ok, e1, e2, by rw [e3, List.take_length], by rw [e4, ← h.alen, List.take_length]⟩
theorem seqL {S : Sto} {a : Addr} {xs : List D} (h : S a = some (.lst xs)) : seqD S (.loc a) = some xs := by
  show (match S a with | some (.lst xs) => some xs | _ => none) = _; rw [h]
theorem zip_pairs (xs ys : List Int) : List.zipWith pairD (xs.map D.int) (ys.map D.int) = (xs.zip ys).map fun u => pairD (.int u.1) (.int u.2) := by
  induction xs generalizing ys with
  | nil => rfl
  | cons x xs ih =>
    cases ys with
    | nil => rfl
    | cons y ys => exact congrArg (_ :: ·) (ih ys)
theorem zip_map (g : Int → Int → Int) (xs ys : List Int) : (xs.zip ys).map (fun u => D.int (g u.1 u.2)) = (List.zipWith g xs ys).map D.int := by
  induction xs generalizing ys with
  | nil => rfl
  | cons x xs ih =>
    cases ys with
    | nil => rfl
    | cons y ys => exact congrArg (_ :: ·) (ih ys)
theorem cmul_lr {i j : Int} (h : -(2 ^ 63) < i ∧ i < 2 ^ 63) : MulOk i j := cmul_l (by omega)
abbrev rowD (xs : List Int) : D := .tup (xs.map D.int)
def BasAt (CR : Addr) (S : Sto) (x : Addr) (b : Bas) : Prop := ∃ ra wa : Addr, S x = some (.ins CR [("pivot", .int (b.pv : Int)), ("row", .loc ra), ("result", .int b.res), ("weights", .loc wa)]) ∧ S ra = some (.lst (b.row.map D.int)) ∧ S wa = some (.dic (b.wd.map kvI))
def FailAt (S : Sto) (fd : D) : Option (List (Int × Int)) → Prop
  | none => fd = .non
  | some w => ∃ x, fd = .loc x ∧ S x = some (.dic (w.map kvI))
abbrev spF (n q : Int) (li lr : Addr) (fd : D) : List (Str × D) := [("unknowns", .int n), ("q", .int q), ("inserted", .loc li), ("reduced", .loc lr), ("failure", fd)]
structure SpanIn (CR CS a : Addr) (st : SpSt) (S : Sto) (li lr : Addr) (fd : D) (us : List (Addr × Bas)) : Prop where
  ins : S a = some (.ins CS (spF st.n st.q li lr fd))
  rows : S li = some (.lst (st.rows.map rowD))
  red : S lr = some (.lst (us.map fun u => D.loc u.1))
  ne : li ≠ lr
  bs : st.bs = us.map (·.2)
  nd : (us.map (·.1)).Nodup
  all : ∀ u ∈ us, BasAt CR S u.1 u.2
  fail : FailAt S fd st.fail
def SpanH (CR CS a : Addr) (n : Nat) (q : Int) (rows : List (List Int)) (ans : List Int) : HP := fun S => ∃ st : SpSt, (st.n = n ∧ st.q = q ∧ st.rows = rows ∧ st.ans = ans) ∧ SpOk st ∧ ∃ li lr fd us, SpanIn CR CS a st S li lr fd us
theorem BasAt.sb {CR : Addr} {S S' : Sto} {x : Addr} {b : Bas} (h : BasAt CR S x b) (s : Sb S S') : BasAt CR S' x b := by
  obtain ⟨ra, wa, h1, h2, h3⟩ := h
  exact ⟨ra, wa, s _ _ h1, s _ _ h2, s _ _ h3⟩
theorem FailAt.sb {S S' : Sto} {fd : D} {f : Option (List (Int × Int))} (h : FailAt S fd f) (s : Sb S S') : FailAt S' fd f := by
  cases f with
  | none => exact h
  | some w => obtain ⟨x, e, h⟩ := h; exact ⟨x, e, s _ _ h⟩
theorem SpanIn.sb {CR CS a : Addr} {st : SpSt} {S S' : Sto} {li lr : Addr} {fd : D} {us : List (Addr × Bas)} (h : SpanIn CR CS a st S li lr fd us) (s : Sb S S') : SpanIn CR CS a st S' li lr fd us :=
  ⟨s _ _ h.ins, s _ _ h.rows, s _ _ h.red, h.ne, h.bs, h.nd, fun u hu => (h.all u hu).sb s, h.fail.sb s⟩
theorem BasAt.put {CR : Addr} {S : Sto} {x y : Addr} {b : Bas} {c0 c : Cell} (h : BasAt CR S x b) (hy : S y = some c0) (n1 : ∀ fs, c0 ≠ .ins CR fs) (n2 : c0 ≠ .lst (b.row.map D.int)) (n3 : ∀ k, c0 ≠ .dic k) : BasAt CR (S.put y c) x b := by
  obtain ⟨ra, wa, h1, h2, h3⟩ := h
  refine ⟨ra, wa, ?_, ?_, ?_⟩
  · rw [put_ne (fun z => by subst z; rw [hy] at h1; cases h1; exact n1 _ rfl)]; exact h1
  · rw [put_ne (fun z => by subst z; rw [hy] at h2; cases h2; exact n2 rfl)]; exact h2
  · rw [put_ne (fun z => by subst z; rw [hy] at h3; cases h3; exact n3 _ rfl)]; exact h3
theorem BasAt.get {CR : Addr} {S : Sto} {us p r : List (Addr × Bas)} {u : Addr × Bas} (h : ∀ u ∈ us, BasAt CR S u.1 u.2) (e : us = p ++ u :: r) : BasAt CR S u.1 u.2 := h u (by rw [e]; simp)
theorem BasAt.putI {CR : Addr} {S : Sto} {x y : Addr} {b : Bas} {fs : List (Str × D)} {C : Addr} {c : Cell} (h : BasAt CR S x b) (hy : S y = some (.ins C fs)) (ne : x ≠ y) : BasAt CR (S.put y c) x b := by
  obtain ⟨ra, wa, h1, h2, h3⟩ := h
  refine ⟨ra, wa, by rw [put_ne ne]; exact h1, ?_, ?_⟩
  · rw [put_ne (fun z => by subst z; rw [hy] at h2; cases h2)]; exact h2
  · rw [put_ne (fun z => by subst z; rw [hy] at h3; cases h3)]; exact h3
theorem atI_0 {x : D} {xs : List D} : atI (x :: xs) 0 = some x := by
  unfold atI
  rw [ixN_of (by decide) (by simp)]
  rfl
theorem DivI.start {st : SpSt} (ok : SpOk st) {v : List Int} {x : Int} (hv : RowQ st.q st.n v) (hx : 0 ≤ x ∧ x < st.q) : DivI st v x (dlt st.q st.rows.length) (-1) (st.rows.length + 1) [] v x [((st.rows.length : Nat), 1)] := by
  have q2 := ok.prm.lo
  refine ⟨hv, fun j => by rw [sumL_nil]; grind, hx, by rw [sumL_nil]; grind, ⟨by simp, fun e he => ?_, fun e he => ?_⟩, fun k => ?_⟩
  · rw [List.mem_singleton.mp he]; exact ⟨by simp, by simp; omega⟩
  · rw [List.mem_singleton.mp he]; exact ⟨by simp, by simp; omega⟩
  · rw [sumL_nil]
    unfold wz dlt
    rw [look_cons, look_nil]
    by_cases h : k = st.rows.length
    · subst h; simp only [if_true]; rw [QZ.z_one]; grind
    · rw [if_neg (by omega), if_neg h, QZ.z_zero]; grind
theorem repl_zero (n : Nat) : (List.replicate n [D.int 0]).flatten = (List.replicate n (0 : Int)).map D.int := by
  induction n with
  | zero => rfl
  | succ n ih => rw [List.replicate_succ, List.flatten_cons, ih, List.replicate_succ]; rfl
theorem seqD_sb {S S' : Sto} {x : D} {xs : List D} (s : Sb S S') (h : seqD S x = some xs) : seqD S' x = some xs := by
  cases x with
  | loc a =>
    have h : (match S a with | some (.lst xs) => some xs | _ => none) = some xs := h
    show (match S' a with | some (.lst xs) => some xs | _ => none) = some xs
    split at h
    · rename_i ys e
      rw [s _ _ e]; exact h
    · cases h
  | _ => exact h
theorem zipU (xs ys : List Int) : List.zipWith pairD (xs.map D.int) (ys.map D.int) = (xs.zip ys).map fun u => pairD (.int u.1) (.int u.2) := zip_pairs xs ys
theorem dotZ_zip (xs ys : List Int) : dotZ xs ys = ((xs.zip ys).map fun u => u.1 * u.2).sum := by
  unfold dotZ
  induction xs generalizing ys with
  | nil => rfl
  | cons x xs ih =>
    cases ys with
    | nil => rfl
    | cons y ys => simp [ih]
structure RowsIn (S : Sto) (n : Nat) (us : List (D × List Int)) : Prop where
  at_ : ∀ u ∈ us, seqD S u.1 = some (u.2.map D.int) ∧ u.2.length = n
theorem RowsIn.sb {S S' : Sto} {n : Nat} {us : List (D × List Int)} (h : RowsIn S n us) (s : Sb S S') : RowsIn S' n us := ⟨fun u hu => ⟨seqD_sb s (h.at_ u hu).1, (h.at_ u hu).2⟩⟩
structure SumQ (q : Int) (n : Nat) (rows : List (List Int)) (ws r : List Int) : Prop where
  row : RowQ q n r
  eqn : ∀ j, zq q (at_ r j) = wS q rows (fun i => zq q (at_ ws i)) j
structure Lead (b : List Int) (p : Nat) : Prop where
  lt : p < b.length
  ne : at_ b p ≠ 0
  lo : ∀ j, j < p → at_ b j = 0
theorem Lead.uniq {b : List Int} {p r : Nat} (h : Lead b p) (g : Lead b r) : p = r := by
  rcases Nat.lt_trichotomy p r with z | z | z
  · exact absurd (g.lo p z) h.ne
  · exact z
  · exact absurd (h.lo r z) g.ne
structure Ech (q : Int) (n : Nat) (bs : List (List Int)) : Prop where
  row : ∀ b ∈ bs, RowQ q n b ∧ ∃ p, Lead b p ∧ at_ b p = 1
  tri : bs.Pairwise fun c b => ∀ p, Lead c p → at_ b p = 0
theorem wS_nil {q : Int} (w : Nat → QZ q) (j : Nat) : wS q [] w j = 0 := rfl
theorem wS_cons {q : Int} (r : List Int) (rows : List (List Int)) (w : Nat → QZ q) (j : Nat) : wS q (r :: rows) w j = w 0 * zq q (at_ r j) + wS q rows (fun i => w (i + 1)) j := by
  unfold wS
  rw [List.length_cons, sumL_range_front]; rfl
theorem Ech.zero {q : Int} {n : Nat} : ∀ {bs : List (List Int)}, Ech q n bs → ∀ w : Nat → QZ q, (∀ b ∈ bs, ∀ p, Lead b p → wS q bs w p = 0) → ∀ j, wS q bs w j = 0
  | [], _, w, _, j => rfl
  | b :: bs, h, w, hz, j => by
    have ht := List.pairwise_cons.mp h.tri
    obtain ⟨p, hp, h1⟩ := (h.row b List.mem_cons_self).2
    have key : ∀ (w : Nat → QZ q), wS q bs w p = 0 := fun w => by
      unfold wS
      refine sumL_zero fun i hi => ?_
      have hm : bs.getD i [] ∈ bs := getD_mem (List.mem_range.mp hi)
      rw [show RR bs i p = 0 from ht.1 _ hm p hp, QZ.z_zero]; grind
    have w0 : w 0 = 0 := by
      have := hz b List.mem_cons_self p hp
      rw [wS_cons, key, h1, QZ.z_one] at this
      grind
    rw [wS_cons, w0]
    have := Ech.zero (bs := bs) ⟨fun c hc => h.row c (List.mem_cons_of_mem _ hc), ht.2⟩ (fun i => w (i + 1)) (fun c hc r hr => by
      have := hz c (List.mem_cons_of_mem _ hc) r hr
      rw [wS_cons, w0] at this
      grind) j
    rw [this]; grind
structure RestI (q : Int) (n : Nat) (bs : List (List Int)) (v r : List Int) : Prop where
  row : RowQ q n r
  eqn : ∃ w : Nat → QZ q, ∀ j, zq q (at_ r j) = zq q (at_ v j) - wS q bs w j
  zer : ∀ b ∈ bs, ∀ p, Lead b p → at_ r p = 0
theorem RestI.step {q : Int} {n : Nat} (hq : 0 < q) {p s : List (List Int)} {b v r : List Int} (h : RestI q n p v r) (ec : Ech q n (p ++ b :: s)) {k : Nat} (hk : Lead b k) : RestI q n (p ++ [b]) v (redL q r (at_ r k) b) := by
  obtain ⟨hb, k2, hk2, h1⟩ := ec.row b (by simp)
  obtain rfl := hk.uniq hk2
  have ht := ec.tri
  rw [List.pairwise_append] at ht
  obtain ⟨w, hw⟩ := h.eqn
  refine ⟨redL_row hq _ h.row.len hb.len, ⟨fun i => if i = p.length then zq q (at_ r k) else w i, fun j => ?_⟩, fun c hc l hl => ?_⟩
  · rw [zq_redL _ h.row.len hb.len, hw, wS_snoc, if_pos rfl, wS_congr (v := w) fun i hi => if_neg (by omega)]; grind
  · have hlt : l < n := by
      rcases List.mem_append.mp hc with hc | hc
      · have := hl.lt; rw [(ec.row c (List.mem_append_left _ hc)).1.len] at this; exact this
      · have := hl.lt; rw [List.mem_singleton.mp hc, hb.len] at this; exact this
    unfold redL
    rw [at_zip (by rw [h.row.len]; exact hlt) (by rw [hb.len]; exact hlt)]
    rcases List.mem_append.mp hc with hc | hc
    · rw [h.zer c hc l hl, ht.2.2 c hc b List.mem_cons_self l hl, Int.mul_zero, Int.sub_zero, Int.zero_emod]
    · rw [List.mem_singleton.mp hc] at hl
      obtain rfl := hl.uniq hk
      rw [h1, Int.mul_one, Int.sub_self, Int.zero_emod]
theorem RestI.start {q : Int} {n : Nat} {v : List Int} (hv : RowQ q n v) : RestI q n [] v v := ⟨hv, ⟨fun _ => 0, fun j => by rw [wS_nil]; grind⟩, fun _ h => by cases h⟩
def SpEq (q : Int) (xs ys : List (List Int)) : Prop := ∀ u, InSp q xs u ↔ InSp q ys u
theorem InSp.snoc {q : Int} {rows : List (List Int)} {v u : List Int} : InSp q (rows ++ [v]) u ↔ ∃ (c : QZ q) (w : Nat → QZ q), ∀ j, zq q (at_ u j) = wS q rows w j + c * zq q (at_ v j) := by
  constructor
  · rintro ⟨w, hw⟩
    exact ⟨w rows.length, w, fun j => by rw [hw, wS_snoc]⟩
  · rintro ⟨c, w, hw⟩
    refine ⟨fun i => if i = rows.length then c else w i, fun j => ?_⟩
    rw [wS_snoc, if_pos rfl, wS_congr (v := w) fun i hi => if_neg (by omega), hw]
theorem InSp.lin {q : Int} {rows : List (List Int)} {a b u : List Int} (ha : InSp q rows a) (hb : InSp q rows b) {c d : QZ q} (h : ∀ j, zq q (at_ u j) = c * zq q (at_ a j) + d * zq q (at_ b j)) : InSp q rows u := by
  obtain ⟨x, hx⟩ := ha
  obtain ⟨y, hy⟩ := hb
  refine ⟨fun i => sumL [(c, x), (d, y)] fun e => e.1 * e.2 i, fun j => ?_⟩
  rw [wS_sum, sumL_cons, sumL_one, h, hx, hy]
theorem InSp.old {q : Int} {rows : List (List Int)} {v u : List Int} (h : InSp q rows u) : InSp q (rows ++ [v]) u := by
  obtain ⟨w, hw⟩ := h
  exact InSp.snoc.mpr ⟨0, w, fun j => by rw [hw]; grind⟩
theorem InSp.last {q : Int} {rows : List (List Int)} {v : List Int} : InSp q (rows ++ [v]) v :=
  InSp.snoc.mpr ⟨1, fun _ => 0, fun j => by
    have : wS q rows (fun _ => 0) j = 0 := sumL_zero fun i _ => by grind
    rw [this]; grind⟩
theorem zq_vec {q : Int} (hq : 0 < q) (n : Nat) (f : Nat → QZ q) : ∃ r : List Int, RowQ q n r ∧ ∀ j, j < n → zq q (at_ r j) = f j := by
  have c : ∀ i, ∃ a, 0 ≤ a ∧ a < q ∧ zq q a = f i := fun i => zq_res hq (f i)
  refine ⟨(List.range n).map fun i => (c i).choose, ⟨by simp, fun x hx => ?_⟩, fun j hj => ?_⟩
  · obtain ⟨i, _, rfl⟩ := List.mem_map.mp hx
    exact ⟨(c i).choose_spec.1, (c i).choose_spec.2.1⟩
  · rw [at_lt (by simpa using hj)]
    simp [(c j).choose_spec.2.2]
theorem SpEq.snoc {q : Int} {bs rows : List (List Int)} {b v : List Int} (h : SpEq q bs rows) (hb : InSp q (rows ++ [v]) b) (hv : InSp q (bs ++ [b]) v) (n : Nat) (hq : 0 < q) (hz : ∀ r ∈ bs ++ rows, r.length = n) (hbl : b.length = n) (hvl : v.length = n) : SpEq q (bs ++ [b]) (rows ++ [v]) := by
  have out : ∀ (xs : List (List Int)) (w : Nat → QZ q) (j : Nat), (∀ r ∈ xs, r.length = n) → n ≤ j → wS q xs w j = 0 := fun xs w j hx hj => sumL_zero fun i hi => by
    rw [show RR xs i j = 0 from at_ge (by rw [hx _ (getD_mem (List.mem_range.mp hi))]; exact hj), QZ.z_zero]; grind
  have half : ∀ (xs ys : List (List Int)) (a c : List Int), (∀ r ∈ xs, r.length = n) → a.length = n → (∀ u, InSp q xs u → InSp q ys u) → InSp q (ys ++ [c]) a → ∀ u, InSp q (xs ++ [a]) u → InSp q (ys ++ [c]) u := by
    intro xs ys a c hx hal hxy ha u hu
    obtain ⟨d, w, hw⟩ := InSp.snoc.mp hu
    obtain ⟨r, hr, he⟩ := zq_vec hq n fun j => wS q xs w j
    have e2 : ∀ j, zq q (at_ r j) = wS q xs w j := fun j => by
      by_cases hj : j < n
      · exact he j hj
      · rw [at_ge (by rw [hr.len]; omega), out xs w j hx (by omega), QZ.z_zero]
    refine InSp.lin (hxy r ⟨w, e2⟩).old ha (c := 1) (d := d) fun j => ?_
    rw [hw, e2]; grind
  intro u
  exact ⟨half bs rows b v (fun r hr => hz r (List.mem_append_left _ hr)) hbl (fun u => (h u).mp) hb u, half rows bs v b (fun r hr => hz r (List.mem_append_right _ hr)) hvl (fun u => (h u).mpr) hv u⟩
theorem Ech.snoc {q : Int} {n : Nat} (hp : Prm q) {bs : List (List Int)} {v r : List Int} (ec : Ech q n bs) (h : RestI q n bs v r) {k : Nat} (hk : Lead r k) {sc : Int} (hs : at_ r k * sc % q = 1) : Ech q n (bs ++ [scaleL q r sc]) := by
  have hq : 0 < q := by have := hp.lo; omega
  have sn : ¬ MQ q sc 0 := fun z => by
    have := MQ.mod ((MQ.refl q (at_ r k)).mul z)
    rw [Int.mul_zero, Int.zero_emod] at this
    rw [this] at hs; cases hs
  have lz : ∀ j, at_ (scaleL q r sc) j = 0 ↔ at_ r j = 0 := fun j => by
    rw [at_scale]
    constructor
    · intro z
      rcases hp.cancel (MQ.zero_iff.mpr z) with z | z
      · have h0 := h.row.at hq j
        exact MQ.eq_of z h0.1 h0.2 (Int.le_refl 0) hq
      · exact absurd z sn
    · intro z
      rw [z, Int.zero_mul, Int.zero_emod]
  refine ⟨fun b hb => ?_, ?_⟩
  · rcases List.mem_append.mp hb with hb | hb
    · exact ec.row b hb
    · rw [List.mem_singleton.mp hb]
      refine ⟨scaleL_row hq sc h.row.len, k, ⟨by unfold scaleL; rw [List.length_map]; exact hk.lt, fun z => hk.ne ((lz k).mp z), fun j hj => (lz j).mpr (hk.lo j hj)⟩, by rw [at_scale]; exact hs⟩
  · rw [List.pairwise_append]
    refine ⟨ec.tri, List.pairwise_singleton _ _, fun c hc b hb p hp2 => ?_⟩
    rw [List.mem_singleton.mp hb, lz]
    exact h.zer c hc p hp2
structure BasL (S : Sto) (B : Addr) (us : List (Addr × List Int)) : Prop where
  lst : S B = some (.lst (us.map fun u => D.loc u.1))
  all : ∀ u ∈ us, S u.1 = some (.lst (u.2.map D.int))
theorem BasL.sb {S S' : Sto} {B : Addr} {us : List (Addr × List Int)} (h : BasL S B us) (s : Sb S S') : BasL S' B us := ⟨s _ _ h.lst, fun u hu => s _ _ (h.all u hu)⟩
open Classical in
noncomputable def rkN (q : Int) (rows : List (List Int)) : Nat := ((List.range rows.length).filter fun k => decide (¬ InSp q (rows.take k) (rows.getD k []))).length
open Classical in
theorem rkN_snoc (q : Int) (rows : List (List Int)) (v : List Int) : rkN q (rows ++ [v]) = rkN q rows + if InSp q rows v then 0 else 1 := by
  unfold rkN
  rw [List.length_append, List.length_singleton, List.range_succ, List.filter_append, List.length_append]
  have e : (List.range rows.length).filter (fun k => decide (¬ InSp q ((rows ++ [v]).take k) ((rows ++ [v]).getD k []))) = (List.range rows.length).filter fun k => decide (¬ InSp q (rows.take k) (rows.getD k [])) := by
    refine List.filter_congr fun k hk => ?_
    have hk := List.mem_range.mp hk
    rw [List.take_append_of_le_length (by omega), List.getD_eq_getElem?_getD, List.getElem?_append_left hk, ← List.getD_eq_getElem?_getD]
  rw [e]
  congr 1
  have e1 : (rows ++ [v]).take rows.length = rows := by simp
  have e2 : (rows ++ [v]).getD rows.length [] = v := by simp [List.getD_eq_getElem?_getD]
  by_cases h : InSp q rows v
  · rw [if_pos h, List.filter_cons_of_neg (by rw [e1, e2]; simpa using h)]; rfl
  · rw [if_neg h, List.filter_cons_of_pos (by rw [e1, e2]; simpa using h)]; rfl
def sp__law_inverse : SpD := fun ds S Q => ∃ r q : Int, ds = [.int r, .int q] ∧ Prm q ∧ 0 < r ∧ r < q ∧ ∀ v, 0 < v → v < q → r * v % q = 1 → Q (.int v) S
theorem len__law_inverse : ∀ ds S Q, sp__law_inverse ds S Q → ds.length = ["a", "q"].length := by rintro ds S Q ⟨r, q, rfl, h⟩; rfl
theorem Pen.up {b : Nat} {p q : Addr} {S S' : Sto} (h : Pen b p q S) (s : Ext p S S') (e : ∃ i st : Int, S' p = some (.lst [.loc q, .int i, .int st]) ∧ 0 ≤ i) : ∃ c, Pen c p q S' := by
  obtain ⟨i, st, e, h0⟩ := e
  obtain ⟨cs, h2⟩ := h.sc
  exact ⟨i.toNat, ⟨i, st, e, h0, by omega⟩, ⟨cs, s _ _ h.ne h2⟩, h.ne⟩
def PenF (p q : Addr) (S : Sto) : Prop := ∃ b, Pen b p q S
theorem PenF.sb {p q : Addr} {S S' : Sto} (h : PenF p q S) (s : Sb S S') : PenF p q S' := ⟨_, h.choose_spec.sb s⟩
theorem PenF.new {p q a : Addr} {S : Sto} {c : Cell} (h : PenF p q S) (ha : S a = none) : PenF p q (S.put a c) := h.sb ((Sb.refl S).put ha c)
theorem PenF.put {p q a : Addr} {S : Sto} {xs : List D} {c : Cell} (h : PenF p q S) (ha : a ≠ p) (haq : a ≠ q) : PenF p q (S.put a c) := by
  obtain ⟨b, ⟨i, st, e1, e2, e3⟩, ⟨cs, e4⟩, e5⟩ := h
  exact ⟨b, ⟨i, st, by rw [put_ne ha.symm]; exact e1, e2, e3⟩, ⟨cs, by rw [put_ne haq.symm]; exact e4⟩, e5⟩
abbrev penH (p q : Addr) : HP := PenF p q
def sp__law_fresh : SpD := fun ds S Q => ∃ p q, ds = [.loc p] ∧ PenF p q S ∧ ∀ (v : Int) (S' : Sto), PenF p q S' → Q (.int v) S'
theorem len__law_fresh : ∀ ds S Q, sp__law_fresh ds S Q → ds.length = ["_law_pen_here"].length := by rintro ds S Q ⟨p, q, rfl, h⟩; rfl

theorem all_true {α : Type} (xs : List α) : (xs.map fun _ => true).all id = true := by
  induction xs with
  | nil => rfl
  | cons x xs ih => simpa using ih
theorem Star.penend {p pq : Addr} {L : List HP} {S : Sto} {Q : Sto → Prop} (hs : Star (penH p pq :: L) S) (h : ∀ S', PenF p pq S' → Q S') : ∃ S', Sb S' S ∧ Q S' := by
  obtain ⟨h0, hp, sb⟩ := hs.first
  exact ⟨h0, sb, h h0 hp⟩
theorem star_pen {p pq : Addr} {S : Sto} (h : PenF p pq S) : Star [penH p pq] S := .cons S h (Sb.refl _) .nil
theorem SumQ.eq {q : Int} {n : Nat} (hq : 0 < q) {rows : List (List Int)} {v ws r : List Int} (hv : RowQ q n v) (c : CombQ q rows v ws) (h : SumQ q n rows ws r) : r = v :=
  ext_at (by rw [h.row.len, hv.len]) fun j _ => by
    have a := h.row.at hq j
    have b := hv.at hq j
    exact zq_inj (q := q) (by rw [h.eqn, c.eqn]) a.1 a.2 b.1 b.2
theorem eqv_rows (a b : List Int) : PyData.eqv (toPy (rowD a)) (toPy (rowD b)) = decide (a = b) := by
  show PyData.eqvAll (toPys (a.map D.int)) (toPys (b.map D.int)) = _
  induction a generalizing b with
  | nil => cases b <;> rfl
  | cons x a ih =>
    cases b with
    | nil => rfl
    | cons y b =>
      show (PyData.eqv (.int x) (.int y) && PyData.eqvAll (toPys (a.map D.int)) (toPys (b.map D.int))) = _
      rw [ih]
      by_cases e : x = y
      · subst e
        by_cases g : a = b
        · subst g; simp [PyData.eqv]
        · simp [PyData.eqv, g]
      · simp [PyData.eqv, e]
theorem fine_row (n : Nat) (xs : List Int) : fine (n + 1) (rowD xs) := fine_ints n xs

theorem Star.sub {L' L : List HP} (p : L'.Sublist L) : ∀ {S : Sto}, Star L S → Star L' S := by
  induction p with
  | slnil => exact fun h => h
  | cons _ _ ih => exact fun h => ih h.drop
  | cons_cons _ _ ih => intro S h; cases h with | cons h p sb r => exact .cons h p sb (ih r)
theorem rep_row (n : Nat) : (List.replicate n [D.int 0]).flatten = (List.replicate n (0 : Int)).map D.int := repl_zero n
structure RecsQ (q : Int) (n : Nat) (us : List (List Int × Int)) : Prop where
  ok : ∀ u ∈ us, RowQ q n u.1 ∧ 0 ≤ u.2 ∧ u.2 < q
theorem RecsQ.snoc {q : Int} {n : Nat} {us : List (List Int × Int)} (h : RecsQ q n us) {v : List Int} {x : Int} (hv : RowQ q n v) (h0 : 0 ≤ x) (h1 : x < q) : RecsQ q n (us ++ [(v, x)]) := ⟨fun u hu => by
  rcases List.mem_append.mp hu with hu | hu
  · exact h.ok u hu
  · rw [List.mem_singleton.mp hu]; exact ⟨hv, h0, h1⟩⟩
def sp_law : SpD := spLaw 63
theorem law_start (ns : List Int) (h : ns.length ≤ 63) : sp_law [.rol (ns.map D.int)] (fun _ => none) (fun d _ => d = .bl true) := ⟨ns, rfl, h, fun _ => rfl⟩
theorem len_law : ∀ ds S Q, sp_law ds S Q → ds.length = ["_law_script"].length := by rintro ds S Q ⟨ns, rfl, h⟩; rfl

theorem SpanH.sb {CR CS a : Addr} {n : Nat} {q : Int} {rows : List (List Int)} {ans : List Int} {S S' : Sto} (h : SpanH CR CS a n q rows ans S) (s : Sb S S') : SpanH CR CS a n q rows ans S' := by
  obtain ⟨st, e, ok, li, lr, fd, us, g⟩ := h
  exact ⟨st, e, ok, li, lr, fd, us, g.sb s⟩
theorem SpanH.ins {CR CS a : Addr} {n : Nat} {q : Int} {rows : List (List Int)} {ans : List Int} {S : Sto} (h : SpanH CR CS a n q rows ans S) : ∃ li lr fd, S a = some (.ins CS (spF n q li lr fd)) := by
  obtain ⟨st, ⟨rfl, rfl, rfl, rfl⟩, ok, li, lr, fd, us, g⟩ := h
  exact ⟨li, lr, fd, g.ins⟩
theorem Star.span (L1 : List HP) {L2 : List HP} {CR CS a : Addr} {n : Nat} {q : Int} {rows : List (List Int)} {ans : List Int} {S : Sto} (h : Star (L1 ++ SpanH CR CS a n q rows ans :: L2) S) : SpanH CR CS a n q rows ans S := by
  obtain ⟨h0, hp, sb⟩ := (h.to L1).first
  exact hp.sb sb
theorem Star.has (L1 : List HP) {P : HP} {L2 : List HP} {S : Sto} (h : Star (L1 ++ P :: L2) S) (mono : ∀ h0 S, P h0 → Sb h0 S → P S) : P S := by
  obtain ⟨h0, hp, sb⟩ := (h.to L1).first
  exact mono _ _ hp sb
def gbH (g : Addr) (rows : List (List Int)) (B : Addr) (us : List (Addr × List Int)) : HP := fun h => h g = some (.lst (rows.map rowD)) ∧ BasL h B us
theorem gbH.mono {g : Addr} {rows : List (List Int)} {B : Addr} {us : List (Addr × List Int)} (h0 S : Sto) (h : gbH g rows B us h0) (s : Sb h0 S) : gbH g rows B us S := ⟨s _ _ h.1, h.2.sb s⟩
theorem Star.end {L : List HP} {S : Sto} {p pq : Addr} (h : Star (penH p pq :: L) S) : Star [penH p pq] S := h.left (L1 := [penH p pq])
theorem cons_dot {q : Int} {n : Nat} {rows : List (List Int)} {ans v : List Int} (ha : ans.length = rows.length) {y : Nat → QZ q}
    (hy : ∀ i, i < rows.length → sumL (List.range n) (fun j => zq q (RR rows i j) * y j) = zq q (at_ ans i)) {w : Nat → QZ q} (hw : ∀ j, zq q (at_ v j) = wS q rows w j) :
    sumL (List.range n) (fun j => zq q (at_ v j) * y j) = wA q ans w := by
  have e : ∀ j ∈ List.range n, zq q (at_ v j) * y j = sumL (List.range rows.length) fun i => w i * (zq q (RR rows i j) * y j) := fun j _ => by
    rw [hw]; unfold wS
    rw [← sumL_mulr]
    exact sumL_congr fun i _ => by grind
  rw [sumL_congr e, sumL_comm]
  unfold wA
  rw [ha]
  refine sumL_congr fun i hi => ?_
  rw [sumL_mul, hy i (List.mem_range.mp hi)]
theorem ConQ.sum {q : Int} (hq : 0 < q) {n : Nat} {rows : List (List Int)} {ans w r : List Int} (h : ConQ q rows ans w) (hs : SumQ q n rows w r) : (r.any fun n => n != 0) = false := by
  refine List.any_eq_false.mpr fun y hy => ?_
  obtain ⟨j, hj, rfl⟩ := List.getElem_of_mem hy
  have e := hs.eqn j
  rw [h.zer j] at e
  have b := hs.row.at hq j
  have e0 : at_ r j = 0 := zq_inj (q := q) (by rw [e, QZ.z_zero]) b.1 b.2 (Int.le_refl 0) hq
  rw [at_lt hj] at e0
  simp [e0]

theorem p__law_inverse : ∀ ds S Q0, sp__law_inverse ds S Q0 → tb__law_inverse (bodyEnds Q0) (startD nm__law_inverse ds) S := by
  rintro ds S Q0 ⟨r, q, rfl, hp, r0, r1, h⟩
  have q2 := hp.lo
  have q3 := hp.hi
  refine seq_ fun N hN => ?_
  iterate 7 ((try conv => whnf); (try simp only [put_eq, seqD, lstD]))
  refine ⟨by omega, ?_⟩
  refine forRun_rng (fun i e S' => S' = S ∧ (∃ t, e = [some (.int r), some (.int q), t]) ∧ ∀ k : Nat, k < i → r * (1 + k) % q ≠ 1) ?_ ?_ ⟨rfl, ⟨_, rfl⟩, fun _ h => absurd h (Nat.not_lt_zero _)⟩
  · rintro i e S' N' hi ⟨rfl, ⟨t, rfl⟩, hk⟩ hN'
    refine ⟨trivial, ?_⟩
    iterate 7 ((try conv => whnf); (try simp only [put_eq, seqD, lstD]))
    refine ⟨cmul_lr (by omega), ?_⟩
    iterate 7 ((try conv => whnf); (try simp only [put_eq, seqD, lstD]))
    refine ⟨by omega, ?_⟩
    iterate 7 ((try conv => whnf); (try simp only [put_eq, seqD, lstD]))
    by_cases e : r * (1 + (i : Int)) % q = 1
    · rw [decide_eq_true e]
      iterate 7 ((try conv => whnf); (try simp only [put_eq, seqD, lstD]))
      exact ⟨_, Sb.refl _, h _ (by omega) (by omega) e⟩
    · rw [decide_eq_false e]
      iterate 7 ((try conv => whnf); (try simp only [put_eq, seqD, lstD]))
      refine ⟨_, Sb.refl _, hN' _ _ ⟨rfl, ⟨_, rfl⟩, fun k hk' => ?_⟩⟩
      by_cases g : k = i
      · subst g; exact e
      · exact hk k (by omega)
  · rintro e S' ⟨rfl, ⟨t, rfl⟩, hk⟩
    exfalso
    obtain ⟨b, b0, b1, e⟩ := hp.inv r r0 r1
    refine hk (b.toNat - 1) (by omega) ?_
    have : (1 : Int) + ((b.toNat - 1 : Nat) : Int) = b := by omega
    rw [this]; exact e
theorem p__law_fresh : ∀ ds S Q0, sp__law_fresh ds S Q0 → tb__law_fresh (bodyEnds Q0) (startD nm__law_fresh ds) S := by
  rintro ds S Q0 ⟨p, q, rfl, ⟨b, hp⟩, h⟩
  obtain ⟨i, st, h1, h4, h5⟩ := hp.ex
  refine seq_ fun N hN => ?_
  iterate 7 ((try conv => whnf); (try simp only [h1, put_eq, seqD, lstD]))
  refine hN _ _ ?_; clear hN N; refine seq_ fun N hN => ?_
  iterate 7 ((try conv => whnf); (try simp only [h1, put_eq, seqD, lstD]))
  suffices main : ∀ S1 : Sto, S1 = S.put p (.lst [.loc q, .int (i + 1), .int st]) → N [some (.loc p), some (.int i), none, none, none, none, none] S1 by exact main _ rfl
  intro S1 hS1
  refine hN _ _ ?_; clear hN N
  have hp1 : Pen (b + 1) p q S1 := by rw [hS1]; exact hp.set (.refl _ _) (by omega) (by omega)
  have key : ∀ (v : Int) (S' : Sto), Sb S1 S' → ∃ S2, Sb S2 S' ∧ Q0 (.int v) S2 := fun v S' sb =>
    ⟨_, sb, h v _ ⟨_, hp1⟩⟩
  have g1 : S1 p = some (.lst [.loc q, .int (i + 1), .int st]) := by rw [hS1]; exact put_eq
  obtain ⟨cs, g2⟩ := hp1.sc
  clear h h1 hp hS1 hp1
  refine seq_ fun N hN => ?_
  iterate 7 ((try conv => whnf); (try simp only [put_eq, seqD, lstD]))
  refine hN _ _ ?_; clear hN N; refine seq_ fun N hN => ?_
  have join : ∀ (c : Int) (S' : Sto), Sb S1 S' → N [some (.loc p), some (.int i), some (.int c), none, none, none, none] S' := by
    intro c S' sb
    refine hN _ _ ?_; clear hN N; refine seq_ fun N hN => ?_
    have f1 := sb _ _ g1
    have f2 := sb _ _ g2
    have join2 : N [some (.loc p), some (.int i), some (.int c), none, none, none, none] S' := by
      clear f1 f2
      refine hN _ _ ?_; clear hN N; refine seq_ fun N hN => ?_
      iterate 7 ((try conv => whnf); (try simp only [put_eq, seqD, lstD]))
      refine hN _ _ ?_; clear hN N; refine seq_ fun N hN => ?_
      iterate 7 ((try conv => whnf); (try simp only [put_eq, seqD, lstD]))
      refine ⟨cmul_r (by decide), ?_⟩
      iterate 7 ((try conv => whnf); (try simp only [put_eq, seqD, lstD]))
      refine ⟨cmul_l (by decide), ?_⟩
      iterate 7 ((try conv => whnf); (try simp only [put_eq, seqD, lstD]))
      refine ⟨by decide, ?_⟩
      refine hN _ _ ?_; clear hN N; refine seq_ fun N hN => ?_
      iterate 7 ((try conv => whnf); (try simp only [put_eq, seqD, lstD]))
      refine hN _ _ ?_; clear hN N; refine seq_ fun N hN => ?_
      iterate 7 ((try conv => whnf); (try simp only [put_eq, seqD, lstD]))
      refine ⟨by decide, ?_⟩
      have c0 := abs31 (v := c * 48271 + 40692 * i + 31) (show (0 : Int) < 2305843009213693951 by decide) (by decide)
      refine forRun_rng (fun k e S => S = S' ∧ ∃ (x f : Int) (t : Option D), e = [some (.loc p), some (.int i), some (.int c), some (.int 2305843009213693951), some (.int x), some (.int f), t] ∧ -(2 ^ 64) < x ∧ x < 2 ^ 64) ?_ ?_ ⟨rfl, _, _, _, rfl, c0⟩
      · rintro k e S2 N2 hk ⟨rfl, x, f, t, rfl, cx⟩ hN2
        refine ⟨trivial, ?_⟩
        clear hN
        refine seq_ fun N hN => ?_
        iterate 7 ((try conv => whnf); (try simp only [put_eq, seqD, lstD]))
        refine ⟨cmul_l cx, ?_⟩
        iterate 7 ((try conv => whnf); (try simp only [put_eq, seqD, lstD]))
        refine ⟨cmul_l (by decide), ?_⟩
        iterate 7 ((try conv => whnf); (try simp only [put_eq, seqD, lstD]))
        refine ⟨cmul_l (by omega), ?_⟩
        iterate 7 ((try conv => whnf); (try simp only [put_eq, seqD, lstD]))
        refine ⟨by decide, ?_⟩
        have c1 := abs31 (v := x * x + 69621 * (0 + (k : Int) + 1) * (i + 1) + c) (show (0 : Int) < 2305843009213693951 by decide) (by decide)
        refine hN _ _ ?_; clear hN N
        iterate 7 ((try conv => whnf); (try simp only [put_eq, seqD, lstD]))
        refine ⟨cmul_r (by decide), ?_⟩
        iterate 7 ((try conv => whnf); (try simp only [put_eq, seqD, lstD]))
        exact ⟨S2, Sb.refl _, hN2 _ _ ⟨rfl, _, _, _, rfl, c1⟩⟩
      · rintro e S2 ⟨rfl, x, f, t, rfl, cx⟩
        refine ⟨trivial, ?_⟩
        refine hN _ _ ?_; clear hN N
        exact key _ _ sb
    iterate 7 ((try conv => whnf); (try simp only [f1, f2, put_eq, seqD, lstD]))
    cases hd : decide (i < ((cs.map D.int).length : Int)) with
    | false => exact join2
    | true =>
      iterate 7 ((try conv => whnf); (try simp only [put_eq, seqD, lstD]))
      refine ⟨by decide, ?_⟩
      iterate 7 ((try conv => whnf); (try simp only [put_eq, seqD, lstD]))
      cases hd2 : decide ((10 : Int) ^ (18 : Int).toNat ≤ c) with
      | false => exact join2
      | true =>
        iterate 7 ((try conv => whnf); (try simp only [put_eq, seqD, lstD]))
        refine ⟨by decide, ?_⟩
        exact key _ _ sb
  iterate 7 ((try conv => whnf); (try simp only [g1, g2, put_eq, seqD, lstD]))
  refine ⟨by decide, fun a ha => ?_⟩
  have sb : Sb S1 (S1.put a (.lst [])) := (Sb.refl S1).put ha _
  iterate 7 ((try conv => whnf); (try simp only [at_new g2 ha, put_eq, seqD, lstD]))
  refine ⟨⟨fine_ints _ _, fun x hx => by cases hx⟩, ?_⟩
  rw [eqv_ints_nil]
  cases cs with
  | nil => exact join _ _ sb
  | cons c0 cs =>
    iterate 7 ((try conv => whnf); (try simp only [at_new g1 ha, at_new g2 ha, put_eq, seqD, lstD]))
    have n0 : (0 : Int) < ((List.map D.int (c0 :: cs)).length : Int) := by simp
    refine ⟨n0, ?_⟩
    have z0 := Int.emod_nonneg i (show ((List.map D.int (c0 :: cs)).length : Int) ≠ 0 by omega)
    have z1 := Int.emod_lt_of_pos i n0
    have e := atI_of z0 z1
    rw [List.getElem_map] at e
    iterate 7 ((try conv => whnf); (try simp only [at_new g2 ha, e, put_eq, seqD, lstD]))
    exact join _ _ sb

def sp__law_draw : SpD := fun ds S Q => ∃ p q m, ds = [.loc p, .int m] ∧ (0 < m ∧ m < 2 ^ 256) ∧ PenF p q S ∧ ∀ (v : Int) (S' : Sto), 0 ≤ v → v < m → PenF p q S' → Q (.int v) S'
theorem len__law_draw : ∀ ds S Q, sp__law_draw ds S Q → ds.length = ["_law_pen_here", "_law_many"].length := by rintro ds S Q ⟨p, q, m, rfl, h⟩; rfl
theorem p__law_draw : ∀ ds S Q0, sp__law_draw ds S Q0 → tb__law_draw (frm sp__law_fresh) (bodyEnds Q0) (startD nm__law_draw ds) S := by
  rintro ds S Q0 ⟨p, q, m, rfl, ⟨m0, m1⟩, hp, h⟩
  obtain ⟨b, hpb⟩ := id hp
  obtain ⟨i, st, h1, h4, h5⟩ := hpb.ex
  refine seq_ fun N hN => ?_
  have join : ∀ S' : Sto, PenF p q S' → N [some (.loc p), some (.int m), none] S' := by
    intro S' hp'
    obtain ⟨b', hp'⟩ := hp'
    obtain ⟨i, st, f1, f4, f5⟩ := hp'.ex
    refine hN _ _ ?_; clear hN N; refine seq_ fun N hN => ?_
    iterate 7 ((try conv => whnf); (try simp only [f1, put_eq, seqD, lstD]))
    refine ⟨m0, ?_⟩
    refine hN _ _ ?_; clear hN N; refine seq_ fun N hN => ?_
    iterate 7 ((try conv => whnf); (try simp only [f1, put_eq, seqD, lstD]))
    refine ⟨(wide_div (b := 256) m0 (by omega) (by decide) (by decide)), ?_⟩
    iterate 7 ((try conv => whnf); (try simp only [f1, put_eq, seqD, lstD]))
    refine hN _ _ ?_; clear hN N
    exact ⟨_, Sb.refl _, h (st % m) _ (Int.emod_nonneg _ (by omega)) (Int.emod_lt_of_pos _ m0) ⟨_, hp'.set (.refl _ _) f4 f5⟩⟩
  iterate 7 ((try conv => whnf); (try simp only [h1, put_eq, seqD, lstD]))
  cases hd : decide (st < m) with
  | false => exact join S hp
  | true =>
    iterate 7 ((try conv => whnf); (try simp only [h1, put_eq, seqD, lstD]))
    refine frm_of ⟨p, q, rfl, hp, fun v S' hp' => ?_⟩
    obtain ⟨b', hp'⟩ := hp'
    obtain ⟨i', st', f1, f4, f5⟩ := hp'.ex
    iterate 7 ((try conv => whnf); (try simp only [f1, put_eq, seqD, lstD]))
    exact join _ ⟨_, hp'.set (.refl _ _) f4 f5⟩
def sp__law_pen : SpD := fun ds S Q => ∃ ns : List Int, ds = [.rol (ns.map D.int)] ∧ ∀ p q S', PenF p q S' → Q (.loc p) S'
theorem len__law_pen : ∀ ds S Q, sp__law_pen ds S Q → ds.length = ["_law_script"].length := by rintro ds S Q ⟨ns, rfl, h⟩; rfl
theorem p__law_pen : ∀ ds S Q0, sp__law_pen ds S Q0 → tb__law_pen (bodyEnds Q0) (startD nm__law_pen ds) S := by
  rintro ds S Q0 ⟨ns, rfl, h⟩
  iterate 7 ((try conv => whnf); (try simp only [put_eq, seqD, lstD]))
  rw [cut_map]
  generalize cutD ns none (some 63) = cs
  intro a ha
  iterate 7 ((try conv => whnf); (try simp only [put_eq, seqD, lstD]))
  intro q hq
  have hq' := put_none hq
  iterate 7 ((try conv => whnf); (try simp only [put_eq, seqD, lstD]))
  refine ⟨(Nat.le_of_ble_eq_true rfl), fun p hp => ?_⟩
  have hp' := put_none hp
  have hp2 := put_none hp'.2
  refine ⟨_, Sb.refl _, h p q _ ⟨0, ⟨0, 0, put_eq, by decide, by decide⟩, ⟨cs, ?_⟩, hp'.1.symm⟩⟩
  rw [put_ne hp'.1.symm, put_eq]
theorem use_pen {S : Sto} {Q : DK} {ns : List Int} (h : ∀ p q S2, Star [penH p q] S2 → Q (.loc p) S2) : frm sp__law_pen [.rol (ns.map D.int)] S Q :=
  frm_of ⟨ns, rfl, fun p q S' hp => h p q S' (.cons S' hp (Sb.refl _) .nil)⟩
theorem use_draw {S : Sto} {Q : DK} {p q : Addr} {m : Int} (L1 : List HP) {L2 : List HP} (hs : Star (L1 ++ penH p q :: L2) S) (hm : 0 < m ∧ m < 2 ^ 256) (h : ∀ v S2, 0 ≤ v → v < m → Star (L1 ++ penH p q :: L2) S2 → Q (.int v) S2) : frm sp__law_draw [.loc p, .int m] S Q :=
  frm_at L1 hs fun h0 hp Q' k => ⟨p, q, m, rfl, hm, hp, fun v h' v0 v1 hp' => k _ _ fun S2 hs2 => h v S2 v0 v1 (hs2 _ hp')⟩

theorem pick {ns : List Int} {v : Int} (h0 : 0 ≤ v) (h1 : v < (ns.length : Int)) : ∃ w ∈ ns, atI (ns.map D.int) v = some (.int w) := ⟨_, List.getElem_mem _, atI_map h0 h1⟩
structure EchR (q : Int) (n : Nat) (bs rows : List (List Int)) : Prop where
  ech : Ech q n bs
  sp : SpEq q bs rows
  rk : bs.length = rkN q rows
theorem EchR.nil {q : Int} {n : Nat} : EchR q n [] [] := ⟨⟨(fun _ h => by cases h), .nil⟩, fun _ => Iff.rfl, rfl⟩
def NewP (q : Int) (n : Nat) (bs : List (List Int)) (v : List Int) (ns : List (List Int)) : Prop :=
  (InSp q bs v ∧ ns = []) ∨ (¬ InSp q bs v ∧ ∃ b, ns = [b] ∧ Ech q n (bs ++ [b]) ∧ InSp q (bs ++ [b]) v ∧ InSp q (bs ++ [v]) b)
theorem EchR.step {q : Int} {n : Nat} (hp : Prm q) {bs p ns : List (List Int)} {v : List Int} (h : EchR q n bs p) (hr : ∀ r ∈ p, RowQ q n r) (hv : RowQ q n v) (res : NewP q n bs v ns) :
    EchR q n (bs ++ ns) (p ++ [v]) ∧ (InSp q p v ↔ ns = []) ∧ ns.length ≤ 1 := by
  have q0 : 0 < q := by have := hp.lo; omega
  obtain ⟨ec, sq, rk⟩ := h
  rcases res with ⟨isp, rfl⟩ | ⟨nsp, b, rfl, e1, e2, e3⟩
  · rw [List.append_nil]
    have isp' : InSp q p v := (sq v).mp isp
    refine ⟨⟨ec, fun u => ⟨fun z => ((sq u).mp z).old, fun z => ?_⟩, by rw [rk, rkN_snoc, if_pos isp', Nat.add_zero]⟩, ⟨fun _ => rfl, fun _ => isp'⟩, Nat.zero_le _⟩
    obtain ⟨cc, w, hw⟩ := InSp.snoc.mp z
    obtain ⟨rr, hrr, he2⟩ := zq_vec q0 n fun j => wS q p w j
    have he3 : ∀ j, zq q (at_ rr j) = wS q p w j := fun j => by
      by_cases hj : j < n
      · exact he2 j hj
      · rw [at_ge (by rw [hrr.len]; omega)]
        refine (sumL_zero fun i hi => ?_).symm
        have : (p.getD i []).length = n := (hr _ (getD_mem (List.mem_range.mp hi))).len
        rw [show RR p i j = 0 from at_ge (by omega), QZ.z_zero]; grind
    exact (sq u).mpr (InSp.lin (⟨w, he3⟩ : InSp q p rr) isp' (c := 1) (d := cc) fun j => by rw [hw, he3]; grind)
  · have nsp' : ¬ InSp q p v := fun z => nsp ((sq v).mpr z)
    have bl : b.length = n := (e1.row b (by simp)).1.len
    refine ⟨⟨e1, SpEq.snoc sq ?_ e2 n q0 (fun r hr2 => ?_) bl hv.len, by rw [List.length_append, rk, rkN_snoc, if_neg nsp']; rfl⟩, ⟨fun z => absurd z nsp', fun z => by cases z⟩, Nat.le_refl _⟩
    · obtain ⟨cc, w, hw⟩ := InSp.snoc.mp e3
      obtain ⟨rr, hrr, he2⟩ := zq_vec q0 n fun j => wS q bs w j
      have he3 : ∀ j, zq q (at_ rr j) = wS q bs w j := fun j => by
        by_cases hj : j < n
        · exact he2 j hj
        · rw [at_ge (by rw [hrr.len]; omega)]
          refine (sumL_zero fun i hi => ?_).symm
          have : (bs.getD i []).length = n := (ec.row _ (getD_mem (List.mem_range.mp hi))).1.len
          rw [show RR bs i j = 0 from at_ge (by omega), QZ.z_zero]; grind
      have i1 : InSp q p rr := (sq rr).mp ⟨w, he3⟩
      exact InSp.lin i1.old (InSp.last (rows := p) (v := v)) (c := 1) (d := cc) fun j => by rw [hw, he3]; grind
    · rcases List.mem_append.mp hr2 with hr2 | hr2
      · exact (ec.row r hr2).1.len
      · exact (hr r hr2).len
theorem EchR.len {q : Int} {n : Nat} {bs rows : List (List Int)} (h : EchR q n bs rows) : bs.length ≤ rows.length := by
  rw [h.rk]; unfold rkN
  refine Nat.le_trans (List.length_filter_le _ _) (by simp)
abbrev basH (B : Addr) (us : List (Addr × List Int)) : HP := fun h => BasL h B us
abbrev bas2 (B : Addr) (us : List (Addr × List Int)) (c : Addr) (ns : List (Addr × List Int)) : HP := fun h => BasL h B us ∧ BasL h c ns
theorem basH.get {B : Addr} {us : List (Addr × List Int)} {S : Sto} (L1 : List HP) {L2 : List HP} (hs : Star (L1 ++ basH B us :: L2) S) : BasL S B us := hs.has L1 fun h0 S h s => h.sb s
theorem bas2.get {B c : Addr} {us ns : List (Addr × List Int)} {S : Sto} (L1 : List HP) {L2 : List HP} (hs : Star (L1 ++ bas2 B us c ns :: L2) S) : BasL S B us ∧ BasL S c ns := hs.has L1 fun h0 S h s => ⟨h.1.sb s, h.2.sb s⟩
theorem BasL.fine {S : Sto} {B : Addr} {us : List (Addr × List Int)} (h : BasL S B us) : ∀ x ∈ us.map (fun u => D.loc u.1), ∃ r ys, x = .loc r ∧ S r = some (.lst ys) ∧ ∀ y ∈ ys, QL.fine 50 y := fun x hx => by
  obtain ⟨u, hu, rfl⟩ := List.mem_map.mp hx
  exact ⟨_, _, rfl, h.all u hu, fun y hy => by obtain ⟨z, _, rfl⟩ := List.mem_map.mp hy; trivial⟩
theorem insWord.uniq {q : Int} {n : Nat} {rows : List (List Int)} {ans v : List Int} {x : Int} {r w : Str} (h : insWord q n rows ans v x r) (g : insWord q n rows ans v x w) : r = w := by
  rcases h with ⟨a, rfl⟩ | ⟨a, b, rfl⟩ | ⟨a, b, rfl⟩ <;> rcases g with ⟨c, rfl⟩ | ⟨c, d, rfl⟩ | ⟨c, d, rfl⟩
  · rfl
  · exact absurd c a
  · exact absurd c a
  · exact absurd a c
  · rfl
  · exact absurd b d
  · exact absurd a c
  · exact absurd d b
  · rfl
def Spn (q : Int) (n : Nat) (fs : List (List Int)) (g : Nat → QZ q) : Prop := ∃ ps : List (QZ q × List Int), (∀ p ∈ ps, p.2 ∈ fs) ∧ ∀ j, j < n → g j = sumL ps fun p => p.1 * zq q (at_ p.2 j)
structure NullQ (q : Int) (n : Nat) (cols fs : List (List Int)) : Prop where
  row : ∀ f ∈ fs, RowQ q n f
  few : fs.length ≤ n
  ort : ∀ f ∈ fs, ∀ c ∈ cols, sumL (List.range n) (fun j => zq q (at_ c j) * zq q (at_ f j)) = 0
  spn : ∀ w : Nat → QZ q, (∀ c ∈ cols, sumL (List.range n) (fun j => zq q (at_ c j) * w j) = 0) → Spn q n fs w
def unitL (n k : Nat) : List Int := (List.range n).map fun j => if k = j then 1 else 0
theorem unitL_at {n k j : Nat} (h : j < n) : at_ (unitL n k) j = if k = j then 1 else 0 := by
  unfold unitL
  rw [at_lt (by simpa using h)]; simp
theorem unitL_row {q : Int} (hq : 2 ≤ q) (n k : Nat) : RowQ q n (unitL n k) := ⟨by simp [unitL], fun x hx => by
  obtain ⟨j, _, rfl⟩ := List.mem_map.mp hx
  split <;> omega⟩
theorem NullQ.nil {q : Int} (hq : 2 ≤ q) (n : Nat) : NullQ q n [] ((List.range n).map (unitL n)) := by
  refine ⟨fun f hf => ?_, by simp, fun f _ c h => (by cases h), fun w _ => ?_⟩
  · obtain ⟨k, _, rfl⟩ := List.mem_map.mp hf
    exact unitL_row hq n k
  · refine ⟨(List.range n).map fun k => (w k, unitL n k), fun p hp => ?_, fun j hj => ?_⟩
    · obtain ⟨k, hk, rfl⟩ := List.mem_map.mp hp
      exact List.mem_map_of_mem hk
    · rw [sumL_map]
      have e : ∀ k ∈ List.range n, w k * zq q (at_ (unitL n k) j) = if k = j then w k else 0 := fun k _ => by
        rw [unitL_at hj]
        by_cases z : k = j
        · rw [if_pos z, if_pos z, QZ.z_one]; grind
        · rw [if_neg z, if_neg z, QZ.z_zero]; grind
      rw [sumL_congr e]
      exact (sumL_delta (k := j) w hj).symm
theorem NullQ.same {q : Int} {n : Nat} {cols fs : List (List Int)} {c : List Int} (h : NullQ q n cols fs) (hc : RowQ q n c) (hz : ∀ f ∈ fs, zq q (dotZ c f) = 0) : NullQ q n (cols ++ [c]) fs := by
  refine ⟨h.row, h.few, fun f hf c' hc' => ?_, fun w hw => h.spn w fun c' hc' => hw c' (List.mem_append_left _ hc')⟩
  rcases List.mem_append.mp hc' with hc' | hc'
  · exact h.ort f hf c' hc'
  · rw [List.mem_singleton.mp hc', ← zq_dot hc.len (h.row f hf).len]; exact hz f hf
def restL (q : Int) (fs : List (List Int)) (vs : List Int) (sc : Int) (m : Nat) : List (List Int) :=
  ((List.range fs.length).filter fun k => decide (k ≠ m)).map fun k => redL q (fs.getD k []) (at_ vs k * sc % q) (fs.getD m [])
theorem NullQ.step {q : Int} (hq : 0 < q) {n : Nat} {cols fs : List (List Int)} {c : List Int} (h : NullQ q n cols fs) (hc : RowQ q n c) {vs : List Int} (hv : ∀ k, k < fs.length → zq q (at_ vs k) = zq q (dotZ c (fs.getD k []))) {sc : Int} {m : Nat} (hm : m < fs.length)
    (hs : zq q (at_ vs m) * zq q sc = 1) : NullQ q n (cols ++ [c]) (restL q fs vs sc m) := by
  have hmem : ∀ k, k < fs.length → fs.getD k [] ∈ fs := fun k hk => getD_mem hk
  have hl : ∀ k, k < fs.length → (fs.getD k []).length = n := fun k hk => (h.row _ (hmem k hk)).len
  have red : ∀ k, k < fs.length → ∀ j, zq q (at_ (redL q (fs.getD k []) (at_ vs k * sc % q) (fs.getD m [])) j) = zq q (at_ (fs.getD k []) j) - zq q (at_ vs k) * zq q sc * zq q (at_ (fs.getD m []) j) := fun k hk j => by
    rw [zq_redL _ (hl k hk) (hl m hm), QZ.z_mod, QZ.z_mul]
  have mm : ∀ f ∈ restL q fs vs sc m, ∃ k, k < fs.length ∧ k ≠ m ∧ f = redL q (fs.getD k []) (at_ vs k * sc % q) (fs.getD m []) := fun f hf => by
    obtain ⟨k, hk, rfl⟩ := List.mem_map.mp hf
    obtain ⟨h1, h2⟩ := List.mem_filter.mp hk
    exact ⟨k, List.mem_range.mp h1, by simpa using h2, rfl⟩
  have od : ∀ c', sumL (List.range n) (fun j => zq q (at_ c' j) * zq q (at_ (fs.getD m []) j)) = sumL (List.range n) (fun j => zq q (at_ c' j) * zq q (at_ (fs.getD m []) j)) := fun _ => rfl
  have dl : ∀ k, k < fs.length → ∀ c' : List Int, sumL (List.range n) (fun j => zq q (at_ c' j) * zq q (at_ (redL q (fs.getD k []) (at_ vs k * sc % q) (fs.getD m [])) j)) =
      sumL (List.range n) (fun j => zq q (at_ c' j) * zq q (at_ (fs.getD k []) j)) - zq q (at_ vs k) * zq q sc * sumL (List.range n) (fun j => zq q (at_ c' j) * zq q (at_ (fs.getD m []) j)) := fun k hk c' => by
    rw [← sumL_mul, ← sumL_sub]
    exact sumL_congr fun j _ => by rw [red k hk]; grind
  have dc : ∀ k, k < fs.length → sumL (List.range n) (fun j => zq q (at_ c j) * zq q (at_ (fs.getD k []) j)) = zq q (at_ vs k) := fun k hk => by
    rw [hv k hk, zq_dot hc.len (hl k hk)]
  refine ⟨fun f hf => ?_, ?_, fun f hf c' hc' => ?_, fun w hw => ?_⟩
  · obtain ⟨k, hk, _, rfl⟩ := mm f hf
    refine ⟨by unfold redL; rw [List.length_zipWith, hl k hk, hl m hm]; omega, fun x hx => ?_⟩
    unfold redL at hx
    obtain ⟨i, hi, rfl⟩ := List.getElem_of_mem hx
    rw [List.getElem_zipWith]
    exact ⟨Int.emod_nonneg _ (by omega), Int.emod_lt_of_pos _ hq⟩
  · unfold restL
    rw [List.length_map]
    exact Nat.le_trans (List.length_filter_le _ _) (by rw [List.length_range]; exact h.few)
  · obtain ⟨k, hk, _, rfl⟩ := mm f hf
    rw [dl k hk c']
    rcases List.mem_append.mp hc' with hc' | hc'
    · rw [h.ort _ (hmem k hk) c' hc', h.ort _ (hmem m hm) c' hc']; grind
    · rw [List.mem_singleton.mp hc', dc k hk, dc m hm]; grind
  · obtain ⟨ps, hp, e⟩ := h.spn w fun c' hc' => hw c' (List.mem_append_left _ hc')
    have ex : ∀ p ∈ ps, ∃ k, k < fs.length ∧ p.2 = fs.getD k [] := fun p hp2 => by
      obtain ⟨k, hk, e⟩ := List.getElem_of_mem (hp p hp2)
      exact ⟨k, hk, by rw [← e]; simp [List.getD_eq_getElem?_getD, hk]⟩
    -- the values add up to zero
    have hw0 := hw c (by simp)
    have hz : sumL ps (fun p => p.1 * zq q (dotZ c p.2)) = 0 := by
      rw [← hw0]
      have e1 : ∀ j ∈ List.range n, zq q (at_ c j) * w j = sumL ps fun p => p.1 * (zq q (at_ c j) * zq q (at_ p.2 j)) := fun j hj => by
        rw [e j (List.mem_range.mp hj), ← sumL_mul]
        exact sumL_congr fun p _ => by grind
      rw [sumL_congr e1, sumL_comm]
      refine sumL_congr fun p hp2 => ?_
      rw [sumL_mul, ← zq_dot hc.len (h.row _ (hp p hp2)).len]
    have main : ∀ ps : List (QZ q × List Int), (∀ p ∈ ps, ∃ k, k < fs.length ∧ p.2 = fs.getD k []) → ∃ rs : List (QZ q × List Int), (∀ p ∈ rs, p.2 ∈ restL q fs vs sc m) ∧
        ∀ j, sumL rs (fun p => p.1 * zq q (at_ p.2 j)) = sumL ps (fun p => p.1 * zq q (at_ p.2 j)) - sumL ps (fun p => p.1 * zq q (dotZ c p.2)) * zq q sc * zq q (at_ (fs.getD m []) j) := by
      intro ps
      induction ps with
      | nil => exact fun _ => ⟨[], (fun _ h => by cases h), fun j => by rw [sumL_nil, sumL_nil]; grind⟩
      | cons p ps ih =>
        intro hp
        obtain ⟨rs, h1, h2⟩ := ih fun x hx => hp x (List.mem_cons_of_mem _ hx)
        obtain ⟨k, hk, ek⟩ := hp p List.mem_cons_self
        by_cases z : k = m
        · refine ⟨rs, h1, fun j => ?_⟩
          rw [h2, sumL_cons, sumL_cons, ek, z, ← hv m hm]
          grind
        · refine ⟨(p.1, redL q (fs.getD k []) (at_ vs k * sc % q) (fs.getD m [])) :: rs, fun x hx => ?_, fun j => ?_⟩
          · rcases List.mem_cons.mp hx with rfl | hx
            · exact List.mem_map_of_mem (List.mem_filter.mpr ⟨List.mem_range.mpr hk, by simpa using z⟩)
            · exact h1 x hx
          · rw [sumL_cons, sumL_cons, sumL_cons, h2, red k hk, ek, ← hv k hk]
            grind
    obtain ⟨rs, h1, h2⟩ := main ps ex
    refine ⟨rs, h1, fun j hj => ?_⟩
    rw [h2, hz, e j hj]; grind
abbrev Rec3 := Int × List Int × Int
structure Recs3 (q : Int) (n : Nat) (us : List Rec3) : Prop where
  ok : ∀ u ∈ us, RowQ q n u.2.1 ∧ (0 ≤ u.2.2 ∧ u.2.2 < q) ∧ 0 ≤ u.1 ∧ u.1 < 1000
def outL (left : List Int) (u : Rec3 × Nat) : Bool := !decide (u.1.1 ∈ left)
def kpt (left : List Int) (us : List (Rec3 × Nat)) : List (Rec3 × Nat) := us.filter (outL left)
def rowsK (us : List (Rec3 × Nat)) : List (List Int) := us.map fun u => u.1.2.1
def ansK (us : List (Rec3 × Nat)) : List Int := us.map fun u => u.1.2.2
def plK (us : List (Rec3 × Nat)) : List Int := us.map fun u => (u.2 : Int)
abbrev eqF (s pl : Addr) (N : Nat) : List (Str × D) := [("span", .loc s), ("places", .loc pl), ("total", .int N)]
def EqH (CR CS CE a : Addr) (n : Nat) (q : Int) (left : List Int) (recs : List Rec3) : HP := fun h => ∃ s pl, h a = some (.ins CE (eqF s pl recs.length)) ∧ SpanH CR CS s n q (rowsK (kpt left recs.zipIdx)) (ansK (kpt left recs.zipIdx)) h ∧ h pl = some (.lst ((plK (kpt left recs.zipIdx)).map D.int))
theorem EqH.sb {CR CS CE a : Addr} {n : Nat} {q : Int} {left : List Int} {recs : List Rec3} {S S' : Sto} (h : EqH CR CS CE a n q left recs S) (s : Sb S S') : EqH CR CS CE a n q left recs S' := by
  obtain ⟨sp, pl, h1, h2, h3⟩ := h
  exact ⟨sp, pl, s _ _ h1, h2.sb s, s _ _ h3⟩
def spr (N : Nat) (places ws : List Int) : List Int := (places.zip ws).foldl (fun l u => l.set u.1.toNat u.2) (List.replicate N 0)
def IsSet (ws xs : List Int) : Prop := xs.Pairwise (· < ·) ∧ ∀ k, k ∈ xs ↔ k ∈ ws
theorem isSet_eq : ∀ {xs ys : List Int}, xs.Pairwise (· < ·) → ys.Pairwise (· < ·) → (∀ k, k ∈ xs ↔ k ∈ ys) → xs = ys
  | [], [], _, _, _ => rfl
  | [], y :: ys, _, _, h => by have := (h y).mpr List.mem_cons_self; cases this
  | x :: xs, [], _, _, h => by have := (h x).mp List.mem_cons_self; cases this
  | x :: xs, y :: ys, hx, hy, h => by
    obtain ⟨h1, h2⟩ := List.pairwise_cons.mp hx
    obtain ⟨h3, h4⟩ := List.pairwise_cons.mp hy
    have e : x = y := by
      have a : x = y ∨ x ∈ ys := by simpa using (h x).mp List.mem_cons_self
      have b : y = x ∨ y ∈ xs := by simpa using (h y).mpr List.mem_cons_self
      rcases a with a | a
      · exact a
      · rcases b with b | b
        · exact b.symm
        · have := h3 x a
          have := h1 y b
          omega
    subst e
    rw [isSet_eq h2 h4 fun k => ?_]
    have q := h k
    simp only [List.mem_cons] at q
    constructor
    · intro hk
      have := h1 k hk
      rcases q.mp (.inr hk) with e | e
      · omega
      · exact e
    · intro hk
      have := h3 k hk
      rcases q.mpr (.inr hk) with e | e
      · omega
      · exact e
theorem IsSet.uniq {ws xs ys : List Int} (a : IsSet ws xs) (b : IsSet ws ys) : xs = ys := isSet_eq a.1 b.1 fun k => (a.2 k).trans (b.2 k).symm

def ext1 (servers c : List Int) : List (List Int) := (servers.filter fun s => decide (c = []) || decide (c.getLast?.getD 0 < s)).map fun s => c ++ [s]
def setsN (servers : List Int) : Nat → List (List Int)
  | 0 => [[]]
  | n + 1 => (setsN servers n).flatMap (ext1 servers)
def upto (n : Nat) : List Int := (List.range n).map fun (k : Nat) => (k : Int)
theorem mem_upto {n : Nat} {k : Int} (h0 : 0 ≤ k) (h1 : k < n) : k ∈ upto n := List.mem_map.mpr ⟨k.toNat, List.mem_range.mpr (by omega), by omega⟩
def addV (q : Int) (a b : List Int) : List Int := List.zipWith (fun x y => (x + y) % q) a b
abbrev rowsL (recs : List Rec3) (L : List Int) : List (List Int) := rowsK (kpt L recs.zipIdx)
abbrev ansL (recs : List Rec3) (L : List Int) : List Int := ansK (kpt L recs.zipIdx)
abbrev sprL (recs : List Rec3) (L w : List Int) : List Int := spr recs.length (plK (kpt L recs.zipIdx)) w
abbrev SolL (q : Int) (n : Nat) (recs : List Rec3) (L x : List Int) : Prop := SolQ q n (rowsL recs L) (ansL recs L) x
def ItemQ (q : Int) (n : Nat) (recs : List Rec3) (v : List Int) (val : Int) (u : List Int × D) : Prop :=
  (∃ w, ConQ q (rowsL recs u.1) (ansL recs u.1) w ∧ u.2 = .tup [.str "contradiction", rowD (sprL recs u.1 w)]) ∨
  (∃ w y, CombQ q (rowsL recs u.1) v w ∧ SolL q n recs u.1 y ∧ dotZ y v % q = val ∧ u.2 = .tup [.str "recovery", rowD (sprL recs u.1 w)])
inductive SumV (q : Int) (n : Nat) (recs : List Rec3) (v : List Int) (sets : List (List Int)) : D → Prop
  | dir (L x d : List Int) : L ∈ sets → SolL q n recs L x → DirQ q n (rowsL recs L) v d → SumV q n recs v sets (.tup [.str "open", .tup [rowD x, rowD (addV q x d)]])
  | two (L M x y : List Int) : L ∈ sets → M ∈ sets → SolL q n recs L x → SolL q n recs M y → dotZ y v % q ≠ dotZ x v % q → SumV q n recs v sets (.tup [.str "open", .tup [rowD x, rowD y]])
  | non (its : List (List Int × D)) : its.map Prod.fst = sets → (∀ u ∈ its, ∃ w, ConQ q (rowsL recs u.1) (ansL recs u.1) w ∧ u.2 = .tup [.str "contradiction", rowD (sprL recs u.1 w)]) → SumV q n recs v sets (.tup [.str "none", .tup (its.map Prod.snd)])
  | set (L x : List Int) (its : List (List Int × D)) : L ∈ sets → SolL q n recs L x → its.map Prod.fst = sets → (∀ u ∈ its, ItemQ q n recs v (dotZ x v % q) u) → SumV q n recs v sets (.tup [.str "settled", .int (dotZ x v % q), .tup [rowD x, .tup (its.map Prod.snd)]])
def sp__law_prime : SpD := fun ds S Q => ∃ p q, ds = [.loc p] ∧ PenF p q S ∧ ∀ v S', Prm v → PenF p q S' → Q (.int v) S'
theorem len__law_prime : ∀ ds S Q, sp__law_prime ds S Q → ds.length = ["_law_pen_here"].length := by rintro ds S Q ⟨p, q, rfl, h⟩; rfl
theorem use_prime {S : Sto} {Q : DK} {p pq : Addr} (L1 : List HP) {L2 : List HP} (hs : Star (L1 ++ penH p pq :: L2) S) (h : ∀ v S2, Prm v → Star (L1 ++ penH p pq :: L2) S2 → Q (.int v) S2) : frm sp__law_prime [.loc p] S Q :=
  frm_at L1 hs fun h0 hp Q' k => ⟨p, pq, rfl, hp, fun v h' hv hp' => k _ _ fun S2 hs2 => h v S2 hv (hs2 _ hp')⟩
structure Honest (q : Int) (n : Nat) (tr : List Int) (recs : List Rec3) : Prop where
  row : RowQ q n tr
  rec3 : Recs3 q n recs
  ok : ∀ u ∈ recs, dotZ u.2.1 tr % q = u.2.2
theorem kpt_mem {L : List Int} {recs : List Rec3} {u : Rec3 × Nat} (h : u ∈ kpt L recs.zipIdx) : u.1 ∈ recs := by
  obtain ⟨i, hi, e⟩ := List.getElem_of_mem (List.mem_filter.mp h).1
  rw [List.getElem_zipIdx] at e
  rw [← e]; exact List.getElem_mem _
theorem Honest.sol {q : Int} {n : Nat} {tr : List Int} {recs : List Rec3} (h : Honest q n tr recs) (L : List Int) : SolL q n recs L tr := by
  refine ⟨h.row, fun i hi => ?_⟩
  have hi2 : i < (kpt L recs.zipIdx).length := by simpa [rowsL, rowsK] using hi
  have hm := kpt_mem (List.getElem_mem hi2)
  have e1 : ∀ j, RR (rowsL recs L) i j = at_ ((kpt L recs.zipIdx)[i]).1.2.1 j := fun j => by simp [RR, rowsL, rowsK, List.getD_eq_getElem?_getD, hi2]
  have e2 : at_ (ansL recs L) i = ((kpt L recs.zipIdx)[i]).1.2.2 := by simp [at_, ansL, ansK, List.getD_eq_getElem?_getD, hi2]
  simp only [e1]
  rw [e2, ← zq_dot (h.rec3.ok _ hm).1.len h.row.len, ← h.ok _ hm, QZ.z_mod]
theorem sol_dot {q : Int} {n : Nat} {rows : List (List Int)} {ans v x : List Int} (hr : ans.length = rows.length) (hv : RowQ q n v) (hs : SolQ q n rows ans x) {w : List Int} (hw : CombQ q rows v w) : dotZ v x % q = dotZ w ans % q := by
  refine zq_emod ?_
  have e := cons_dot hr hs.sol hw.eqn
  rw [← zq_dot hv.len hs.row.len] at e
  rw [e]
  unfold wA
  exact (zq_dot (by rw [hw.row.len, hr]) rfl).symm
theorem dotZ_comm : ∀ (a b : List Int), dotZ a b = dotZ b a
  | [], b => by cases b <;> rfl
  | _ :: _, [] => rfl
  | x :: a, y :: b => by
    show x * y + dotZ a b = y * x + dotZ b a
    rw [dotZ_comm a b, Int.mul_comm]
theorem Honest.snoc {q : Int} {n : Nat} (q0 : 0 < q) {tr : List Int} {recs : List Rec3} (h : Honest q n tr recs) {s : Int} {row : List Int} (s0 : 0 ≤ s) (s1 : s < 1000) (hr : RowQ q n row) : Honest q n tr (recs ++ [(s, row, dotZ row tr % q)]) := by
  refine ⟨h.row, ⟨fun u hu => ?_⟩, fun u hu => ?_⟩
  · rcases List.mem_append.mp hu with hu | hu
    · exact h.rec3.ok u hu
    · rw [List.mem_singleton.mp hu]; exact ⟨hr, ⟨Int.emod_nonneg _ (by omega), Int.emod_lt_of_pos _ q0⟩, s0, s1⟩
  · rcases List.mem_append.mp hu with hu | hu
    · exact h.ok u hu
    · rw [List.mem_singleton.mp hu]
theorem Honest.cons {q : Int} {n : Nat} {recs : List Rec3} {tr : List Int} (ho : Honest q n tr recs) (L : List Int) : Cons q n (rowsL recs L) (ansL recs L) := SolQ.cons (ho.sol L)
theorem p__law_prime : ∀ ds S Q0, sp__law_prime ds S Q0 → tb__law_prime (frm sp__law_draw) (bodyEnds Q0) (startD nm__law_prime ds) S := by
  rintro ds S Q0 ⟨p, pq, rfl, hp, h⟩
  have hs := star_pen hp
  refine seq_ fun N hN => ?_
  iterate 7 ((try conv => whnf); (try simp only [put_eq, seqD, lstD]))
  refine ⟨by decide, fun a ha => ?_⟩
  have hs := hs.new ha (.lst (([2, 3, 5, 7, 11, 13, 2, 3, 5, 5, 7, 101, 97, 31] : List Int).map D.int))
  refine hN _ _ ?_; clear hN N; refine seq_ fun N hN => ?_
  have ga := hs.get [_]
  simp only [List.map_cons, List.map_nil] at ga
  iterate 7 ((try conv => whnf); (try simp only [put_eq, seqD, lstD]))
  refine ⟨by decide, fun b hb => ?_⟩
  have gb : ∀ (S : Sto) c, (S.put b c) b = some c := fun S c => put_eq
  have hs := hs.new hb (.lst (([17, 19, 23, 29, 37, 41, 43, 47, 53, 59, 61, 67, 71, 73, 79, 83, 89] : List Int).map D.int))
  have ga := hs.get [_]
  have gb := hs.get [_, _]
  simp only [List.map_cons, List.map_nil] at ga gb
  iterate 7 ((try conv => whnf); (try simp only [ga, gb, put_eq, seqD, lstD]))
  refine ⟨by decide, fun c hc => ?_⟩
  have hs := hs.new hc (.lst (([2, 3, 5, 7, 11, 13, 2, 3, 5, 5, 7, 101, 97, 31, 17, 19, 23, 29, 37, 41, 43, 47, 53, 59, 61, 67, 71, 73, 79, 83, 89] : List Int).map D.int))
  have gc := hs.get [_, _, _]
  simp only [List.map_cons, List.map_nil] at gc
  refine hN _ _ ?_; clear hN N
  iterate 7 ((try conv => whnf); (try simp only [gc, put_eq, seqD, lstD]))
  refine use_draw [] hs (by decide) fun v S' v0 v1 hs => ?_
  have gc := hs.get [_, _, _]
  obtain ⟨w, hw, e⟩ := pick (ns := [2, 3, 5, 7, 11, 13, 2, 3, 5, 5, 7, 101, 97, 31, 17, 19, 23, 29, 37, 41, 43, 47, 53, 59, 61, 67, 71, 73, 79, 83, 89]) v0 v1
  simp only [List.map_cons, List.map_nil] at e gc
  have pr : ∀ x ∈ ([2, 3, 5, 7, 11, 13, 2, 3, 5, 5, 7, 101, 97, 31, 17, 19, 23, 29, 37, 41, 43, 47, 53, 59, 61, 67, 71, 73, 79, 83, 89] : List Int), primeB x = true := by decide +kernel
  iterate 7 ((try conv => whnf); (try simp only [gc, e, put_eq, seqD, lstD]))
  exact (hs.left (L1 := [_]) (L2 := [_, _, _])).penend fun S' hp' => h w S' (prm_of (pr w hw)) hp'
theorem sets_all {xs : List Int} : ∀ (k : Nat) (c : List Int), c.Pairwise (· < ·) → (∀ a ∈ c, a ∈ xs) → c.length = k → c ∈ setsN xs k
  | 0, c, _, _, h => by
    rw [List.eq_nil_of_length_eq_zero h]; simp [setsN]
  | k + 1, c, hp, hm, h => by
    have hne : c ≠ [] := fun z => by rw [z] at h; cases h
    have e : c = c.dropLast ++ [c.getLast hne] := (List.dropLast_concat_getLast hne).symm
    generalize c.getLast hne = s at e
    generalize c.dropLast = d at e
    subst e
    have hd : d.length = k := by simpa using h
    obtain ⟨p1, _, p3⟩ := List.pairwise_append.mp hp
    have ih := sets_all k d p1 (fun a ha => hm a (List.mem_append_left _ ha)) hd
    show d ++ [s] ∈ (setsN xs k).flatMap (ext1 xs)
    refine List.mem_flatMap.mpr ⟨d, ih, ?_⟩
    unfold ext1
    refine List.mem_map.mpr ⟨s, List.mem_filter.mpr ⟨hm s (by simp), ?_⟩, rfl⟩
    cases e : d.getLast? with
    | none =>
      have : d = [] := List.getLast?_eq_none_iff.mp e
      simp [this]
    | some a =>
      have ha : a ∈ d := List.mem_of_getLast? e
      have := p3 a ha s (by simp)
      simp [this]
theorem sub_ex {f : Int → Bool} : ∀ (xs : List Int) (m : Nat), (xs.filter f).length ≤ m → m ≤ xs.length → ∃ c : List Int, c.Sublist xs ∧ c.length = m ∧ ∀ a ∈ xs, f a = true → a ∈ c
  | [], m, _, h => ⟨[], .slnil, by simp at h; simp [h], fun _ h => by cases h⟩
  | x :: xs, m, h1, h2 => by
    cases hx : f x with
    | true =>
      rw [List.filter_cons_of_pos hx, List.length_cons] at h1
      obtain ⟨c, c1, c2, c3⟩ := sub_ex (f := f) xs (m - 1) (by omega) (by simp at h2; omega)
      refine ⟨x :: c, List.Sublist.cons_cons x c1, by simp [c2]; omega, fun a ha hf => ?_⟩
      rcases List.mem_cons.mp ha with rfl | ha
      · exact List.mem_cons_self
      · exact List.mem_cons_of_mem _ (c3 a ha hf)
    | false =>
      rw [List.filter_cons_of_neg (by rw [hx]; decide)] at h1
      by_cases hm : m ≤ xs.length
      · obtain ⟨c, c1, c2, c3⟩ := sub_ex (f := f) xs m h1 hm
        refine ⟨c, List.Sublist.cons x c1, c2, fun a ha hf => ?_⟩
        rcases List.mem_cons.mp ha with rfl | ha
        · rw [hx] at hf; cases hf
        · exact c3 a ha hf
      · exact ⟨x :: xs, List.Sublist.refl _, by simp at h2 ⊢; omega, fun a ha _ => ha⟩
theorem sets_cover {xs : List Int} (hp : xs.Pairwise (· < ·)) (f : Int → Bool) {b : Nat} (h : (xs.filter f).length ≤ b) : ∃ c ∈ setsN xs (min b xs.length), ∀ a ∈ xs, f a = true → a ∈ c := by
  obtain ⟨c, c1, c2, c3⟩ := sub_ex (f := f) xs (min b xs.length) (by have := List.length_filter_le f xs; omega) (Nat.min_le_right _ _)
  exact ⟨c, sets_all _ c (hp.sublist c1) (fun a ha => c1.subset ha) c2, c3⟩

theorem sol_iff {q : Int} {n : Nat} {recs : List Rec3} {L x : List Int} (hq : 0 < q) (hr : Recs3 q n recs) : SolL q n recs L x ↔ RowQ q n x ∧ ∀ u ∈ recs, u.1 ∉ L → dotZ u.2.1 x % q = u.2.2 := by
  constructor
  · intro h
    refine ⟨h.row, fun u hu hL => ?_⟩
    obtain ⟨i, hi, e⟩ := List.getElem_of_mem hu
    have hk : (u, i) ∈ kpt L recs.zipIdx := by
      refine List.mem_filter.mpr ⟨?_, by simp [outL, hL]⟩
      rw [List.mem_iff_getElem]
      exact ⟨i, by simpa using hi, by simp [e]⟩
    obtain ⟨j, hj, ej⟩ := List.getElem_of_mem hk
    have s := h.sol j (by simpa [rowsL, rowsK] using hj)
    have e1 : ∀ m, RR (rowsL recs L) j m = at_ u.2.1 m := fun m => by simp [RR, rowsL, rowsK, List.getD_eq_getElem?_getD, hj, ej]
    have e2 : at_ (ansL recs L) j = u.2.2 := by simp [at_, ansL, ansK, List.getD_eq_getElem?_getD, hj, ej]
    simp only [e1] at s
    rw [e2, ← zq_dot (hr.ok u hu).1.len h.row.len] at s
    rw [zq_emod s]
    exact Int.emod_eq_of_lt (hr.ok u hu).2.1.1 (hr.ok u hu).2.1.2
  · rintro ⟨hx, h⟩
    refine ⟨hx, fun i hi => ?_⟩
    have hi2 : i < (kpt L recs.zipIdx).length := by simpa [rowsL, rowsK] using hi
    have hk := List.getElem_mem hi2
    have hm := kpt_mem hk
    have hL : ((kpt L recs.zipIdx)[i]).1.1 ∉ L := by
      have := (List.mem_filter.mp hk).2
      simpa [outL] using this
    have e1 : ∀ j, RR (rowsL recs L) i j = at_ ((kpt L recs.zipIdx)[i]).1.2.1 j := fun j => by simp [RR, rowsL, rowsK, List.getD_eq_getElem?_getD, hi2]
    have e2 : at_ (ansL recs L) i = ((kpt L recs.zipIdx)[i]).1.2.2 := by simp [at_, ansL, ansK, List.getD_eq_getElem?_getD, hi2]
    simp only [e1]
    rw [e2, ← zq_dot (hr.ok _ hm).1.len hx.len, ← h _ hm hL, QZ.z_mod]
theorem SumV.settled_all {q : Int} {n : Nat} {recs : List Rec3} {v L x : List Int} {Z : List (List Int)} {val : Int} {d : D} (hv : RowQ q n v) (hL : L ∈ Z) (hx : SolL q n recs L x) (h : SumV q n recs v Z (.tup [.str "settled", .int val, d])) : dotZ v x % q = val := by
  generalize e : D.tup [.str "settled", .int val, d] = r at h
  cases h with
  | dir => simp at e
  | two => simp at e
  | non => simp at e
  | set L0 x0 its hL0 hx0 hi hc =>
    simp only [D.tup.injEq, List.cons.injEq, D.int.injEq] at e
    rw [← hi] at hL
    obtain ⟨u, hu, rfl⟩ := List.mem_map.mp hL
    rcases hc u hu with ⟨w, hw, _⟩ | ⟨w, y, hw, hy, hd, _⟩
    · exact absurd hx.cons (hw.not (n := n) (by simp [ansL, ansK, rowsL, rowsK]))
    · rw [e.2.1, ← hd, dotZ_comm y, sol_dot (by simp [ansL, ansK, rowsL, rowsK]) hv hx hw, sol_dot (by simp [ansL, ansK, rowsL, rowsK]) hv hy hw]

theorem cover_L {xs : List Int} {ws M : List Int} (hx : IsSet ws xs) {b : Nat} (hM : M.length ≤ b) (hn : M.Nodup) : ∃ L ∈ setsN xs (min b xs.length), ∀ k ∈ ws, k ∈ M → k ∈ L := by
  have hl : (xs.filter fun k => decide (k ∈ M)).length ≤ b := by
    refine Nat.le_trans ?_ hM
    exact nodup_short (pw_nodup (hx.1.filter _)) fun k hk => by simpa using (List.mem_filter.mp hk).2
  obtain ⟨c, hc, h⟩ := sets_cover hx.1 (fun k => decide (k ∈ M)) hl
  exact ⟨c, hc, fun k hk hkM => h k ((hx.2 k).mpr hk) (decide_eq_true hkM)⟩

theorem sets_mem {xs : List Int} : ∀ {k : Nat} {c : List Int}, c ∈ setsN xs k → c.Pairwise (· < ·) ∧ c.length = k ∧ ∀ a ∈ c, a ∈ xs
  | 0, c, h => by rw [List.mem_singleton.mp h]; exact ⟨.nil, rfl, fun _ h => by cases h⟩
  | k + 1, c, h => by
    obtain ⟨d, hd, hc⟩ := List.mem_flatMap.mp h
    obtain ⟨s, hs, rfl⟩ := List.mem_map.mp hc
    obtain ⟨p1, p2, p3⟩ := sets_mem hd
    obtain ⟨m, hcond⟩ := List.mem_filter.mp hs
    refine ⟨List.pairwise_append.mpr ⟨p1, List.pairwise_singleton _ _, fun a ha b hb => ?_⟩, by simp [p2], fun a ha => ?_⟩
    · rw [List.mem_singleton.mp hb]
      have hne : d ≠ [] := fun z => by rw [z] at ha; cases ha
      have hl : d.getLast?.getD 0 < s := by simpa [hne] using hcond
      have e : d = d.dropLast ++ [d.getLast hne] := (List.dropLast_concat_getLast hne).symm
      have e2 : d.getLast?.getD 0 = d.getLast hne := by
        have e3 : d.getLast? = some (d.getLast hne) := by
          rw [List.getLast?_eq_some_iff]
          exact ⟨_, e⟩
        rw [e3]; rfl
      rw [e2] at hl
      rw [e] at ha p1
      rcases List.mem_append.mp ha with ha | ha
      · have := (List.pairwise_append.mp p1).2.2 a ha (d.getLast hne) (by simp)
        omega
      · rw [List.mem_singleton.mp ha]; exact hl
    · rcases List.mem_append.mp ha with ha | ha
      · exact p3 a ha
      · rw [List.mem_singleton.mp ha]; exact m
structure Truth (q : Int) (n : Nat) (b : Nat) (tr : List Int) (F : List Int) (recs : List Rec3) : Prop where
  row : RowQ q n tr
  rec3 : Recs3 q n recs
  few : F.length ≤ b
  nd : F.Nodup
  ok : ∀ u ∈ recs, u.1 ∉ F → dotZ u.2.1 tr % q = u.2.2
theorem Truth.expl {q : Int} {n b : Nat} {tr F xs : List Int} {recs : List Rec3} (hq : 0 < q) (h : Truth q n b tr F recs) (hx : IsSet (recs.map (·.1)) xs) : ∃ L ∈ setsN xs (min b xs.length), SolL q n recs L tr := by
  obtain ⟨L, hL, hc⟩ := cover_L hx h.few h.nd
  exact ⟨L, hL, (sol_iff hq h.rec3).mpr ⟨h.row, fun u hu hn => h.ok u hu fun z => hn (hc u.1 (List.mem_map_of_mem hu) z)⟩⟩
theorem Truth.settled {q : Int} {n b : Nat} {tr F xs v : List Int} {recs : List Rec3} {val : Int} {d : D} (hq : 0 < q) (h : Truth q n b tr F recs) (hv : RowQ q n v) (hx : IsSet (recs.map (·.1)) xs) (hs : SumV q n recs v (setsN xs (min b xs.length)) (.tup [.str "settled", .int val, d])) : dotZ v tr % q = val := by
  obtain ⟨L, hL, hl⟩ := h.expl hq hx
  exact hs.settled_all hv hL hl
def ConI (q : Int) (recs : List Rec3) (u : List Int × D) : Prop := ∃ w, ConQ q (rowsL recs u.1) (ansL recs u.1) w ∧ u.2 = .tup [.str "contradiction", rowD (sprL recs u.1 w)]
inductive FindV (q : Int) (n : Nat) (recs : List Rec3) (Z : List (List Int)) : D → D → Prop
  | sol (L x : List Int) : L ∈ Z → SolL q n recs L x → FindV q n recs Z (rowD x) (.tup [])
  | non (its : List (List Int × D)) : its.map Prod.fst = Z → (∀ u ∈ its, ConI q recs u) → FindV q n recs Z .non (.tup (its.map Prod.snd))
def ownOf (sv : Int) (recs : List Rec3) : List Rec3 := recs.filter fun r => decide (r.1 = sv)
def RecI (q : Int) (n : Nat) (recs : List Rec3) (sv : Int) (u : List Int × D) : Prop :=
  ∃ (x : List Int) (ps : List (Rec3 × List Int)), SolL q n recs u.1 x ∧ ps.map Prod.fst = ownOf sv recs ∧ (∀ p ∈ ps, CombQ q (rowsL recs u.1) p.1.2.1 p.2 ∧ dotZ p.1.2.1 x % q = p.1.2.2) ∧ u.2 = .tup [.str "recoveries", .tup (ps.map fun p => rowD (sprL recs u.1 p.2))]
inductive FDiffV (q : Int) (n : Nat) (recs : List Rec3) (sv : Int) (Z : List (List Int)) : D → D → Prop
  | ex (L x : List Int) (u : Rec3) : L ∈ Z → sv ∈ L → SolL q n recs L x → u ∈ recs → u.1 = sv → dotZ u.2.1 x % q ≠ u.2.2 → FDiffV q n recs sv Z (rowD x) (.tup [])
  | non (its : List (List Int × D)) : its.map Prod.fst = Z.filter (fun L => decide (sv ∈ L)) → (∀ u ∈ its, ConI q recs u ∨ RecI q n recs sv u) → FDiffV q n recs sv Z .non (.tup (its.map Prod.snd))
theorem SumV.shape {q : Int} {n : Nat} {recs : List Rec3} {v : List Int} {Z : List (List Int)} {r : D} (h : SumV q n recs v Z r) : (∃ d, r = .tup [.str "none", d]) ∨ (∃ val d, r = .tup [.str "settled", .int val, d]) ∨ (∃ d, r = .tup [.str "open", d]) := by
  cases h with
  | dir => exact .inr (.inr ⟨_, rfl⟩)
  | two => exact .inr (.inr ⟨_, rfl⟩)
  | non => exact .inl ⟨_, rfl⟩
  | set => exact .inr (.inl ⟨_, _, rfl⟩)
structure Expl (q : Int) (n b : Nat) (recs : List Rec3) (x : List Int) : Prop where
  row : RowQ q n x
  ex : ∃ M : List Int, M.length ≤ b ∧ M.Nodup ∧ ∀ u ∈ recs, u.1 ∉ M → dotZ u.2.1 x % q = u.2.2
def Agr (q : Int) (recs : List Rec3) (sv : Int) (x : List Int) : Prop := ∀ u ∈ recs, u.1 = sv → dotZ u.2.1 x % q = u.2.2
theorem Expl.of {q : Int} {n b : Nat} {recs : List Rec3} {x xs L : List Int} (hq : 0 < q) (hr : Recs3 q n recs) (hL : L ∈ setsN xs (min b xs.length)) (h : SolL q n recs L x) : Expl q n b recs x := by
  obtain ⟨p1, p2, p3⟩ := sets_mem hL
  obtain ⟨h1, h2⟩ := (sol_iff hq hr).mp h
  exact ⟨h1, L, by omega, pw_nodup p1, h2⟩
theorem ConI.no {q : Int} {n : Nat} {recs : List Rec3} {u : List Int × D} {x : List Int} (h : ConI q recs u) (hx : SolL q n recs u.1 x) : False := by
  obtain ⟨w, hw, _⟩ := h
  exact absurd hx.cons (hw.not (n := n) (by simp [ansL, ansK, rowsL, rowsK]))
theorem RecI.all {q : Int} {n : Nat} {recs : List Rec3} {sv : Int} {u : List Int × D} {x : List Int} (hr : Recs3 q n recs) (h : RecI q n recs sv u) (hx : SolL q n recs u.1 x) : Agr q recs sv x := by
  obtain ⟨y, ps, hy, hps, hall, _⟩ := h
  intro w hw ew
  have hown : w ∈ ownOf sv recs := List.mem_filter.mpr ⟨hw, decide_eq_true ew⟩
  rw [← hps] at hown
  obtain ⟨p, hp, rfl⟩ := List.mem_map.mp hown
  obtain ⟨h1, h2⟩ := hall p hp
  have hrow := (hr.ok _ hw).1
  rw [← h2, sol_dot (by simp [ansL, ansK, rowsL, rowsK]) hrow hx h1, sol_dot (by simp [ansL, ansK, rowsL, rowsK]) hrow hy h1]
theorem FindV.some {q : Int} {n : Nat} {recs : List Rec3} {Z : List (List Int)} {d : D} {y : List Int} (h : FindV q n recs Z (rowD y) d) : ∃ L x, L ∈ Z ∧ SolL q n recs L x := by
  generalize e : rowD y = r at h
  cases h with
  | sol L x hL hx => exact ⟨L, x, hL, hx⟩
  | non its h1 h2 => cases e
theorem FDiffV.some {q : Int} {n : Nat} {recs : List Rec3} {sv : Int} {Z : List (List Int)} {d : D} {y : List Int} (h : FDiffV q n recs sv Z (rowD y) d) : ∃ L x, L ∈ Z ∧ SolL q n recs L x ∧ ¬ Agr q recs sv x := by
  generalize e : rowD y = r at h
  cases h with
  | ex L x u hL hm hx hu eu hne => exact ⟨L, x, hL, hx, fun z => hne (z u hu eu)⟩
  | non its h1 h2 => cases e
theorem FDiffV.none {q : Int} {n : Nat} {recs : List Rec3} {sv : Int} {Z : List (List Int)} {d : D} (hr : Recs3 q n recs) (h : FDiffV q n recs sv Z .non d) {L x : List Int} (hL : L ∈ Z) (hs : sv ∈ L) (hx : SolL q n recs L x) : Agr q recs sv x := by
  generalize e : D.non = r at h
  cases h with
  | ex => cases e
  | non its h1 h2 =>
    have : L ∈ its.map Prod.fst := by rw [h1]; exact List.mem_filter.mpr ⟨hL, decide_eq_true hs⟩
    obtain ⟨u, hu, rfl⟩ := List.mem_map.mp this
    rcases h2 u hu with hc | hc
    · exact (hc.no hx).elim
    · exact hc.all hr hx
theorem prm_ndiv {q : Int} (h : Prm q) {d : Int} (d2 : 2 ≤ d) (dq : d < q) : q % d ≠ 0 := by
  intro hz
  have q2 := h.lo
  obtain ⟨b, _, _, hb⟩ := h.inv d (by omega) dq
  have e1 : d * (q / d) = q := Int.mul_ediv_cancel' (Int.dvd_of_emod_eq_zero hz)
  have e0 : 0 < q / d := by
    rcases Int.lt_or_le 0 (q / d) with h | h
    · exact h
    · have := Int.mul_nonpos_of_nonneg_of_nonpos (show 0 ≤ d by omega) h
      omega
  have e2 : q / d < q := by
    have h2 : 2 * (q / d) ≤ d * (q / d) := Int.mul_le_mul_of_nonneg_right d2 (by omega)
    omega
  have e3 : (q / d * (d * b)) % q = 0 := by
    have : q / d * (d * b) = q * b := by rw [← Int.mul_assoc, Int.mul_comm (q / d) d, e1]
    rw [this, Int.mul_emod_right]
  have e4 : (q / d * (d * b)) % q = q / d := by
    rw [Int.mul_emod, hb, Int.emod_eq_of_lt (by omega) e2, Int.mul_one, Int.emod_eq_of_lt (by omega) e2]
  omega
def sp_is_prime : SpD := fun ds S Q => ∃ q : Int, ds = [.int q] ∧ Prm q ∧ Q (.bl true) S
theorem len_is_prime : ∀ ds S Q, sp_is_prime ds S Q → ds.length = ["value"].length := by rintro ds S Q ⟨q, rfl, h⟩; rfl
theorem p_is_prime : ∀ ds S Q0, sp_is_prime ds S Q0 → tb_is_prime (bodyEnds Q0) (startD nm_is_prime ds) S := by
  rintro ds S Q0 ⟨q, rfl, hq, h⟩
  have q2 := hq.lo
  have q3 := hq.hi
  have e1 : decide ((2 : Int) ≤ q) = true := decide_eq_true q2
  have e2 : decide (q ≤ (101 : Int)) = true := decide_eq_true q3
  refine seq_ fun N hN => ?_
  iterate 7 ((try conv => whnf); (try simp only [put_eq, seqD, lstD]))
  iterate 7 ((try conv => whnf); (try simp only [e1, put_eq, seqD, lstD]))
  iterate 7 ((try conv => whnf); (try simp only [e2, put_eq, seqD, lstD]))
  refine hN _ _ ?_; clear hN N
  iterate 7 ((try conv => whnf); (try simp only [put_eq, seqD, lstD]))
  refine ⟨by omega, ?_⟩
  refine lcRun_rng (fun i acc S' => acc = List.replicate i (D.bl true) ∧ S' = S) ?_ ?_ ⟨rfl, rfl⟩
  · rintro i acc S1 N hi ⟨rfl, rfl⟩ hN
    refine ⟨trivial, ?_⟩
    have hnd := prm_ndiv hq (d := 2 + (i : Int)) (by omega) (by omega)
    iterate 7 ((try conv => whnf); (try simp only [put_eq, seqD, lstD]))
    refine ⟨by omega, ?_⟩
    have e3 : decide (q % (2 + (i : Int)) = 0) = false := decide_eq_false hnd
    iterate 7 ((try conv => whnf); (try simp only [e3, put_eq, seqD, lstD]))
    exact ⟨_, Sb.refl _, hN _ _ ⟨by rw [List.replicate_succ']; rfl, rfl⟩⟩
  · rintro acc S1 ⟨rfl, rfl⟩
    refine ⟨trivial, ?_⟩
    refine ⟨List.replicate _ true, by rw [List.map_replicate], ?_⟩
    have e4 : ∀ n, (List.replicate n true).all id = true := fun n => by simp
    rw [e4]
    exact ⟨_, Sb.refl _, h⟩
def sp_require_prime : SpD := fun ds S Q => ∃ q : Int, ds = [.int q] ∧ Prm q ∧ Q .non S
theorem len_require_prime : ∀ ds S Q, sp_require_prime ds S Q → ds.length = ["q"].length := by rintro ds S Q ⟨q, rfl, h⟩; rfl
theorem p_require_prime : ∀ ds S Q0, sp_require_prime ds S Q0 → tb_require_prime (frm sp_is_prime) (bodyEnds Q0) (startD nm_require_prime ds) S := by
  rintro ds S Q0 ⟨q, rfl, hq, h⟩
  iterate 7 ((try conv => whnf); (try simp only [put_eq, seqD, lstD]))
  refine frm_of ⟨q, rfl, hq, ?_⟩
  exact ⟨_, Sb.refl _, h⟩
def sp_is_integer : SpD := fun ds S Q => ∃ v lo hi : Int, ds = [.int v, .int lo, .int hi] ∧ lo ≤ v ∧ v ≤ hi ∧ Q (.bl true) S
theorem len_is_integer : ∀ ds S Q, sp_is_integer ds S Q → ds.length = ["value", "low", "high"].length := by rintro ds S Q ⟨v, lo, hi, rfl, h⟩; rfl
theorem p_is_integer : ∀ ds S Q0, sp_is_integer ds S Q0 → tb_is_integer (bodyEnds Q0) (startD nm_is_integer ds) S := by
  rintro ds S Q0 ⟨v, lo, hi, rfl, h0, h1, h⟩
  have e1 : decide (lo ≤ v) = true := decide_eq_true h0
  have e2 : decide (v ≤ hi) = true := decide_eq_true h1
  iterate 7 ((try conv => whnf); (try simp only [put_eq, seqD, lstD]))
  iterate 7 ((try conv => whnf); (try simp only [e1, put_eq, seqD, lstD]))
  iterate 7 ((try conv => whnf); (try simp only [e2, put_eq, seqD, lstD]))
  exact ⟨_, Sb.refl _, h⟩
abbrev shD (m : Nat) (cs : List (List Int)) : D := .tup [.int (m : Nat), .tup (cs.map rowD)]
structure CoOk (m : Nat) (c : List Int) : Prop where
  asc : c.Pairwise (· < ·)
  rng : ∀ x ∈ c, 0 ≤ x ∧ x < (m : Int)
  len : c.length ≤ 3
structure ShOk (m : Nat) (cs : List (List Int)) : Prop where
  m0 : 1 ≤ m
  m1 : m ≤ 6
  l0 : 1 ≤ cs.length
  l1 : cs.length ≤ 8
  nd : cs.Nodup
  co : ∀ c ∈ cs, CoOk m c
theorem any_rows (c : List Int) : ∀ cs : List (List Int), ((toPys (cs.map rowD)).any fun z => PyData.eqv z (toPy (rowD c))) = decide (c ∈ cs)
  | [] => by simp [toPys]
  | x :: xs => by
    show (PyData.eqv (toPy (rowD x)) (toPy (rowD c)) || (toPys (xs.map rowD)).any fun z => PyData.eqv z (toPy (rowD c))) = _
    rw [any_rows c xs, eqv_rows]
    by_cases h : x = c
    · subst h; simp
    · have h2 : ¬ c = x := fun e => h e.symm
      simp [h, h2]
def sp_is_coordinate_tuple : SpD := fun ds S Q => ∃ (c : List Int) (m : Nat), ds = [rowD c, .int (m : Nat)] ∧ CoOk m c ∧ Q (.bl true) S
theorem len_is_coordinate_tuple : ∀ ds S Q, sp_is_coordinate_tuple ds S Q → ds.length = ["value", "coordinates"].length := by rintro ds S Q ⟨c, m, rfl, h⟩; rfl
theorem p_is_coordinate_tuple : ∀ ds S Q0, sp_is_coordinate_tuple ds S Q0 → tb_is_coordinate_tuple (frm sp_is_integer) (bodyEnds Q0) (startD nm_is_coordinate_tuple ds) S := by
  rintro ds S Q0 ⟨c, m, rfl, hc, h⟩
  have e0 : decide ((3 : Int) < ((c.map D.int).length : Nat)) = false := decide_eq_false (by rw [List.length_map]; have := hc.len; omega)
  refine seq_ fun N hN => ?_
  iterate 7 ((try conv => whnf); (try simp only [put_eq, seqD, lstD]))
  iterate 7 ((try conv => whnf); (try simp only [e0, put_eq, seqD, lstD]))
  refine hN _ _ ?_; clear hN N; refine seq_ fun N hN => ?_
  iterate 7 ((try conv => whnf); (try simp only [put_eq, seqD, lstD]))
  refine hN _ _ ?_; clear hN N; refine seq_ fun N hN => ?_
  iterate 7 ((try conv => whnf); (try simp only [put_eq, seqD, lstD]))
  refine forRun_map (f := D.int) (fun pr e S' => S' = S ∧ ∃ (pv : Int) (t : Option D), e = [some (rowD c), some (.int (m : Nat)), some (.int pv), t] ∧ (pv = -1 ∨ pv ∈ pr)) ?_ ?_ ⟨rfl, _, _, rfl, .inl rfl⟩
  · rintro pr x r e S' N2 he ⟨rfl, pv, t, rfl, hpv⟩ hN2
    refine ⟨trivial, ?_⟩
    have hx := hc.rng x (by rw [he]; simp)
    have hlt : pv + 1 ≤ x := by
      rcases hpv with rfl | hpv
      · omega
      · have ha := hc.asc
        rw [he, List.pairwise_append] at ha
        have := ha.2.2 pv hpv x List.mem_cons_self
        omega
    refine seq_ fun N hN => ?_
    iterate 7 ((try conv => whnf); (try simp only [put_eq, seqD, lstD]))
    refine frm_of ⟨x, pv + 1, (m : Int) - 1, rfl, hlt, by omega, ?_⟩
    iterate 7 ((try conv => whnf); (try simp only [put_eq, seqD, lstD]))
    refine hN _ _ ?_; clear hN N
    iterate 7 ((try conv => whnf); (try simp only [put_eq, seqD, lstD]))
    exact ⟨_, Sb.refl _, hN2 _ _ ⟨rfl, x, _, rfl, .inr (by simp)⟩⟩
  · rintro e S' ⟨rfl, pv, t, rfl, hpv⟩
    refine ⟨trivial, ?_⟩
    refine hN _ _ ?_; clear hN N
    iterate 7 ((try conv => whnf); (try simp only [put_eq, seqD, lstD]))
    exact ⟨_, Sb.refl _, h⟩
def sp_require_shape : SpD := fun ds S Q => ∃ (m : Nat) (cs : List (List Int)), ds = [shD m cs] ∧ ShOk m cs ∧ Q .non S
theorem len_require_shape : ∀ ds S Q, sp_require_shape ds S Q → ds.length = ["shape"].length := by rintro ds S Q ⟨m, cs, rfl, h⟩; rfl
theorem enum_rows : ∀ (xs : List (List Int)) (n : Nat), enumD n (xs.map rowD) = (xs.zipIdx n).map fun u => .tup [.int (u.2 : Nat), rowD u.1]
  | [], n => rfl
  | x :: xs, n => by
    rw [List.zipIdx_cons, List.map_cons, List.map_cons]
    show .tup [.int (n : Nat), rowD x] :: enumD (n + 1) (xs.map rowD) = _
    rw [enum_rows xs (n + 1)]
theorem p_require_shape : ∀ ds S Q0, sp_require_shape ds S Q0 → tb_require_shape (frm sp_is_integer) (frm sp_is_coordinate_tuple) (bodyEnds Q0) (startD nm_require_shape ds) S := by
  rintro ds S Q0 ⟨m, cs, rfl, hs, h⟩
  have m0 := hs.m0
  have m1 := hs.m1
  have l0 := hs.l0
  have l1 := hs.l1
  refine seq_ fun N hN => ?_
  iterate 7 ((try conv => whnf); (try simp only [put_eq, seqD, lstD]))
  iterate 7 ((try conv => whnf); (try simp only [atI_0, put_eq, seqD, lstD]))
  refine frm_of ⟨(m : Int), 1, 6, rfl, by omega, by omega, ?_⟩
  iterate 7 ((try conv => whnf); (try simp only [put_eq, seqD, lstD]))
  refine hN _ _ ?_; clear hN N; refine seq_ fun N hN => ?_
  iterate 7 ((try conv => whnf); (try simp only [atI_1, put_eq, seqD, lstD]))
  iterate 7 ((try conv => whnf); (try simp only [atI_1, put_eq, seqD, lstD]))
  have e1 : decide ((1 : Int) ≤ ((cs.map rowD).length : Nat)) = true := decide_eq_true (by rw [List.length_map]; omega)
  have e2 : decide ((((cs.map rowD).length : Nat) : Int) ≤ 8) = true := decide_eq_true (by rw [List.length_map]; omega)
  iterate 7 ((try conv => whnf); (try simp only [e1, put_eq, seqD, lstD]))
  iterate 7 ((try conv => whnf); (try simp only [e2, put_eq, seqD, lstD]))
  refine hN _ _ ?_; clear hN N
  iterate 7 ((try conv => whnf); (try simp only [atI_1, put_eq, seqD, lstD]))
  rw [enum_rows]
  refine forRun_map (f := fun u : List Int × Nat => D.tup [.int (u.2 : Nat), rowD u.1]) (xs := cs.zipIdx 0) (fun pr e S' => S' = S ∧ ∃ t1 t2, e = [some (shD m cs), t1, t2]) ?_ ?_ ⟨rfl, _, _, rfl⟩
  · rintro pr u r e S' N2 he ⟨rfl, t1, t2, rfl⟩ hN2
    refine ⟨rfl, ?_⟩
    have hu : u ∈ cs.zipIdx 0 := by rw [he]; simp
    obtain ⟨x, i⟩ := u
    have hi := List.mem_zipIdx hu
    simp only [Nat.zero_add, Nat.sub_zero] at hi
    have hx : cs[i]'(by omega) = x := hi.2.2.symm
    have hxm : x ∈ cs := by rw [← hx]; exact List.getElem_mem _
    iterate 7 ((try conv => whnf); (try simp only [atI_0, put_eq, seqD, lstD]))
    refine frm_of ⟨x, m, rfl, hs.co x hxm, ?_⟩
    iterate 7 ((try conv => whnf); (try simp only [atI_1, put_eq, seqD, lstD]))
    rw [cut_map, cut_to (by omega), Int.toNat_natCast]
    refine ⟨⟨fine_row 49 x, fun y hy => by obtain ⟨z, _, rfl⟩ := List.mem_map.mp hy; exact fine_row 48 z⟩, ?_⟩
    rw [any_rows]
    have hn : decide (x ∈ cs.take i) = false := decide_eq_false fun hm => by
      obtain ⟨j, hj, e⟩ := List.getElem_of_mem hm
      rw [List.getElem_take] at e
      have hj2 : j < i := by rw [List.length_take] at hj; omega
      exact (List.pairwise_iff_getElem.mp hs.nd) j i (by omega) (by omega) hj2 (by rw [e, hx])
    rw [hn]
    iterate 7 ((try conv => whnf); (try simp only [put_eq, seqD, lstD]))
    exact ⟨_, Sb.refl _, hN2 _ _ ⟨rfl, _, _, rfl⟩⟩
  · rintro e S' ⟨rfl, t1, t2, rfl⟩
    exact ⟨rfl, _, Sb.refl _, h⟩

structure PartR where
  sv : Int
  mat : List (List Int)
  off : List (List Int)
  wt : List Int
def partD (p : PartR) : D := .tup [.int p.sv, .tup (p.mat.map rowD), .tup (p.off.map rowD), rowD p.wt]
structure PartOk (q : Int) (m n sv co mk : Nat) (p : PartR) : Prop where
  s0 : 0 ≤ p.sv
  s1 : p.sv < (sv : Int)
  ml : p.mat.length = m
  mr : ∀ r ∈ p.mat, RowQ q co r
  ol : p.off.length = n
  orr : ∀ r ∈ p.off, RowQ q m r
  wr : RowQ q mk p.wt
structure Told where
  q : Int
  m : Nat
  cs : List (List Int)
  sv : Nat
  co : Nat
  ms : Nat
  ps : List PartR
structure ToldOk (t : Told) : Prop where
  prm : Prm t.q
  sh : ShOk t.m t.cs
  s0 : 1 ≤ t.sv
  s1 : t.sv ≤ 6
  c1 : t.co ≤ 12
  m1 : t.ms ≤ 3
  p0 : 1 ≤ t.ps.length
  p1 : t.ps.length ≤ 8
  pr : ∀ p ∈ t.ps, PartOk t.q t.m t.cs.length t.sv t.co t.ms p
def schF (t : Told) : List (Str × D) := [("q", .int t.q), ("shape", shD t.m t.cs), ("servers", .int (t.sv : Nat)), ("coins", .int (t.co : Nat)), ("masks", .int (t.ms : Nat)), ("parts", .tup (t.ps.map partD))]
def sp_is_vector : SpD := fun ds S Q => ∃ (w : List Int) (n : Nat) (q : Int), ds = [rowD w, .int n, .int q] ∧ RowQ q n w ∧ Q (.bl true) S
theorem len_is_vector : ∀ ds S Q, sp_is_vector ds S Q → ds.length = ["value", "length", "q"].length := by rintro ds S Q ⟨w, n, q, rfl, h⟩; rfl
theorem p_is_vector : ∀ ds S Q0, sp_is_vector ds S Q0 → tb_is_vector (frm sp_is_integer) (bodyEnds Q0) (startD nm_is_vector ds) S := by
  rintro ds S Q0 ⟨w, n, q, rfl, hw, h⟩
  have el : ((((w.map D.int).length : Nat) : Int) = (n : Int)) := by rw [List.length_map, hw.len]
  have e0 : decide ((((w.map D.int).length : Nat) : Int) = (n : Int)) = true := decide_eq_true el
  iterate 7 ((try conv => whnf); (try simp only [put_eq, seqD, lstD]))
  rw [e0]
  iterate 7 ((try conv => whnf); (try simp only [put_eq, seqD, lstD]))
  refine lc_pure (f := D.int) (g := fun _ => D.bl true) trivial (fun x hx K hK => ?_) ?_
  · have hr := hw.res x hx
    iterate 7 ((try conv => whnf); (try simp only [put_eq, seqD, lstD]))
    exact frm_of ⟨x, 0, q - 1, rfl, hr.1, by omega, hK⟩
  · refine ⟨w.map fun _ => true, by rw [List.map_map]; rfl, ?_⟩
    rw [all_true]
    exact ⟨_, Sb.refl _, h⟩
def sp_are_vectors : SpD := fun ds S Q => ∃ (rows : List (List Int)) (k n : Nat) (q : Int), ds = [.tup (rows.map rowD), .int k, .int n, .int q] ∧ rows.length = k ∧ (∀ r ∈ rows, RowQ q n r) ∧ Q (.bl true) S
theorem len_are_vectors : ∀ ds S Q, sp_are_vectors ds S Q → ds.length = ["value", "count", "length", "q"].length := by rintro ds S Q ⟨w, k, n, q, rfl, h⟩; rfl
theorem p_are_vectors : ∀ ds S Q0, sp_are_vectors ds S Q0 → tb_are_vectors (frm sp_is_vector) (bodyEnds Q0) (startD nm_are_vectors ds) S := by
  rintro ds S Q0 ⟨rows, k, n, q, rfl, hl, hr, h⟩
  have el : ((((rows.map rowD).length : Nat) : Int) = (k : Int)) := by rw [List.length_map, hl]
  have e0 : decide ((((rows.map rowD).length : Nat) : Int) = (k : Int)) = true := decide_eq_true el
  iterate 7 ((try conv => whnf); (try simp only [put_eq, seqD, lstD]))
  rw [e0]
  iterate 7 ((try conv => whnf); (try simp only [put_eq, seqD, lstD]))
  refine lc_pure (f := rowD) (g := fun _ => D.bl true) trivial (fun x hx K hK => ?_) ?_
  · iterate 7 ((try conv => whnf); (try simp only [put_eq, seqD, lstD]))
    exact frm_of ⟨x, n, q, rfl, hr x hx, hK⟩
  · refine ⟨rows.map fun _ => true, by rw [List.map_map]; rfl, ?_⟩
    rw [all_true]
    exact ⟨_, Sb.refl _, h⟩
def sp_Scheme_is_part (C : Addr) : SpD := fun ds S Q => ∃ (a : Addr) (t : Told) (p : PartR), ds = [.loc a, partD p] ∧ S a = some (.ins C (schF t)) ∧ PartOk t.q t.m t.cs.length t.sv t.co t.ms p ∧ Q (.bl true) S
theorem len_Scheme_is_part (C : Addr) : ∀ ds S Q, sp_Scheme_is_part C ds S Q → ds.length = ["self", "value"].length := by rintro ds S Q ⟨a, t, p, rfl, h⟩; rfl
theorem p_Scheme_is_part (C : Addr) : ∀ ds S Q0, sp_Scheme_is_part C ds S Q0 → tb_Scheme_is_part C (frm sp_is_integer) (frm sp_are_vectors) (frm sp_is_vector) (bodyEnds Q0) (startD nm_Scheme_is_part ds) S := by
  rintro ds S Q0 ⟨a, t, p, rfl, ga, ok, h⟩
  refine seq_ fun N hN => ?_
  iterate 7 ((try conv => whnf); (try simp only [put_eq, seqD, lstD]))
  iterate 7 ((try conv => whnf); (try simp only [atI_0, put_eq, seqD, lstD]))
  iterate 7 ((try conv => whnf); (try simp only [ga, put_eq, seqD, lstD]))
  refine ⟨trivial, ?_⟩
  iterate 7 ((try conv => whnf); (try simp only [put_eq, seqD, lstD]))
  have hs1 := ok.s1
  refine frm_of ⟨p.sv, 0, (t.sv : Int) - 1, rfl, ok.s0, by omega, ?_⟩
  iterate 7 ((try conv => whnf); (try simp only [put_eq, seqD, lstD]))
  refine hN _ _ ?_; clear hN N; refine seq_ fun N hN => ?_
  iterate 7 ((try conv => whnf); (try simp only [ga, put_eq, seqD, lstD]))
  refine ⟨trivial, ?_⟩
  iterate 7 ((try conv => whnf); (try simp only [atI_0, put_eq, seqD, lstD]))
  iterate 7 ((try conv => whnf); (try simp only [ga, put_eq, seqD, lstD]))
  refine ⟨trivial, ?_⟩
  iterate 7 ((try conv => whnf); (try simp only [atI_1, put_eq, seqD, lstD]))
  rw [List.length_map]
  refine hN _ _ ?_; clear hN N; refine seq_ fun N hN => ?_
  iterate 7 ((try conv => whnf); (try simp only [atI_1, put_eq, seqD, lstD]))
  iterate 7 ((try conv => whnf); (try simp only [ga, put_eq, seqD, lstD]))
  refine ⟨trivial, ?_⟩
  iterate 7 ((try conv => whnf); (try simp only [ga, put_eq, seqD, lstD]))
  refine ⟨trivial, ?_⟩
  iterate 7 ((try conv => whnf); (try simp only [put_eq, seqD, lstD]))
  refine frm_of ⟨p.mat, t.m, t.co, t.q, rfl, ok.ml, ok.mr, ?_⟩
  iterate 7 ((try conv => whnf); (try simp only [put_eq, seqD, lstD]))
  refine hN _ _ ?_; clear hN N
  have a2 : atI [D.int p.sv, .tup (p.mat.map rowD), .tup (p.off.map rowD), rowD p.wt] 2 = some (.tup (p.off.map rowD)) := by rfl
  have a3 : atI [D.int p.sv, .tup (p.mat.map rowD), .tup (p.off.map rowD), rowD p.wt] 3 = some (rowD p.wt) := by rfl
  iterate 7 ((try conv => whnf); (try simp only [a2, put_eq, seqD, lstD]))
  iterate 7 ((try conv => whnf); (try simp only [ga, put_eq, seqD, lstD]))
  refine ⟨trivial, ?_⟩
  iterate 7 ((try conv => whnf); (try simp only [put_eq, seqD, lstD]))
  refine frm_of ⟨p.off, t.cs.length, t.m, t.q, rfl, ok.ol, ok.orr, ?_⟩
  iterate 7 ((try conv => whnf); (try simp only [a3, put_eq, seqD, lstD]))
  iterate 7 ((try conv => whnf); (try simp only [ga, put_eq, seqD, lstD]))
  refine ⟨trivial, ?_⟩
  iterate 7 ((try conv => whnf); (try simp only [ga, put_eq, seqD, lstD]))
  refine ⟨trivial, ?_⟩
  iterate 7 ((try conv => whnf); (try simp only [put_eq, seqD, lstD]))
  refine frm_of ⟨p.wt, t.ms, t.q, rfl, ok.wr, ?_⟩
  exact ⟨_, Sb.refl _, h⟩
def sp_Scheme___init__ (C : Addr) : SpD := fun ds S Q => ∃ (a : Addr) (t : Told), ds = [.loc a, .int t.q, shD t.m t.cs, .int (t.sv : Nat), .int (t.co : Nat), .int (t.ms : Nat), .tup (t.ps.map partD)] ∧ S a = some (.ins C []) ∧ ToldOk t ∧
  ∀ S', S' a = some (.ins C (schF t)) → (∀ x c, x ≠ a → S x = some c → S' x = some c) → Q .non S'
theorem len_Scheme___init__ (C : Addr) : ∀ ds S Q, sp_Scheme___init__ C ds S Q → ds.length = ["self", "q", "shape", "servers", "coins", "masks", "parts"].length := by rintro ds S Q ⟨a, t, rfl, h⟩; rfl
theorem enum_parts : ∀ (xs : List PartR) (n : Nat), enumD n (xs.map partD) = (xs.zipIdx n).map fun u => .tup [.int (u.2 : Nat), partD u.1]
  | [], n => rfl
  | x :: xs, n => by
    rw [List.zipIdx_cons, List.map_cons, List.map_cons]
    show .tup [.int (n : Nat), partD x] :: enumD (n + 1) (xs.map partD) = _
    rw [enum_parts xs (n + 1)]
theorem p_Scheme___init__ (C : Addr) : ∀ ds S Q0, sp_Scheme___init__ C ds S Q0 → tb_Scheme___init__ C (frm sp_require_prime) (frm sp_require_shape) (frm sp_is_integer) (frm (sp_Scheme_is_part C)) (bodyEnds Q0) (startD nm_Scheme___init__ ds) S := by
  rintro ds S Q0 ⟨a, t, rfl, ha, ok, h⟩
  refine seq_ fun N hN => ?_
  iterate 7 ((try conv => whnf); (try simp only [put_eq, seqD, lstD]))
  refine frm_of ⟨t.q, rfl, ok.prm, ?_⟩
  refine hN _ _ ?_; clear hN N; refine seq_ fun N hN => ?_
  iterate 7 ((try conv => whnf); (try simp only [put_eq, seqD, lstD]))
  refine frm_of ⟨t.m, t.cs, rfl, ok.sh, ?_⟩
  refine hN _ _ ?_; clear hN N; refine seq_ fun N hN => ?_
  iterate 7 ((try conv => whnf); (try simp only [ha, put_eq, seqD, lstD]))
  refine ⟨⟨trivial, by decide⟩, ?_⟩
  refine hN _ _ ?_; clear hN N; refine seq_ fun N hN => ?_
  iterate 7 ((try conv => whnf); (try simp only [put_eq, seqD, lstD]))
  refine ⟨⟨trivial, (Nat.le_of_ble_eq_true rfl)⟩, ?_⟩
  refine hN _ _ ?_; clear hN N; refine seq_ fun N hN => ?_
  iterate 7 ((try conv => whnf); (try simp only [put_eq, seqD, lstD]))
  refine ⟨⟨trivial, (Nat.le_of_ble_eq_true rfl)⟩, ?_⟩
  refine hN _ _ ?_; clear hN N; refine seq_ fun N hN => ?_
  iterate 7 ((try conv => whnf); (try simp only [put_eq, seqD, lstD]))
  refine ⟨⟨trivial, (Nat.le_of_ble_eq_true rfl)⟩, ?_⟩
  refine hN _ _ ?_; clear hN N; refine seq_ fun N hN => ?_
  iterate 7 ((try conv => whnf); (try simp only [put_eq, seqD, lstD]))
  refine ⟨⟨trivial, (Nat.le_of_ble_eq_true rfl)⟩, ?_⟩
  refine hN _ _ ?_; clear hN N; refine seq_ fun N hN => ?_
  iterate 7 ((try conv => whnf); (try simp only [put_eq, seqD, lstD]))
  refine ⟨⟨trivial, (Nat.le_of_ble_eq_true rfl)⟩, ?_⟩
  have fin : ∀ S', S' = S.put a (.ins C (schF t)) → Q0 .non S' := fun S' e => by
    rw [e]
    exact h _ put_eq fun x c hx e => by rw [put_ne hx]; exact e
  simp only [put_put]
  have e6 : S.put a (.ins C (putFD "parts" (D.tup (t.ps.map partD)) (putFD "masks" (D.int (t.ms : Nat)) (putFD "coins" (D.int (t.co : Nat)) (putFD "servers" (D.int (t.sv : Nat)) (putFD "shape" (shD t.m t.cs) (putFD "q" (D.int t.q) []))))))) = S.put a (.ins C (schF t)) := rfl
  have ga : (S.put a (.ins C (schF t))) a = some (.ins C (schF t)) := put_eq
  rw [e6]
  generalize S.put a (.ins C (schF t)) = S1 at ga fin
  clear h ha e6
  have s0 := ok.s0
  have s1 := ok.s1
  have c1 := ok.c1
  have m1 := ok.m1
  have p0 := ok.p0
  have p1 := ok.p1
  refine hN _ _ ?_; clear hN N; refine seq_ fun N hN => ?_
  iterate 7 ((try conv => whnf); (try simp only [put_eq, seqD, lstD]))
  refine ⟨(Nat.le_of_ble_eq_true rfl), ?_⟩
  iterate 7 ((try conv => whnf); (try simp only [put_eq, seqD, lstD]))
  refine ⟨(Nat.le_of_ble_eq_true rfl), ?_⟩
  iterate 7 ((try conv => whnf); (try simp only [put_eq, seqD, lstD]))
  refine ⟨(Nat.le_of_ble_eq_true rfl), ?_⟩
  iterate 7 ((try conv => whnf); (try simp only [put_eq, seqD, lstD]))
  refine ⟨(Nat.le_of_ble_eq_true rfl), ?_⟩
  refine hN _ _ ?_; clear hN N; refine seq_ fun N hN => ?_
  iterate 7 ((try conv => whnf); (try simp only [put_eq, seqD, lstD]))
  refine ⟨trivial, ?_⟩
  iterate 7 ((try conv => whnf); (try simp only [put_eq, seqD, lstD]))
  refine frm_of ⟨(t.sv : Int), 1, 6, rfl, by omega, by omega, ⟨_, Sb.refl _, ?_⟩⟩
  iterate 7 ((try conv => whnf); (try simp only [put_eq, seqD, lstD]))
  refine ⟨trivial, ?_⟩
  iterate 7 ((try conv => whnf); (try simp only [put_eq, seqD, lstD]))
  refine frm_of ⟨(t.co : Int), 0, 12, rfl, by omega, by omega, ⟨_, Sb.refl _, ?_⟩⟩
  iterate 7 ((try conv => whnf); (try simp only [put_eq, seqD, lstD]))
  refine ⟨trivial, ?_⟩
  iterate 7 ((try conv => whnf); (try simp only [put_eq, seqD, lstD]))
  refine frm_of ⟨(t.ms : Int), 0, 3, rfl, by omega, by omega, ⟨_, Sb.refl _, ?_⟩⟩
  iterate 7 ((try conv => whnf); (try simp only [put_eq, seqD, lstD]))
  refine ⟨trivial, ?_⟩
  refine ⟨[true, true, true], rfl, ?_⟩
  iterate 7 ((try conv => whnf); (try simp only [put_eq, seqD, lstD]))
  refine hN _ _ ?_; clear hN N; refine seq_ fun N hN => ?_
  have e1 : decide ((1 : Int) ≤ ((t.ps.map partD).length : Nat)) = true := decide_eq_true (by rw [List.length_map]; omega)
  have e2 : decide ((((t.ps.map partD).length : Nat) : Int) ≤ 8) = true := decide_eq_true (by rw [List.length_map]; omega)
  iterate 7 ((try conv => whnf); (try simp only [put_eq, seqD, lstD]))
  iterate 7 ((try conv => whnf); (try simp only [e1, put_eq, seqD, lstD]))
  iterate 7 ((try conv => whnf); (try simp only [e2, put_eq, seqD, lstD]))
  refine hN _ _ ?_; clear hN N
  iterate 7 ((try conv => whnf); (try simp only [put_eq, seqD, lstD]))
  rw [enum_parts]
  refine forRun_map (f := fun u : PartR × Nat => D.tup [.int (u.2 : Nat), partD u.1]) (xs := t.ps.zipIdx 0) (fun pr e S' => S' = S1 ∧ ∃ d0 d1 d2 d3 d4 d5 d6 d7 d8 d9 d10 d11, e = [some (.loc a), d0, d1, d2, d3, d4, d5, d6, d7, d8, d9, d10, d11]) ?_ ?_ ⟨rfl, _, _, _, _, _, _, _, _, _, _, _, _, rfl⟩
  · rintro pr u r e S' N2 he ⟨rfl, d0, d1, d2, d3, d4, d5, d6, d7, d8, d9, d10, d11, rfl⟩ hN2
    refine ⟨trivial, ?_⟩
    have hu : u.1 ∈ t.ps := by
      have : u ∈ t.ps.zipIdx 0 := by rw [he]; simp
      obtain ⟨x, i⟩ := u
      exact List.fst_mem_of_mem_zipIdx this
    iterate 7 ((try conv => whnf); (try simp only [ga, put_eq, seqD, lstD]))
    refine ⟨⟨trivial, rfl⟩, ?_⟩
    refine frm_of ⟨a, t, u.1, rfl, ga, ok.pr u.1 hu, ?_⟩
    iterate 7 ((try conv => whnf); (try simp only [put_eq, seqD, lstD]))
    exact ⟨_, Sb.refl _, hN2 _ _ ⟨rfl, _, _, _, _, _, _, _, _, _, _, _, _, rfl⟩⟩
  · rintro e S' ⟨rfl, _⟩
    exact ⟨trivial, _, Sb.refl _, fin _ rfl⟩

def sp_Scheme___len__ (C : Addr) : SpD := fun ds S Q => ∃ (a : Addr) (t : Told), ds = [.loc a] ∧ S a = some (.ins C (schF t)) ∧ Q (.int (t.ps.length : Nat)) S
theorem len_Scheme___len__ (C : Addr) : ∀ ds S Q, sp_Scheme___len__ C ds S Q → ds.length = ["self"].length := by rintro ds S Q ⟨a, t, rfl, h⟩; rfl
theorem p_Scheme___len__ (C : Addr) : ∀ ds S Q0, sp_Scheme___len__ C ds S Q0 → tb_Scheme___len__ C (bodyEnds Q0) (startD nm_Scheme___len__ ds) S := by
  rintro ds S Q0 ⟨a, t, rfl, ga, h⟩
  iterate 7 ((try conv => whnf); (try simp only [ga, put_eq, seqD, lstD]))
  refine ⟨trivial, ?_⟩
  iterate 7 ((try conv => whnf); (try simp only [put_eq, seqD, lstD]))
  rw [List.length_map]
  exact ⟨_, Sb.refl _, h⟩
def quest (q : Int) (p : PartR) (j : Nat) (cs : List Int) : List Int := (p.mat.zip (p.off.getD j [])).map fun u => (u.2 + dotZ u.1 cs) % q
theorem zipW {α β : Type} (f : α → D) (g : β → D) : ∀ (xs : List α) (ys : List β), List.zipWith pairD (xs.map f) (ys.map g) = (xs.zip ys).map fun z => pairD (f z.1) (g z.2)
  | [], ys => by cases ys <;> rfl
  | x :: xs, [] => rfl
  | x :: xs, y :: ys => congrArg (_ :: ·) (zipW f g xs ys)
theorem at_part {ps : List PartR} {i : Nat} (h : i < ps.length) : atI (ps.map partD) (i : Int) = some (partD ps[i]) := by
  have := atI_map (f := partD) (xs := ps) (i := (i : Int)) (by omega) (by omega)
  rw [this]; rfl
theorem at_rows {rs : List (List Int)} {i : Nat} (h : i < rs.length) : atI (rs.map rowD) (i : Int) = some (rowD rs[i]) := by
  have := atI_map (f := rowD) (xs := rs) (i := (i : Int)) (by omega) (by omega)
  rw [this]; rfl
theorem at_int {rs : List Int} {i : Nat} (h : i < rs.length) : atI (rs.map D.int) (i : Int) = some (.int rs[i]) := by
  have := atI_map (f := D.int) (xs := rs) (i := (i : Int)) (by omega) (by omega)
  rw [this]; rfl
theorem getD_at {rs : List (List Int)} {i : Nat} (h : i < rs.length) : rs.getD i [] = rs[i] := by rw [List.getD_eq_getElem?_getD, List.getElem?_eq_getElem h]; rfl
theorem part1 (p : PartR) : atI [D.int p.sv, .tup (p.mat.map rowD), .tup (p.off.map rowD), rowD p.wt] 1 = some (.tup (p.mat.map rowD)) := by rfl
theorem part2 (p : PartR) : atI [D.int p.sv, .tup (p.mat.map rowD), .tup (p.off.map rowD), rowD p.wt] 2 = some (.tup (p.off.map rowD)) := by rfl
def sp_Scheme_question (C : Addr) : SpD := fun ds S Q => ∃ (a : Addr) (t : Told) (i j : Nat) (cs : List Int) (hi : i < t.ps.length), ds = [.loc a, .int (i : Nat), .int (j : Nat), rowD cs] ∧ S a = some (.ins C (schF t)) ∧ ToldOk t ∧ j < t.cs.length ∧ RowQ t.q t.co cs ∧ ∀ S', Sb S S' → Q (rowD (quest t.q t.ps[i] j cs)) S'
theorem len_Scheme_question (C : Addr) : ∀ ds S Q, sp_Scheme_question C ds S Q → ds.length = ["self", "part", "entry", "coins"].length := by rintro ds S Q ⟨a, t, i, j, cs, hi, rfl, h⟩; rfl
theorem p_Scheme_question (C : Addr) : ∀ ds S Q0, sp_Scheme_question C ds S Q0 → tb_Scheme_question C (bodyEnds Q0) (startD nm_Scheme_question ds) S := by
  rintro ds S Q0 ⟨a, t, i, j, cs, hi, rfl, ga, ok, hj, hc, h⟩
  have pk := ok.pr _ (List.getElem_mem hi)
  generalize hp : t.ps[i] = p at pk h
  have hpi : atI (t.ps.map partD) (i : Int) = some (partD p) := by rw [at_part hi, hp]
  have hjo : j < p.off.length := by rw [pk.ol]; exact hj
  have q0 : 0 < t.q := by have := ok.prm.lo; omega
  have q3 := ok.prm.hi
  have hor := pk.orr _ (List.getElem_mem hjo)
  have hlen : p.mat.length = p.off[j].length := by rw [hor.len, pk.ml]
  refine seq_ fun N hN => ?_
  iterate 7 ((try conv => whnf); (try simp only [ga, put_eq, seqD, lstD]))
  refine ⟨trivial, ?_⟩
  iterate 7 ((try conv => whnf); (try simp only [hpi, put_eq, seqD, lstD]))
  iterate 7 ((try conv => whnf); (try simp only [part1, put_eq, seqD, lstD]))
  iterate 7 ((try conv => whnf); (try simp only [ga, put_eq, seqD, lstD]))
  refine ⟨trivial, ?_⟩
  iterate 7 ((try conv => whnf); (try simp only [hpi, put_eq, seqD, lstD]))
  iterate 7 ((try conv => whnf); (try simp only [part2, put_eq, seqD, lstD]))
  have hoj := at_rows hjo
  iterate 7 ((try conv => whnf); (try simp only [hoj, put_eq, seqD, lstD]))
  refine hN _ _ ?_; clear hN N; refine seq_ fun N hN => ?_
  iterate 7 ((try conv => whnf); (try simp only [put_eq, seqD, lstD]))
  refine ⟨by decide, fun G hG => ?_⟩
  refine hN _ _ ?_; clear hN N; refine seq_ fun N hN => ?_
  have s1 : Sb S (S.put G (.lst (([] : List Int).map D.int))) := Sb.put1 hG _
  have gG0 : (S.put G (.lst (([] : List Int).map D.int))) G = some (.lst (([] : List Int).map D.int)) := put_eq
  have ga1 := s1 _ _ ga
  have nGa : a ≠ G := ne_of_free ga hG
  have sfree : ∀ x c, S x = some c → x ≠ G := fun x c e => ne_of_free e hG
  iterate 7 ((try conv => whnf); (try simp only [put_eq, seqD, lstD]))
  refine ⟨fun _ => by rw [List.length_map, List.length_map]; exact hlen, ?_⟩
  rw [zipW]
  refine forRun_map (f := fun z : List Int × Int => pairD (rowD z.1) (.int z.2)) (fun pr e S' => ∃ t7 t8 t9 t10 t11, e = [some (.loc a), some (.int (i : Nat)), some (.int (j : Nat)), some (rowD cs), some (.tup (p.mat.map rowD)), some (rowD p.off[j]), some (.loc G), t7, t8, t9, t10, t11] ∧ Sb S S' ∧ S' G = some (.lst ((pr.map fun u => (u.2 + dotZ u.1 cs) % t.q).map D.int))) ?_ ?_ ⟨_, _, _, _, _, rfl, s1, gG0⟩
  · rintro pr z r e S' N2 he ⟨t7, t8, t9, t10, t11, rfl, s2, gG⟩ hN2
    refine ⟨⟨trivial, trivial⟩, ?_⟩
    have hzm : z ∈ p.mat.zip p.off[j] := by rw [he]; simp
    have hzr := pk.mr _ (List.of_mem_zip hzm).1
    have hpl : pr.length ≤ 6 := by
      have h1 := congrArg List.length he
      rw [List.length_zip, List.length_append, pk.ml] at h1
      have := ok.sh.m1
      omega
    have ga2 := s2 _ _ ga
    refine seq_ fun N hN => ?_
    iterate 7 ((try conv => whnf); (try simp only [put_eq, seqD, lstD]))
    refine ⟨fun _ => by rw [List.length_map, List.length_map, hzr.len, hc.len], ?_⟩
    rw [zipU]
    refine lc_pure (f := fun u : Int × Int => pairD (.int u.1) (.int u.2)) (g := fun u : Int × Int => D.int (u.1 * u.2)) ⟨trivial, trivial⟩ (fun u hu K hK => ?_) ?_
    · have hu1 := hzr.res u.1 (List.of_mem_zip hu).1
      iterate 7 ((try conv => whnf); (try simp only [put_eq, seqD, lstD]))
      exact ⟨cmul_l (by omega), hK⟩
    refine ⟨(z.1.zip cs).map fun u => u.1 * u.2, by rw [List.map_map]; rfl, ?_⟩
    rw [← dotZ_zip]
    iterate 7 ((try conv => whnf); (try simp only [put_eq, seqD, lstD]))
    refine hN _ _ ?_; clear hN N
    iterate 7 ((try conv => whnf); (try simp only [gG, put_eq, seqD, lstD]))
    iterate 7 ((try conv => whnf); (try simp only [ga2, put_eq, seqD, lstD]))
    refine ⟨trivial, ?_⟩
    iterate 7 ((try conv => whnf); (try simp only [gG, put_eq, seqD, lstD]))
    refine ⟨q0, ?_⟩
    iterate 7 ((try conv => whnf); (try simp only [gG, put_eq, seqD, lstD]))
    refine ⟨by rw [List.length_map, List.length_map, sizeLine_eq]; omega, ?_⟩
    refine ⟨_, Sb.refl _, hN2 _ _ ⟨_, _, _, _, _, rfl, fun x c ex => ?_, ?_⟩⟩
    · rw [put_ne (sfree x c ex)]; exact s2 x c ex
    · rw [List.map_append, List.map_append]; exact put_eq
  · rintro e S' ⟨t7, t8, t9, t10, t11, rfl, s2, gG⟩
    refine ⟨⟨trivial, trivial⟩, ?_⟩
    refine hN _ _ ?_; clear hN N
    iterate 7 ((try conv => whnf); (try simp only [gG, put_eq, seqD, lstD]))
    have eq : ((p.mat.zip p.off[j]).map fun u => (u.2 + dotZ u.1 cs) % t.q) = quest t.q p j cs := by unfold quest; rw [getD_at hjo]
    rw [eq]
    exact ⟨_, Sb.refl _, h _ s2⟩
def gparts (ps : List PartR) (G : List Int) : List Int := ((ps.zipIdx 0).filter fun u => decide (u.1.sv ∈ G)).map fun u => ((u.2 : Nat) : Int)
theorem gparts_mem {ps : List PartR} {G : List Int} {k : Int} (h : k ∈ gparts ps G) : ∃ i : Nat, k = i ∧ ∃ hi : i < ps.length, ps[i].sv ∈ G := by
  obtain ⟨u, hu, rfl⟩ := List.mem_map.mp h
  rw [List.mem_filter] at hu
  obtain ⟨x, i⟩ := u
  have hi := List.mem_zipIdx hu.1
  simp only [Nat.zero_add, Nat.sub_zero] at hi
  refine ⟨i, rfl, hi.2.1, ?_⟩
  rw [← hi.2.2]
  exact of_decide_eq_true hu.2
def sp_Scheme_group_parts (C : Addr) : SpD := fun ds S Q => ∃ (a : Addr) (t : Told) (G : List Int), ds = [.loc a, rowD G] ∧ S a = some (.ins C (schF t)) ∧ Q (rowD (gparts t.ps G)) S
theorem len_Scheme_group_parts (C : Addr) : ∀ ds S Q, sp_Scheme_group_parts C ds S Q → ds.length = ["self", "group"].length := by rintro ds S Q ⟨a, t, G, rfl, h⟩; rfl
theorem p_Scheme_group_parts (C : Addr) : ∀ ds S Q0, sp_Scheme_group_parts C ds S Q0 → tb_Scheme_group_parts C (bodyEnds Q0) (startD nm_Scheme_group_parts ds) S := by
  rintro ds S Q0 ⟨a, t, G, rfl, ga, h⟩
  iterate 7 ((try conv => whnf); (try simp only [ga, put_eq, seqD, lstD]))
  refine ⟨trivial, ?_⟩
  iterate 7 ((try conv => whnf); (try simp only [put_eq, seqD, lstD]))
  rw [enum_parts]
  refine lc_filter (f := fun u : PartR × Nat => D.tup [.int (u.2 : Nat), partD u.1]) (b := fun u : PartR × Nat => decide (u.1.sv ∈ G)) (g := fun u : PartR × Nat => D.int (u.2 : Nat)) trivial (fun u hu K K2 hK hK2 => ?_) ?_
  · iterate 7 ((try conv => whnf); (try simp only [atI_0, put_eq, seqD, lstD]))
    refine ⟨⟨rfl, fun z hz => by obtain ⟨y, _, rfl⟩ := List.mem_map.mp hz; rfl⟩, ?_⟩
    rw [inD_ints]
    cases hd : decide (u.1.sv ∈ G) with
    | true => exact hK hd
    | false => exact hK2 hd
  · have e : (((t.ps.zipIdx 0).filter fun u => decide (u.1.sv ∈ G)).map fun u => D.int (u.2 : Nat)) = (gparts t.ps G).map D.int := by unfold gparts; rw [List.map_map]; rfl
    rw [e]
    exact ⟨_, Sb.refl _, h⟩
def seen (t : Told) (G : List Int) (j : Nat) (cs : List Int) : List (List Int) := (gparts t.ps G).map fun k => quest t.q (t.ps.getD k.toNat ⟨0, [], [], []⟩) j cs
def sp_Scheme_seen_by (C : Addr) : SpD := fun ds S Q => ∃ (a : Addr) (t : Told) (G : List Int) (j : Nat) (cs : List Int), ds = [.loc a, rowD G, .int (j : Nat), rowD cs] ∧ S a = some (.ins C (schF t)) ∧ ToldOk t ∧ j < t.cs.length ∧ RowQ t.q t.co cs ∧ ∀ S', Sb S S' → Q (.tup ((seen t G j cs).map rowD)) S'
theorem len_Scheme_seen_by (C : Addr) : ∀ ds S Q, sp_Scheme_seen_by C ds S Q → ds.length = ["self", "group", "entry", "coins"].length := by rintro ds S Q ⟨a, t, G, j, cs, rfl, h⟩; rfl
theorem p_Scheme_seen_by (C : Addr) : ∀ ds S Q0, sp_Scheme_seen_by C ds S Q0 → tb_Scheme_seen_by C (frm (sp_Scheme_group_parts C)) (frm (sp_Scheme_question C)) (bodyEnds Q0) (startD nm_Scheme_seen_by ds) S := by
  rintro ds S Q0 ⟨a, t, G, j, cs, rfl, ga, ok, hj, hc, h⟩
  iterate 7 ((try conv => whnf); (try simp only [ga, put_eq, seqD, lstD]))
  refine ⟨⟨trivial, rfl⟩, ?_⟩
  refine frm_of ⟨a, t, G, rfl, ga, ?_⟩
  iterate 7 ((try conv => whnf); (try simp only [put_eq, seqD, lstD]))
  refine lcRun_map (f := D.int) (xs := gparts t.ps G) (fun pr acc S' => acc = pr.map (fun k => rowD (quest t.q (t.ps.getD k.toNat ⟨0, [], [], []⟩) j cs)) ∧ Sb S S') ?_ ?_ ⟨rfl, Sb.refl _⟩
  · rintro pr k r acc S1 N he ⟨rfl, s1⟩ hN
    refine ⟨trivial, ?_⟩
    obtain ⟨i, rfl, hi, _⟩ := gparts_mem (k := k) (by rw [he]; simp)
    have ga1 := s1 _ _ ga
    iterate 7 ((try conv => whnf); (try simp only [ga1, put_eq, seqD, lstD]))
    refine ⟨⟨trivial, rfl⟩, ?_⟩
    refine frm_of ⟨a, t, i, j, cs, hi, rfl, ga1, ok, hj, hc, fun S2 s2 => ?_⟩
    exact ⟨_, Sb.refl _, hN _ _ ⟨by
      rw [List.map_append]
      have e : t.ps.getD ((i : Int)).toNat ⟨0, [], [], []⟩ = t.ps[i] := by rw [Int.toNat_natCast, List.getD_eq_getElem?_getD, List.getElem?_eq_getElem hi]; rfl
      rw [← e]; rfl, s1.trans s2⟩⟩
  · rintro acc S1 ⟨rfl, s1⟩
    refine ⟨trivial, ?_⟩
    have e : ((gparts t.ps G).map fun k => rowD (quest t.q (t.ps.getD k.toNat ⟨0, [], [], []⟩) j cs)) = (seen t G j cs).map rowD := by unfold seen; rw [List.map_map]; rfl
    rw [e]
    exact ⟨_, Sb.refl _, h _ s1⟩

def sp__law_shape : SpD := fun ds S Q => ∃ (p pq : Addr) (e : Int), ds = [.loc p, .int e] ∧ (1 ≤ e ∧ e ≤ 8) ∧ PenF p pq S ∧ ∀ (m : Nat) (cs : List (List Int)) (S' : Sto), ShOk m cs → PenF p pq S' → Q (shD m cs) S'
theorem len__law_shape : ∀ ds S Q, sp__law_shape ds S Q → ds.length = ["_law_pen_here", "_law_entries"].length := by rintro ds S Q ⟨p, pq, e, rfl, h⟩; rfl
theorem use_shape {S : Sto} {Q : DK} {p pq : Addr} {e : Int} (L1 : List HP) {L2 : List HP} (hs : Star (L1 ++ penH p pq :: L2) S) (he : 1 ≤ e ∧ e ≤ 8)
    (h : ∀ (m : Nat) (cs : List (List Int)) S2, ShOk m cs → Star (L1 ++ penH p pq :: L2) S2 → Q (shD m cs) S2) : frm sp__law_shape [.loc p, .int e] S Q :=
  frm_at L1 hs fun h0 hp Q' k => ⟨p, pq, e, rfl, he, hp, fun m cs h' h1 hp' => k _ _ fun S2 hs2 => h m cs S2 h1 (hs2 _ hp')⟩
theorem fine_rows50 (us : List (List Int)) : ∀ x ∈ us.map rowD, fine 50 x := fun x hx => by
  obtain ⟨u, _, rfl⟩ := List.mem_map.mp hx
  exact fine_row 49 u
theorem p__law_shape : ∀ ds S Q0, sp__law_shape ds S Q0 → tb__law_shape (frm sp__law_draw) (bodyEnds Q0) (startD nm__law_shape ds) S := by
  rintro ds S Q0 ⟨p, pq, e, rfl, he, hp, h⟩
  have hs := star_pen hp
  refine seq_ fun N hN => ?_
  iterate 7 ((try conv => whnf); (try simp only [put_eq, seqD, lstD]))
  refine use_draw [] hs (by decide) fun m0 S1 m1 m2 hs => ?_
  obtain ⟨m, hm⟩ : ∃ m : Nat, (1 + m0 : Int) = (m : Int) := ⟨(1 + m0).toNat, by omega⟩
  have mm : 1 ≤ m ∧ m ≤ 6 := by omega
  iterate 7 ((try conv => whnf); (try simp only [put_eq, seqD, lstD]))
  rw [hm]
  refine hN _ _ ?_; clear hN N; refine seq_ fun N hN => ?_
  iterate 7 ((try conv => whnf); (try simp only [put_eq, seqD, lstD]))
  refine ⟨by decide, fun f hf => ?_⟩
  have hs := hs.new hf (.lst (([] : List (List Int)).map rowD))
  have hs : Star [penH p pq, cell f (.lst (([] : List (List Int)).map rowD))] (S1.put f (.lst [])) := hs
  refine hN _ _ ?_
  clear hN N
  generalize S1.put f (.lst []) = T1 at hs
  refine seq_ fun N hN => ?_
  iterate 7 ((try conv => whnf); (try simp only [put_eq, seqD, lstD]))
  refine use_draw [] hs (by omega) fun n S2 n0 n1 hs => ?_
  iterate 7 ((try conv => whnf); (try simp only [put_eq, seqD, lstD]))
  refine ⟨by omega, ?_⟩
  refine forRun_rng (fun k e' S' => ∃ (b4 b5 b6 : Option D) (cs : List (List Int)), e' = [some (.loc p), some (.int e), some (.int (m : Nat)), some (.loc f), b4, b5, b6] ∧ cs.length ≤ k ∧ (0 < k → 1 ≤ cs.length) ∧ cs.Nodup ∧ (∀ c ∈ cs, CoOk m c) ∧ Star [penH p pq, cell f (.lst (cs.map rowD))] S') ?_ ?_ ⟨_, _, _, [], rfl, Nat.le_refl _, (fun h => absurd h (Nat.lt_irrefl _)), List.nodup_nil, (fun _ h => by cases h), hs⟩
  · rintro k e' S3 N2 hk ⟨b4, b5, b6, cs, rfl, hl, hl1, hnd, hc, hs⟩ hN2
    refine ⟨trivial, ?_⟩
    clear hN
    refine seq_ fun N hN => ?_
    iterate 7 ((try conv => whnf); (try simp only [put_eq, seqD, lstD]))
    refine use_draw [] hs (by decide) fun j S4 j0 j1 hs => ?_
    iterate 7 ((try conv => whnf); (try simp only [put_eq, seqD, lstD]))
    refine ⟨by omega, ?_⟩
    refine lcRun_rng (fun i acc S' => ∃ vs : List Int, acc = vs.map D.int ∧ vs.length = i ∧ (∀ v ∈ vs, 0 ≤ v ∧ v < (m : Int)) ∧ Star [penH p pq, cell f (.lst (cs.map rowD))] S') ?_ ?_ ⟨[], rfl, rfl, (fun _ h => by cases h), hs⟩
    · rintro i acc S5 N3 hi ⟨vs, rfl, hvl, hv, hs⟩ hN3
      refine ⟨trivial, ?_⟩
      iterate 7 ((try conv => whnf); (try simp only [put_eq, seqD, lstD]))
      refine use_draw [] hs (by omega) fun v S6 v0 v1 hs => ?_
      exact ⟨_, Sb.refl _, hN3 _ _ ⟨vs ++ [v], by simp, by simp [hvl], fun w hw => by
        rcases List.mem_append.mp hw with hw | hw
        · exact hv w hw
        · rw [List.mem_singleton.mp hw]; exact ⟨v0, v1⟩, hs⟩⟩
    · rintro acc S5 ⟨vs, rfl, hvl, hv, hs⟩
      refine ⟨trivial, vs, rfl, by omega, ⟨upto 60, by simp [upto], fun w hw => by have := hv w hw; exact mem_upto (by omega) (by omega)⟩, fun xs a ha1 ha2 ha => ?_⟩
      have hx : CoOk m xs := ⟨ha1, fun x hx => hv x ((ha2 x).mp hx), by
        have := nodup_short (pw_nodup ha1) fun x hx => (ha2 x).mp hx
        omega⟩
      have hs := hs.new ha (.lst (xs.map D.int))
      have hs : Star [penH p pq, cell f (.lst (cs.map rowD)), cell a (.lst (xs.map D.int))] _ := hs
      have ga := hs.get [_, _]
      iterate 7 ((try conv => whnf); (try simp only [ga, put_eq, seqD, lstD]))
      have hs := hs.left (L1 := [_, _]) (L2 := [_])
      clear ga
      generalize S5.put a (.lst (xs.map D.int)) = S6 at hs
      refine hN _ _ ?_; clear hN N
      have gf := hs.get [_]
      iterate 7 ((try conv => whnf); (try simp only [gf, put_eq, seqD, lstD]))
      refine ⟨⟨fine_row 49 xs, fine_rows50 cs⟩, ?_⟩
      rw [any_rows]
      cases hin : decide (xs ∈ cs) with
      | true =>
        have h1 : 1 ≤ cs.length := by
          have := of_decide_eq_true hin
          cases cs with
          | nil => cases this
          | cons _ _ => simp
        exact ⟨S6, Sb.refl _, hN2 _ _ ⟨_, _, _, cs, rfl, by omega, fun _ => h1, hnd, hc, hs⟩⟩
      | false =>
        iterate 7 ((try conv => whnf); (try simp only [gf, put_eq, seqD, lstD]))
        refine ⟨by rw [List.length_map, sizeLine_eq]; omega, ?_⟩
        refine ⟨_, Sb.refl _, hN2 _ _ ⟨_, _, _, cs ++ [xs], rfl, by simp; omega, fun _ => by simp, ?_, fun c hcm => ?_, ?_⟩⟩
        · rw [List.nodup_append]
          refine ⟨hnd, by simp, fun x hx y hy => ?_⟩
          rw [List.mem_singleton.mp hy]
          exact fun z => (of_decide_eq_false hin) (z ▸ hx)
        · rcases List.mem_append.mp hcm with h' | h'
          · exact hc c h'
          · rw [List.mem_singleton.mp h']; exact hx
        · rw [List.map_append]
          exact hs.put [_]
  · rintro e' S3 ⟨b4, b5, b6, cs, rfl, hl, hl1, hnd, hc, hs⟩
    refine ⟨trivial, ?_⟩
    refine hN _ _ ?_; clear hN N
    have gf := hs.get [_]
    iterate 7 ((try conv => whnf); (try simp only [gf, put_eq, seqD, lstD]))
    refine ⟨(Nat.le_of_ble_eq_true rfl), ?_⟩
    exact (hs.left (L1 := [_]) (L2 := [_])).penend fun S' hp' => h m cs S' ⟨mm.1, mm.2, hl1 (by omega), by omega, hnd, hc⟩ hp'
theorem rep_rows (n : Nat) (r : List Int) : (List.replicate n [rowD r]).flatten = (List.replicate n r).map rowD := by
  induction n with
  | zero => rfl
  | succ n ih =>
    rw [List.replicate_succ, List.flatten_cons, ih]
    rfl

theorem use_scheme_new {C : Addr} {S : Sto} {Q : DK} {a : Addr} {t : Told} {L : List HP} (hs : Star L S) (ha : S a = none) (ok : ToldOk t) (h : ∀ S2, Star (L ++ [cell a (.ins C (schF t))]) S2 → Q .non S2) :
    frm (sp_Scheme___init__ C) [.loc a, .int t.q, shD t.m t.cs, .int (t.sv : Nat), .int (t.co : Nat), .int (t.ms : Nat), .tup (t.ps.map partD)] (S.put a (.ins C [])) Q :=
  frm_of ⟨a, t, rfl, put_eq, ok, fun S' h1 h2 => h S' ((hs.new ha (.ins C (schF t))).mono fun x c e => by
    by_cases hx : x = a
    · subst hx
      rw [put_eq] at e
      rw [h1]; exact e
    · rw [put_ne hx] at e
      exact h2 x c hx (by rw [put_ne hx]; exact e))⟩
theorem eqv_fine {n : Nat} {d : D} (h : fine n d) : PyData.eqv (toPy d) (toPy d) = true := PySem.SeqAt.eqv_refl _ (fine_lay n d h).1
theorem fine_sh (n m : Nat) (cs : List (List Int)) : fine (n + 3) (shD m cs) := fun x hx => by
  have : x = .int (m : Nat) ∨ x = .tup (cs.map rowD) := by simpa using hx
  rcases this with rfl | rfl
  · trivial
  · intro y hy; obtain ⟨z, _, rfl⟩ := List.mem_map.mp hy; exact fine_row n z
theorem filter_zipIdx {α : Type} (f : α → Bool) : ∀ (xs : List α) (n : Nat), ((xs.zipIdx n).filter fun u => f u.1).map Prod.fst = xs.filter f
  | [], _ => rfl
  | x :: xs, n => by
    rw [List.zipIdx_cons, List.filter_cons, List.filter_cons]
    cases h : f x with
    | true => simp only [h, if_true, List.map_cons]; rw [filter_zipIdx f xs (n + 1)]
    | false => simp only [h, Bool.false_eq_true, if_false]; exact filter_zipIdx f xs (n + 1)
theorem gparts_map {β : Type} (ps : List PartR) (G : List Int) (F : PartR → β) : (gparts ps G).map (fun k => F (ps.getD k.toNat ⟨0, [], [], []⟩)) = (ps.filter fun p => decide (p.sv ∈ G)).map F := by
  unfold gparts
  rw [List.map_map, ← filter_zipIdx (fun p : PartR => decide (p.sv ∈ G)) ps 0, List.map_map]
  apply List.map_congr_left
  intro u hu
  have hz := (List.mem_filter.mp hu).1
  obtain ⟨x, i⟩ := u
  have hi := List.mem_zipIdx hz
  simp only [Nat.zero_add, Nat.sub_zero] at hi
  show F (ps.getD (((i : Nat) : Int)).toNat ⟨0, [], [], []⟩) = F x
  have e : x = ps[i]'(by simpa using hi.2.1) := hi.2.2
  rw [Int.toNat_natCast, List.getD_eq_getElem?_getD, List.getElem?_eq_getElem (by simpa using hi.2.1)]
  show F ps[i] = F x
  rw [← e]
def ptR (m : Nat) (c : List Int) : List Int := (List.range m).map fun (j : Nat) => if decide ((j : Int) ∈ c) = true then (1 : Int) else 0
def sp_point_of : SpD := fun ds S Q => ∃ (m : Nat) (cs : List (List Int)) (e : Nat) (he : e < cs.length), ds = [shD m cs, .int (e : Nat)] ∧ m ≤ 12 ∧ Q (rowD (ptR m cs[e])) S
theorem len_point_of : ∀ ds S Q, sp_point_of ds S Q → ds.length = ["a", "b"].length := by rintro ds S Q ⟨m, cs, e, he, rfl, h⟩; rfl
theorem p_point_of : ∀ ds S Q0, sp_point_of ds S Q0 → tb_point_of (bodyEnds Q0) (startD nm_point_of ds) S := by
  rintro ds S Q0 ⟨m, cs, e, he, rfl, hm, h⟩
  have ar := at_rows he
  iterate 7 ((try conv => whnf); (try simp only [atI_0, put_eq, seqD, lstD]))
  refine ⟨by omega, ?_⟩
  rw [Int.toNat_natCast]
  refine lc_pure (f := fun (k : Nat) => D.int (0 + (k : Int))) (g := fun (j : Nat) => D.int (if decide ((j : Int) ∈ cs[e]) = true then (1 : Int) else 0)) trivial (fun j hj K hK => ?_) ?_
  · iterate 7 ((try conv => whnf); (try simp only [atI_1, put_eq, seqD, lstD]))
    iterate 7 ((try conv => whnf); (try simp only [ar, put_eq, seqD, lstD]))
    refine ⟨⟨rfl, fun z hz => by obtain ⟨y, _, rfl⟩ := List.mem_map.mp hz; rfl⟩, ?_⟩
    rw [inD_ints, Int.zero_add]
    exact hK
  · have e : ((List.range m).map fun (j : Nat) => D.int (if decide ((j : Int) ∈ cs[e]) = true then (1 : Int) else 0)) = (ptR m cs[e]).map D.int := by unfold ptR; rw [List.map_map]; rfl
    rw [e]
    exact ⟨_, Sb.refl _, h⟩
def sp__law_point : SpD := sp_point_of
theorem len__law_point : ∀ ds S Q, sp__law_point ds S Q → ds.length = ["a", "b"].length := len_point_of
theorem p__law_point : ∀ ds S Q0, sp__law_point ds S Q0 → tb__law_point (bodyEnds Q0) (startD nm__law_point ds) S := p_point_of
def sp_entry_points : SpD := fun ds S Q => ∃ (m : Nat) (cs : List (List Int)), ds = [shD m cs] ∧ m ≤ 12 ∧ cs.length ≤ 12 ∧ Q (.tup ((cs.map (ptR m)).map rowD)) S
theorem len_entry_points : ∀ ds S Q, sp_entry_points ds S Q → ds.length = ["a"].length := by rintro ds S Q ⟨m, cs, rfl, h⟩; rfl
theorem p_entry_points : ∀ ds S Q0, sp_entry_points ds S Q0 → tb_entry_points (frm sp_point_of) (bodyEnds Q0) (startD nm_entry_points ds) S := by
  rintro ds S Q0 ⟨m, cs, rfl, hm, hc, h⟩
  iterate 7 ((try conv => whnf); (try simp only [atI_1, put_eq, seqD, lstD]))
  rw [List.length_map]
  refine ⟨by omega, ?_⟩
  rw [Int.toNat_natCast]
  refine lc_pure (f := fun (k : Nat) => D.int (0 + (k : Int))) (g := fun (e : Nat) => rowD (ptR m (cs.getD e []))) trivial (fun e he K hK => ?_) ?_
  · have he := List.mem_range.mp he
    have ez : (0 + (e : Int)) = (e : Int) := by omega
    rw [getD_at he] at hK
    iterate 7 ((try conv => whnf); (try simp only [put_eq, seqD, lstD]))
    rw [ez]
    exact frm_of ⟨m, cs, e, he, rfl, hm, hK⟩
  · have e : ((List.range cs.length).map fun (e : Nat) => rowD (ptR m (cs.getD e []))) = (cs.map (ptR m)).map rowD := by
      apply List.ext_getElem
      · simp
      · intro i h1 h2
        have hi : i < cs.length := by simpa using h1
        simp only [List.getElem_map, List.getElem_range, getD_at hi]
    rw [e]
    exact ⟨_, Sb.refl _, h⟩
theorem ptR_row {q : Int} (m : Nat) (c : List Int) (h : 2 ≤ q) : RowQ q m (ptR m c) := ⟨by unfold ptR; simp, fun x hx => by
  obtain ⟨j, _, rfl⟩ := List.mem_map.mp hx
  split <;> omega⟩
section
variable {q : Int}
def ev : List (QZ q) → QZ q → QZ q
  | [], _ => 0
  | c :: cs, x => c + x * ev cs x
end
theorem asc_ext : ∀ {xs ys : List Int}, xs.Pairwise (· < ·) → ys.Pairwise (· < ·) → (∀ z, z ∈ xs ↔ z ∈ ys) → xs = ys
  | [], [], _, _, _ => rfl
  | [], y :: ys, _, _, h => by have := (h y).mpr List.mem_cons_self; cases this
  | x :: xs, [], _, _, h => by have := (h x).mp List.mem_cons_self; cases this
  | x :: xs, y :: ys, h1, h2, h => by
    have p1 := List.pairwise_cons.mp h1
    have p2 := List.pairwise_cons.mp h2
    have exy : x = y := by
      rcases List.mem_cons.mp ((h x).mp List.mem_cons_self) with e | e
      · exact e
      · rcases List.mem_cons.mp ((h y).mpr List.mem_cons_self) with e2 | e2
        · exact e2.symm
        · have a1 := p2.1 x e
          have a2 := p1.1 y e2
          omega
    subst exy
    congr 1
    refine asc_ext p1.2 p2.2 fun z => ⟨fun hz => ?_, fun hz => ?_⟩
    · rcases List.mem_cons.mp ((h z).mp (List.mem_cons_of_mem _ hz)) with e | e
      · have := p1.1 z hz; omega
      · exact e
    · rcases List.mem_cons.mp ((h z).mpr (List.mem_cons_of_mem _ hz)) with e | e
      · have := p2.1 z hz; omega
      · exact e

theorem at_pt {m r : Nat} (h : r < m) (c : List Int) : at_ (ptR m c) r = if decide ((r : Int) ∈ c) = true then 1 else 0 := by
  have hl : r < (ptR m c).length := by unfold ptR; simp [h]
  rw [at_lt hl]
  simp only [ptR, List.getElem_map, List.getElem_range]
def downT (q : Int) (m : Nat) (cs : List (List Int)) (sv : Nat) : Told := ⟨q, m, cs, sv, 0, 0, (cs.map (ptR m)).map fun pt => ⟨0, List.replicate m [], List.replicate cs.length pt, []⟩⟩
theorem downT_ok {q : Int} {m : Nat} {cs : List (List Int)} {sv : Nat} (hq : Prm q) (sh : ShOk m cs) (h1 : 1 ≤ sv) (h6 : sv ≤ 6) : ToldOk (downT q m cs sv) := by
  have h2 := hq.lo
  have l0 := sh.l0
  have l1 := sh.l1
  refine ⟨hq, sh, h1, h6, by show 0 ≤ 12; decide, by show 0 ≤ 3; decide, by show 1 ≤ ((cs.map (ptR m)).map _).length; rw [List.length_map, List.length_map]; exact l0, by show ((cs.map (ptR m)).map _).length ≤ 8; rw [List.length_map, List.length_map]; exact l1, fun p hp => ?_⟩
  obtain ⟨pt, hpt, rfl⟩ := List.mem_map.mp hp
  obtain ⟨c, _, rfl⟩ := List.mem_map.mp hpt
  show PartOk q m cs.length sv 0 0 _
  exact ⟨by show (0 : Int) ≤ 0; decide, by show (0 : Int) < (sv : Int); omega, by simp, fun r hr => by
    rw [(List.mem_replicate.mp hr).2]; exact ⟨rfl, fun _ h => by cases h⟩, by simp, fun r hr => by
    rw [(List.mem_replicate.mp hr).2]; exact ptR_row m c h2, ⟨rfl, fun _ h => by cases h⟩⟩
def sp_download (C : Addr) : SpD := fun ds S Q => ∃ (q : Int) (m : Nat) (cs : List (List Int)) (sv : Nat), ds = [.int q, shD m cs, .int (sv : Nat)] ∧ Prm q ∧ ShOk m cs ∧ (1 ≤ sv ∧ sv ≤ 6) ∧ ∀ z S', S z = none → S' z = some (.ins C (schF (downT q m cs sv))) → Sb S S' → Q (.loc z) S'
theorem len_download (C : Addr) : ∀ ds S Q, sp_download C ds S Q → ds.length = ["a", "b", "c"].length := by rintro ds S Q ⟨q, m, cs, sv, rfl, h⟩; rfl
theorem p_download (C : Addr) : ∀ ds S Q0, sp_download C ds S Q0 → tb_download C (frm sp_require_prime) (frm sp_require_shape) (frm sp_is_integer) (frm sp_entry_points) (frm (sp_Scheme___init__ C)) (bodyEnds Q0) (startD nm_download ds) S := by
  rintro ds S Q0 ⟨q, m, cs, sv, rfl, hq, sh, hsv, h⟩
  have m1 := sh.m1
  have l1 := sh.l1
  have ok := downT_ok hq sh hsv.1 hsv.2
  have hs := star_bas S
  refine seq_ fun N hN => ?_
  iterate 7 ((try conv => whnf); (try simp only [put_eq, seqD, lstD]))
  refine frm_of ⟨q, rfl, hq, ?_⟩
  refine hN _ _ ?_; clear hN N; refine seq_ fun N hN => ?_
  iterate 7 ((try conv => whnf); (try simp only [put_eq, seqD, lstD]))
  refine frm_of ⟨m, _, rfl, sh, ?_⟩
  refine hN _ _ ?_; clear hN N; refine seq_ fun N hN => ?_
  iterate 7 ((try conv => whnf); (try simp only [put_eq, seqD, lstD]))
  refine frm_of ⟨(sv : Int), 1, 6, rfl, by omega, by omega, ?_⟩
  refine hN _ _ ?_; clear hN N; refine seq_ fun N hN => ?_
  iterate 7 ((try conv => whnf); (try simp only [put_eq, seqD, lstD]))
  refine ⟨by decide, ?_⟩
  iterate 7 ((try conv => whnf); (try simp only [put_eq, seqD, lstD]))
  refine ⟨by show 1 ≤ 1000; decide, ?_⟩
  iterate 7 ((try conv => whnf); (try simp only [atI_0, put_eq, seqD, lstD]))
  refine ⟨⟨by simp, by omega, by omega, by show 1 ≤ 1000; decide⟩, ?_⟩
  have er : (List.replicate ((m : Int)).toNat [D.tup []]).flatten = (List.replicate m ([] : List Int)).map rowD := by
    rw [Int.toNat_natCast]
    exact rep_rows m []
  rw [er]
  refine hN _ _ ?_; clear hN N; refine seq_ fun N hN => ?_
  iterate 7 ((try conv => whnf); (try simp only [atI_1, put_eq, seqD, lstD]))
  rw [List.length_map]
  refine hN _ _ ?_; clear hN N; refine seq_ fun N hN => ?_
  iterate 7 ((try conv => whnf); (try simp only [put_eq, seqD, lstD]))
  refine frm_of ⟨m, cs, rfl, by omega, by omega, ?_⟩
  iterate 7 ((try conv => whnf); (try simp only [put_eq, seqD, lstD]))
  refine lc_pure (f := rowD) (g := fun pt => partD ⟨0, List.replicate m [], List.replicate cs.length pt, []⟩) trivial (fun pt hpt K hK => ?_) ?_
  · iterate 7 ((try conv => whnf); (try simp only [put_eq, seqD, lstD]))
    refine ⟨by show 1 ≤ 1000; decide, ?_⟩
    iterate 7 ((try conv => whnf); (try simp only [put_eq, seqD, lstD]))
    refine ⟨⟨by simp, by omega, by omega, by show 1 ≤ 1000; decide⟩, ?_⟩
    rw [Int.toNat_natCast, rep_rows]
    iterate 7 ((try conv => whnf); (try simp only [put_eq, seqD, lstD]))
    refine ⟨by decide, ?_⟩
    iterate 7 ((try conv => whnf); (try simp only [put_eq, seqD, lstD]))
    refine ⟨by show 4 ≤ 1000; decide, ?_⟩
    exact hK
  have ep : ((cs.map (ptR m)).map fun pt => partD ⟨0, List.replicate m [], List.replicate cs.length pt, []⟩) = (downT q m cs sv).ps.map partD := by
    show _ = ((cs.map (ptR m)).map fun pt => (⟨0, List.replicate m [], List.replicate cs.length pt, []⟩ : PartR)).map partD
    rw [List.map_map (g := partD)]
    rfl
  rw [ep]
  intro A hA
  have hs := hs.new hA (.lst ((downT q m cs sv).ps.map partD))
  have hs : Star [bas S, cell A (.lst ((downT q m cs sv).ps.map partD))] (S.put A (.lst ((downT q m cs sv).ps.map partD))) := hs
  generalize S.put A _ = S1 at hs
  have gA := hs.get [_]
  refine hN _ _ ?_; clear hN N
  iterate 7 ((try conv => whnf); (try simp only [gA, put_eq, seqD, lstD]))
  intro z hz
  have hz0 : S z = none := by
    cases e : S z with
    | none => rfl
    | some c => rw [hs.sb _ _ e] at hz; cases hz
  refine use_scheme_new (t := downT q m cs sv) hs hz ok fun S4 hs => ?_
  refine ⟨rfl, ?_⟩
  exact ⟨_, Sb.refl _, h z _ hz0 (hs.get [_, _]) fun y c e => hs.sb y c e⟩
theorem use_download {C : Addr} {S : Sto} {Q : DK} {q : Int} {m : Nat} {cs : List (List Int)} {sv : Nat} {L : List HP} (hs : Star L S) (hq : Prm q) (sh : ShOk m cs) (hsv : 1 ≤ sv ∧ sv ≤ 6) (h : ∀ z S2, Star (L ++ [cell z (.ins C (schF (downT q m cs sv)))]) S2 → Q (.loc z) S2) : frm (sp_download C) [.int q, shD m cs, .int (sv : Nat)] S Q :=
  frm_of ⟨q, m, cs, sv, rfl, hq, sh, hsv, fun z S' hz gz sb => h z S' ((hs.new hz (.ins C (schF (downT q m cs sv)))).mono fun x d e => by
    by_cases hx : x = z
    · subst hx
      rw [put_eq] at e
      rw [gz]; exact e
    · rw [put_ne hx] at e
      exact sb x d e)⟩

def elimR (q f : Int) (a b : List Int) : List Int := List.zipWith (fun x y => (x - f * y) % q) a b
theorem elim_row {q f : Int} {n : Nat} {a b : List Int} (q0 : 0 < q) (ha : a.length = n) (hb : b.length = n) : RowQ q n (elimR q f a b) := ⟨by unfold elimR; rw [List.length_zipWith]; omega, fun x hx => by
  unfold elimR at hx
  obtain ⟨j, hj, rfl⟩ := List.getElem_of_mem hx
  rw [List.getElem_zipWith]
  exact ⟨Int.emod_nonneg _ (by omega), Int.emod_lt_of_pos _ q0⟩⟩
theorem at_elim {q f : Int} {n : Nat} {a b : List Int} (ha : a.length = n) (hb : b.length = n) (j : Nat) : zq q (at_ (elimR q f a b) j) = zq q (at_ a j) - zq q f * zq q (at_ b j) := by
  have hl : (elimR q f a b).length = n := by unfold elimR; rw [List.length_zipWith]; omega
  by_cases hj : j < n
  · have e : at_ (elimR q f a b) j = (at_ a j - f * at_ b j) % q := by
      rw [at_lt (by rw [hl]; exact hj), at_lt (by omega), at_lt (by omega)]
      unfold elimR
      rw [List.getElem_zipWith]
    rw [e, QZ.z_mod, QZ.z_sub, QZ.z_mul]
  · rw [at_ge (by rw [hl]; omega), at_ge (by omega), at_ge (by omega), QZ.z_zero]; grind
def normR (q s : Int) (a : List Int) : List Int := a.map fun x => x * s % q
theorem norm_row {q s : Int} {n : Nat} {a : List Int} (q0 : 0 < q) (ha : a.length = n) : RowQ q n (normR q s a) := ⟨by unfold normR; rw [List.length_map, ha], fun x hx => by
  obtain ⟨y, _, rfl⟩ := List.mem_map.mp hx
  exact ⟨Int.emod_nonneg _ (by omega), Int.emod_lt_of_pos _ q0⟩⟩
theorem at_norm {q s : Int} (a : List Int) (j : Nat) : zq q (at_ (normR q s a) j) = zq q (at_ a j) * zq q s := by
  have hl : (normR q s a).length = a.length := by unfold normR; rw [List.length_map]
  by_cases hj : j < a.length
  · rw [at_lt (by rw [hl]; exact hj), at_lt hj]
    simp only [normR, List.getElem_map]
    rw [QZ.z_mod, QZ.z_mul]
  · rw [at_ge (by rw [hl]; omega), at_ge (by omega), QZ.z_zero]; grind
structure RedP (q : Int) (n : Nat) (bp : List (Nat × List Int)) : Prop where
  row : ∀ b ∈ bp, RowQ q n b.2
  lt : ∀ b ∈ bp, b.1 < n
  one : ∀ b ∈ bp, zq q (at_ b.2 b.1) = 1
  zer : ∀ b ∈ bp, ∀ c ∈ bp, b.1 ≠ c.1 → zq q (at_ b.2 c.1) = 0
  nd : (bp.map (·.1)).Nodup
structure StI (q : Int) (n : Nat) (bp : List (Nat × List Int)) (row : List Int) (pr r : List (Nat × List Int)) (cur : List Int) : Prop where
  rq : RowQ q n cur
  zr : ∀ c ∈ pr, zq q (at_ cur c.1) = 0
  same : ∀ c ∈ r, zq q (at_ cur c.1) = zq q (at_ row c.1)
  sp : ∀ rows : List (List Int), (∀ b ∈ bp, InSp q rows b.2) → (InSp q rows row ↔ InSp q rows cur)
theorem StI.start {q : Int} {n : Nat} {bp : List (Nat × List Int)} {row : List Int} (h : RowQ q n row) : StI q n bp row [] bp row := ⟨h, (fun _ h => by cases h), fun _ _ => rfl, fun _ _ => Iff.rfl⟩
theorem StI.step {q : Int} {n : Nat} {bp pr r : List (Nat × List Int)} {row cur : List Int} {b : Nat × List Int} (q0 : 0 < q) (R : RedP q n bp) (e : bp = pr ++ b :: r) (h : StI q n bp row pr (b :: r) cur) : StI q n bp row (pr ++ [b]) r (elimR q (at_ cur b.1) cur b.2) := by
  have hb : b ∈ bp := by rw [e]; simp
  have rb := R.row b hb
  have key := fun j => at_elim (q := q) (f := at_ cur b.1) h.rq.len rb.len j
  have hnd := R.nd
  rw [e, List.map_append, List.map_cons] at hnd
  have hnd2 := List.nodup_append.mp hnd
  have hnd3 := List.nodup_cons.mp hnd2.2.1
  refine ⟨elim_row q0 h.rq.len rb.len, fun c hc => ?_, fun c hc => ?_, fun rows hrows => ?_⟩
  · rw [key]
    rcases List.mem_append.mp hc with hc | hc
    · have hcb : c ∈ bp := by rw [e]; simp [hc]
      have hne : b.1 ≠ c.1 := fun z => hnd2.2.2 c.1 (List.mem_map_of_mem (f := (·.1)) hc) b.1 List.mem_cons_self z.symm
      rw [h.zr c hc, R.zer b hb c hcb hne]; grind
    · rw [List.mem_singleton.mp hc, R.one b hb]; grind
  · have hcb : c ∈ bp := by rw [e]; simp [hc]
    have hne : b.1 ≠ c.1 := fun z => hnd3.1 (z ▸ List.mem_map_of_mem (f := (·.1)) hc)
    rw [key, h.same c (List.mem_cons_of_mem _ hc), R.zer b hb c hcb hne]; grind
  · rw [h.sp rows hrows]
    constructor
    · intro hi
      exact hi.lin (hrows b hb) (c := 1) (d := -(zq q (at_ cur b.1))) fun j => by rw [key]; grind
    · intro hi
      exact hi.lin (hrows b hb) (c := 1) (d := zq q (at_ cur b.1)) fun j => by rw [key]; grind
def addB (q : Int) (p : Nat) (r : List Int) (bp : List (Nat × List Int)) : List (Nat × List Int) := bp.map (fun b => (b.1, elimR q (at_ b.2 p) b.2 r)) ++ [(p, r)]
theorem addB_ok {q : Int} {n p : Nat} {bp : List (Nat × List Int)} {row rest : List Int} {s : Int} (hq : Prm q) (R : RedP q n bp) (h : StI q n bp row bp [] rest) (hp : p < n) (hne : at_ rest p ≠ 0) (hs : at_ rest p * s % q = 1) : RedP q n (addB q p (normR q s rest) bp) ∧ p ∉ bp.map (·.1) := by
  have q0 : 0 < q := by have := hq.lo; omega
  have hpl : p < rest.length := by rw [h.rq.len]; exact hp
  have hres := h.rq.res _ (List.getElem_mem hpl)
  have hzne : zq q (at_ rest p) ≠ 0 := fun z => by
    rw [at_lt hpl] at z hne
    exact hne (zq_inj (q := q) z hres.1 hres.2 (Int.le_refl 0) q0)
  have hnp : ∀ b ∈ bp, b.1 ≠ p := fun b hb z => hzne (by rw [← z]; exact h.zr b hb)
  have hone : zq q (at_ (normR q s rest) p) = 1 := by
    rw [at_norm, ← QZ.z_mul, ← QZ.z_mod, hs]; rfl
  have hzer : ∀ b ∈ bp, zq q (at_ (normR q s rest) b.1) = 0 := fun b hb => by
    rw [at_norm, h.zr b hb]; grind
  have hrow := norm_row (s := s) q0 h.rq.len
  have key := fun (b : Nat × List Int) (hb : b ∈ bp) j => at_elim (q := q) (f := at_ b.2 p) (R.row b hb).len hrow.len j
  have memB : ∀ x ∈ addB q p (normR q s rest) bp, (∃ b ∈ bp, x = (b.1, elimR q (at_ b.2 p) b.2 (normR q s rest))) ∨ x = (p, normR q s rest) := fun x hx => by
    rcases List.mem_append.mp hx with hx | hx
    · obtain ⟨b, hb, rfl⟩ := List.mem_map.mp hx
      exact .inl ⟨b, hb, rfl⟩
    · exact .inr (List.mem_singleton.mp hx)
  refine ⟨⟨fun x hx => ?_, fun x hx => ?_, fun x hx => ?_, fun x hx y hy hxy => ?_, ?_⟩, fun z => ?_⟩
  · rcases memB x hx with ⟨b, hb, rfl⟩ | rfl
    · exact elim_row q0 (R.row b hb).len hrow.len
    · exact hrow
  · rcases memB x hx with ⟨b, hb, rfl⟩ | rfl
    · exact R.lt b hb
    · exact hp
  · rcases memB x hx with ⟨b, hb, rfl⟩ | rfl
    · show zq q (at_ (elimR q (at_ b.2 p) b.2 (normR q s rest)) b.1) = 1
      rw [key b hb, R.one b hb, hzer b hb]; grind
    · exact hone
  · rcases memB x hx with ⟨b, hb, rfl⟩ | rfl
    · rcases memB y hy with ⟨c, hc, rfl⟩ | rfl
      · show zq q (at_ (elimR q (at_ b.2 p) b.2 (normR q s rest)) c.1) = 0
        rw [key b hb, R.zer b hb c hc hxy, hzer c hc]; grind
      · show zq q (at_ (elimR q (at_ b.2 p) b.2 (normR q s rest)) p) = 0
        rw [key b hb, hone]; grind
    · rcases memB y hy with ⟨c, hc, rfl⟩ | rfl
      · exact hzer c hc
      · exact absurd rfl hxy
  · unfold addB
    rw [List.map_append, List.map_map, List.nodup_append]
    refine ⟨R.nd, by simp, fun x hx y hy => ?_⟩
    have hy : y = p := by simpa using hy
    obtain ⟨b, hb, rfl⟩ := List.mem_map.mp hx
    rw [hy]
    exact hnp b hb
  · obtain ⟨b, hb, rfl⟩ := List.mem_map.mp z
    exact hnp b hb rfl
inductive RedS (q : Int) (n : Nat) : List (List Int) → List (Nat × List Int) → Prop
  | nil : RedS q n [] []
  | skip {rows bp row rest} : RedS q n rows bp → StI q n bp row bp [] rest → (∀ j, j < n → at_ rest j = 0) → RedS q n (rows ++ [row]) bp
  | add {rows bp row rest p s} : RedS q n rows bp → StI q n bp row bp [] rest → p < n → at_ rest p ≠ 0 → at_ rest p * s % q = 1 → RedS q n (rows ++ [row]) (addB q p (normR q s rest) bp)
theorem RedS.ok {q : Int} {n : Nat} (hq : Prm q) {rows : List (List Int)} {bp : List (Nat × List Int)} (h : RedS q n rows bp) : RedP q n bp := by
  induction h with
  | nil => exact ⟨(fun _ h => by cases h), (fun _ h => by cases h), (fun _ h => by cases h), (fun _ h => by cases h), List.nodup_nil⟩
  | skip _ _ _ ih => exact ih
  | add _ st hp hne hs ih => exact (addB_ok hq ih st hp hne hs).1
theorem RedS.sub {q : Int} {n : Nat} (hq : Prm q) {rows : List (List Int)} {bp : List (Nat × List Int)} (h : RedS q n rows bp) : ∀ b ∈ bp, InSp q rows b.2 := by
  have q0 : 0 < q := by have := hq.lo; omega
  induction h with
  | nil => intro b hb; cases hb
  | skip _ _ _ ih => exact fun b hb => (ih b hb).old
  | @add rows bp row rest p s hS st hp hne hs ih =>
    have R := hS.ok hq
    have hrow := norm_row (s := s) q0 st.rq.len
    have hrest : InSp q (rows ++ [row]) rest := (st.sp _ fun b hb => (ih b hb).old).mp InSp.last
    have hnr : InSp q (rows ++ [row]) (normR q s rest) := hrest.lin hrest (c := zq q s) (d := 0) fun j => by rw [at_norm]; grind
    intro x hx
    rcases List.mem_append.mp hx with hx | hx
    · obtain ⟨b, hb, rfl⟩ := List.mem_map.mp hx
      exact ((ih b hb).old).lin hnr (c := 1) (d := -(zq q (at_ b.2 p))) fun j => by
        show zq q (at_ (elimR q (at_ b.2 p) b.2 (normR q s rest)) j) = _
        rw [at_elim (R.row b hb).len hrow.len]; grind
    · rw [List.mem_singleton.mp hx]; exact hnr
theorem zero_insp {q : Int} {n : Nat} {rest : List Int} (hl : rest.length = n) (hz : ∀ j, j < n → at_ rest j = 0) (rows : List (List Int)) : InSp q rows rest := ⟨fun _ => 0, fun j => by
  have e : wS q rows (fun _ => 0) j = 0 := sumL_zero fun i _ => by grind
  rw [e]
  by_cases hj : j < n
  · rw [hz j hj]; rfl
  · rw [at_ge (by omega)]; rfl⟩
theorem RedS.count {q : Int} {n : Nat} (hq : Prm q) {rows : List (List Int)} {bp : List (Nat × List Int)} (h : RedS q n rows bp) : bp.length = rows.length ∨ ∃ pre r post, rows = pre ++ r :: post ∧ InSp q pre r := by
  induction h with
  | nil => exact .inl rfl
  | @skip rows bp row rest hS st hz ih =>
    exact .inr ⟨rows, row, [], rfl, (st.sp rows (hS.sub hq)).mpr (zero_insp st.rq.len hz rows)⟩
  | @add rows bp row rest p s hS st hp hne hs ih =>
    rcases ih with ih | ⟨pre, r, post, e, hi⟩
    · refine .inl ?_
      unfold addB
      rw [List.length_append, List.length_map, List.length_append, ih]
      rfl
    · exact .inr ⟨pre, r, post ++ [row], by rw [e, List.append_assoc]; rfl, hi⟩

abbrev BA := Addr × Nat × List Int
def dicD (bs : List BA) : List (Key × D) := bs.map fun b => (.inl ((b.2.1 : Nat) : Int), .loc b.1)
theorem star_mem {L : List HP} {S : Sto} {a : Addr} {c : Cell} (hs : Star L S) (h : cell a c ∈ L) : S a = some c := by
  obtain ⟨s, t, rfl⟩ := List.append_of_mem h
  exact hs.get s
theorem val_dic : ∀ (bs : List BA) (b : BA), (bs.map fun b => b.2.1).Nodup → b ∈ bs → valD (dicD bs) (.inl ((b.2.1 : Nat) : Int)) = some (.loc b.1)
  | c :: bs, b, hnd, hb => by
    have hnd := List.nodup_cons.mp hnd
    show ((((.inl ((c.2.1 : Nat) : Int) : Key), D.loc c.1) :: dicD bs).find? fun kv => decide (kv.1 = .inl ((b.2.1 : Nat) : Int))).map (·.2) = _
    rw [List.find?_cons]
    by_cases h : c.2.1 = b.2.1
    · have e : decide ((.inl ((c.2.1 : Nat) : Int) : Key) = .inl ((b.2.1 : Nat) : Int)) = true := decide_eq_true (by rw [h])
      rw [e]
      rcases List.mem_cons.mp hb with rfl | hb
      · rfl
      · exact absurd (List.mem_map_of_mem (f := fun b : BA => b.2.1) hb) (h ▸ hnd.1)
    · have e : decide ((.inl ((c.2.1 : Nat) : Int) : Key) = .inl ((b.2.1 : Nat) : Int)) = false := decide_eq_false fun z => h (Int.ofNat_inj.mp (Sum.inl.inj z))
      rw [e]
      rcases List.mem_cons.mp hb with rfl | hb
      · exact absurd rfl h
      · exact val_dic bs b hnd.2 hb
theorem put_new {bs : List BA} {p : Nat} {a : Addr} {row : List Int} (h : p ∉ bs.map fun b => b.2.1) : putD (dicD bs) (.inl (p : Int)) (.loc a) = dicD (bs ++ [(a, p, row)]) := by
  have e : ((dicD bs).any fun kv => decide (kv.1 = .inl (p : Int))) = false := by
    rw [List.any_eq_false]
    intro kv hkv
    obtain ⟨b, hb, rfl⟩ := List.mem_map.mp hkv
    have hne : b.2.1 ≠ p := fun z => h (z ▸ List.mem_map_of_mem (f := fun b : BA => b.2.1) hb)
    simp only [decide_eq_true_eq]
    exact fun z => hne (Int.ofNat_inj.mp (Sum.inl.inj z))
  unfold putD
  rw [e, if_neg Bool.false_ne_true]
  unfold dicD
  rw [List.map_append]
  rfl
theorem put_old {pr r : List BA} {b : BA} {a : Addr} {row : List Int} (hnd : ((pr ++ b :: r).map fun b => b.2.1).Nodup) : putD (dicD (pr ++ b :: r)) (.inl ((b.2.1 : Nat) : Int)) (.loc a) = dicD (pr ++ (a, b.2.1, row) :: r) := by
  have e : ((dicD (pr ++ b :: r)).any fun kv => decide (kv.1 = .inl ((b.2.1 : Nat) : Int))) = true := by
    rw [List.any_eq_true]
    exact ⟨(.inl ((b.2.1 : Nat) : Int), .loc b.1), List.mem_map.mpr ⟨b, by simp, rfl⟩, by simp⟩
  rw [List.map_append, List.map_cons] at hnd
  have h2 := List.nodup_append.mp hnd
  have h3 := List.nodup_cons.mp h2.2.1
  have same : ∀ xs : List BA, (∀ c ∈ xs, c.2.1 ≠ b.2.1) → (dicD xs).map (fun kv => if kv.1 = .inl ((b.2.1 : Nat) : Int) then (kv.1, D.loc a) else kv) = dicD xs := fun xs hx => by
    unfold dicD
    rw [List.map_map]
    apply List.map_congr_left
    intro c hc
    have : ¬ ((.inl ((c.2.1 : Nat) : Int) : Key) = .inl ((b.2.1 : Nat) : Int)) := fun z => hx c hc (Int.ofNat_inj.mp (Sum.inl.inj z))
    show (if (.inl ((c.2.1 : Nat) : Int) : Key) = .inl ((b.2.1 : Nat) : Int) then _ else _) = _
    rw [if_neg this]
  unfold putD
  rw [e, if_pos rfl]
  have ed : dicD (pr ++ b :: r) = dicD pr ++ (.inl ((b.2.1 : Nat) : Int), .loc b.1) :: dicD r := by unfold dicD; rw [List.map_append, List.map_cons]
  have ed2 : dicD (pr ++ (a, b.2.1, row) :: r) = dicD pr ++ (.inl ((b.2.1 : Nat) : Int), .loc a) :: dicD r := by unfold dicD; rw [List.map_append, List.map_cons]
  rw [ed, ed2, List.map_append, List.map_cons, same pr fun c hc z => h2.2.2 c.2.1 (List.mem_map_of_mem (f := fun b : BA => b.2.1) hc) b.2.1 List.mem_cons_self z, same r fun c hc z => h3.1 (z ▸ List.mem_map_of_mem (f := fun b : BA => b.2.1) hc)]
  simp
def CellsIn (L : List HP) (bs : List BA) : Prop := ∀ b ∈ bs, cell b.1 (.lst (b.2.2.map D.int)) ∈ L
theorem CellsIn.mono {L L' : List HP} {bs : List BA} (h : CellsIn L bs) (hl : ∀ x ∈ L, x ∈ L') : CellsIn L' bs := fun b hb => hl _ (h b hb)
def sp__law_reduced : SpD := fun ds S Q => ∃ (A : Addr) (rows : List (List Int)) (n : Nat) (q : Int), ds = [.loc A, .int q] ∧ S A = some (.lst (rows.map rowD)) ∧ Prm q ∧ (∀ r ∈ rows, RowQ q n r) ∧ n ≤ 100 ∧ rows.length ≤ 100 ∧
  ∀ P (bs : List BA) S', S' P = some (.dic (dicD bs)) → (∀ b ∈ bs, S' b.1 = some (.lst (b.2.2.map D.int))) → RedS q n rows (bs.map (·.2)) → Sb S S' → Q (.loc P) S'
theorem len__law_reduced : ∀ ds S Q, sp__law_reduced ds S Q → ds.length = ["a", "b"].length := by rintro ds S Q ⟨A, rows, n, q, rfl, h⟩; rfl
theorem p__law_reduced : ∀ ds S Q0, sp__law_reduced ds S Q0 → tb__law_reduced (frm sp__law_inverse) (bodyEnds Q0) (startD nm__law_reduced ds) S := by
  rintro ds S Q0 ⟨A, rows, n, q, rfl, gA, hq, hrows, hn, hrl, h⟩
  have q0 : 0 < q := by have := hq.lo; omega
  have q3 := hq.hi
  have hs := star_bas S
  refine seq_ fun N hN => ?_
  iterate 7 ((try conv => whnf); (try simp only [put_eq, seqD, lstD]))
  intro P hP
  have hs := hs.new hP (.dic (dicD []))
  have hs : Star ([bas S, cell P (.dic (dicD []))] ++ []) (S.put P (.dic [])) := hs
  generalize S.put P _ = S1 at hs
  refine hN _ _ ?_; clear hN N; refine seq_ fun N hN => ?_
  have gA1 := hs.sb _ _ gA
  iterate 7 ((try conv => whnf); (try simp only [gA1, put_eq, seqD, lstD]))
  refine forRun_map (f := rowD) (xs := rows) (fun pr e S' => ∃ (d3 d4 d5 d6 d7 d8 d9 d10 d11 d12 d13 : Option D) (bs : List BA) (L : List HP), e = [some (.loc A), some (.int q), some (.loc P), d3, d4, d5, d6, d7, d8, d9, d10, d11, d12, d13] ∧ RedS q n pr (bs.map (·.2)) ∧ Star ([bas S, cell P (.dic (dicD bs))] ++ L) S' ∧ CellsIn L bs) ?_ ?_ ⟨_, _, _, _, _, _, _, _, _, _, _, [], [], rfl, .nil, hs, fun _ h => by cases h⟩
  rotate_left
  · rintro e S2 ⟨d3, d4, d5, d6, d7, d8, d9, d10, d11, d12, d13, bs, L, rfl, hR, hs, hL⟩
    refine ⟨seqL (hs.sb _ _ gA), ?_⟩
    refine hN _ _ ?_; clear hN N
    iterate 7 ((try conv => whnf); (try simp only [put_eq, seqD, lstD]))
    exact ⟨_, Sb.refl _, h P bs S2 (hs.get [_]) (fun b hb => star_mem hs (List.mem_append_right _ (hL b hb))) hR fun y c e => hs.sb y c e⟩
  rintro pr row r e S2 N2 he ⟨d3, d4, d5, d6, d7, d8, d9, d10, d11, d12, d13, bs, L, rfl, hR, hs, hL⟩ hN2
  refine ⟨seqL (hs.sb _ _ gA), ?_⟩
  try clear hN
  have hrow := hrows row (by rw [he]; simp)
  have R := hR.ok hq
  have hnd : (bs.map fun b => b.2.1).Nodup := by
    have := R.nd
    rw [List.map_map] at this
    exact this
  have hbl : bs.length ≤ 100 := by
    have h1 : ∀ (rs : List (List Int)) (bp : List (Nat × List Int)), RedS q n rs bp → bp.length ≤ rs.length := fun rs bp h => by
      induction h with
      | nil => exact Nat.le_refl _
      | skip _ _ _ ih => rw [List.length_append]; omega
      | add _ _ _ _ _ ih => unfold addB; rw [List.length_append, List.length_append, List.length_map]; simp; omega
    have h2 := h1 _ _ hR
    rw [List.length_map] at h2
    have h3 := congrArg List.length he
    rw [List.length_append, List.length_cons] at h3
    omega
  have hprb : pr.length < 100 := by
    have h3 := congrArg List.length he
    rw [List.length_append, List.length_cons] at h3
    omega
  refine seq_ fun N hN => ?_
  iterate 7 ((try conv => whnf); (try simp only [put_eq, seqD, lstD]))
  intro R0 hR0
  have hs := hs.new hR0 (.lst (row.map D.int))
  generalize S2.put R0 _ = S3 at hs
  rw [List.append_assoc] at hs
  have hL2 : CellsIn (L ++ [cell R0 (.lst (row.map D.int))]) bs := hL.mono fun x hx => List.mem_append_left _ hx
  have hR0m : cell R0 (.lst (row.map D.int)) ∈ L ++ [cell R0 (.lst (row.map D.int))] := by simp
  generalize L ++ [cell R0 (.lst (row.map D.int))] = L1 at hs hL2 hR0m
  clear hL
  refine hN _ _ ?_; clear hN N; refine seq_ fun N hN => ?_
  have gP := hs.get [_]
  iterate 7 ((try conv => whnf); (try simp only [gP, put_eq, seqD, lstD]))
  intro K hK
  have ek : ((dicD bs).map fun kv => dKey kv.1) = bs.map fun b => D.int ((b.2.1 : Nat) : Int) := by unfold dicD; rw [List.map_map]; rfl
  rw [ek]
  have hs := hs.new hK (.lst (bs.map fun b => D.int ((b.2.1 : Nat) : Int)))
  generalize S3.put K _ = S4 at hs
  rw [List.append_assoc] at hs
  have hL3 : CellsIn (L1 ++ [cell K (.lst (bs.map fun b => D.int ((b.2.1 : Nat) : Int)))]) bs := hL2.mono fun x hx => List.mem_append_left _ hx
  have hR0m2 := List.mem_append_left [cell K (.lst (bs.map fun b => D.int ((b.2.1 : Nat) : Int)))] hR0m
  have hKm : cell K (.lst (bs.map fun b => D.int ((b.2.1 : Nat) : Int))) ∈ L1 ++ [cell K (.lst (bs.map fun b => D.int ((b.2.1 : Nat) : Int)))] := by simp
  generalize L1 ++ [cell K (.lst (bs.map fun b => D.int ((b.2.1 : Nat) : Int)))] = L2 at hs hL3 hR0m2 hKm
  clear hL2 hR0m
  have gK := star_mem hs (List.mem_append_right _ hKm)
  iterate 7 ((try conv => whnf); (try simp only [gK, put_eq, seqD, lstD]))
  refine forRun_map (f := fun b : BA => D.int ((b.2.1 : Nat) : Int)) (xs := bs) (fun pr2 e S' => ∃ (d5 d6 d10 d11 : Option D) (r' : List BA) (R1 : Addr) (cur : List Int) (L : List HP), e = [some (.loc A), some (.int q), some (.loc P), some (rowD row), some (.loc R1), d5, d6, d7, d8, d9, d10, d11, d12, d13] ∧ bs = pr2 ++ r' ∧ StI q n (bs.map (·.2)) row (pr2.map (·.2)) (r'.map (·.2)) cur ∧ Star ([bas S, cell P (.dic (dicD bs))] ++ L) S' ∧ CellsIn L bs ∧ cell R1 (.lst (cur.map D.int)) ∈ L ∧ cell K (.lst (bs.map fun b => D.int ((b.2.1 : Nat) : Int))) ∈ L) ?_ ?_ ⟨_, _, _, _, bs, R0, row, L2, rfl, rfl, StI.start hrow, hs, hL3, hR0m2, hKm⟩
  · rintro pr2 b r2 e S5 N3 he2 ⟨d5, d6, d10, d11, r', R1, cur, L, rfl, he3, hI, hs, hL, hR1, hK2⟩ hN3
    have gK := star_mem hs (List.mem_append_right _ hK2)
    refine ⟨seqL gK, ?_⟩
    try clear hN
    have er' : r' = b :: r2 := List.append_cancel_left (he3.symm.trans he2)
    subst er'
    have hb : b ∈ bs := by rw [he2]; simp
    have gR1 := star_mem hs (List.mem_append_right _ hR1)
    have gb := star_mem hs (List.mem_append_right _ (hL b hb))
    have gP := hs.get [_]
    have vb := val_dic bs b hnd hb
    have hpn : b.2.1 < n := R.lt b.2 (List.mem_map_of_mem (f := (·.2)) hb)
    have hbr : RowQ q n b.2.2 := R.row b.2 (List.mem_map_of_mem (f := (·.2)) hb)
    have hpc : b.2.1 < cur.length := by rw [hI.rq.len]; exact hpn
    have acur := at_int hpc
    have hcr := hI.rq.res _ (List.getElem_mem hpc)
    refine seq_ fun N hN => ?_
    iterate 7 ((try conv => whnf); (try simp only [gR1, put_eq, seqD, lstD]))
    iterate 7 ((try conv => whnf); (try simp only [acur, put_eq, seqD, lstD]))
    refine hN _ _ ?_; clear hN N
    iterate 7 ((try conv => whnf); (try simp only [gR1, gP, vb, gb, put_eq, seqD, lstD]))
    refine ⟨fun z => Bool.noConfusion z, ?_⟩
    rw [zipU]
    refine lc_pure (f := fun u : Int × Int => pairD (.int u.1) (.int u.2)) (g := fun u : Int × Int => D.int ((u.1 - cur[b.2.1] * u.2) % q)) ⟨by rw [gR1], by rw [gb]⟩ (fun u hu K3 hK3 => ?_) ?_
    · iterate 7 ((try conv => whnf); (try simp only [put_eq, seqD, lstD]))
      refine ⟨cmul_l (by omega), ?_⟩
      iterate 7 ((try conv => whnf); (try simp only [put_eq, seqD, lstD]))
      exact ⟨q0, hK3⟩
    rw [zip_map fun x y => (x - cur[b.2.1] * y) % q]
    have ee : List.zipWith (fun x y => (x - cur[b.2.1] * y) % q) cur b.2.2 = elimR q (at_ cur b.2.1) cur b.2.2 := by unfold elimR; rw [at_lt hpc]
    rw [ee]
    intro R2 hR2
    have hs := hs.new hR2 (.lst ((elimR q (at_ cur b.2.1) cur b.2.2).map D.int))
    rw [List.append_assoc] at hs
    refine ⟨_, Sb.refl _, hN3 _ _ ⟨_, _, _, _, r2, R2, elimR q (at_ cur b.2.1) cur b.2.2, _, rfl, by rw [List.append_assoc]; exact he2, ?_, hs, hL.mono fun x hx => List.mem_append_left _ hx, List.mem_append_right _ (List.mem_singleton.mpr rfl), List.mem_append_left _ hK2⟩⟩
    rw [List.map_append]
    exact StI.step (b := b.2) q0 R (by rw [he2, List.map_append, List.map_cons]) hI
  rintro e S5 ⟨d5, d6, d10, d11, r', R1, cur, L, rfl, he3, hI, hs, hL, hR1, hK2⟩
  have gK := star_mem hs (List.mem_append_right _ hK2)
  refine ⟨seqL gK, ?_⟩
  have er' : r' = [] := by
    have : bs ++ [] = bs ++ r' := by rw [List.append_nil]; exact he3
    exact (List.append_cancel_left this).symm
  subst er'
  have hI : StI q n (bs.map (·.2)) row (bs.map (·.2)) [] cur := hI
  have hcl := hI.rq.len
  have gR1 := star_mem hs (List.mem_append_right _ hR1)
  clear gK hK2 gP gA1 hKm hR0m2 hL3
  refine hN _ _ ?_; clear hN N; refine seq_ fun N hN => ?_
  iterate 7 ((try conv => whnf); (try simp only [gR1, put_eq, seqD, lstD]))
  rw [List.length_map]
  refine ⟨by omega, ?_⟩
  rw [Int.toNat_natCast, hcl]
  refine lc_filter (f := fun (k : Nat) => D.int (0 + (k : Int))) (b := fun k => !decide (at_ cur k = 0)) (g := fun (k : Nat) => D.int (k : Int)) trivial (fun k hk K3 K4 hK3 hK4 => ?_) ?_
  · have hk := List.mem_range.mp hk
    have hkc : k < cur.length := by omega
    have ak := at_int hkc
    have e0 : (0 + (k : Int)) = (k : Int) := by omega
    rw [e0]
    iterate 7 ((try conv => whnf); (try simp only [gR1, put_eq, seqD, lstD]))
    iterate 7 ((try conv => whnf); (try simp only [ak, put_eq, seqD, lstD]))
    have ed : decide (cur[k] = 0) = decide (at_ cur k = 0) := by rw [at_lt hkc]
    rw [ed]
    cases hz : decide (at_ cur k = 0) with
    | true => exact hK4 (by rw [hz]; rfl)
    | false => exact hK3 (by rw [hz]; rfl)
  generalize hpl : (List.range n).filter (fun k => !decide (at_ cur k = 0)) = pl
  have hplm : ∀ k ∈ pl, k < n ∧ at_ cur k ≠ 0 := fun k hk => by
    rw [← hpl] at hk
    have h1 := List.mem_filter.mp hk
    refine ⟨List.mem_range.mp h1.1, fun z => ?_⟩
    have h2 := h1.2
    rw [decide_eq_true z] at h2
    cases h2
  intro Z hZ
  have hs := hs.new hZ (.lst (pl.map fun (k : Nat) => D.int (k : Int)))
  generalize S5.put Z _ = S6 at hs
  rw [List.append_assoc] at hs
  have hL4 : CellsIn (L ++ [cell Z (.lst (pl.map fun (k : Nat) => D.int (k : Int)))]) bs := hL.mono fun x hx => List.mem_append_left _ hx
  have hR2m := List.mem_append_left [cell Z (.lst (pl.map fun (k : Nat) => D.int (k : Int)))] hR1
  have hZm : cell Z (.lst (pl.map fun (k : Nat) => D.int (k : Int))) ∈ L ++ [cell Z (.lst (pl.map fun (k : Nat) => D.int (k : Int)))] := by simp
  generalize L ++ [cell Z (.lst (pl.map fun (k : Nat) => D.int (k : Int)))] = L5 at hs hL4 hR2m hZm
  clear hL hR1 gR1
  refine hN _ _ ?_; clear hN N
  iterate 7 ((try conv => whnf); (try simp only [put_eq, seqD, lstD]))
  refine ⟨by decide, fun Y hY => ?_⟩
  have hs := hs.new hY (.lst [])
  generalize S6.put Y _ = S7 at hs
  rw [List.append_assoc] at hs
  have hL6 : CellsIn (L5 ++ [cell Y (.lst [])]) bs := hL4.mono fun x hx => List.mem_append_left _ hx
  have hR3m := List.mem_append_left [cell Y (.lst [])] hR2m
  have hZ2m := List.mem_append_left [cell Y (.lst [])] hZm
  have hYm : cell Y (.lst []) ∈ L5 ++ [cell Y (.lst [])] := by simp
  generalize L5 ++ [cell Y (.lst [])] = L7 at hs hL6 hR3m hZ2m hYm
  clear hL4 hR2m hZm
  have gZ := star_mem hs (List.mem_append_right _ hZ2m)
  have gY := star_mem hs (List.mem_append_right _ hYm)
  iterate 7 ((try conv => whnf); (try simp only [gZ, gY, put_eq, seqD, lstD]))
  refine ⟨⟨fun x hx => by obtain ⟨k, _, rfl⟩ := List.mem_map.mp hx; trivial, fun x hx => by cases hx⟩, ?_⟩
  rw [eqv_ints_nil]
  match hpe : pl with
  | [] =>
    iterate 7 ((try conv => whnf); (try simp only [put_eq, seqD, lstD]))
    refine ⟨_, Sb.refl _, hN2 _ _ ⟨_, _, _, _, _, _, _, _, _, _, _, bs, L7, rfl, hR.skip hI (fun j hj => ?_), hs, hL6⟩⟩
    cases hz : decide (at_ cur j = 0) with
    | true => exact of_decide_eq_true hz
    | false =>
      have : j ∈ (List.range n).filter (fun k => !decide (at_ cur k = 0)) := List.mem_filter.mpr ⟨List.mem_range.mpr hj, by rw [hz]; rfl⟩
      rw [hpl] at this
      cases this
  | p :: pl' =>
    obtain ⟨hpn, hpz⟩ := hplm p (by simp)
    have hpc : p < cur.length := by omega
    have hcr := hI.rq.res _ (List.getElem_mem hpc)
    have acur := at_int hpc
    have hpz2 : cur[p] ≠ 0 := by rw [← at_lt hpc]; exact hpz
    iterate 7 ((try conv => whnf); (try simp only [put_eq, seqD, lstD]))
    iterate 7 ((try conv => whnf); (try simp only [gZ, put_eq, seqD, lstD]))
    have ap : atI ((p :: pl').map fun (k : Nat) => D.int (k : Int)) 0 = some (.int (p : Nat)) := by
      show atI (D.int (p : Nat) :: _) 0 = _
      exact atI_0
    have gR1 := star_mem hs (List.mem_append_right _ hR3m)
    rw [ap]
    refine seq_ fun N hN => ?_
    iterate 7 ((try conv => whnf); (try simp only [gR1, put_eq, seqD, lstD]))
    iterate 7 ((try conv => whnf); (try simp only [acur, put_eq, seqD, lstD]))
    refine frm_of ⟨cur[p], q, rfl, hq, by omega, hcr.2, fun sc sc0 sc1 hsc => ?_⟩
    refine hN _ _ ?_; clear hN N; refine seq_ fun N hN => ?_
    iterate 7 ((try conv => whnf); (try simp only [gR1, put_eq, seqD, lstD]))
    refine lc_pure (f := D.int) (g := fun x => D.int (x * sc % q)) (seqL gR1) (fun x hx K3 hK3 => ?_) ?_
    · have hxr := hI.rq.res x hx
      iterate 7 ((try conv => whnf); (try simp only [put_eq, seqD, lstD]))
      refine ⟨cmul_l (by omega), ?_⟩
      iterate 7 ((try conv => whnf); (try simp only [put_eq, seqD, lstD]))
      exact ⟨q0, hK3⟩
    have en : (cur.map fun x => D.int (x * sc % q)) = (normR q sc cur).map D.int := by unfold normR; rw [List.map_map]; rfl
    rw [en]
    have hsc2 : at_ cur p * sc % q = 1 := by rw [at_lt hpc]; exact hsc
    have hnrow := norm_row (s := sc) q0 hcl
    obtain ⟨hRN, hpnew⟩ := addB_ok hq R hI hpn hpz hsc2
    have hSN := hR.add hI hpn hpz hsc2
    generalize normR q sc cur = nr at hnrow hRN hSN
    intro R3 hR3
    have hs := hs.new hR3 (.lst (nr.map D.int))
    generalize S7.put R3 _ = S8 at hs
    rw [List.append_assoc] at hs
    have hL8 : CellsIn (L7 ++ [cell R3 (.lst (nr.map D.int))]) bs := hL6.mono fun x hx => List.mem_append_left _ hx
    have hNm : cell R3 (.lst (nr.map D.int)) ∈ L7 ++ [cell R3 (.lst (nr.map D.int))] := by simp
    generalize L7 ++ [cell R3 (.lst (nr.map D.int))] = L9 at hs hL8 hNm
    clear hL6 hR3m hZ2m hYm gR1 gZ gY
    refine hN _ _ ?_; clear hN N; refine seq_ fun N hN => ?_
    have gP := hs.get [_]
    iterate 7 ((try conv => whnf); (try simp only [gP, put_eq, seqD, lstD]))
    intro K2 hK2
    rw [ek]
    have hs := hs.new hK2 (.lst (bs.map fun b => D.int ((b.2.1 : Nat) : Int)))
    generalize S8.put K2 _ = S9 at hs
    rw [List.append_assoc] at hs
    have hL10 : CellsIn (L9 ++ [cell K2 (.lst (bs.map fun b => D.int ((b.2.1 : Nat) : Int)))]) bs := hL8.mono fun x hx => List.mem_append_left _ hx
    have hN2m := List.mem_append_left [cell K2 (.lst (bs.map fun b => D.int ((b.2.1 : Nat) : Int)))] hNm
    have hK2m : cell K2 (.lst (bs.map fun b => D.int ((b.2.1 : Nat) : Int))) ∈ L9 ++ [cell K2 (.lst (bs.map fun b => D.int ((b.2.1 : Nat) : Int)))] := by simp
    generalize L9 ++ [cell K2 (.lst (bs.map fun b => D.int ((b.2.1 : Nat) : Int)))] = L11 at hs hL10 hN2m hK2m
    clear hL8 hNm gP
    have gK2 := star_mem hs (List.mem_append_right _ hK2m)
    iterate 7 ((try conv => whnf); (try simp only [gK2, put_eq, seqD, lstD]))
    refine forRun_map (f := fun b : BA => D.int ((b.2.1 : Nat) : Int)) (xs := bs) (fun pr2 e S' => ∃ (d5 d6 d10 d11 : Option D) (prN r' : List BA) (L : List HP), e = [some (.loc A), some (.int q), some (.loc P), some (rowD row), some (.loc R3), d5, d6, some (.loc Z), some (.int (p : Nat)), some (.int sc), d10, d11, d12, d13] ∧ bs = pr2 ++ r' ∧ prN.map (·.2) = pr2.map (fun b => (b.2.1, elimR q (at_ b.2.2 p) b.2.2 nr)) ∧ Star ([bas S, cell P (.dic (dicD (prN ++ r')))] ++ L) S' ∧ CellsIn L (prN ++ r') ∧ cell R3 (.lst (nr.map D.int)) ∈ L ∧ cell K2 (.lst (bs.map fun b => D.int ((b.2.1 : Nat) : Int))) ∈ L) ?_ ?_ ⟨_, _, _, _, [], bs, L11, rfl, rfl, rfl, hs, hL10, hN2m, hK2m⟩
    · rintro pr2 b r2 e S10 N3 he2 ⟨d5, d6, d10, d11, prN, r', L, rfl, he3, hpN, hs, hL, hR3m, hK2⟩ hN3
      have gK := star_mem hs (List.mem_append_right _ hK2)
      refine ⟨seqL gK, ?_⟩
      try clear hN
      have er' : r' = b :: r2 := List.append_cancel_left (he3.symm.trans he2)
      subst er'
      have hb : b ∈ bs := by rw [he2]; simp
      have hbN : b ∈ prN ++ b :: r2 := by simp
      have gR3 := star_mem hs (List.mem_append_right _ hR3m)
      have gb := star_mem hs (List.mem_append_right _ (hL b hbN))
      have gP := hs.get [_]
      have epv : prN.map (fun b => b.2.1) = pr2.map (fun b => b.2.1) := by
        have := congrArg (List.map Prod.fst) hpN
        rw [List.map_map, List.map_map] at this
        exact this
      have hndN : ((prN ++ b :: r2).map fun b => b.2.1).Nodup := by
        rw [List.map_append, epv, ← List.map_append, ← he2]; exact hnd
      have vb := val_dic (prN ++ b :: r2) b hndN hbN
      have hbr : RowQ q n b.2.2 := R.row b.2 (List.mem_map_of_mem (f := (·.2)) hb)
      have hpb : p < b.2.2.length := by rw [hbr.len]; exact hpn
      have ab := at_int hpb
      have hbres := hbr.res _ (List.getElem_mem hpb)
      refine seq_ fun N hN => ?_
      iterate 7 ((try conv => whnf); (try simp only [gP, vb, put_eq, seqD, lstD]))
      iterate 7 ((try conv => whnf); (try simp only [gb, put_eq, seqD, lstD]))
      iterate 7 ((try conv => whnf); (try simp only [ab, put_eq, seqD, lstD]))
      refine hN _ _ ?_; clear hN N
      iterate 7 ((try conv => whnf); (try simp only [gP, vb, gb, gR3, put_eq, seqD, lstD]))
      refine ⟨fun z => Bool.noConfusion z, ?_⟩
      rw [zipU]
      refine lc_pure (f := fun u : Int × Int => pairD (.int u.1) (.int u.2)) (g := fun u : Int × Int => D.int ((u.1 - b.2.2[p] * u.2) % q)) ⟨by rw [gb], by rw [gR3]⟩ (fun u hu K3 hK3 => ?_) ?_
      · iterate 7 ((try conv => whnf); (try simp only [put_eq, seqD, lstD]))
        refine ⟨cmul_l (by omega), ?_⟩
        iterate 7 ((try conv => whnf); (try simp only [put_eq, seqD, lstD]))
        exact ⟨q0, hK3⟩
      rw [zip_map fun x y => (x - b.2.2[p] * y) % q]
      have ee : List.zipWith (fun x y => (x - b.2.2[p] * y) % q) b.2.2 nr = elimR q (at_ b.2.2 p) b.2.2 nr := by unfold elimR; rw [at_lt hpb]
      rw [ee]
      intro N4 hN4
      have hs := hs.new hN4 (.lst ((elimR q (at_ b.2.2 p) b.2.2 nr).map D.int))
      generalize S10.put N4 _ = S11 at hs
      rw [List.append_assoc] at hs
      have gP := hs.get [_]
      have hdl : (dicD (prN ++ b :: r2)).length < sizeLine := by
        unfold dicD
        have h1 := congrArg List.length epv
        rw [List.length_map, List.length_map] at h1
        have h2 := congrArg List.length he2
        rw [List.length_append, List.length_cons] at h2
        rw [List.length_map, List.length_append, List.length_cons, sizeLine_eq]
        omega
      iterate 7 ((try conv => whnf); (try simp only [gP, put_eq, seqD, lstD]))
      refine ⟨hdl, ?_⟩
      rw [put_old (row := elimR q (at_ b.2.2 p) b.2.2 nr) hndN]
      have hs := hs.put (c' := .dic (dicD (prN ++ (N4, b.2.1, elimR q (at_ b.2.2 p) b.2.2 nr) :: r2))) [_]
      refine ⟨_, Sb.refl _, hN3 _ _ ⟨_, _, _, _, prN ++ [(N4, b.2.1, elimR q (at_ b.2.2 p) b.2.2 nr)], r2, L ++ [cell N4 (.lst ((elimR q (at_ b.2.2 p) b.2.2 nr).map D.int))], rfl, by rw [List.append_assoc]; exact he2, ?_, ?_, ?_, List.mem_append_left _ hR3m, List.mem_append_left _ hK2⟩⟩
      · rw [List.map_append, List.map_append, hpN]; rfl
      · rw [List.append_assoc]; exact hs
      · intro c hc
        rw [List.append_assoc] at hc
        rcases List.mem_append.mp hc with hc | hc
        · exact List.mem_append_left _ (hL c (List.mem_append_left _ hc))
        · rcases List.mem_cons.mp hc with rfl | hc
          · exact List.mem_append_right _ (List.mem_singleton.mpr rfl)
          · exact List.mem_append_left _ (hL c (List.mem_append_right _ (List.mem_cons_of_mem _ hc)))
    · rintro e S10 ⟨d5, d6, d10, d11, prN, r', L, rfl, he3, hpN, hs, hL, hR3m, hK2⟩
      have gK := star_mem hs (List.mem_append_right _ hK2)
      refine ⟨seqL gK, ?_⟩
      have er' : r' = [] := by
        have : bs ++ [] = bs ++ r' := by rw [List.append_nil]; exact he3
        exact (List.append_cancel_left this).symm
      subst er'
      rw [List.append_nil] at hs hL
      have epv : prN.map (fun b => b.2.1) = bs.map (fun b => b.2.1) := by
        have := congrArg (List.map Prod.fst) hpN
        rw [List.map_map, List.map_map] at this
        exact this
      have hpN2 : p ∉ prN.map fun b => b.2.1 := by
        rw [epv]
        intro z
        apply hpnew
        rw [List.map_map]
        exact z
      have gP := hs.get [_]
      have hdl : (dicD prN).length < sizeLine := by
        unfold dicD
        have h1 := congrArg List.length epv
        rw [List.length_map, List.length_map] at h1
        rw [List.length_map, sizeLine_eq]
        omega
      refine hN _ _ ?_; clear hN N
      iterate 7 ((try conv => whnf); (try simp only [gP, put_eq, seqD, lstD]))
      refine ⟨hdl, ?_⟩
      rw [put_new (row := nr) hpN2]
      have hs := hs.put (c' := .dic (dicD (prN ++ [(R3, p, nr)]))) [_]
      refine ⟨_, Sb.refl _, hN2 _ _ ⟨_, _, _, _, _, _, _, _, _, _, _, prN ++ [(R3, p, nr)], L, rfl, ?_, hs, ?_⟩⟩
      · rw [List.map_append, hpN]
        have e1 : addB q p nr (bs.map (·.2)) = bs.map (fun b => (b.2.1, elimR q (at_ b.2.2 p) b.2.2 nr)) ++ [(p, nr)] := by unfold addB; rw [List.map_map]; rfl
        rw [← show addB q p nr (bs.map (·.2)) = bs.map (fun b => (b.2.1, elimR q (at_ b.2.2 p) b.2.2 nr)) ++ List.map (·.2) [(R3, p, nr)] from e1]
        exact hSN
      · intro c hc
        rcases List.mem_append.mp hc with hc | hc
        · exact hL c hc
        · rw [List.mem_singleton.mp hc]; exact hR3m

theorem sub_eq {c d : List Int} (hc : c.Pairwise (· < ·)) (hd : d.Pairwise (· < ·)) (h : ∀ x ∈ c, x ∈ d) (hl : d.length ≤ c.length) : c = d := by
  refine asc_ext hc hd fun z => ⟨h z, fun hz => ?_⟩
  by_cases hzc : z ∈ c
  · exact hzc
  · have hnd : (z :: c).Nodup := List.nodup_cons.mpr ⟨hzc, hc.imp fun h => by omega⟩
    have := hnd.length_le_of_subset (l₂ := d) fun x hx => by
      rcases List.mem_cons.mp hx with rfl | hx
      · exact hz
      · exact h x hx
    rw [List.length_cons] at this
    omega
def subB (c d : List Int) : Bool := c.all fun x => decide (x ∈ d)
theorem subB_iff {c d : List Int} : subB c d = true ↔ ∀ x ∈ c, x ∈ d := by
  unfold subB
  rw [List.all_eq_true]
  exact ⟨fun h x hx => of_decide_eq_true (h x hx), fun h x hx => decide_eq_true (h x hx)⟩
def ind (b : Bool) : Int := if b = true then 1 else 0
def rowI (cs : List (List Int)) (d : List Int) : List Int := cs.map fun c => ind (subB c d)
theorem rowI_row {q : Int} (h2 : 2 ≤ q) (cs : List (List Int)) (d : List Int) : RowQ q cs.length (rowI cs d) := ⟨by unfold rowI; rw [List.length_map], fun x hx => by
  obtain ⟨c, _, rfl⟩ := List.mem_map.mp hx
  unfold ind
  split <;> omega⟩
theorem at_rowI {cs : List (List Int)} {d : List Int} {t : Nat} (h : t < cs.length) : at_ (rowI cs d) t = ind (subB cs[t] d) := by
  rw [at_lt (by unfold rowI; rw [List.length_map]; exact h)]
  simp only [rowI, List.getElem_map]
theorem indep {q : Int} {m : Nat} {cs : List (List Int)} (hq : Prm q) (sh : ShOk m cs) {pre post : List (List Int)} {r : List Int} (e : cs.map (rowI cs) = pre ++ r :: post) : ¬ InSp q pre r := by
  rintro ⟨w, hw⟩
  have h2 := hq.lo
  have hlen := congrArg List.length e
  rw [List.length_map, List.length_append, List.length_cons] at hlen
  have hi : pre.length < cs.length := by omega
  have er : r = rowI cs cs[pre.length] := by
    have h1 : (cs.map (rowI cs))[pre.length]? = some r := by rw [e]; simp
    rw [List.getElem?_map, List.getElem?_eq_getElem hi] at h1
    exact (Option.some.inj h1).symm
  have ep : ∀ j, (hj : j < pre.length) → ∀ t, RR pre j t = at_ (rowI cs (cs[j]'(by omega))) t := fun j hj t => by
    have h1 : (cs.map (rowI cs))[j]? = some pre[j] := by rw [e, List.getElem?_append_left hj, List.getElem?_eq_getElem hj]
    rw [List.getElem?_map, List.getElem?_eq_getElem (show j < cs.length by omega)] at h1
    have h3 := Option.some.inj h1
    unfold RR
    rw [List.getD_eq_getElem?_getD, List.getElem?_eq_getElem hj]
    show at_ pre[j] t = _
    rw [← h3]
  have asc : ∀ j, (hj : j < cs.length) → (cs[j]).Pairwise (· < ·) := fun j hj => (sh.co _ (List.getElem_mem hj)).asc
  have inj : ∀ j k, (hj : j < cs.length) → (hk : k < cs.length) → cs[j] = cs[k] → j = k := fun j k hj hk h => (List.getElem_inj sh.nd).mp h
  have heq : ∀ t, (ht : t < cs.length) → zq q (ind (subB cs[t] cs[pre.length])) = sumL (List.range pre.length) fun j => w j * zq q (if hj : j < cs.length then ind (subB cs[t] cs[j]) else 0) := fun t ht => by
    have h1 := hw t
    rw [er, at_rowI ht] at h1
    rw [h1]
    unfold wS
    refine sumL_congr fun j hj => ?_
    have hj := List.mem_range.mp hj
    rw [ep j hj t, at_rowI ht, dif_pos (show j < cs.length by omega)]
  have z1 : zq q (ind true) = 1 := rfl
  have z0 : zq q (ind false) = 0 := rfl
  have key : ∀ k l, l + k = 3 → (cs[pre.length]).length ≤ l → ∀ j, (hj : j < pre.length) → l ≤ (cs[j]'(by omega)).length → w j = 0 := by
    intro k
    induction k with
    | zero =>
      intro l hl hil j hj hjl
      have hjc : j < cs.length := by omega
      have h1 := heq j hjc
      have hj3 := (sh.co _ (List.getElem_mem hjc)).len
      have n1 : subB cs[j] cs[pre.length] = false := by
        cases hb : subB cs[j] cs[pre.length] with
        | false => rfl
        | true =>
          have := inj _ _ hjc hi (sub_eq (asc j hjc) (asc _ hi) (subB_iff.mp hb) (by omega))
          omega
      rw [n1, z0] at h1
      have h3 : sumL (List.range pre.length) (fun k => w k * zq q (if hk : k < cs.length then ind (subB cs[j] cs[k]) else 0)) = sumL (List.range pre.length) fun k => if k = j then w k else 0 := sumL_congr fun k hk => by
        have hk := List.mem_range.mp hk
        have hkc : k < cs.length := by omega
        rw [dif_pos hkc]
        by_cases hkj : k = j
        · subst hkj
          rw [if_pos rfl, subB_iff.mpr fun x hx => hx, z1]; grind
        · have n2 : subB cs[j] cs[k] = false := by
            cases hb : subB cs[j] cs[k] with
            | false => rfl
            | true =>
              have hk3 := (sh.co _ (List.getElem_mem hkc)).len
              exact absurd (inj _ _ hjc hkc (sub_eq (asc j hjc) (asc k hkc) (subB_iff.mp hb) (by omega))).symm hkj
          rw [if_neg hkj, n2, z0]; grind
      rw [h3, sumL_delta (fun k => w k) hj] at h1
      exact h1.symm
    | succ k ih =>
      intro l hl hil j hj hjl
      have hjc : j < cs.length := by omega
      by_cases hbig : l + 1 ≤ (cs[j]).length
      · exact ih (l + 1) (by omega) (by omega) j hj hbig
      have h1 := heq j hjc
      have n1 : subB cs[j] cs[pre.length] = false := by
        cases hb : subB cs[j] cs[pre.length] with
        | false => rfl
        | true =>
          have := inj _ _ hjc hi (sub_eq (asc j hjc) (asc _ hi) (subB_iff.mp hb) (by omega))
          omega
      rw [n1, z0] at h1
      have h3 : sumL (List.range pre.length) (fun k => w k * zq q (if hk : k < cs.length then ind (subB cs[j] cs[k]) else 0)) = sumL (List.range pre.length) fun k => if k = j then w k else 0 := sumL_congr fun k hk => by
        have hk := List.mem_range.mp hk
        have hkc : k < cs.length := by omega
        rw [dif_pos hkc]
        by_cases hkj : k = j
        · subst hkj
          rw [if_pos rfl, subB_iff.mpr fun x hx => hx, z1]; grind
        · rw [if_neg hkj]
          by_cases hkl : l + 1 ≤ (cs[k]).length
          · rw [ih (l + 1) (by omega) (by omega) k hk hkl]; grind
          · have n2 : subB cs[j] cs[k] = false := by
              cases hb : subB cs[j] cs[k] with
              | false => rfl
              | true => exact absurd (inj _ _ hjc hkc (sub_eq (asc j hjc) (asc k hkc) (subB_iff.mp hb) (by omega))).symm hkj
            rw [n2, z0]; grind
      rw [h3, sumL_delta (fun k => w k) hj] at h1
      exact h1.symm
  have h1 := heq pre.length hi
  have hi3 := (sh.co _ (List.getElem_mem hi)).len
  rw [subB_iff.mpr fun x hx => hx, z1, sumL_zero fun j hj => by
    have hj := List.mem_range.mp hj
    have hjc : j < cs.length := by omega
    rw [dif_pos hjc]
    cases hb : subB cs[pre.length] cs[j] with
    | false => rw [z0]; grind
    | true =>
      have hsub := subB_iff.mp hb
      have hnd : (cs[pre.length]).Nodup := (asc _ hi).imp fun h => by omega
      have := hnd.length_le_of_subset hsub
      rw [key (3 - (cs[pre.length]).length) (cs[pre.length]).length (by omega) (Nat.le_refl _) j hj this]; grind] at h1
  have := zq_inj (q := q) (a := 1) (b := 0) h1 (by omega) (by omega) (by omega) (by omega)
  omega
def sp__law_row : SpD := fun ds S Q => ∃ (m : Nat) (cs : List (List Int)) (d : List Int) (q : Int), ds = [shD m cs, rowD (ptR m d), .int q] ∧ (2 ≤ q ∧ q ≤ 101) ∧ ShOk m cs ∧ ∀ S', Sb S S' → Q (rowD (rowI cs d)) S'
theorem len__law_row : ∀ ds S Q, sp__law_row ds S Q → ds.length = ["a", "b", "c"].length := by rintro ds S Q ⟨m, cs, d, q, rfl, h⟩; rfl
theorem ind_mul (a b : Bool) : ind a * ind b = ind (a && b) := by cases a <;> cases b <;> rfl
theorem p__law_row : ∀ ds S Q0, sp__law_row ds S Q0 → tb__law_row (bodyEnds Q0) (startD nm__law_row ds) S := by
  rintro ds S Q0 ⟨m, cs, d, q, rfl, hq, sh, h⟩
  have l1 := sh.l1
  have hs := star_bas S
  refine seq_ fun N hN => ?_
  iterate 7 ((try conv => whnf); (try simp only [put_eq, seqD, lstD]))
  refine ⟨by decide, fun A hA => ?_⟩
  have hs := hs.new hA (.lst (([] : List Int).map D.int))
  have hs : Star [bas S, cell A (.lst (([] : List Int).map D.int))] (S.put A (.lst [])) := hs
  refine hN _ _ ?_
  clear hN N
  generalize S.put A (.lst []) = S1 at hs
  refine seq_ fun N hN => ?_
  iterate 7 ((try conv => whnf); (try simp only [atI_1, put_eq, seqD, lstD]))
  refine forRun_map (f := rowD) (xs := cs) (fun pr e S' => ∃ (d4 d5 d6 : Option D), e = [some (shD m cs), some (rowD (ptR m d)), some (.int q), some (.loc A), d4, d5, d6] ∧ Star [bas S, cell A (.lst ((rowI pr d).map D.int))] S') ?_ ?_ ⟨_, _, _, rfl, hs⟩
  · rintro pr c r e S' N2 he ⟨d4, d5, d6, rfl, hs⟩ hN2
    have hcm : c ∈ cs := by rw [he]; simp
    have hco := sh.co _ hcm
    refine ⟨rfl, ?_⟩
    try clear hN
    refine seq_ fun N hN => ?_
    iterate 7 ((try conv => whnf); (try simp only [put_eq, seqD, lstD]))
    refine hN _ _ ?_; clear hN N; refine seq_ fun N hN => ?_
    iterate 7 ((try conv => whnf); (try simp only [put_eq, seqD, lstD]))
    refine forRun_map (f := D.int) (xs := c) (fun pr2 e S2 => (∃ d6 : Option D, e = [some (shD m cs), some (rowD (ptR m d)), some (.int q), some (.loc A), some (rowD c), some (.int (ind (subB pr2 d))), d6]) ∧ S2 = S') ?_ ?_ ⟨⟨_, rfl⟩, rfl⟩
    · rintro pr2 x r2 e S2 N3 he2 ⟨⟨d6, rfl⟩, rfl⟩ hN3
      refine ⟨trivial, ?_⟩
      have hx := hco.rng x (by rw [he2]; simp)
      obtain ⟨i, rfl⟩ : ∃ n : Nat, x = (n : Int) := ⟨x.toNat, by omega⟩
      have him : i < m := by omega
      have hi : i < (ptR m d).length := by unfold ptR; simp [him]
      have au := at_int hi
      have ev : (ptR m d)[i] = ind (decide ((i : Int) ∈ d)) := by
        rw [← at_lt hi, at_pt him]
        rfl
      rw [ev] at au
      have hb : 0 ≤ ind (subB pr2 d) ∧ ind (subB pr2 d) ≤ 1 := by unfold ind; split <;> omega
      iterate 7 ((try conv => whnf); (try simp only [au, put_eq, seqD, lstD]))
      refine ⟨cmul_l (by omega), ?_⟩
      rw [ind_mul]
      refine ⟨_, Sb.refl _, hN3 _ _ ⟨⟨some (.int (i : Nat)), ?_⟩, rfl⟩⟩
      have es : subB (pr2 ++ [(i : Int)]) d = (subB pr2 d && decide ((i : Int) ∈ d)) := by unfold subB; rw [List.all_append]; simp
      rw [es]; rfl
    · rintro e S2 ⟨⟨d6, rfl⟩, rfl⟩
      refine ⟨trivial, ?_⟩
      have gA := hs.get [_]
      have hb : 0 ≤ ind (subB c d) ∧ ind (subB c d) ≤ 1 := by unfold ind; split <;> omega
      refine hN _ _ ?_; clear hN N
      iterate 7 ((try conv => whnf); (try simp only [gA, put_eq, seqD, lstD]))
      refine ⟨by omega, ?_⟩
      have hle : pr.length < 8 := by
        have e := congrArg List.length he
        rw [List.length_append, List.length_cons] at e
        omega
      refine ⟨by unfold rowI; rw [List.length_map, List.length_map, sizeLine_eq]; omega, ?_⟩
      rw [Int.emod_eq_of_lt hb.1 (by omega)]
      refine ⟨_, Sb.refl _, hN2 _ _ ⟨_, _, _, rfl, ?_⟩⟩
      unfold rowI
      rw [List.map_append, List.map_append]
      exact hs.put [_]
  · rintro e S' ⟨d4, d5, d6, rfl, hs⟩
    refine ⟨rfl, ?_⟩
    have gA := hs.get [_]
    refine hN _ _ ?_; clear hN N
    iterate 7 ((try conv => whnf); (try simp only [gA, put_eq, seqD, lstD]))
    exact ⟨_, Sb.refl _, h _ fun y c e => hs.sb y c e⟩

theorem env11 {t : List (Option D)} (h : t.length = 11) : ∃ a2 a3 a4 a5 a6 a7 a8 a9 a10 a11 a12, t = [a2, a3, a4, a5, a6, a7, a8, a9, a10, a11, a12] := by
  match t, h with
  | [a2, a3, a4, a5, a6, a7, a8, a9, a10, a11, a12], _ => exact ⟨a2, a3, a4, a5, a6, a7, a8, a9, a10, a11, a12, rfl⟩
theorem eqvAll_fine {xs : List D} (h : ∀ x ∈ xs, fine 49 x) : PyData.eqvAll (toPys xs) (toPys xs) = true := eqv_fine (n := 50) (d := .tup xs) h
theorem quest_down {q : Int} {m n j : Nat} {c : List Int} (h2 : 2 ≤ q) (hj : j < n) : quest q ⟨0, List.replicate m [], List.replicate n (ptR m c), []⟩ j [] = ptR m c := by
  have eo : (List.replicate n (ptR m c)).getD j [] = ptR m c := by
    rw [List.getD_eq_getElem?_getD, List.getElem?_replicate, if_pos hj]
    rfl
  have hp := ptR_row (q := q) m c h2
  unfold quest
  show (((List.replicate m ([] : List Int)).zip ((List.replicate n (ptR m c)).getD j [])).map fun u => (u.2 + dotZ u.1 []) % q) = _
  rw [eo]
  apply List.ext_getElem
  · rw [List.length_map, List.length_zip, hp.len]; simp
  · intro i h1 h3
    have hr := hp.res _ (List.getElem_mem h3)
    simp only [List.getElem_map, List.getElem_zip, List.getElem_replicate]
    have e0 : dotZ ([] : List Int) [] = 0 := rfl
    rw [e0, Int.add_zero, Int.emod_eq_of_lt hr.1 hr.2]
theorem p_law (C : Addr) : ∀ ds S Q0, sp_law ds S Q0 → tb_law C (frm sp__law_pen) (frm sp__law_prime) (frm sp__law_shape) (frm sp__law_draw) (frm (sp_download C)) (frm (sp_Scheme___len__ C)) (frm (sp_Scheme_question C)) (frm sp__law_point) (frm sp__law_row) (frm (sp_Scheme_seen_by C)) (frm sp__law_reduced) (bodyEnds Q0) (startD nm_law ds) S := by
  rintro ds S Q0 ⟨ns, rfl, hns, hQ⟩
  refine seq_ fun N hN => ?_
  iterate 7 ((try conv => whnf); (try simp only [put_eq, seqD, lstD]))
  refine use_pen fun p pq S1 hs => ?_
  refine hN _ _ ?_; clear hN N; refine seq_ fun N hN => ?_
  iterate 7 ((try conv => whnf); (try simp only [put_eq, seqD, lstD]))
  refine ⟨by decide, ?_⟩
  refine forRun_rng (fun i e S => ∃ t, e = some (.rol (ns.map D.int)) :: some (.loc p) :: t ∧ t.length = 11 ∧ Star [penH p pq] S) ?_ ?_ ⟨_, rfl, rfl, hs⟩
  rotate_left
  · rintro e S ⟨t, rfl, ht, hs⟩
    refine ⟨trivial, ?_⟩
    refine hN _ _ ?_; clear hN N
    iterate 7 ((try conv => whnf); (try simp only [put_eq, seqD, lstD]))
    exact ⟨_, Sb.refl _, hQ _⟩
  rintro i e S N' hi ⟨t, rfl, ht, hs⟩ hN'
  refine ⟨trivial, ?_⟩
  obtain ⟨a2, a3, a4, a5, a6, a7, a8, a9, a10, a11, a12, rfl⟩ := env11 ht
  clear ht hN
  refine seq_ fun N hN => ?_
  iterate 7 ((try conv => whnf); (try simp only [put_eq, seqD, lstD]))
  refine use_prime [] hs fun q S2 hq hs => ?_
  have q2 := hq.lo
  have q3 := hq.hi
  iterate 7 ((try conv => whnf); (try simp only [put_eq, seqD, lstD]))
  refine use_shape [] hs (by decide) fun m cs S3 sh hs => ?_
  have l0 := sh.l0
  have l1 := sh.l1
  have m1 := sh.m1
  iterate 7 ((try conv => whnf); (try simp only [put_eq, seqD, lstD]))
  refine use_draw [] hs (by decide) fun d0 S4 d1 d2 hs => ?_
  obtain ⟨sv, hsv⟩ : ∃ n : Nat, (1 + d0 : Int) = (n : Int) := ⟨(1 + d0).toNat, by omega⟩
  iterate 7 ((try conv => whnf); (try simp only [put_eq, seqD, lstD]))
  rw [hsv]
  refine ⟨by show 3 ≤ 1000; decide, ?_⟩
  refine hN _ _ ?_; clear hN N; refine seq_ fun N hN => ?_
  iterate 7 ((try conv => whnf); (try simp only [put_eq, seqD, lstD]))
  refine use_download hs hq sh (by omega) fun z S5 hs => ?_
  have hs : Star [penH p pq, cell z (.ins C (schF (downT q m cs sv)))] S5 := hs
  have okT := downT_ok hq sh (show 1 ≤ sv by omega) (show sv ≤ 6 by omega)
  have epl : (downT q m cs sv).ps.length = cs.length := by
    show ((cs.map (ptR m)).map _).length = _
    rw [List.length_map, List.length_map]
  have gz : S5 z = some (.ins C [("q", .int q), ("shape", shD m cs), ("servers", .int (sv : Nat)), ("coins", .int 0), ("masks", .int 0), ("parts", .tup ((downT q m cs sv).ps.map partD))]) := hs.get [_]
  refine hN _ _ ?_; clear hN N; refine seq_ fun N hN => ?_
  iterate 7 ((try conv => whnf); (try simp only [atI_1, put_eq, seqD, lstD]))
  rw [List.length_map]
  refine hN _ _ ?_; clear hN N; refine seq_ fun N hN => ?_
  iterate 7 ((try conv => whnf); (try simp only [gz, put_eq, seqD, lstD]))
  refine ⟨trivial, ?_⟩
  iterate 7 ((try conv => whnf); (try simp only [gz, put_eq, seqD, lstD]))
  refine ⟨trivial, ?_⟩
  iterate 7 ((try conv => whnf); (try simp only [gz, put_eq, seqD, lstD]))
  refine ⟨trivial, ?_⟩
  iterate 7 ((try conv => whnf); (try simp only [gz, put_eq, seqD, lstD]))
  refine ⟨trivial, ?_⟩
  iterate 7 ((try conv => whnf); (try simp only [gz, put_eq, seqD, lstD]))
  refine ⟨trivial, ?_⟩
  iterate 7 ((try conv => whnf); (try simp only [put_eq, seqD, lstD]))
  refine ⟨by show 5 ≤ 1000; decide, ?_⟩
  iterate 7 ((try conv => whnf); (try simp only [put_eq, seqD, lstD]))
  refine ⟨by show 5 ≤ 1000; decide, ?_⟩
  have f1 : fine 50 (.tup [D.int q, shD m cs, .int (sv : Nat), .int 0, .int 0]) := fun x hx => by
    have : x = .int q ∨ x = shD m cs ∨ x = .int (sv : Nat) ∨ x = .int 0 := by simpa using hx
    rcases this with rfl | rfl | rfl | rfl
    · trivial
    · exact fine_sh 46 _ _
    · trivial
    · trivial
  refine ⟨⟨f1, f1⟩, ?_⟩
  have e1 := eqv_fine f1
  rw [e1]
  refine hN _ _ ?_; clear hN N; refine seq_ fun N hN => ?_
  iterate 7 ((try conv => whnf); (try simp only [gz, put_eq, seqD, lstD]))
  refine ⟨trivial, ?_⟩
  refine frm_of ⟨z, downT q m cs sv, rfl, hs.get [_], ?_⟩
  rw [epl]
  refine ⟨by omega, ?_⟩
  have ecc : decide (((cs.length : Nat) : Int) = ((cs.length : Nat) : Int)) = true := by simp
  iterate 7 ((try conv => whnf); (try simp only [ecc, put_eq, seqD, lstD]))
  iterate 7 ((try conv => whnf); (try simp only [gz, put_eq, seqD, lstD]))
  refine ⟨trivial, ?_⟩
  refine lc_pure (f := partD) (g := fun _ => D.int 0) rfl (fun pt hpt K hK => ?_) ?_
  · obtain ⟨x, hx, rfl⟩ := List.mem_map.mp hpt
    iterate 7 ((try conv => whnf); (try simp only [atI_0, put_eq, seqD, lstD]))
    exact hK
  have e00 : ((downT q m cs sv).ps.map fun _ => D.int 0) = (List.replicate cs.length (0 : Int)).map D.int := by
    rw [← epl]
    apply List.ext_getElem
    · simp
    · intro i h1 h2
      simp
  rw [e00]
  intro B hB
  have hs := hs.new hB (.lst ((List.replicate cs.length (0 : Int)).map D.int))
  have hs : Star [penH p pq, cell z (.ins C (schF (downT q m cs sv))), cell B (.lst ((List.replicate cs.length (0 : Int)).map D.int))] (S5.put B (.lst ((List.replicate cs.length (0 : Int)).map D.int))) := hs
  generalize S5.put B _ = S6 at hs
  iterate 7 ((try conv => whnf); (try simp only [put_eq, seqD, lstD]))
  refine ⟨by decide, fun B2 hB2 => ?_⟩
  have hs := hs.new hB2 (.lst [D.int 0])
  have hs : Star [penH p pq, cell z (.ins C (schF (downT q m cs sv))), cell B (.lst ((List.replicate cs.length (0 : Int)).map D.int)), cell B2 (.lst [D.int 0])] (S6.put B2 (.lst [D.int 0])) := hs
  generalize S6.put B2 _ = S7 at hs
  have gB2 := hs.get [_, _, _]
  iterate 7 ((try conv => whnf); (try simp only [gB2, put_eq, seqD, lstD]))
  refine ⟨⟨by omega, by omega, by show 1 * (cs.length : Int).toNat ≤ sizeLine; rw [sizeLine_eq]; omega⟩, fun B3 hB3 => ?_⟩
  rw [Int.toNat_natCast, rep_row]
  have hs := hs.new hB3 (.lst ((List.replicate cs.length (0 : Int)).map D.int))
  have hs : Star [penH p pq, cell z (.ins C (schF (downT q m cs sv))), cell B (.lst ((List.replicate cs.length (0 : Int)).map D.int)), cell B2 (.lst [D.int 0]), cell B3 (.lst ((List.replicate cs.length (0 : Int)).map D.int))] (S7.put B3 (.lst ((List.replicate cs.length (0 : Int)).map D.int))) := hs
  generalize S7.put B3 _ = S8 at hs
  have gB := hs.get [_, _]
  have gB3 := hs.get [_, _, _, _]
  have f0 : ∀ n, ∀ x ∈ (List.replicate cs.length (0 : Int)).map D.int, fine n x := fun n x hx => by
    obtain ⟨y, _, rfl⟩ := List.mem_map.mp hx
    cases n <;> trivial
  have e0 := eqvAll_fine (f0 49)
  iterate 7 ((try conv => whnf); (try simp only [gB, gB3, put_eq, seqD, lstD]))
  refine ⟨⟨f0 50, f0 50⟩, ?_⟩
  rw [e0]
  have hs := hs.left (L1 := [_, _]) (L2 := [_, _, _])
  have hs : Star [penH p pq, cell z (.ins C (schF (downT q m cs sv)))] S8 := hs
  clear gB gB2 gB3 gz
  refine hN _ _ ?_; clear hN N; refine seq_ fun N hN => ?_
  iterate 7 ((try conv => whnf); (try simp only [put_eq, seqD, lstD]))
  refine use_draw [] hs (by omega) fun j0 S9 j1 j2 hs => ?_
  obtain ⟨j, rfl⟩ : ∃ n : Nat, j0 = (n : Int) := ⟨j0.toNat, by omega⟩
  have hj : j < cs.length := by omega
  iterate 7 ((try conv => whnf); (try simp only [put_eq, seqD, lstD]))
  refine ⟨by decide, fun G hG => ?_⟩
  have hs := hs.new hG (.lst (([] : List (List Int)).map rowD))
  have hs : Star [penH p pq, cell z (.ins C (schF (downT q m cs sv))), cell G (.lst (([] : List (List Int)).map rowD))] (S9.put G (.lst [])) := hs
  generalize S9.put G (.lst []) = S10 at hs
  refine hN _ _ ?_; clear hN N; refine seq_ fun N hN => ?_
  iterate 7 ((try conv => whnf); (try simp only [put_eq, seqD, lstD]))
  refine ⟨by omega, ?_⟩
  rw [Int.toNat_natCast]
  have hsp : ∀ k, (hk : k < cs.length) → quest q ((downT q m cs sv).ps[k]'(by rw [epl]; exact hk)) j [] = ptR m cs[k] := fun k hk => by
    have e : (downT q m cs sv).ps[k]'(by rw [epl]; exact hk) = ⟨0, List.replicate m [], List.replicate cs.length (ptR m cs[k]), []⟩ := by simp only [downT, List.getElem_map]
    rw [e, quest_down q2 hj]
  have hco : RowQ q 0 [] := ⟨rfl, fun _ h => by cases h⟩
  refine forRun_rng (fun k e S => ∃ b10 b11 : Option D, e = [some (.rol (ns.map D.int)), some (.loc p), some (.int (0 + (i : Int))), some (.int q), some (shD m cs), some (.int (sv : Nat)), some (.loc z), some (.int (cs.length : Nat)), some (.int (j : Nat)), some (.loc G), b10, b11, a12] ∧ Star [penH p pq, cell z (.ins C (schF (downT q m cs sv))), cell G (.lst (((cs.take k).map (rowI cs)).map rowD))] S) ?_ ?_ ⟨_, _, rfl, hs⟩
  · rintro k e S11 N2 hk ⟨b10, b11, rfl, hs⟩ hN2
    refine ⟨trivial, ?_⟩
    try clear hN
    have ek : (0 + (k : Int)) = (k : Int) := by omega
    have gz := hs.get [_]
    refine seq_ fun N hN => ?_
    iterate 7 ((try conv => whnf); (try simp only [gz, put_eq, seqD, lstD]))
    refine ⟨⟨trivial, rfl⟩, ?_⟩
    rw [ek]
    iterate 7 ((try conv => whnf); (try simp only [put_eq, seqD, lstD]))
    refine ⟨by decide, ?_⟩
    refine frm_of ⟨z, downT q m cs sv, k, j, [], by rw [epl]; exact hk, rfl, gz, okT, hj, hco, fun S12 sb => ?_⟩
    have hs := hs.mono sb
    rw [show (downT q m cs sv).q = q from rfl, hsp k hk]
    refine hN _ _ ?_; clear hN N; refine seq_ fun N hN => ?_
    iterate 7 ((try conv => whnf); (try simp only [put_eq, seqD, lstD]))
    refine frm_of ⟨m, cs, k, hk, rfl, by omega, ?_⟩
    have fp := eqv_fine (fine_row 49 (ptR m cs[k]))
    iterate 7 ((try conv => whnf); (try simp only [put_eq, seqD, lstD]))
    refine ⟨⟨fine_row 49 _, fine_row 49 _⟩, ?_⟩
    rw [fp]
    refine hN _ _ ?_; clear hN N
    have gG := hs.get [_, _]
    iterate 7 ((try conv => whnf); (try simp only [gG, put_eq, seqD, lstD]))
    refine frm_of ⟨m, cs, cs[k], q, rfl, ⟨q2, q3⟩, sh, fun S13 sb => ?_⟩
    have hs := hs.mono sb
    have gG := hs.get [_, _]
    iterate 7 ((try conv => whnf); (try simp only [gG, put_eq, seqD, lstD]))
    refine ⟨by rw [List.length_map, List.length_map, List.length_take, sizeLine_eq]; omega, ?_⟩
    refine ⟨_, Sb.refl _, hN2 _ _ ⟨_, _, rfl, ?_⟩⟩
    rw [List.take_succ_eq_append_getElem hk, List.map_append, List.map_append]
    exact hs.put [_, _]
  rintro e S11 ⟨b10, b11, rfl, hs⟩
  refine ⟨trivial, ?_⟩
  rw [List.take_of_length_le (Nat.le_refl _)] at hs
  refine hN _ _ ?_; clear hN N; refine seq_ fun N hN => ?_
  iterate 7 ((try conv => whnf); (try simp only [put_eq, seqD, lstD]))
  refine ⟨by omega, ?_⟩
  rw [Int.toNat_natCast]
  refine lc_pure (f := fun (k : Nat) => D.int (0 + (k : Int))) (g := fun (k : Nat) => rowD (ptR m (cs.getD k []))) trivial (fun k hk K hK => ?_) ?_
  · have hk := List.mem_range.mp hk
    have ek : (0 + (k : Int)) = (k : Int) := by omega
    rw [getD_at hk] at hK
    iterate 7 ((try conv => whnf); (try simp only [put_eq, seqD, lstD]))
    rw [ek]
    exact frm_of ⟨m, cs, k, hk, rfl, by omega, hK⟩
  have ept : ((List.range cs.length).map fun (k : Nat) => rowD (ptR m (cs.getD k []))) = (cs.map (ptR m)).map rowD := by
    apply List.ext_getElem
    · simp
    · intro i h1 h2
      have hi : i < cs.length := by simpa using h1
      simp only [List.getElem_map, List.getElem_range, getD_at hi]
  rw [ept]
  refine hN _ _ ?_; clear hN N
  have gz := hs.get [_]
  iterate 7 ((try conv => whnf); (try simp only [gz, put_eq, seqD, lstD]))
  refine ⟨⟨trivial, rfl⟩, ?_⟩
  iterate 7 ((try conv => whnf); (try simp only [put_eq, seqD, lstD]))
  refine ⟨by show 1 ≤ 1000; decide, ?_⟩
  iterate 7 ((try conv => whnf); (try simp only [put_eq, seqD, lstD]))
  refine ⟨by decide, ?_⟩
  refine frm_of ⟨z, downT q m cs sv, [0], j, [], rfl, gz, okT, hj, hco, fun S12 sb => ?_⟩
  have hs := hs.mono sb
  have esn : seen (downT q m cs sv) [0] j [] = cs.map (ptR m) := by
    unfold seen
    rw [gparts_map (downT q m cs sv).ps [0] fun p => quest (downT q m cs sv).q p j []]
    have ef : (downT q m cs sv).ps.filter (fun p => decide (p.sv ∈ [(0 : Int)])) = (downT q m cs sv).ps := List.filter_eq_self.mpr fun p hp => by
      obtain ⟨pt, _, rfl⟩ := List.mem_map.mp hp
      exact decide_eq_true (by simp)
    rw [ef]
    show ((cs.map (ptR m)).map _).map _ = _
    rw [List.map_map, List.map_map]
    apply List.map_congr_left
    intro c _
    exact quest_down q2 hj
  rw [esn]
  have ft : fine 50 (.tup ((cs.map (ptR m)).map rowD)) := fun x hx => by
    obtain ⟨y, _, rfl⟩ := List.mem_map.mp hx
    exact fine_row 48 y
  have et := eqv_fine ft
  iterate 7 ((try conv => whnf); (try simp only [put_eq, seqD, lstD]))
  refine ⟨⟨ft, ft⟩, ?_⟩
  rw [et]
  iterate 7 ((try conv => whnf); (try simp only [put_eq, seqD, lstD]))
  have gG := hs.get [_, _]
  refine frm_of ⟨G, cs.map (rowI cs), cs.length, q, rfl, gG, hq, fun r hr => by
    obtain ⟨d, _, rfl⟩ := List.mem_map.mp hr
    exact rowI_row q2 cs d, by omega, by rw [List.length_map]; omega, fun P bs S13 gP gb hR sb => ?_⟩
  have hs := hs.mono sb
  have hlen : bs.length = cs.length := by
    rcases hR.count hq with e | ⟨pre, r, post, e, hi⟩
    · rw [List.length_map, List.length_map] at e; exact e
    · exact (indep hq sh e hi).elim
  have ed : decide ((((dicD bs).length : Nat) : Int) = ((cs.length : Nat) : Int)) = true := decide_eq_true (by unfold dicD; rw [List.length_map, hlen])
  iterate 7 ((try conv => whnf); (try simp only [gP, put_eq, seqD, lstD]))
  iterate 7 ((try conv => whnf); (try simp only [ed, put_eq, seqD, lstD]))
  exact ⟨_, Sb.refl _, hN' _ _ ⟨_, rfl, rfl, hs.left (L1 := [_])⟩⟩


def top (i : Nat) : Stmt := PySem.Challenge.pw_quietlookup_k53_download.main.body.getD i (.Pass ⟨0, 0, 0, 0⟩)
abbrev s__law_pen : Stmt := top 29
abbrev s__law_fresh : Stmt := top 30
abbrev s__law_draw : Stmt := top 31
abbrev s__law_prime : Stmt := top 32
abbrev s__law_shape : Stmt := top 33
abbrev s_is_prime : Stmt := top 15
abbrev s_require_prime : Stmt := top 16
abbrev s_is_integer : Stmt := top 9
abbrev s_is_coordinate_tuple : Stmt := top 10
abbrev s_require_shape : Stmt := top 11
abbrev s_point_of : Stmt := top 12
abbrev s_entry_points : Stmt := top 26
abbrev s_is_vector : Stmt := top 22
abbrev s_are_vectors : Stmt := top 23
abbrev s_Scheme_is_part : Stmt := inClass (top 24) 1
abbrev s_Scheme___init__ : Stmt := inClass (top 24) 0
abbrev s_download : Stmt := top 27
abbrev s_Scheme___len__ : Stmt := inClass (top 24) 4
abbrev s_Scheme_question : Stmt := inClass (top 24) 5
abbrev s__law_point : Stmt := top 37
abbrev s__law_row : Stmt := top 34
abbrev s_Scheme_group_parts : Stmt := inClass (top 24) 6
abbrev s_Scheme_seen_by : Stmt := inClass (top 24) 7
abbrev s__law_inverse : Stmt := top 35
abbrev s__law_reduced : Stmt := top 36
abbrev s_law : Stmt := top 38
structure Txt (K : PySem.W.Frag) (mg : Str → Option Value) (C_Scheme : Addr) : Prop where
  cl_Scheme : Cls K C_Scheme
  n_Scheme_coins : NoAttr K C_Scheme "coins"
  n_Scheme_masks : NoAttr K C_Scheme "masks"
  n_Scheme_parts : NoAttr K C_Scheme "parts"
  n_Scheme_q : NoAttr K C_Scheme "q"
  n_Scheme_servers : NoAttr K C_Scheme "servers"
  n_Scheme_shape : NoAttr K C_Scheme "shape"
  b_all : mg "all" = none
  b_bool : mg "bool" = none
  b_enumerate : mg "enumerate" = none
  b_int : mg "int" = none
  b_isinstance : mg "isinstance" = none
  b_len : mg "len" = none
  b_list : mg "list" = none
  b_range : mg "range" = none
  b_set : mg "set" = none
  b_sorted : mg "sorted" = none
  b_sum : mg "sum" = none
  b_tuple : mg "tuple" = none
  b_zip : mg "zip" = none
  g_MAX_COINS : ∃ k, mg "MAX_COINS" = some (.int (12) k)
  g_MAX_COORDINATES : ∃ k, mg "MAX_COORDINATES" = some (.int (6) k)
  g_MAX_ENTRIES : ∃ k, mg "MAX_ENTRIES" = some (.int (8) k)
  g_MAX_LENGTH : ∃ k, mg "MAX_LENGTH" = some (.int (3) k)
  g_MAX_MASKS : ∃ k, mg "MAX_MASKS" = some (.int (3) k)
  g_MAX_PARTS : ∃ k, mg "MAX_PARTS" = some (.int (8) k)
  g_MAX_PRIME : ∃ k, mg "MAX_PRIME" = some (.int (101) k)
  g_MAX_SERVERS : ∃ k, mg "MAX_SERVERS" = some (.int (6) k)
section
variable {P : Program} {w : World} {K : PySem.W.Frag} {mg : Str → Option Value} {base : Heap} {f : Addr} {fd : FuncData} {C_Scheme : Addr}
theorem sc__law_pen : FnScope nm__law_pen ["_law_script"] (defScope s__law_pen) := ⟨rfl, rfl, rfl, by decide +kernel, rfl, by decide +kernel, by decide +kernel⟩
theorem d__law_pen (T : Txt K mg C_Scheme) {A : Around} {outer : List Env} {s : Shared} {H : Hp} {cdv : Value} (hr : RoomG 0 (A.deeper (envOfC "_law_pen" (defScope s__law_pen) s.heap.objs.size f cdv))) : DSs (cxOf CX0 P w K mg base nm__law_pen "_law_pen" (defScope s__law_pen) f cdv A outer s H noE).nox (defBody s__law_pen) (tb__law_pen) :=
  have nd := sc__law_pen.nd
  (dss_one (ds_ret (de_lst (da_cons (de_q1 (c_lst (by rfl) T.b_list) lr_lst tr_lst (de_slice (de_var (i := 0) (by rfl) (by exact Or.inl rfl)) do_none (do_some de_int))) (da_cons de_int (da_cons de_int da_nil))))))
theorem ok__law_pen (F : Fun K "_law_pen" "_law_pen" s__law_pen f fd) (T : Txt K mg C_Scheme) : FnD P w K mg base 1 f fd ["_law_script"] sp__law_pen :=
  fnd_of F sc__law_pen (len__law_pen) (fun _ _ _ _ _ hr => d__law_pen T hr) (p__law_pen)
theorem sc__law_fresh : FnScope nm__law_fresh ["_law_pen_here"] (defScope s__law_fresh) := ⟨rfl, rfl, rfl, by decide +kernel, rfl, by decide +kernel, by decide +kernel⟩
theorem d__law_fresh (T : Txt K mg C_Scheme) {A : Around} {outer : List Env} {s : Shared} {H : Hp} {cdv : Value} (hr : RoomG 0 (A.deeper (envOfC "_law_fresh" (defScope s__law_fresh) s.heap.objs.size f cdv))) : DSs (cxOf CX0 P w K mg base nm__law_fresh "_law_fresh" (defScope s__law_fresh) f cdv A outer s H noE).nox (defBody s__law_fresh) (tb__law_fresh) :=
  have nd := sc__law_fresh.nd
  (dss_cons (ds_set (i := 1) nd (by rfl) (by exact Or.inl rfl) (de_ix (de_var (i := 0) (by rfl) (by exact Or.inl rfl)) de_int))
    (dss_cons (ds_sub (de_add (de_var (i := 1) (by rfl) (by exact Or.inl rfl)) de_int) (de_var (i := 0) (by rfl) (by exact Or.inl rfl)) de_int)
    (dss_cons (ds_set (i := 2) nd (by rfl) (by exact Or.inl rfl) de_int)
    (dss_cons (ds_if (dt_cmp (op_neA hr.rm.units) od_ne (de_ix (de_var (i := 0) (by rfl) (by exact Or.inl rfl)) de_int) (de_lst da_nil) (nomark _)) (dss_one (ds_set (i := 2) nd (by rfl) (by exact Or.inl rfl) (de_ix (de_ix (de_var (i := 0) (by rfl) (by exact Or.inl rfl)) de_int) (de_mod (de_var (i := 1) (by rfl) (by exact Or.inl rfl)) (de_len (by rfl) T.b_len (de_ix (de_var (i := 0) (by rfl) (by exact Or.inl rfl)) de_int)))))) dss_nil)
    (dss_cons (ds_if (dw_pt (dw_and (dt_cmp op_lt od_lt (de_var (i := 1) (by rfl) (by exact Or.inl rfl)) (de_len (by rfl) T.b_len (de_ix (de_var (i := 0) (by rfl) (by exact Or.inl rfl)) de_int)) (nomark _)) (dw_and1 (dt_cmp op_ge od_ge (de_var (i := 2) (by rfl) (by exact Or.inl rfl)) (de_pow de_int de_int) (nomark _))))) (dss_one (ds_ret (de_sub (de_var (i := 2) (by rfl) (by exact Or.inl rfl)) (de_pow de_int de_int)))) dss_nil)
    (dss_cons (ds_set (i := 3) nd (by rfl) (by exact Or.inl rfl) de_int)
    (dss_cons (ds_set (i := 4) nd (by rfl) (by exact Or.inl rfl) (de_mod (de_add (de_add (de_mul (de_var (i := 2) (by rfl) (by exact Or.inl rfl)) de_int) (de_mul de_int (de_var (i := 1) (by rfl) (by exact Or.inl rfl)))) de_int) (de_var (i := 3) (by rfl) (by exact Or.inl rfl))))
    (dss_cons (ds_set (i := 5) nd (by rfl) (by exact Or.inl rfl) (de_var (i := 4) (by rfl) (by exact Or.inl rfl)))
    (dss_cons (ds_for PassesOwn.never (by rfl) (di_rng1 (by rfl) T.b_range (da_cons de_int da_nil)) (pg_name (i := 6) nd (by rfl) (by exact Or.inl rfl)) (dss_cons (ds_set (i := 4) nd (by rfl) (by exact Or.inl rfl) (de_mod (de_add (de_add (de_mul (de_var (i := 4) (by rfl) (by exact Or.inl rfl)) (de_var (i := 4) (by rfl) (by exact Or.inl rfl))) (de_mul (de_mul de_int (de_add (de_var (i := 6) (by rfl) (by exact Or.inl rfl)) de_int)) (de_add (de_var (i := 1) (by rfl) (by exact Or.inl rfl)) de_int))) (de_var (i := 2) (by rfl) (by exact Or.inl rfl))) (de_var (i := 3) (by rfl) (by exact Or.inl rfl))))
    (dss_one (ds_set (i := 5) nd (by rfl) (by exact Or.inl rfl) (de_add (de_mul (de_var (i := 5) (by rfl) (by exact Or.inl rfl)) (de_var (i := 3) (by rfl) (by exact Or.inl rfl))) (de_var (i := 4) (by rfl) (by exact Or.inl rfl)))))))
    (dss_one (ds_ret (de_var (i := 5) (by rfl) (by exact Or.inl rfl)))))))))))))
theorem ok__law_fresh (F : Fun K "_law_fresh" "_law_fresh" s__law_fresh f fd) (T : Txt K mg C_Scheme) : FnD P w K mg base 1 f fd ["_law_pen_here"] sp__law_fresh :=
  fnd_of F sc__law_fresh (len__law_fresh) (fun _ _ _ _ _ hr => d__law_fresh T hr) (p__law_fresh)
theorem sc__law_draw : FnScope nm__law_draw ["_law_pen_here", "_law_many"] (defScope s__law_draw) := ⟨rfl, rfl, rfl, by decide +kernel, rfl, by decide +kernel, by decide +kernel⟩
theorem d__law_draw (T : Txt K mg C_Scheme) (c__law_fresh : CalD P w K mg base 1 "_law_fresh" (frm sp__law_fresh) []) {A : Around} {outer : List Env} {s : Shared} {H : Hp} {cdv : Value} (hr : RoomG 1 (A.deeper (envOfC "_law_draw" (defScope s__law_draw) s.heap.objs.size f cdv))) : DSs (cxOf CX0 P w K mg base nm__law_draw "_law_draw" (defScope s__law_draw) f cdv A outer s H noE).nox (defBody s__law_draw) (tb__law_draw (frm sp__law_fresh)) :=
  have nd := sc__law_draw.nd
  (dss_cons (ds_if (dt_cmp op_lt od_lt (de_ix (de_var (i := 0) (by rfl) (by exact Or.inl rfl)) de_int) (de_var (i := 1) (by rfl) (by exact Or.inl rfl)) (nomark _)) (dss_one (ds_sub (de_call c__law_fresh hr (by decide) (by rfl) (da_cons (de_var (i := 0) (by rfl) (by exact Or.inl rfl)) da_nil)) (de_var (i := 0) (by rfl) (by exact Or.inl rfl)) de_int)) dss_nil)
    (dss_cons (ds_set (i := 2) nd (by rfl) (by exact Or.inl rfl) (de_mod (de_ix (de_var (i := 0) (by rfl) (by exact Or.inl rfl)) de_int) (de_var (i := 1) (by rfl) (by exact Or.inl rfl))))
    (dss_cons (ds_sub (de_div (de_ix (de_var (i := 0) (by rfl) (by exact Or.inl rfl)) de_int) (de_var (i := 1) (by rfl) (by exact Or.inl rfl))) (de_var (i := 0) (by rfl) (by exact Or.inl rfl)) de_int)
    (dss_one (ds_ret (de_var (i := 2) (by rfl) (by exact Or.inl rfl)))))))
theorem ok__law_draw (F : Fun K "_law_draw" "_law_draw" s__law_draw f fd) (T : Txt K mg C_Scheme) (c__law_fresh : CalD P w K mg base 1 "_law_fresh" (frm sp__law_fresh) []) : FnD P w K mg base 2 f fd ["_law_pen_here", "_law_many"] sp__law_draw :=
  fnd_of F sc__law_draw (len__law_draw) (fun _ _ _ _ _ hr => d__law_draw T c__law_fresh hr) (p__law_draw)
theorem sc__law_prime : FnScope nm__law_prime ["_law_pen_here"] (defScope s__law_prime) := ⟨rfl, rfl, rfl, by decide +kernel, rfl, by decide +kernel, by decide +kernel⟩
theorem d__law_prime (T : Txt K mg C_Scheme) (c__law_draw : CalD P w K mg base 2 "_law_draw" (frm sp__law_draw) []) {A : Around} {outer : List Env} {s : Shared} {H : Hp} {cdv : Value} (hr : RoomG 2 (A.deeper (envOfC "_law_prime" (defScope s__law_prime) s.heap.objs.size f cdv))) : DSs (cxOf CX0 P w K mg base nm__law_prime "_law_prime" (defScope s__law_prime) f cdv A outer s H noE).nox (defBody s__law_prime) (tb__law_prime (frm sp__law_draw)) :=
  have nd := sc__law_prime.nd
  (dss_cons (ds_set (i := 1) nd (by rfl) (by exact Or.inl rfl) (de_lst (da_cons de_int (da_cons de_int (da_cons de_int (da_cons de_int (da_cons de_int (da_cons de_int (da_cons de_int (da_cons de_int (da_cons de_int (da_cons de_int (da_cons de_int (da_cons de_int (da_cons de_int (da_cons de_int da_nil))))))))))))))))
    (dss_cons (ds_set (i := 1) nd (by rfl) (by exact Or.inl rfl) (de_add (de_var (i := 1) (by rfl) (by exact Or.inl rfl)) (de_lst (da_cons de_int (da_cons de_int (da_cons de_int (da_cons de_int (da_cons de_int (da_cons de_int (da_cons de_int (da_cons de_int (da_cons de_int (da_cons de_int (da_cons de_int (da_cons de_int (da_cons de_int (da_cons de_int (da_cons de_int (da_cons de_int (da_cons de_int da_nil))))))))))))))))))))
    (dss_one (ds_ret (de_ix (de_var (i := 1) (by rfl) (by exact Or.inl rfl)) (de_call c__law_draw hr (by decide) (by rfl) (da_cons (de_var (i := 0) (by rfl) (by exact Or.inl rfl)) (da_cons (de_len (by rfl) T.b_len (de_var (i := 1) (by rfl) (by exact Or.inl rfl))) da_nil))))))))
theorem ok__law_prime (F : Fun K "_law_prime" "_law_prime" s__law_prime f fd) (T : Txt K mg C_Scheme) (c__law_draw : CalD P w K mg base 2 "_law_draw" (frm sp__law_draw) []) : FnD P w K mg base 3 f fd ["_law_pen_here"] sp__law_prime :=
  fnd_of F sc__law_prime (len__law_prime) (fun _ _ _ _ _ hr => d__law_prime T c__law_draw hr) (p__law_prime)
theorem sc__law_shape : FnScope nm__law_shape ["_law_pen_here", "_law_entries"] (defScope s__law_shape) := ⟨rfl, rfl, rfl, by decide +kernel, rfl, by decide +kernel, by decide +kernel⟩
theorem d__law_shape (T : Txt K mg C_Scheme) (c__law_draw : CalD P w K mg base 2 "_law_draw" (frm sp__law_draw) []) {A : Around} {outer : List Env} {s : Shared} {H : Hp} {cdv : Value} (hr : RoomG 2 (A.deeper (envOfC "_law_shape" (defScope s__law_shape) s.heap.objs.size f cdv))) : DSs (cxOf CX0 P w K mg base nm__law_shape "_law_shape" (defScope s__law_shape) f cdv A outer s H noE).nox (defBody s__law_shape) (tb__law_shape (frm sp__law_draw)) :=
  have nd := sc__law_shape.nd
  (dss_cons (ds_set (i := 2) nd (by rfl) (by exact Or.inr rfl) (de_add de_int (de_call c__law_draw hr (by decide) (by rfl) (da_cons (de_var (i := 0) (by rfl) (by exact Or.inr (Or.inl rfl))) (da_cons de_int da_nil)))))
    (dss_cons (ds_set (i := 3) nd (by rfl) (by exact Or.inl rfl) (de_lst da_nil))
    (dss_cons (ds_for PassesOwn.never (by rfl) (di_rng1 (by rfl) T.b_range (da_cons (de_add de_int (de_call c__law_draw hr (by decide) (by rfl) (da_cons (de_var (i := 0) (by rfl) (by exact Or.inr (Or.inl rfl))) (da_cons (de_var (i := 1) (by rfl) (by exact Or.inl rfl)) da_nil)))) da_nil)) (pg_name (i := 4) nd (by rfl) (by exact Or.inl rfl)) (dss_cons (ds_set (i := 5) nd (by rfl) (by exact Or.inl rfl) (de_q1 (c_tup (by rfl) T.b_tuple) lr_tup tr_tup (de_l1lc (c_sortset (by rfl) (by rfl) T.b_sorted (by rfl) T.b_set) lr_sortset (by rfl) nd (di_rng1 (by rfl) T.b_range (da_cons (de_call c__law_draw hr (by decide) (by rfl) (da_cons (de_var (i := 0) (by rfl) (by exact Or.inr (Or.inl rfl))) (da_cons de_int da_nil))) da_nil)) (blkOk_by (own := [("_law_j", 6)]) (by kernel_rfl)) (by rfl) (fun _ _ _ _ _ => (pg_name (i := 6) nd (by rfl) (by exact Or.inl rfl))) (fun _ _ _ _ _ => dts_nil) (fun _ _ _ _ _ => (de_call c__law_draw hr (by decide) (by rfl) (da_cons (de_var (i := 0) (by rfl) (by exact Or.inr (Or.inl rfl))) (da_cons (de_var (i := 2) (by rfl) (by exact Or.inr (Or.inl rfl))) da_nil)))))))
    (dss_one (ds_if (dt_cmp (op_notInA hr.rm) od_notInA (de_var (i := 5) (by rfl) (by exact Or.inl rfl)) (de_var (i := 3) (by rfl) (by exact Or.inl rfl)) (by rfl)) (dss_one (ds_expr (de_app (de_var (i := 3) (by rfl) (by exact Or.inl rfl)) (de_var (i := 5) (by rfl) (by exact Or.inl rfl))))) dss_nil))))
    (dss_one (ds_ret (de_tup (da_cons (de_var (i := 2) (by rfl) (by exact Or.inr (Or.inl rfl))) (da_cons (de_q1 (c_tup (by rfl) T.b_tuple) lr_tup tr_tup (de_var (i := 3) (by rfl) (by exact Or.inl rfl))) da_nil))))))))
theorem ok__law_shape (F : Fun K "_law_shape" "_law_shape" s__law_shape f fd) (T : Txt K mg C_Scheme) (c__law_draw : CalD P w K mg base 2 "_law_draw" (frm sp__law_draw) []) : FnD P w K mg base 3 f fd ["_law_pen_here", "_law_entries"] sp__law_shape :=
  fnd_of F sc__law_shape (len__law_shape) (fun _ _ _ _ _ hr => d__law_shape T c__law_draw hr) (p__law_shape)
theorem sc_is_prime : FnScope nm_is_prime ["value"] (defScope s_is_prime) := ⟨rfl, rfl, rfl, by decide +kernel, rfl, by decide +kernel, by decide +kernel⟩
theorem d_is_prime (T : Txt K mg C_Scheme) {A : Around} {outer : List Env} {s : Shared} {H : Hp} {cdv : Value} (hr : RoomG 0 (A.deeper (envOfC "is_prime" (defScope s_is_prime) s.heap.objs.size f cdv))) : DSs (cxOf CX0 P w K mg base nm_is_prime "is_prime" (defScope s_is_prime) f cdv A outer s H noE).nox (defBody s_is_prime) (tb_is_prime) :=
  have nd := sc_is_prime.nd
  (dss_cons (ds_if (dw_pt (dw_or (dt_not (dt_tru (de_isi (by rfl) T.b_isinstance (by rfl) T.b_int PyProof.Rows.boot_int (de_var (i := 0) (by rfl) (by exact Or.inr (Or.inl rfl)))))) (dw_or (dt_tru (de_isi (by rfl) T.b_isinstance (by rfl) T.b_bool PyProof.Rows.boot_bool (de_var (i := 0) (by rfl) (by exact Or.inr (Or.inl rfl))))) (dw_or1 (dt_not (dt_chain op_le od_le op_le od_le de_int (de_var (i := 0) (by rfl) (by exact Or.inr (Or.inl rfl))) (de_gintE (by rfl) T.g_MAX_PRIME))))))) (dss_one (ds_ret de_bl)) dss_nil)
    (dss_one (ds_ret (de_l1lc (c_all (by rfl) (by rfl) T.b_all) lr_all (by rfl) nd (di_rng2 (by rfl) T.b_range (da_cons de_int (da_cons (de_var (i := 0) (by rfl) (by exact Or.inr (Or.inl rfl))) da_nil))) (blkOk_by (own := [("divisor", 1)]) (by kernel_rfl)) (by rfl) (fun _ _ _ _ _ => (pg_name (i := 1) nd (by rfl) (by exact Or.inl rfl))) (fun _ _ _ _ _ => dts_nil) (fun _ _ _ _ _ => (de_cmp (op_neA hr.rm.units) od_ne (de_mod (de_var (i := 0) (by rfl) (by exact Or.inr (Or.inl rfl))) (de_var (i := 1) (by rfl) (by exact Or.inl rfl))) de_int (nomark _)))))))
theorem ok_is_prime (F : Fun K "is_prime" "is_prime" s_is_prime f fd) (T : Txt K mg C_Scheme) : FnD P w K mg base 1 f fd ["value"] sp_is_prime :=
  fnd_of F sc_is_prime (len_is_prime) (fun _ _ _ _ _ hr => d_is_prime T hr) (p_is_prime)
theorem sc_require_prime : FnScope nm_require_prime ["q"] (defScope s_require_prime) := ⟨rfl, rfl, rfl, by decide +kernel, rfl, by decide +kernel, by decide +kernel⟩
theorem d_require_prime (T : Txt K mg C_Scheme) (c_is_prime : CalD P w K mg base 1 "is_prime" (frm sp_is_prime) []) {A : Around} {outer : List Env} {s : Shared} {H : Hp} {cdv : Value} (hr : RoomG 1 (A.deeper (envOfC "require_prime" (defScope s_require_prime) s.heap.objs.size f cdv))) : DSs (cxOf CX0 P w K mg base nm_require_prime "require_prime" (defScope s_require_prime) f cdv A outer s H noE).nox (defBody s_require_prime) (tb_require_prime (frm sp_is_prime)) :=
  have nd := sc_require_prime.nd
  (dss_one (ds_if (dt_not (dt_tru (de_call c_is_prime hr (by decide) (by rfl) (da_cons (de_var (i := 0) (by rfl) (by exact Or.inl rfl)) da_nil)))) (dss_one ds_never) dss_nil))
theorem ok_require_prime (F : Fun K "require_prime" "require_prime" s_require_prime f fd) (T : Txt K mg C_Scheme) (c_is_prime : CalD P w K mg base 1 "is_prime" (frm sp_is_prime) []) : FnD P w K mg base 2 f fd ["q"] sp_require_prime :=
  fnd_of F sc_require_prime (len_require_prime) (fun _ _ _ _ _ hr => d_require_prime T c_is_prime hr) (p_require_prime)
theorem sc_is_integer : FnScope nm_is_integer ["value", "low", "high"] (defScope s_is_integer) := ⟨rfl, rfl, rfl, by decide +kernel, rfl, by decide +kernel, by decide +kernel⟩
theorem d_is_integer (T : Txt K mg C_Scheme) {A : Around} {outer : List Env} {s : Shared} {H : Hp} {cdv : Value} (hr : RoomG 0 (A.deeper (envOfC "is_integer" (defScope s_is_integer) s.heap.objs.size f cdv))) : DSs (cxOf CX0 P w K mg base nm_is_integer "is_integer" (defScope s_is_integer) f cdv A outer s H noE).nox (defBody s_is_integer) (tb_is_integer) :=
  have nd := sc_is_integer.nd
  (dss_one (ds_ret (de_and (de_isi (by rfl) T.b_isinstance (by rfl) T.b_int PyProof.Rows.boot_int (de_var (i := 0) (by rfl) (by exact Or.inl rfl))) (de_and (de_not (de_isi (by rfl) T.b_isinstance (by rfl) T.b_bool PyProof.Rows.boot_bool (de_var (i := 0) (by rfl) (by exact Or.inl rfl)))) (de_one (de_chain op_le od_le op_le od_le (de_var (i := 1) (by rfl) (by exact Or.inl rfl)) (de_var (i := 0) (by rfl) (by exact Or.inl rfl)) (de_var (i := 2) (by rfl) (by exact Or.inl rfl))))))))
theorem ok_is_integer (F : Fun K "is_integer" "is_integer" s_is_integer f fd) (T : Txt K mg C_Scheme) : FnD P w K mg base 1 f fd ["value", "low", "high"] sp_is_integer :=
  fnd_of F sc_is_integer (len_is_integer) (fun _ _ _ _ _ hr => d_is_integer T hr) (p_is_integer)
theorem sc_is_coordinate_tuple : FnScope nm_is_coordinate_tuple ["value", "coordinates"] (defScope s_is_coordinate_tuple) := ⟨rfl, rfl, rfl, by decide +kernel, rfl, by decide +kernel, by decide +kernel⟩
theorem d_is_coordinate_tuple (T : Txt K mg C_Scheme) (c_is_integer : CalD P w K mg base 1 "is_integer" (frm sp_is_integer) []) {A : Around} {outer : List Env} {s : Shared} {H : Hp} {cdv : Value} (hr : RoomG 1 (A.deeper (envOfC "is_coordinate_tuple" (defScope s_is_coordinate_tuple) s.heap.objs.size f cdv))) : DSs (cxOf CX0 P w K mg base nm_is_coordinate_tuple "is_coordinate_tuple" (defScope s_is_coordinate_tuple) f cdv A outer s H noE).nox (defBody s_is_coordinate_tuple) (tb_is_coordinate_tuple (frm sp_is_integer)) :=
  have nd := sc_is_coordinate_tuple.nd
  (dss_cons (ds_if (dw_pt (dw_or (dt_not (dt_tru (de_isi (by rfl) T.b_isinstance (by rfl) T.b_tuple PyProof.Rows.boot_tuple (de_var (i := 0) (by rfl) (by exact Or.inl rfl))))) (dw_or1 (dt_cmp op_gt od_gt (de_len (by rfl) T.b_len (de_var (i := 0) (by rfl) (by exact Or.inl rfl))) (de_gintE (by rfl) T.g_MAX_LENGTH) (nomark _))))) (dss_one (ds_ret de_bl)) dss_nil)
    (dss_cons (ds_set (i := 2) nd (by rfl) (by exact Or.inl rfl) (de_neg de_int))
    (dss_cons (ds_for PassesOwn.never (by rfl) (di_seq (de_var (i := 0) (by rfl) (by exact Or.inl rfl))) (pg_name (i := 3) nd (by rfl) (by exact Or.inl rfl)) (dss_cons (ds_if (dt_not (dt_tru (de_call c_is_integer hr (by decide) (by rfl) (da_cons (de_var (i := 3) (by rfl) (by exact Or.inl rfl)) (da_cons (de_add (de_var (i := 2) (by rfl) (by exact Or.inl rfl)) de_int) (da_cons (de_sub (de_var (i := 1) (by rfl) (by exact Or.inl rfl)) de_int) da_nil)))))) (dss_one (ds_ret de_bl)) dss_nil)
    (dss_one (ds_set (i := 2) nd (by rfl) (by exact Or.inl rfl) (de_var (i := 3) (by rfl) (by exact Or.inl rfl))))))
    (dss_one (ds_ret de_bl)))))
theorem ok_is_coordinate_tuple (F : Fun K "is_coordinate_tuple" "is_coordinate_tuple" s_is_coordinate_tuple f fd) (T : Txt K mg C_Scheme) (c_is_integer : CalD P w K mg base 1 "is_integer" (frm sp_is_integer) []) : FnD P w K mg base 2 f fd ["value", "coordinates"] sp_is_coordinate_tuple :=
  fnd_of F sc_is_coordinate_tuple (len_is_coordinate_tuple) (fun _ _ _ _ _ hr => d_is_coordinate_tuple T c_is_integer hr) (p_is_coordinate_tuple)
theorem sc_require_shape : FnScope nm_require_shape ["shape"] (defScope s_require_shape) := ⟨rfl, rfl, rfl, by decide +kernel, rfl, by decide +kernel, by decide +kernel⟩
theorem d_require_shape (T : Txt K mg C_Scheme) (c_is_integer : CalD P w K mg base 1 "is_integer" (frm sp_is_integer) []) (c_is_coordinate_tuple : CalD P w K mg base 2 "is_coordinate_tuple" (frm sp_is_coordinate_tuple) []) {A : Around} {outer : List Env} {s : Shared} {H : Hp} {cdv : Value} (hr : RoomG 2 (A.deeper (envOfC "require_shape" (defScope s_require_shape) s.heap.objs.size f cdv))) : DSs (cxOf CX0 P w K mg base nm_require_shape "require_shape" (defScope s_require_shape) f cdv A outer s H noE).nox (defBody s_require_shape) (tb_require_shape (frm sp_is_integer) (frm sp_is_coordinate_tuple)) :=
  have nd := sc_require_shape.nd
  (dss_cons (ds_if (dw_pt (dw_or (dt_not (dt_tru (de_isi (by rfl) T.b_isinstance (by rfl) T.b_tuple PyProof.Rows.boot_tuple (de_var (i := 0) (by rfl) (by exact Or.inl rfl))))) (dw_or (dt_cmp (op_neA hr.rm.units) od_ne (de_len (by rfl) T.b_len (de_var (i := 0) (by rfl) (by exact Or.inl rfl))) de_int (nomark _)) (dw_or1 (dt_not (dt_tru (de_call c_is_integer hr (by decide) (by rfl) (da_cons (de_ix (de_var (i := 0) (by rfl) (by exact Or.inl rfl)) de_int) (da_cons de_int (da_cons (de_gintE (by rfl) T.g_MAX_COORDINATES) da_nil)))))))))) (dss_one ds_never) dss_nil)
    (dss_cons (ds_if (dw_pt (dw_or (dt_not (dt_tru (de_isi (by rfl) T.b_isinstance (by rfl) T.b_tuple PyProof.Rows.boot_tuple (de_ix (de_var (i := 0) (by rfl) (by exact Or.inl rfl)) de_int)))) (dw_or1 (dt_not (dt_chain op_le od_le op_le od_le de_int (de_len (by rfl) T.b_len (de_ix (de_var (i := 0) (by rfl) (by exact Or.inl rfl)) de_int)) (de_gintE (by rfl) T.g_MAX_ENTRIES)))))) (dss_one ds_never) dss_nil)
    (dss_one (ds_for PassesOwn.never (by rfl) (di_enum (by rfl) T.b_enumerate (da_cons (de_ix (de_var (i := 0) (by rfl) (by exact Or.inl rfl)) de_int) da_nil)) (pg_tup (by rfl) (pgs_cons (pg_name (i := 1) nd (by rfl) (by exact Or.inl rfl)) (pgs_cons (pg_name (i := 2) nd (by rfl) (by exact Or.inl rfl)) pgs_nil))) (dss_one (ds_if (dw_pt (dw_or (dt_not (dt_tru (de_call c_is_coordinate_tuple hr (by decide) (by rfl) (da_cons (de_var (i := 2) (by rfl) (by exact Or.inl rfl)) (da_cons (de_ix (de_var (i := 0) (by rfl) (by exact Or.inl rfl)) de_int) da_nil))))) (dw_or1 (dt_cmp (op_inT hr.rm) od_inT (de_var (i := 2) (by rfl) (by exact Or.inl rfl)) (de_slice (de_ix (de_var (i := 0) (by rfl) (by exact Or.inl rfl)) de_int) do_none (do_some (de_var (i := 1) (by rfl) (by exact Or.inl rfl)))) (by rfl))))) (dss_one ds_never) dss_nil))))))
theorem ok_require_shape (F : Fun K "require_shape" "require_shape" s_require_shape f fd) (T : Txt K mg C_Scheme) (c_is_integer : CalD P w K mg base 1 "is_integer" (frm sp_is_integer) []) (c_is_coordinate_tuple : CalD P w K mg base 2 "is_coordinate_tuple" (frm sp_is_coordinate_tuple) []) : FnD P w K mg base 3 f fd ["shape"] sp_require_shape :=
  fnd_of F sc_require_shape (len_require_shape) (fun _ _ _ _ _ hr => d_require_shape T c_is_integer c_is_coordinate_tuple hr) (p_require_shape)
theorem sc_point_of : FnScope nm_point_of ["shape", "entry"] (defScope s_point_of) := ⟨rfl, rfl, rfl, by decide +kernel, rfl, by decide +kernel, by decide +kernel⟩
theorem d_point_of (T : Txt K mg C_Scheme) {A : Around} {outer : List Env} {s : Shared} {H : Hp} {cdv : Value} (hr : RoomG 0 (A.deeper (envOfC "point_of" (defScope s_point_of) s.heap.objs.size f cdv))) : DSs (cxOf CX0 P w K mg base nm_point_of "point_of" (defScope s_point_of) f cdv A outer s H noE).nox (defBody s_point_of) (tb_point_of) :=
  have nd := sc_point_of.nd
  (dss_one (ds_ret (de_l1lc (c_tup (by rfl) T.b_tuple) lr_tup (by rfl) nd (di_rng1 (by rfl) T.b_range (da_cons (de_ix (de_var (i := 0) (by rfl) (by exact Or.inr (Or.inl rfl))) de_int) da_nil)) (blkOk_by (own := [("coordinate", 2)]) (by kernel_rfl)) (by rfl) (fun _ _ _ _ _ => (pg_name (i := 2) nd (by rfl) (by exact Or.inl rfl))) (fun _ _ _ _ _ => dts_nil) (fun _ _ _ _ _ => (de_int1 (by rfl) T.b_int (da_cons (de_cmp (op_inA hr.rm) od_inA (de_var (i := 2) (by rfl) (by exact Or.inl rfl)) (de_ix (de_ix (de_var (i := 0) (by rfl) (by exact Or.inr (Or.inl rfl))) de_int) (de_var (i := 1) (by rfl) (by exact Or.inr (Or.inl rfl)))) (by rfl)) da_nil))))))
theorem ok_point_of (F : Fun K "point_of" "point_of" s_point_of f fd) (T : Txt K mg C_Scheme) : FnD P w K mg base 1 f fd ["shape", "entry"] sp_point_of :=
  fnd_of F sc_point_of (len_point_of) (fun _ _ _ _ _ hr => d_point_of T hr) (p_point_of)
theorem sc_entry_points : FnScope nm_entry_points ["shape"] (defScope s_entry_points) := ⟨rfl, rfl, rfl, by decide +kernel, rfl, by decide +kernel, by decide +kernel⟩
theorem d_entry_points (T : Txt K mg C_Scheme) (c_point_of : CalD P w K mg base 1 "point_of" (frm sp_point_of) []) {A : Around} {outer : List Env} {s : Shared} {H : Hp} {cdv : Value} (hr : RoomG 1 (A.deeper (envOfC "entry_points" (defScope s_entry_points) s.heap.objs.size f cdv))) : DSs (cxOf CX0 P w K mg base nm_entry_points "entry_points" (defScope s_entry_points) f cdv A outer s H noE).nox (defBody s_entry_points) (tb_entry_points (frm sp_point_of)) :=
  have nd := sc_entry_points.nd
  (dss_one (ds_ret (de_l1lc (c_tup (by rfl) T.b_tuple) lr_tup (by rfl) nd (di_rng1 (by rfl) T.b_range (da_cons (de_len (by rfl) T.b_len (de_ix (de_var (i := 0) (by rfl) (by exact Or.inr (Or.inl rfl))) de_int)) da_nil)) (blkOk_by (own := [("entry", 1)]) (by kernel_rfl)) (by rfl) (fun _ _ _ _ _ => (pg_name (i := 1) nd (by rfl) (by exact Or.inl rfl))) (fun _ _ _ _ _ => dts_nil) (fun _ _ _ _ _ => (de_call c_point_of hr (by decide) (by rfl) (da_cons (de_var (i := 0) (by rfl) (by exact Or.inr (Or.inl rfl))) (da_cons (de_var (i := 1) (by rfl) (by exact Or.inl rfl)) da_nil)))))))
theorem ok_entry_points (F : Fun K "entry_points" "entry_points" s_entry_points f fd) (T : Txt K mg C_Scheme) (c_point_of : CalD P w K mg base 1 "point_of" (frm sp_point_of) []) : FnD P w K mg base 2 f fd ["shape"] sp_entry_points :=
  fnd_of F sc_entry_points (len_entry_points) (fun _ _ _ _ _ hr => d_entry_points T c_point_of hr) (p_entry_points)
theorem sc_is_vector : FnScope nm_is_vector ["value", "length", "q"] (defScope s_is_vector) := ⟨rfl, rfl, rfl, by decide +kernel, rfl, by decide +kernel, by decide +kernel⟩
theorem d_is_vector (T : Txt K mg C_Scheme) (c_is_integer : CalD P w K mg base 1 "is_integer" (frm sp_is_integer) []) {A : Around} {outer : List Env} {s : Shared} {H : Hp} {cdv : Value} (hr : RoomG 1 (A.deeper (envOfC "is_vector" (defScope s_is_vector) s.heap.objs.size f cdv))) : DSs (cxOf CX0 P w K mg base nm_is_vector "is_vector" (defScope s_is_vector) f cdv A outer s H noE).nox (defBody s_is_vector) (tb_is_vector (frm sp_is_integer)) :=
  have nd := sc_is_vector.nd
  (dss_one (ds_ret (de_and (de_isi (by rfl) T.b_isinstance (by rfl) T.b_tuple PyProof.Rows.boot_tuple (de_var (i := 0) (by rfl) (by exact Or.inl rfl))) (de_and (de_cmp (op_eqA hr.rm.units) od_eq (de_len (by rfl) T.b_len (de_var (i := 0) (by rfl) (by exact Or.inl rfl))) (de_var (i := 1) (by rfl) (by exact Or.inl rfl)) (nomark _)) (de_one (de_l1lc (c_all (by rfl) (by rfl) T.b_all) lr_all (by rfl) nd (di_seq (de_var (i := 0) (by rfl) (by exact Or.inl rfl))) (blkOk_by (own := [("part", 3)]) (by kernel_rfl)) (by rfl) (fun _ _ _ _ _ => (pg_name (i := 3) nd (by rfl) (by exact Or.inl rfl))) (fun _ _ _ _ _ => dts_nil) (fun _ _ _ _ _ => (de_call c_is_integer hr (by decide) (by rfl) (da_cons (de_var (i := 3) (by rfl) (by exact Or.inl rfl)) (da_cons de_int (da_cons (de_sub (de_var (i := 2) (by rfl) (by exact Or.inr (Or.inl rfl))) de_int) da_nil)))))))))))
theorem ok_is_vector (F : Fun K "is_vector" "is_vector" s_is_vector f fd) (T : Txt K mg C_Scheme) (c_is_integer : CalD P w K mg base 1 "is_integer" (frm sp_is_integer) []) : FnD P w K mg base 2 f fd ["value", "length", "q"] sp_is_vector :=
  fnd_of F sc_is_vector (len_is_vector) (fun _ _ _ _ _ hr => d_is_vector T c_is_integer hr) (p_is_vector)
theorem sc_are_vectors : FnScope nm_are_vectors ["value", "count", "length", "q"] (defScope s_are_vectors) := ⟨rfl, rfl, rfl, by decide +kernel, rfl, by decide +kernel, by decide +kernel⟩
theorem d_are_vectors (T : Txt K mg C_Scheme) (c_is_vector : CalD P w K mg base 2 "is_vector" (frm sp_is_vector) []) {A : Around} {outer : List Env} {s : Shared} {H : Hp} {cdv : Value} (hr : RoomG 2 (A.deeper (envOfC "are_vectors" (defScope s_are_vectors) s.heap.objs.size f cdv))) : DSs (cxOf CX0 P w K mg base nm_are_vectors "are_vectors" (defScope s_are_vectors) f cdv A outer s H noE).nox (defBody s_are_vectors) (tb_are_vectors (frm sp_is_vector)) :=
  have nd := sc_are_vectors.nd
  (dss_one (ds_ret (de_and (de_isi (by rfl) T.b_isinstance (by rfl) T.b_tuple PyProof.Rows.boot_tuple (de_var (i := 0) (by rfl) (by exact Or.inl rfl))) (de_and (de_cmp (op_eqA hr.rm.units) od_eq (de_len (by rfl) T.b_len (de_var (i := 0) (by rfl) (by exact Or.inl rfl))) (de_var (i := 1) (by rfl) (by exact Or.inl rfl)) (nomark _)) (de_one (de_l1lc (c_all (by rfl) (by rfl) T.b_all) lr_all (by rfl) nd (di_seq (de_var (i := 0) (by rfl) (by exact Or.inl rfl))) (blkOk_by (own := [("part", 4)]) (by kernel_rfl)) (by rfl) (fun _ _ _ _ _ => (pg_name (i := 4) nd (by rfl) (by exact Or.inl rfl))) (fun _ _ _ _ _ => dts_nil) (fun _ _ _ _ _ => (de_call c_is_vector hr (by decide) (by rfl) (da_cons (de_var (i := 4) (by rfl) (by exact Or.inl rfl)) (da_cons (de_var (i := 2) (by rfl) (by exact Or.inr (Or.inl rfl))) (da_cons (de_var (i := 3) (by rfl) (by exact Or.inr (Or.inl rfl))) da_nil)))))))))))
theorem ok_are_vectors (F : Fun K "are_vectors" "are_vectors" s_are_vectors f fd) (T : Txt K mg C_Scheme) (c_is_vector : CalD P w K mg base 2 "is_vector" (frm sp_is_vector) []) : FnD P w K mg base 3 f fd ["value", "count", "length", "q"] sp_are_vectors :=
  fnd_of F sc_are_vectors (len_are_vectors) (fun _ _ _ _ _ hr => d_are_vectors T c_is_vector hr) (p_are_vectors)
theorem sc_Scheme_is_part : FnScope nm_Scheme_is_part ["self", "value"] (defScope s_Scheme_is_part) := ⟨rfl, rfl, rfl, by decide +kernel, rfl, by decide +kernel, by decide +kernel⟩
theorem d_Scheme_is_part (T : Txt K mg C_Scheme) (c_is_integer : CalD P w K mg base 1 "is_integer" (frm sp_is_integer) []) (c_are_vectors : CalD P w K mg base 3 "are_vectors" (frm sp_are_vectors) []) (c_is_vector : CalD P w K mg base 2 "is_vector" (frm sp_is_vector) []) {A : Around} {outer : List Env} {s : Shared} {H : Hp} {cdv : Value} (hr : RoomG 3 (A.deeper (envOfC "Scheme.is_part" (defScope s_Scheme_is_part) s.heap.objs.size f cdv))) : DSs (cxOf CX0 P w K mg base nm_Scheme_is_part "Scheme.is_part" (defScope s_Scheme_is_part) f cdv A outer s H noE).nox (defBody s_Scheme_is_part) (tb_Scheme_is_part C_Scheme (frm sp_is_integer) (frm sp_are_vectors) (frm sp_is_vector)) :=
  have nd := sc_Scheme_is_part.nd
  (dss_cons (ds_if (dw_pt (dw_or (dt_not (dt_tru (de_isi (by rfl) T.b_isinstance (by rfl) T.b_tuple PyProof.Rows.boot_tuple (de_var (i := 1) (by rfl) (by exact Or.inl rfl))))) (dw_or (dt_cmp (op_neA hr.rm.units) od_ne (de_len (by rfl) T.b_len (de_var (i := 1) (by rfl) (by exact Or.inl rfl))) de_int (nomark _)) (dw_or1 (dt_not (dt_tru (de_call c_is_integer hr (by decide) (by rfl) (da_cons (de_ix (de_var (i := 1) (by rfl) (by exact Or.inl rfl)) de_int) (da_cons de_int (da_cons (de_sub (de_fld T.cl_Scheme T.n_Scheme_servers (de_var (i := 0) (by rfl) (by exact Or.inl rfl))) de_int) da_nil)))))))))) (dss_one (ds_ret de_bl)) dss_nil)
    (dss_cons (ds_par (i := 2) (j := 3) (by rfl) nd (by rfl) (by rfl) (by decide) (by rfl) (by rfl) (da_cons (de_ix (de_fld T.cl_Scheme T.n_Scheme_shape (de_var (i := 0) (by rfl) (by exact Or.inl rfl))) de_int) (da_cons (de_len (by rfl) T.b_len (de_ix (de_fld T.cl_Scheme T.n_Scheme_shape (de_var (i := 0) (by rfl) (by exact Or.inl rfl))) de_int)) da_nil)) (by rfl))
    (dss_cons (ds_if (dt_not (dt_tru (de_call c_are_vectors hr (by decide) (by rfl) (da_cons (de_ix (de_var (i := 1) (by rfl) (by exact Or.inl rfl)) de_int) (da_cons (de_var (i := 2) (by rfl) (by exact Or.inl rfl)) (da_cons (de_fld T.cl_Scheme T.n_Scheme_coins (de_var (i := 0) (by rfl) (by exact Or.inl rfl))) (da_cons (de_fld T.cl_Scheme T.n_Scheme_q (de_var (i := 0) (by rfl) (by exact Or.inl rfl))) da_nil))))))) (dss_one (ds_ret de_bl)) dss_nil)
    (dss_one (ds_ret (de_and (de_call c_are_vectors hr (by decide) (by rfl) (da_cons (de_ix (de_var (i := 1) (by rfl) (by exact Or.inl rfl)) de_int) (da_cons (de_var (i := 3) (by rfl) (by exact Or.inl rfl)) (da_cons (de_var (i := 2) (by rfl) (by exact Or.inl rfl)) (da_cons (de_fld T.cl_Scheme T.n_Scheme_q (de_var (i := 0) (by rfl) (by exact Or.inl rfl))) da_nil))))) (de_one (de_call c_is_vector hr (by decide) (by rfl) (da_cons (de_ix (de_var (i := 1) (by rfl) (by exact Or.inl rfl)) de_int) (da_cons (de_fld T.cl_Scheme T.n_Scheme_masks (de_var (i := 0) (by rfl) (by exact Or.inl rfl))) (da_cons (de_fld T.cl_Scheme T.n_Scheme_q (de_var (i := 0) (by rfl) (by exact Or.inl rfl))) da_nil)))))))))))
theorem ok_Scheme_is_part (F : Fun K "is_part" "Scheme.is_part" s_Scheme_is_part f fd) (T : Txt K mg C_Scheme) (c_is_integer : CalD P w K mg base 1 "is_integer" (frm sp_is_integer) []) (c_are_vectors : CalD P w K mg base 3 "are_vectors" (frm sp_are_vectors) []) (c_is_vector : CalD P w K mg base 2 "is_vector" (frm sp_is_vector) []) : FnD P w K mg base 4 f fd ["self", "value"] (sp_Scheme_is_part C_Scheme) :=
  fnd_of F sc_Scheme_is_part (len_Scheme_is_part C_Scheme) (fun _ _ _ _ _ hr => d_Scheme_is_part T c_is_integer c_are_vectors c_is_vector hr) (p_Scheme_is_part C_Scheme)
theorem sc_Scheme___init__ : FnScope nm_Scheme___init__ ["self", "q", "shape", "servers", "coins", "masks", "parts"] (defScope s_Scheme___init__) := ⟨rfl, rfl, rfl, by decide +kernel, rfl, by decide +kernel, by decide +kernel⟩
theorem d_Scheme___init__ (T : Txt K mg C_Scheme) (c_require_prime : CalD P w K mg base 2 "require_prime" (frm sp_require_prime) []) (c_require_shape : CalD P w K mg base 3 "require_shape" (frm sp_require_shape) []) (c_is_integer : CalD P w K mg base 1 "is_integer" (frm sp_is_integer) []) (m_Scheme_is_part : MetD P w K mg base 4 C_Scheme "is_part" (frm (sp_Scheme_is_part C_Scheme)) []) {A : Around} {outer : List Env} {s : Shared} {H : Hp} {cdv : Value} (hr : RoomG 4 (A.deeper (envOfC "Scheme.__init__" (defScope s_Scheme___init__) s.heap.objs.size f cdv))) : DSs (cxOf CX0 P w K mg base nm_Scheme___init__ "Scheme.__init__" (defScope s_Scheme___init__) f cdv A outer s H noE).nox (defBody s_Scheme___init__) (tb_Scheme___init__ C_Scheme (frm sp_require_prime) (frm sp_require_shape) (frm sp_is_integer) (frm (sp_Scheme_is_part C_Scheme))) :=
  have nd := sc_Scheme___init__.nd
  (dss_cons (ds_expr (de_call c_require_prime hr (by decide) (by rfl) (da_cons (de_var (i := 1) (by rfl) (by exact Or.inl rfl)) da_nil)))
    (dss_cons (ds_expr (de_call c_require_shape hr (by decide) (by rfl) (da_cons (de_var (i := 2) (by rfl) (by exact Or.inl rfl)) da_nil)))
    (dss_cons (ds_fld T.cl_Scheme T.n_Scheme_q (de_var (i := 0) (by rfl) (by exact Or.inl rfl)) (de_var (i := 1) (by rfl) (by exact Or.inl rfl)))
    (dss_cons (ds_fld T.cl_Scheme T.n_Scheme_shape (de_var (i := 0) (by rfl) (by exact Or.inl rfl)) (de_var (i := 2) (by rfl) (by exact Or.inl rfl)))
    (dss_cons (ds_fld T.cl_Scheme T.n_Scheme_servers (de_var (i := 0) (by rfl) (by exact Or.inl rfl)) (de_var (i := 3) (by rfl) (by exact Or.inl rfl)))
    (dss_cons (ds_fld T.cl_Scheme T.n_Scheme_coins (de_var (i := 0) (by rfl) (by exact Or.inl rfl)) (de_var (i := 4) (by rfl) (by exact Or.inl rfl)))
    (dss_cons (ds_fld T.cl_Scheme T.n_Scheme_masks (de_var (i := 0) (by rfl) (by exact Or.inl rfl)) (de_var (i := 5) (by rfl) (by exact Or.inl rfl)))
    (dss_cons (ds_fld T.cl_Scheme T.n_Scheme_parts (de_var (i := 0) (by rfl) (by exact Or.inl rfl)) (de_var (i := 6) (by rfl) (by exact Or.inl rfl)))
    (dss_cons (ds_set (i := 7) nd (by rfl) (by exact Or.inl rfl) (de_tup (da_cons (de_tup (da_cons (de_var (i := 3) (by rfl) (by exact Or.inl rfl)) (da_cons de_int (da_cons (de_gintE (by rfl) T.g_MAX_SERVERS) da_nil)))) (da_cons (de_tup (da_cons (de_var (i := 4) (by rfl) (by exact Or.inl rfl)) (da_cons de_int (da_cons (de_gintE (by rfl) T.g_MAX_COINS) da_nil)))) (da_cons (de_tup (da_cons (de_var (i := 5) (by rfl) (by exact Or.inl rfl)) (da_cons de_int (da_cons (de_gintE (by rfl) T.g_MAX_MASKS) da_nil)))) da_nil)))))
    (dss_cons (ds_if (dt_not (dt_tru (de_l1lc (c_all (by rfl) (by rfl) T.b_all) lr_all (by rfl) nd (di_seq (de_var (i := 7) (by rfl) (by exact Or.inl rfl))) (blkOk_by (own := [("value", 10), ("low", 11), ("high", 12)]) (by kernel_rfl)) (by rfl) (fun _ _ _ _ _ => (pg_tup (by rfl) (pgs_cons (pg_name (i := 10) nd (by rfl) (by exact Or.inl rfl)) (pgs_cons (pg_name (i := 11) nd (by rfl) (by exact Or.inl rfl)) (pgs_cons (pg_name (i := 12) nd (by rfl) (by exact Or.inl rfl)) pgs_nil))))) (fun _ _ _ _ _ => dts_nil) (fun _ _ _ _ _ => (de_call c_is_integer hr (by decide) (by rfl) (da_cons (de_var (i := 10) (by rfl) (by exact Or.inl rfl)) (da_cons (de_var (i := 11) (by rfl) (by exact Or.inl rfl)) (da_cons (de_var (i := 12) (by rfl) (by exact Or.inl rfl)) da_nil)))))))) (dss_one ds_never) dss_nil)
    (dss_cons (ds_if (dw_pt (dw_or (dt_not (dt_tru (de_isi (by rfl) T.b_isinstance (by rfl) T.b_tuple PyProof.Rows.boot_tuple (de_var (i := 6) (by rfl) (by exact Or.inl rfl))))) (dw_or1 (dt_not (dt_chain op_le od_le op_le od_le de_int (de_len (by rfl) T.b_len (de_var (i := 6) (by rfl) (by exact Or.inl rfl))) (de_gintE (by rfl) T.g_MAX_PARTS)))))) (dss_one ds_never) dss_nil)
    (dss_one (ds_for PassesOwn.never (by rfl) (di_enum (by rfl) T.b_enumerate (da_cons (de_var (i := 6) (by rfl) (by exact Or.inl rfl)) da_nil)) (pg_tup (by rfl) (pgs_cons (pg_name (i := 8) nd (by rfl) (by exact Or.inl rfl)) (pgs_cons (pg_name (i := 9) nd (by rfl) (by exact Or.inl rfl)) pgs_nil))) (dss_one (ds_if (dt_not (dt_tru (de_meth m_Scheme_is_part hr (by decide) (de_var (i := 0) (by rfl) (by exact Or.inl rfl)) (da_cons (de_var (i := 9) (by rfl) (by exact Or.inl rfl)) da_nil)))) (dss_one ds_never) dss_nil)))))))))))))))
theorem ok_Scheme___init__ (F : Fun K "__init__" "Scheme.__init__" s_Scheme___init__ f fd) (T : Txt K mg C_Scheme) (c_require_prime : CalD P w K mg base 2 "require_prime" (frm sp_require_prime) []) (c_require_shape : CalD P w K mg base 3 "require_shape" (frm sp_require_shape) []) (c_is_integer : CalD P w K mg base 1 "is_integer" (frm sp_is_integer) []) (m_Scheme_is_part : MetD P w K mg base 4 C_Scheme "is_part" (frm (sp_Scheme_is_part C_Scheme)) []) : FnD P w K mg base 5 f fd ["self", "q", "shape", "servers", "coins", "masks", "parts"] (sp_Scheme___init__ C_Scheme) :=
  fnd_of F sc_Scheme___init__ (len_Scheme___init__ C_Scheme) (fun _ _ _ _ _ hr => d_Scheme___init__ T c_require_prime c_require_shape c_is_integer m_Scheme_is_part hr) (p_Scheme___init__ C_Scheme)
theorem sc_download : FnScope nm_download ["q", "shape", "servers"] (defScope s_download) := ⟨rfl, rfl, rfl, by decide +kernel, rfl, by decide +kernel, by decide +kernel⟩
theorem d_download (T : Txt K mg C_Scheme) (c_require_prime : CalD P w K mg base 2 "require_prime" (frm sp_require_prime) []) (c_require_shape : CalD P w K mg base 3 "require_shape" (frm sp_require_shape) []) (c_is_integer : CalD P w K mg base 1 "is_integer" (frm sp_is_integer) []) (c_entry_points : CalD P w K mg base 2 "entry_points" (frm sp_entry_points) []) (k_Scheme : MakD P w K mg base 5 "Scheme" C_Scheme (frm (sp_Scheme___init__ C_Scheme)) []) {A : Around} {outer : List Env} {s : Shared} {H : Hp} {cdv : Value} (hr : RoomG 6 (A.deeper (envOfC "download" (defScope s_download) s.heap.objs.size f cdv))) : DSs (cxOf CX0 P w K mg base nm_download "download" (defScope s_download) f cdv A outer s H noE).nox (defBody s_download) (tb_download C_Scheme (frm sp_require_prime) (frm sp_require_shape) (frm sp_is_integer) (frm sp_entry_points) (frm (sp_Scheme___init__ C_Scheme))) :=
  have nd := sc_download.nd
  (dss_cons (ds_expr (de_call c_require_prime hr (by decide) (by rfl) (da_cons (de_var (i := 0) (by rfl) (by exact Or.inl rfl)) da_nil)))
    (dss_cons (ds_expr (de_call c_require_shape hr (by decide) (by rfl) (da_cons (de_var (i := 1) (by rfl) (by exact Or.inl rfl)) da_nil)))
    (dss_cons (ds_if (dt_not (dt_tru (de_call c_is_integer hr (by decide) (by rfl) (da_cons (de_var (i := 2) (by rfl) (by exact Or.inl rfl)) (da_cons de_int (da_cons (de_gintE (by rfl) T.g_MAX_SERVERS) da_nil)))))) (dss_one ds_never) dss_nil)
    (dss_cons (ds_set (i := 3) nd (by rfl) (by exact Or.inr rfl) (de_rep (de_tup (da_cons (de_tup da_nil) da_nil)) (de_ix (de_var (i := 1) (by rfl) (by exact Or.inl rfl)) de_int)))
    (dss_cons (ds_set (i := 4) nd (by rfl) (by exact Or.inr rfl) (de_len (by rfl) T.b_len (de_ix (de_var (i := 1) (by rfl) (by exact Or.inl rfl)) de_int)))
    (dss_cons (ds_setLc (i := 5) (by rfl) nd (by rfl) (by rfl) (by exact sw_true rfl rfl rfl (by decide +kernel)) (di_seq (de_call c_entry_points hr (by decide) (by rfl) (da_cons (de_var (i := 1) (by rfl) (by exact Or.inl rfl)) da_nil))) (blkOk_by (own := [("point", 6)]) (by kernel_rfl)) (by rfl) (fun _ _ _ _ _ => (pg_name (i := 6) nd (by rfl) (by exact Or.inl rfl))) (fun _ _ _ _ _ => dts_nil) (fun _ _ _ _ _ => (de_tup (da_cons de_int (da_cons (de_var (i := 3) (by rfl) (by exact Or.inr (Or.inl rfl))) (da_cons (de_rep (de_tup (da_cons (de_var (i := 6) (by rfl) (by exact Or.inl rfl)) da_nil)) (de_var (i := 4) (by rfl) (by exact Or.inr (Or.inl rfl)))) (da_cons (de_tup da_nil) da_nil)))))))
    (dss_one (ds_ret (de_make k_Scheme hr (by decide) (by rfl) (da_cons (de_var (i := 0) (by rfl) (by exact Or.inl rfl)) (da_cons (de_var (i := 1) (by rfl) (by exact Or.inl rfl)) (da_cons (de_var (i := 2) (by rfl) (by exact Or.inl rfl)) (da_cons de_int (da_cons de_int (da_cons (de_q1 (c_tup (by rfl) T.b_tuple) lr_tup tr_tup (de_var (i := 5) (by rfl) (by exact Or.inl rfl))) da_nil)))))))))))))))
theorem ok_download (F : Fun K "download" "download" s_download f fd) (T : Txt K mg C_Scheme) (c_require_prime : CalD P w K mg base 2 "require_prime" (frm sp_require_prime) []) (c_require_shape : CalD P w K mg base 3 "require_shape" (frm sp_require_shape) []) (c_is_integer : CalD P w K mg base 1 "is_integer" (frm sp_is_integer) []) (c_entry_points : CalD P w K mg base 2 "entry_points" (frm sp_entry_points) []) (k_Scheme : MakD P w K mg base 5 "Scheme" C_Scheme (frm (sp_Scheme___init__ C_Scheme)) []) : FnD P w K mg base 7 f fd ["q", "shape", "servers"] (sp_download C_Scheme) :=
  fnd_of F sc_download (len_download C_Scheme) (fun _ _ _ _ _ hr => d_download T c_require_prime c_require_shape c_is_integer c_entry_points k_Scheme hr) (p_download C_Scheme)
theorem sc_Scheme___len__ : FnScope nm_Scheme___len__ ["self"] (defScope s_Scheme___len__) := ⟨rfl, rfl, rfl, by decide +kernel, rfl, by decide +kernel, by decide +kernel⟩
theorem d_Scheme___len__ (T : Txt K mg C_Scheme) {A : Around} {outer : List Env} {s : Shared} {H : Hp} {cdv : Value} (hr : RoomG 0 (A.deeper (envOfC "Scheme.__len__" (defScope s_Scheme___len__) s.heap.objs.size f cdv))) : DSs (cxOf CX0 P w K mg base nm_Scheme___len__ "Scheme.__len__" (defScope s_Scheme___len__) f cdv A outer s H noE).nox (defBody s_Scheme___len__) (tb_Scheme___len__ C_Scheme) :=
  have nd := sc_Scheme___len__.nd
  (dss_one (ds_ret (de_len (by rfl) T.b_len (de_fld T.cl_Scheme T.n_Scheme_parts (de_var (i := 0) (by rfl) (by exact Or.inl rfl))))))
theorem ok_Scheme___len__ (F : Fun K "__len__" "Scheme.__len__" s_Scheme___len__ f fd) (T : Txt K mg C_Scheme) : FnD P w K mg base 1 f fd ["self"] (sp_Scheme___len__ C_Scheme) :=
  fnd_of F sc_Scheme___len__ (len_Scheme___len__ C_Scheme) (fun _ _ _ _ _ hr => d_Scheme___len__ T hr) (p_Scheme___len__ C_Scheme)
theorem sc_Scheme_question : FnScope nm_Scheme_question ["self", "part", "entry", "coins"] (defScope s_Scheme_question) := ⟨rfl, rfl, rfl, by decide +kernel, rfl, by decide +kernel, by decide +kernel⟩
theorem d_Scheme_question (T : Txt K mg C_Scheme) {A : Around} {outer : List Env} {s : Shared} {H : Hp} {cdv : Value} (hr : RoomG 0 (A.deeper (envOfC "Scheme.question" (defScope s_Scheme_question) s.heap.objs.size f cdv))) : DSs (cxOf CX0 P w K mg base nm_Scheme_question "Scheme.question" (defScope s_Scheme_question) f cdv A outer s H noE).nox (defBody s_Scheme_question) (tb_Scheme_question C_Scheme) :=
  have nd := sc_Scheme_question.nd
  (dss_cons (ds_par (i := 4) (j := 5) (by rfl) nd (by rfl) (by rfl) (by decide) (by rfl) (by rfl) (da_cons (de_ix (de_ix (de_fld T.cl_Scheme T.n_Scheme_parts (de_var (i := 0) (by rfl) (by exact Or.inl rfl))) (de_var (i := 1) (by rfl) (by exact Or.inl rfl))) de_int) (da_cons (de_ix (de_ix (de_ix (de_fld T.cl_Scheme T.n_Scheme_parts (de_var (i := 0) (by rfl) (by exact Or.inl rfl))) (de_var (i := 1) (by rfl) (by exact Or.inl rfl))) de_int) (de_var (i := 2) (by rfl) (by exact Or.inl rfl))) da_nil)) (by rfl))
    (dss_cons (ds_set (i := 6) nd (by rfl) (by exact Or.inl rfl) (de_lst da_nil))
    (dss_cons (ds_for PassesOwn.never (by rfl) (di_zipS (by rfl) T.b_zip (da_cons (de_var (i := 4) (by rfl) (by exact Or.inl rfl)) (da_cons (de_var (i := 5) (by rfl) (by exact Or.inl rfl)) da_nil))) (pg_tup (by rfl) (pgs_cons (pg_name (i := 7) nd (by rfl) (by exact Or.inl rfl)) (pgs_cons (pg_name (i := 8) nd (by rfl) (by exact Or.inl rfl)) pgs_nil))) (dss_cons (ds_set (i := 9) nd (by rfl) (by exact Or.inl rfl) (de_add (de_var (i := 8) (by rfl) (by exact Or.inl rfl)) (de_l1lc (c_sum (by rfl) (by rfl) T.b_sum) lr_sum (by rfl) nd (di_zipS (by rfl) T.b_zip (da_cons (de_var (i := 7) (by rfl) (by exact Or.inl rfl)) (da_cons (de_var (i := 3) (by rfl) (by exact Or.inl rfl)) da_nil))) (blkOk_by (own := [("factor", 10), ("coin", 11)]) (by kernel_rfl)) (by rfl) (fun _ _ _ _ _ => (pg_tup (by rfl) (pgs_cons (pg_name (i := 10) nd (by rfl) (by exact Or.inl rfl)) (pgs_cons (pg_name (i := 11) nd (by rfl) (by exact Or.inl rfl)) pgs_nil)))) (fun _ _ _ _ _ => dts_nil) (fun _ _ _ _ _ => (de_mul (de_var (i := 10) (by rfl) (by exact Or.inl rfl)) (de_var (i := 11) (by rfl) (by exact Or.inl rfl)))))))
    (dss_one (ds_expr (de_app (de_var (i := 6) (by rfl) (by exact Or.inl rfl)) (de_mod (de_var (i := 9) (by rfl) (by exact Or.inl rfl)) (de_fld T.cl_Scheme T.n_Scheme_q (de_var (i := 0) (by rfl) (by exact Or.inl rfl)))))))))
    (dss_one (ds_ret (de_q1 (c_tup (by rfl) T.b_tuple) lr_tup tr_tup (de_var (i := 6) (by rfl) (by exact Or.inl rfl))))))))
theorem ok_Scheme_question (F : Fun K "question" "Scheme.question" s_Scheme_question f fd) (T : Txt K mg C_Scheme) : FnD P w K mg base 1 f fd ["self", "part", "entry", "coins"] (sp_Scheme_question C_Scheme) :=
  fnd_of F sc_Scheme_question (len_Scheme_question C_Scheme) (fun _ _ _ _ _ hr => d_Scheme_question T hr) (p_Scheme_question C_Scheme)
theorem sc__law_point : FnScope nm__law_point ["_law_shape_here", "_law_entry"] (defScope s__law_point) := ⟨rfl, rfl, rfl, by decide +kernel, rfl, by decide +kernel, by decide +kernel⟩
theorem d__law_point (T : Txt K mg C_Scheme) {A : Around} {outer : List Env} {s : Shared} {H : Hp} {cdv : Value} (hr : RoomG 0 (A.deeper (envOfC "_law_point" (defScope s__law_point) s.heap.objs.size f cdv))) : DSs (cxOf CX0 P w K mg base nm__law_point "_law_point" (defScope s__law_point) f cdv A outer s H noE).nox (defBody s__law_point) (tb__law_point) :=
  have nd := sc__law_point.nd
  (dss_one (ds_ret (de_l1lc (c_tup (by rfl) T.b_tuple) lr_tup (by rfl) nd (di_rng1 (by rfl) T.b_range (da_cons (de_ix (de_var (i := 0) (by rfl) (by exact Or.inr (Or.inl rfl))) de_int) da_nil)) (blkOk_by (own := [("_law_at", 2)]) (by kernel_rfl)) (by rfl) (fun _ _ _ _ _ => (pg_name (i := 2) nd (by rfl) (by exact Or.inl rfl))) (fun _ _ _ _ _ => dts_nil) (fun _ _ _ _ _ => (de_int1 (by rfl) T.b_int (da_cons (de_cmp (op_inA hr.rm) od_inA (de_var (i := 2) (by rfl) (by exact Or.inl rfl)) (de_ix (de_ix (de_var (i := 0) (by rfl) (by exact Or.inr (Or.inl rfl))) de_int) (de_var (i := 1) (by rfl) (by exact Or.inr (Or.inl rfl)))) (by rfl)) da_nil))))))
theorem ok__law_point (F : Fun K "_law_point" "_law_point" s__law_point f fd) (T : Txt K mg C_Scheme) : FnD P w K mg base 1 f fd ["_law_shape_here", "_law_entry"] sp__law_point :=
  fnd_of F sc__law_point (len__law_point) (fun _ _ _ _ _ hr => d__law_point T hr) (p__law_point)
theorem sc__law_row : FnScope nm__law_row ["_law_shape_here", "_law_question", "_law_q"] (defScope s__law_row) := ⟨rfl, rfl, rfl, by decide +kernel, rfl, by decide +kernel, by decide +kernel⟩
theorem d__law_row (T : Txt K mg C_Scheme) {A : Around} {outer : List Env} {s : Shared} {H : Hp} {cdv : Value} (hr : RoomG 0 (A.deeper (envOfC "_law_row" (defScope s__law_row) s.heap.objs.size f cdv))) : DSs (cxOf CX0 P w K mg base nm__law_row "_law_row" (defScope s__law_row) f cdv A outer s H noE).nox (defBody s__law_row) (tb__law_row) :=
  have nd := sc__law_row.nd
  (dss_cons (ds_set (i := 3) nd (by rfl) (by exact Or.inl rfl) (de_lst da_nil))
    (dss_cons (ds_for PassesOwn.never (by rfl) (di_seq (de_ix (de_var (i := 0) (by rfl) (by exact Or.inl rfl)) de_int)) (pg_name (i := 4) nd (by rfl) (by exact Or.inl rfl)) (dss_cons (ds_set (i := 5) nd (by rfl) (by exact Or.inl rfl) de_int)
    (dss_cons (ds_for PassesOwn.never (by rfl) (di_seq (de_var (i := 4) (by rfl) (by exact Or.inl rfl))) (pg_name (i := 6) nd (by rfl) (by exact Or.inl rfl)) (dss_one (ds_set (i := 5) nd (by rfl) (by exact Or.inl rfl) (de_mul (de_var (i := 5) (by rfl) (by exact Or.inl rfl)) (de_ix (de_var (i := 1) (by rfl) (by exact Or.inl rfl)) (de_var (i := 6) (by rfl) (by exact Or.inl rfl)))))))
    (dss_one (ds_expr (de_app (de_var (i := 3) (by rfl) (by exact Or.inl rfl)) (de_mod (de_var (i := 5) (by rfl) (by exact Or.inl rfl)) (de_var (i := 2) (by rfl) (by exact Or.inl rfl)))))))))
    (dss_one (ds_ret (de_q1 (c_tup (by rfl) T.b_tuple) lr_tup tr_tup (de_var (i := 3) (by rfl) (by exact Or.inl rfl)))))))
theorem ok__law_row (F : Fun K "_law_row" "_law_row" s__law_row f fd) (T : Txt K mg C_Scheme) : FnD P w K mg base 1 f fd ["_law_shape_here", "_law_question", "_law_q"] sp__law_row :=
  fnd_of F sc__law_row (len__law_row) (fun _ _ _ _ _ hr => d__law_row T hr) (p__law_row)
theorem sc_Scheme_group_parts : FnScope nm_Scheme_group_parts ["self", "group"] (defScope s_Scheme_group_parts) := ⟨rfl, rfl, rfl, by decide +kernel, rfl, by decide +kernel, by decide +kernel⟩
theorem d_Scheme_group_parts (T : Txt K mg C_Scheme) {A : Around} {outer : List Env} {s : Shared} {H : Hp} {cdv : Value} (hr : RoomG 0 (A.deeper (envOfC "Scheme.group_parts" (defScope s_Scheme_group_parts) s.heap.objs.size f cdv))) : DSs (cxOf CX0 P w K mg base nm_Scheme_group_parts "Scheme.group_parts" (defScope s_Scheme_group_parts) f cdv A outer s H noE).nox (defBody s_Scheme_group_parts) (tb_Scheme_group_parts C_Scheme) :=
  have nd := sc_Scheme_group_parts.nd
  (dss_one (ds_ret (de_l1lc (c_tup (by rfl) T.b_tuple) lr_tup (by rfl) nd (di_enum (by rfl) T.b_enumerate (da_cons (de_fld T.cl_Scheme T.n_Scheme_parts (de_var (i := 0) (by rfl) (by exact Or.inl rfl))) da_nil)) (blkOk_by (own := [("index", 2), ("part", 3)]) (by kernel_rfl)) (by rfl) (fun _ _ _ _ _ => (pg_tup (by rfl) (pgs_cons (pg_name (i := 2) nd (by rfl) (by exact Or.inl rfl)) (pgs_cons (pg_name (i := 3) nd (by rfl) (by exact Or.inl rfl)) pgs_nil)))) (fun _ _ _ _ _ => (dts_one (dt_cmp (op_inA hr.rm) od_inA (de_ix (de_var (i := 3) (by rfl) (by exact Or.inl rfl)) de_int) (de_var (i := 1) (by rfl) (by exact Or.inr (Or.inl rfl))) (by rfl)))) (fun _ _ _ _ _ => (de_var (i := 2) (by rfl) (by exact Or.inl rfl))))))
theorem ok_Scheme_group_parts (F : Fun K "group_parts" "Scheme.group_parts" s_Scheme_group_parts f fd) (T : Txt K mg C_Scheme) : FnD P w K mg base 1 f fd ["self", "group"] (sp_Scheme_group_parts C_Scheme) :=
  fnd_of F sc_Scheme_group_parts (len_Scheme_group_parts C_Scheme) (fun _ _ _ _ _ hr => d_Scheme_group_parts T hr) (p_Scheme_group_parts C_Scheme)
theorem sc_Scheme_seen_by : FnScope nm_Scheme_seen_by ["self", "group", "entry", "coins"] (defScope s_Scheme_seen_by) := ⟨rfl, rfl, rfl, by decide +kernel, rfl, by decide +kernel, by decide +kernel⟩
theorem d_Scheme_seen_by (T : Txt K mg C_Scheme) (m_Scheme_group_parts : MetD P w K mg base 1 C_Scheme "group_parts" (frm (sp_Scheme_group_parts C_Scheme)) []) (m_Scheme_question : MetD P w K mg base 1 C_Scheme "question" (frm (sp_Scheme_question C_Scheme)) []) {A : Around} {outer : List Env} {s : Shared} {H : Hp} {cdv : Value} (hr : RoomG 1 (A.deeper (envOfC "Scheme.seen_by" (defScope s_Scheme_seen_by) s.heap.objs.size f cdv))) : DSs (cxOf CX0 P w K mg base nm_Scheme_seen_by "Scheme.seen_by" (defScope s_Scheme_seen_by) f cdv A outer s H noE).nox (defBody s_Scheme_seen_by) (tb_Scheme_seen_by C_Scheme (frm (sp_Scheme_group_parts C_Scheme)) (frm (sp_Scheme_question C_Scheme))) :=
  have nd := sc_Scheme_seen_by.nd
  (dss_one (ds_ret (de_l1lc (c_tup (by rfl) T.b_tuple) lr_tup (by rfl) nd (di_seq (de_meth m_Scheme_group_parts hr (by decide) (de_var (i := 0) (by rfl) (by exact Or.inr (Or.inl rfl))) (da_cons (de_var (i := 1) (by rfl) (by exact Or.inl rfl)) da_nil))) (blkOk_by (own := [("part", 4)]) (by kernel_rfl)) (by rfl) (fun _ _ _ _ _ => (pg_name (i := 4) nd (by rfl) (by exact Or.inl rfl))) (fun _ _ _ _ _ => dts_nil) (fun _ _ _ _ _ => (de_meth m_Scheme_question hr (by decide) (de_var (i := 0) (by rfl) (by exact Or.inr (Or.inl rfl))) (da_cons (de_var (i := 4) (by rfl) (by exact Or.inl rfl)) (da_cons (de_var (i := 2) (by rfl) (by exact Or.inr (Or.inl rfl))) (da_cons (de_var (i := 3) (by rfl) (by exact Or.inr (Or.inl rfl))) da_nil))))))))
theorem ok_Scheme_seen_by (F : Fun K "seen_by" "Scheme.seen_by" s_Scheme_seen_by f fd) (T : Txt K mg C_Scheme) (m_Scheme_group_parts : MetD P w K mg base 1 C_Scheme "group_parts" (frm (sp_Scheme_group_parts C_Scheme)) []) (m_Scheme_question : MetD P w K mg base 1 C_Scheme "question" (frm (sp_Scheme_question C_Scheme)) []) : FnD P w K mg base 2 f fd ["self", "group", "entry", "coins"] (sp_Scheme_seen_by C_Scheme) :=
  fnd_of F sc_Scheme_seen_by (len_Scheme_seen_by C_Scheme) (fun _ _ _ _ _ hr => d_Scheme_seen_by T m_Scheme_group_parts m_Scheme_question hr) (p_Scheme_seen_by C_Scheme)
theorem sc__law_inverse : FnScope nm__law_inverse ["_law_number", "_law_q"] (defScope s__law_inverse) := ⟨rfl, rfl, rfl, by decide +kernel, rfl, by decide +kernel, by decide +kernel⟩
theorem d__law_inverse (T : Txt K mg C_Scheme) {A : Around} {outer : List Env} {s : Shared} {H : Hp} {cdv : Value} (hr : RoomG 0 (A.deeper (envOfC "_law_inverse" (defScope s__law_inverse) s.heap.objs.size f cdv))) : DSs (cxOf CX0 P w K mg base nm__law_inverse "_law_inverse" (defScope s__law_inverse) f cdv A outer s H noE).nox (defBody s__law_inverse) (tb__law_inverse) :=
  have nd := sc__law_inverse.nd
  (dss_cons (ds_for PassesOwn.never (by rfl) (di_rng2 (by rfl) T.b_range (da_cons de_int (da_cons (de_var (i := 1) (by rfl) (by exact Or.inl rfl)) da_nil))) (pg_name (i := 2) nd (by rfl) (by exact Or.inl rfl)) (dss_one (ds_if (dt_cmp (op_eqA hr.rm.units) od_eq (de_mod (de_mul (de_var (i := 0) (by rfl) (by exact Or.inl rfl)) (de_var (i := 2) (by rfl) (by exact Or.inl rfl))) (de_var (i := 1) (by rfl) (by exact Or.inl rfl))) de_int (nomark _)) (dss_one (ds_ret (de_var (i := 2) (by rfl) (by exact Or.inl rfl)))) dss_nil)))
    (dss_one (ds_ret de_int)))
theorem ok__law_inverse (F : Fun K "_law_inverse" "_law_inverse" s__law_inverse f fd) (T : Txt K mg C_Scheme) : FnD P w K mg base 1 f fd ["_law_number", "_law_q"] sp__law_inverse :=
  fnd_of F sc__law_inverse (len__law_inverse) (fun _ _ _ _ _ hr => d__law_inverse T hr) (p__law_inverse)
theorem sc__law_reduced : FnScope nm__law_reduced ["_law_rows", "_law_q"] (defScope s__law_reduced) := ⟨rfl, rfl, rfl, by decide +kernel, rfl, by decide +kernel, by decide +kernel⟩
theorem d__law_reduced (T : Txt K mg C_Scheme) (c__law_inverse : CalD P w K mg base 1 "_law_inverse" (frm sp__law_inverse) []) {A : Around} {outer : List Env} {s : Shared} {H : Hp} {cdv : Value} (hr : RoomG 1 (A.deeper (envOfC "_law_reduced" (defScope s__law_reduced) s.heap.objs.size f cdv))) : DSs (cxOf CX0 P w K mg base nm__law_reduced "_law_reduced" (defScope s__law_reduced) f cdv A outer s H noE).nox (defBody s__law_reduced) (tb__law_reduced (frm sp__law_inverse)) :=
  have nd := sc__law_reduced.nd
  (dss_cons (ds_set (i := 2) nd (by rfl) (by exact Or.inl rfl) de_disp0)
    (dss_cons (ds_for PassesOwn.never (by rfl) (di_seq (de_var (i := 0) (by rfl) (by exact Or.inl rfl))) (pg_name (i := 3) nd (by rfl) (by exact Or.inl rfl)) (dss_cons (ds_set (i := 4) nd (by rfl) (by exact Or.inr rfl) (de_q1 (c_lst (by rfl) T.b_list) lr_lst tr_lst (de_var (i := 3) (by rfl) (by exact Or.inl rfl))))
    (dss_cons (ds_for PassesOwn.never (by rfl) (di_seq (de_listD (by rfl) (by rfl) T.b_list (de_var (i := 2) (by rfl) (by exact Or.inl rfl)))) (pg_name (i := 5) nd (by rfl) (by exact Or.inl rfl)) (dss_cons (ds_set (i := 6) nd (by rfl) (by exact Or.inr rfl) (de_ix (de_var (i := 4) (by rfl) (by exact Or.inr (Or.inl rfl))) (de_var (i := 5) (by rfl) (by exact Or.inl rfl))))
    (dss_one (ds_set (i := 4) nd (by rfl) (by exact Or.inr rfl) (de_lc (by rfl) nd (by exact (di_zipN (by rfl) T.b_zip (da_cons (de_var (i := 4) (by rfl) (by exact Or.inr (Or.inl rfl))) (da_cons (de_getK (hu_of hr.rm) (de_var (i := 2) (by rfl) (by exact Or.inl rfl)) (de_var (i := 5) (by rfl) (by exact Or.inl rfl)) (by intro _ _; rfl)) da_nil)))) (blkOk_by (own := [("_law_one", 10), ("_law_other", 11)]) (by kernel_rfl)) (by rfl) (fun _ _ _ _ _ => (pg_tup (by rfl) (pgs_cons (pg_name (i := 10) nd (by rfl) (by exact Or.inl rfl)) (pgs_cons (pg_name (i := 11) nd (by rfl) (by exact Or.inl rfl)) pgs_nil)))) (fun _ _ _ _ _ => dts_nil) (fun _ _ _ _ _ => (de_mod (de_sub (de_var (i := 10) (by rfl) (by exact Or.inl rfl)) (de_mul (de_var (i := 6) (by rfl) (by exact Or.inr (Or.inl rfl))) (de_var (i := 11) (by rfl) (by exact Or.inl rfl)))) (de_var (i := 1) (by rfl) (by exact Or.inr (Or.inl rfl))))))))))
    (dss_cons (ds_setLc (i := 7) (by rfl) nd (by rfl) (by rfl) (by exact sw_true rfl rfl rfl (by decide +kernel)) (di_rng1 (by rfl) T.b_range (da_cons (de_len (by rfl) T.b_len (de_var (i := 4) (by rfl) (by exact Or.inr (Or.inl rfl)))) da_nil)) (blkOk_by (own := [("_law_k", 12)]) (by kernel_rfl)) (by rfl) (fun _ _ _ _ _ => (pg_name (i := 12) nd (by rfl) (by exact Or.inl rfl))) (fun _ _ _ _ _ => (dts_one (dt_cmp (op_neA hr.rm.units) od_ne (de_ix (de_var (i := 4) (by rfl) (by exact Or.inr (Or.inl rfl))) (de_var (i := 12) (by rfl) (by exact Or.inl rfl))) de_int (nomark _)))) (fun _ _ _ _ _ => (de_var (i := 12) (by rfl) (by exact Or.inl rfl))))
    (dss_one (ds_if (dt_cmp (op_neA hr.rm.units) od_ne (de_var (i := 7) (by rfl) (by exact Or.inl rfl)) (de_lst da_nil) (nomark _)) (dss_cons (ds_set (i := 8) nd (by rfl) (by exact Or.inl rfl) (de_ix (de_var (i := 7) (by rfl) (by exact Or.inl rfl)) de_int))
    (dss_cons (ds_set (i := 9) nd (by rfl) (by exact Or.inr rfl) (de_call c__law_inverse hr (by decide) (by rfl) (da_cons (de_ix (de_var (i := 4) (by rfl) (by exact Or.inr (Or.inl rfl))) (de_var (i := 8) (by rfl) (by exact Or.inl rfl))) (da_cons (de_var (i := 1) (by rfl) (by exact Or.inr (Or.inl rfl))) da_nil))))
    (dss_cons (ds_set (i := 4) nd (by rfl) (by exact Or.inr rfl) (de_lc (by rfl) nd (di_seq (de_var (i := 4) (by rfl) (by exact Or.inr (Or.inl rfl)))) (blkOk_by (own := [("_law_number", 13)]) (by kernel_rfl)) (by rfl) (fun _ _ _ _ _ => (pg_name (i := 13) nd (by rfl) (by exact Or.inl rfl))) (fun _ _ _ _ _ => dts_nil) (fun _ _ _ _ _ => (de_mod (de_mul (de_var (i := 13) (by rfl) (by exact Or.inl rfl)) (de_var (i := 9) (by rfl) (by exact Or.inr (Or.inl rfl)))) (de_var (i := 1) (by rfl) (by exact Or.inr (Or.inl rfl)))))))
    (dss_cons (ds_for PassesOwn.never (by rfl) (di_seq (de_listD (by rfl) (by rfl) T.b_list (de_var (i := 2) (by rfl) (by exact Or.inl rfl)))) (pg_name (i := 5) nd (by rfl) (by exact Or.inl rfl)) (dss_cons (ds_set (i := 6) nd (by rfl) (by exact Or.inr rfl) (de_ix (de_getK (hu_of hr.rm) (de_var (i := 2) (by rfl) (by exact Or.inl rfl)) (de_var (i := 5) (by rfl) (by exact Or.inl rfl)) (by intro _ _; rfl)) (de_var (i := 8) (by rfl) (by exact Or.inl rfl))))
    (dss_one (ds_subK (hu_of hr.rm) (de_lc (by rfl) nd (by exact (di_zipN (by rfl) T.b_zip (da_cons (de_getK (hu_of hr.rm) (de_var (i := 2) (by rfl) (by exact Or.inl rfl)) (de_var (i := 5) (by rfl) (by exact Or.inl rfl)) (by intro _ _; rfl)) (da_cons (de_var (i := 4) (by rfl) (by exact Or.inr (Or.inl rfl))) da_nil)))) (blkOk_by (own := [("_law_one", 10), ("_law_other", 11)]) (by kernel_rfl)) (by rfl) (fun _ _ _ _ _ => (pg_tup (by rfl) (pgs_cons (pg_name (i := 10) nd (by rfl) (by exact Or.inl rfl)) (pgs_cons (pg_name (i := 11) nd (by rfl) (by exact Or.inl rfl)) pgs_nil)))) (fun _ _ _ _ _ => dts_nil) (fun _ _ _ _ _ => (de_mod (de_sub (de_var (i := 10) (by rfl) (by exact Or.inl rfl)) (de_mul (de_var (i := 6) (by rfl) (by exact Or.inr (Or.inl rfl))) (de_var (i := 11) (by rfl) (by exact Or.inl rfl)))) (de_var (i := 1) (by rfl) (by exact Or.inr (Or.inl rfl)))))) (de_var (i := 2) (by rfl) (by exact Or.inl rfl)) (de_var (i := 5) (by rfl) (by exact Or.inl rfl))))))
    (dss_one (ds_subK (hu_of hr.rm) (de_var (i := 4) (by rfl) (by exact Or.inr (Or.inl rfl))) (de_var (i := 2) (by rfl) (by exact Or.inl rfl)) (de_var (i := 8) (by rfl) (by exact Or.inl rfl)))))))) dss_nil))))))
    (dss_one (ds_ret (de_var (i := 2) (by rfl) (by exact Or.inl rfl))))))
theorem ok__law_reduced (F : Fun K "_law_reduced" "_law_reduced" s__law_reduced f fd) (T : Txt K mg C_Scheme) (c__law_inverse : CalD P w K mg base 1 "_law_inverse" (frm sp__law_inverse) []) : FnD P w K mg base 2 f fd ["_law_rows", "_law_q"] sp__law_reduced :=
  fnd_of F sc__law_reduced (len__law_reduced) (fun _ _ _ _ _ hr => d__law_reduced T c__law_inverse hr) (p__law_reduced)
theorem sc_law : FnScope nm_law ["_law_script"] (defScope s_law) := ⟨rfl, rfl, rfl, by decide +kernel, rfl, by decide +kernel, by decide +kernel⟩
theorem d_law (T : Txt K mg C_Scheme) (c__law_pen : CalD P w K mg base 1 "_law_pen" (frm sp__law_pen) []) (c__law_prime : CalD P w K mg base 3 "_law_prime" (frm sp__law_prime) []) (c__law_shape : CalD P w K mg base 3 "_law_shape" (frm sp__law_shape) []) (c__law_draw : CalD P w K mg base 2 "_law_draw" (frm sp__law_draw) []) (c_download : CalD P w K mg base 7 "download" (frm (sp_download C_Scheme)) []) (m_Scheme___len__ : MetD P w K mg base 1 C_Scheme "__len__" (frm (sp_Scheme___len__ C_Scheme)) []) (m_Scheme_question : MetD P w K mg base 1 C_Scheme "question" (frm (sp_Scheme_question C_Scheme)) []) (c__law_point : CalD P w K mg base 1 "_law_point" (frm sp__law_point) []) (c__law_row : CalD P w K mg base 1 "_law_row" (frm sp__law_row) []) (m_Scheme_seen_by : MetD P w K mg base 2 C_Scheme "seen_by" (frm (sp_Scheme_seen_by C_Scheme)) []) (c__law_reduced : CalD P w K mg base 2 "_law_reduced" (frm sp__law_reduced) []) {A : Around} {outer : List Env} {s : Shared} {H : Hp} {cdv : Value} (hr : RoomG 7 (A.deeper (envOfC "law" (defScope s_law) s.heap.objs.size f cdv))) : DSs (cxOf CX0 P w K mg base nm_law "law" (defScope s_law) f cdv A outer s H noE).nox (defBody s_law) (tb_law C_Scheme (frm sp__law_pen) (frm sp__law_prime) (frm sp__law_shape) (frm sp__law_draw) (frm (sp_download C_Scheme)) (frm (sp_Scheme___len__ C_Scheme)) (frm (sp_Scheme_question C_Scheme)) (frm sp__law_point) (frm sp__law_row) (frm (sp_Scheme_seen_by C_Scheme)) (frm sp__law_reduced)) :=
  have nd := sc_law.nd
  (dss_cons (ds_set (i := 1) nd (by rfl) (by exact Or.inl rfl) (de_call c__law_pen hr (by decide) (by rfl) (da_cons (de_var (i := 0) (by rfl) (by exact Or.inl rfl)) da_nil)))
    (dss_cons (ds_for PassesOwn.never (by rfl) (di_rng1 (by rfl) T.b_range (da_cons de_int da_nil)) (pg_name (i := 2) nd (by rfl) (by exact Or.inl rfl)) (dss_cons (ds_asg (tt := (.tp (.cons (.nm 3) (.cons (.nm 4) (.cons (.nm 5) .nil))))) (de_tup (da_cons (de_call c__law_prime hr (by decide) (by rfl) (da_cons (de_var (i := 1) (by rfl) (by exact Or.inl rfl)) da_nil)) (da_cons (de_call c__law_shape hr (by decide) (by rfl) (da_cons (de_var (i := 1) (by rfl) (by exact Or.inl rfl)) (da_cons de_int da_nil))) (da_cons (de_add de_int (de_call c__law_draw hr (by decide) (by rfl) (da_cons (de_var (i := 1) (by rfl) (by exact Or.inl rfl)) (da_cons de_int da_nil)))) da_nil)))) (pg_tup (by rfl) (pgs_cons (pg_name (i := 3) nd (by rfl) (by exact Or.inl rfl)) (pgs_cons (pg_name (i := 4) nd (by rfl) (by exact Or.inr rfl)) (pgs_cons (pg_name (i := 5) nd (by rfl) (by exact Or.inl rfl)) pgs_nil)))))
    (dss_cons (ds_set (i := 6) nd (by rfl) (by exact Or.inl rfl) (de_call c_download hr (by decide) (by rfl) (da_cons (de_var (i := 3) (by rfl) (by exact Or.inl rfl)) (da_cons (de_var (i := 4) (by rfl) (by exact Or.inr (Or.inl rfl))) (da_cons (de_var (i := 5) (by rfl) (by exact Or.inl rfl)) da_nil)))))
    (dss_cons (ds_set (i := 7) nd (by rfl) (by exact Or.inl rfl) (de_len (by rfl) T.b_len (de_ix (de_var (i := 4) (by rfl) (by exact Or.inr (Or.inl rfl))) de_int)))
    (dss_cons (ds_if (dt_cmp (op_neA hr.rm.units) od_ne (de_tup (da_cons (de_fld T.cl_Scheme T.n_Scheme_q (de_var (i := 6) (by rfl) (by exact Or.inl rfl))) (da_cons (de_fld T.cl_Scheme T.n_Scheme_shape (de_var (i := 6) (by rfl) (by exact Or.inl rfl))) (da_cons (de_fld T.cl_Scheme T.n_Scheme_servers (de_var (i := 6) (by rfl) (by exact Or.inl rfl))) (da_cons (de_fld T.cl_Scheme T.n_Scheme_coins (de_var (i := 6) (by rfl) (by exact Or.inl rfl))) (da_cons (de_fld T.cl_Scheme T.n_Scheme_masks (de_var (i := 6) (by rfl) (by exact Or.inl rfl))) da_nil)))))) (de_tup (da_cons (de_var (i := 3) (by rfl) (by exact Or.inl rfl)) (da_cons (de_var (i := 4) (by rfl) (by exact Or.inr (Or.inl rfl))) (da_cons (de_var (i := 5) (by rfl) (by exact Or.inl rfl)) (da_cons de_int (da_cons de_int da_nil)))))) (nomark _)) (dss_one (ds_ret de_bl)) dss_nil)
    (dss_cons (ds_if (dw_pt (dw_or (dt_cmp (op_neA hr.rm.units) od_ne (de_lenO m_Scheme___len__ hr (by decide) (by rfl) T.b_len (de_var (i := 6) (by rfl) (by exact Or.inl rfl))) (de_var (i := 7) (by rfl) (by exact Or.inl rfl)) (nomark _)) (dw_or1 (dt_cmp (op_neA hr.rm.units) od_ne (de_lc (by rfl) nd (di_seq (de_fld T.cl_Scheme T.n_Scheme_parts (de_var (i := 6) (by rfl) (by exact Or.inl rfl)))) (blkOk_by (own := [("_law_part", 10)]) (by kernel_rfl)) (by rfl) (fun _ _ _ _ _ => (pg_name (i := 10) nd (by rfl) (by exact Or.inl rfl))) (fun _ _ _ _ _ => dts_nil) (fun _ _ _ _ _ => (de_ix (de_var (i := 10) (by rfl) (by exact Or.inl rfl)) de_int))) (de_repL (de_lst (da_cons de_int da_nil)) (de_var (i := 7) (by rfl) (by exact Or.inl rfl))) (nomark _))))) (dss_one (ds_ret de_bl)) dss_nil)
    (dss_cons (ds_par (i := 8) (j := 9) (by rfl) nd (by rfl) (by rfl) (by decide) (by rfl) (by rfl) (da_cons (de_call c__law_draw hr (by decide) (by rfl) (da_cons (de_var (i := 1) (by rfl) (by exact Or.inl rfl)) (da_cons (de_var (i := 7) (by rfl) (by exact Or.inl rfl)) da_nil))) (da_cons (de_lst da_nil) da_nil)) (by rfl))
    (dss_cons (ds_for PassesOwn.never (by rfl) (di_rng1 (by rfl) T.b_range (da_cons (de_var (i := 7) (by rfl) (by exact Or.inl rfl)) da_nil)) (pg_name (i := 10) nd (by rfl) (by exact Or.inl rfl)) (dss_cons (ds_set (i := 11) nd (by rfl) (by exact Or.inl rfl) (de_meth m_Scheme_question hr (by decide) (de_var (i := 6) (by rfl) (by exact Or.inl rfl)) (da_cons (de_var (i := 10) (by rfl) (by exact Or.inl rfl)) (da_cons (de_var (i := 8) (by rfl) (by exact Or.inl rfl)) (da_cons (de_tup da_nil) da_nil)))))
    (dss_cons (ds_if (dt_cmp (op_neA hr.rm.units) od_ne (de_var (i := 11) (by rfl) (by exact Or.inl rfl)) (de_call c__law_point hr (by decide) (by rfl) (da_cons (de_var (i := 4) (by rfl) (by exact Or.inr (Or.inl rfl))) (da_cons (de_var (i := 10) (by rfl) (by exact Or.inl rfl)) da_nil))) (nomark _)) (dss_one (ds_ret de_bl)) dss_nil)
    (dss_one (ds_expr (de_app (de_var (i := 9) (by rfl) (by exact Or.inl rfl)) (de_call c__law_row hr (by decide) (by rfl) (da_cons (de_var (i := 4) (by rfl) (by exact Or.inr (Or.inl rfl))) (da_cons (de_var (i := 11) (by rfl) (by exact Or.inl rfl)) (da_cons (de_var (i := 3) (by rfl) (by exact Or.inl rfl)) da_nil))))))))))
    (dss_cons (ds_set (i := 12) nd (by rfl) (by exact Or.inl rfl) (de_l1lc (c_tup (by rfl) T.b_tuple) lr_tup (by rfl) nd (di_rng1 (by rfl) T.b_range (da_cons (de_var (i := 7) (by rfl) (by exact Or.inl rfl)) da_nil)) (blkOk_by (own := [("_law_part", 10)]) (by kernel_rfl)) (by rfl) (fun _ _ _ _ _ => (pg_name (i := 10) nd (by rfl) (by exact Or.inl rfl))) (fun _ _ _ _ _ => dts_nil) (fun _ _ _ _ _ => (de_call c__law_point hr (by decide) (by rfl) (da_cons (de_var (i := 4) (by rfl) (by exact Or.inr (Or.inl rfl))) (da_cons (de_var (i := 10) (by rfl) (by exact Or.inl rfl)) da_nil))))))
    (dss_one (ds_if (dw_pt (dw_or (dt_cmp (op_neA hr.rm.units) od_ne (de_meth m_Scheme_seen_by hr (by decide) (de_var (i := 6) (by rfl) (by exact Or.inl rfl)) (da_cons (de_tup (da_cons de_int da_nil)) (da_cons (de_var (i := 8) (by rfl) (by exact Or.inl rfl)) (da_cons (de_tup da_nil) da_nil)))) (de_var (i := 12) (by rfl) (by exact Or.inl rfl)) (nomark _)) (dw_or1 (dt_cmp (op_neA hr.rm.units) od_ne (de_len (by rfl) T.b_len (de_call c__law_reduced hr (by decide) (by rfl) (da_cons (de_var (i := 9) (by rfl) (by exact Or.inl rfl)) (da_cons (de_var (i := 3) (by rfl) (by exact Or.inl rfl)) da_nil)))) (de_var (i := 7) (by rfl) (by exact Or.inl rfl)) (nomark _))))) (dss_one (ds_ret de_bl)) dss_nil)))))))))))
    (dss_one (ds_ret de_bl))))
theorem ok_law (F : Fun K "law" "law" s_law f fd) (T : Txt K mg C_Scheme) (c__law_pen : CalD P w K mg base 1 "_law_pen" (frm sp__law_pen) []) (c__law_prime : CalD P w K mg base 3 "_law_prime" (frm sp__law_prime) []) (c__law_shape : CalD P w K mg base 3 "_law_shape" (frm sp__law_shape) []) (c__law_draw : CalD P w K mg base 2 "_law_draw" (frm sp__law_draw) []) (c_download : CalD P w K mg base 7 "download" (frm (sp_download C_Scheme)) []) (m_Scheme___len__ : MetD P w K mg base 1 C_Scheme "__len__" (frm (sp_Scheme___len__ C_Scheme)) []) (m_Scheme_question : MetD P w K mg base 1 C_Scheme "question" (frm (sp_Scheme_question C_Scheme)) []) (c__law_point : CalD P w K mg base 1 "_law_point" (frm sp__law_point) []) (c__law_row : CalD P w K mg base 1 "_law_row" (frm sp__law_row) []) (m_Scheme_seen_by : MetD P w K mg base 2 C_Scheme "seen_by" (frm (sp_Scheme_seen_by C_Scheme)) []) (c__law_reduced : CalD P w K mg base 2 "_law_reduced" (frm sp__law_reduced) []) : FnD P w K mg base 8 f fd ["_law_script"] sp_law :=
  fnd_of F sc_law (len_law) (fun _ _ _ _ _ hr => d_law T c__law_pen c__law_prime c__law_shape c__law_draw c_download m_Scheme___len__ m_Scheme_question c__law_point c__law_row m_Scheme_seen_by c__law_reduced hr) (p_law C_Scheme)
end
theorem all_mk {l : PySem.W.OpenLaw} {w : World} {K : PySem.W.Frag} {h : Heap} {mg : Str → Option Value} {fa : Addr} (X : K.In h) (G : h.Ns mainGlobals mg) (hfa : mg "law" = some (.ref fa))
    {C_Scheme : Addr}
    {od1 an1 : Option Addr} {sl1 : Array (Option Value)} {f1 : Addr} {oc1 kV1 dc1 pm1 cd1 ct1 : Value}
    {od2 an2 : Option Addr} {sl2 : Array (Option Value)} {f2 : Addr} {oc2 kV2 dc2 pm2 cd2 ct2 : Value}
    {od3 an3 : Option Addr} {sl3 : Array (Option Value)} {f3 : Addr} {oc3 kV3 dc3 pm3 cd3 ct3 : Value}
    {od4 an4 : Option Addr} {sl4 : Array (Option Value)} {f4 : Addr} {oc4 kV4 dc4 pm4 cd4 ct4 : Value}
    {od5 an5 : Option Addr} {sl5 : Array (Option Value)} {f5 : Addr} {oc5 kV5 dc5 pm5 cd5 ct5 : Value}
    {od6 an6 : Option Addr} {sl6 : Array (Option Value)} {f6 : Addr} {oc6 kV6 dc6 pm6 cd6 ct6 : Value}
    {od7 an7 : Option Addr} {sl7 : Array (Option Value)} {f7 : Addr} {oc7 kV7 dc7 pm7 cd7 ct7 : Value}
    {od8 an8 : Option Addr} {sl8 : Array (Option Value)} {f8 : Addr} {oc8 kV8 dc8 pm8 cd8 ct8 : Value}
    {od9 an9 : Option Addr} {sl9 : Array (Option Value)} {f9 : Addr} {oc9 kV9 dc9 pm9 cd9 ct9 : Value}
    {od10 an10 : Option Addr} {sl10 : Array (Option Value)} {f10 : Addr} {oc10 kV10 dc10 pm10 cd10 ct10 : Value}
    {od11 an11 : Option Addr} {sl11 : Array (Option Value)} {f11 : Addr} {oc11 kV11 dc11 pm11 cd11 ct11 : Value}
    {od12 an12 : Option Addr} {sl12 : Array (Option Value)} {f12 : Addr} {oc12 kV12 dc12 pm12 cd12 ct12 : Value}
    {od13 an13 : Option Addr} {sl13 : Array (Option Value)} {f13 : Addr} {oc13 kV13 dc13 pm13 cd13 ct13 : Value}
    {od14 an14 : Option Addr} {sl14 : Array (Option Value)} {f14 : Addr} {oc14 kV14 dc14 pm14 cd14 ct14 : Value}
    {od15 an15 : Option Addr} {sl15 : Array (Option Value)} {f15 : Addr} {oc15 kV15 dc15 pm15 cd15 ct15 : Value}
    {od16 an16 : Option Addr} {sl16 : Array (Option Value)} {f16 : Addr} {oc16 kV16 dc16 pm16 cd16 ct16 : Value}
    {od17 an17 : Option Addr} {sl17 : Array (Option Value)} {f17 : Addr} {oc17 kV17 dc17 pm17 cd17 ct17 : Value}
    {od18 an18 : Option Addr} {sl18 : Array (Option Value)} {f18 : Addr} {oc18 kV18 dc18 pm18 cd18 ct18 : Value}
    {od19 an19 : Option Addr} {sl19 : Array (Option Value)} {f19 : Addr} {oc19 kV19 dc19 pm19 cd19 ct19 : Value}
    {od20 an20 : Option Addr} {sl20 : Array (Option Value)} {f20 : Addr} {oc20 kV20 dc20 pm20 cd20 ct20 : Value}
    {od21 an21 : Option Addr} {sl21 : Array (Option Value)} {f21 : Addr} {oc21 kV21 dc21 pm21 cd21 ct21 : Value}
    {od22 an22 : Option Addr} {sl22 : Array (Option Value)} {f22 : Addr} {oc22 kV22 dc22 pm22 cd22 ct22 : Value}
    {od23 an23 : Option Addr} {sl23 : Array (Option Value)} {f23 : Addr} {oc23 kV23 dc23 pm23 cd23 ct23 : Value}
    {od24 an24 : Option Addr} {sl24 : Array (Option Value)} {f24 : Addr} {oc24 kV24 dc24 pm24 cd24 ct24 : Value}
    {od25 an25 : Option Addr} {sl25 : Array (Option Value)} {f25 : Addr} {oc25 kV25 dc25 pm25 cd25 ct25 : Value}
    {od26 an26 : Option Addr} {sl26 : Array (Option Value)} {f26 : Addr} {oc26 kV26 dc26 pm26 cd26 ct26 : Value}
    {t_MAX_COINS : Tok}
    {t_MAX_COORDINATES : Tok}
    {t_MAX_ENTRIES : Tok}
    {t_MAX_LENGTH : Tok}
    {t_MAX_MASKS : Tok}
    {t_MAX_PARTS : Tok}
    {t_MAX_PRIME : Tok}
    {t_MAX_SERVERS : Tok}
    (aC_Scheme : PySem.W.nsIn K mainGlobals "Scheme" = some (some (.ref C_Scheme)))
    (pg_Scheme : PySem.W.plainGet K C_Scheme Str.empty = true)
    (hd_Scheme : PySem.W.hasDictIn K C_Scheme = true)
    (po_Scheme : PySem.W.plainOver K C_Scheme = true)
    (sa_Scheme : PySem.W.findIn K (.ref C_Scheme) "__setattr__" = some (some (.builtin "object.__setattr__")))
    (mk_Scheme : PySem.W.makesIn K C_Scheme = true)
    (kc_Scheme : PySem.W.keepIn K (.ref C_Scheme) = true)
    (nA_Scheme_coins : PySem.W.findIn K (.ref C_Scheme) "coins" = some none)
    (nA_Scheme_masks : PySem.W.findIn K (.ref C_Scheme) "masks" = some none)
    (nA_Scheme_parts : PySem.W.findIn K (.ref C_Scheme) "parts" = some none)
    (nA_Scheme_q : PySem.W.findIn K (.ref C_Scheme) "q" = some none)
    (nA_Scheme_servers : PySem.W.findIn K (.ref C_Scheme) "servers" = some none)
    (nA_Scheme_shape : PySem.W.findIn K (.ref C_Scheme) "shape" = some none)
    (a1_0 : PySem.W.nsIn K mainGlobals "_law_pen" = some (some (.ref f1)))
    (l1 : K.lookup f1 = some ⟨oc1, od1, .func (PySem.W.fnOf "_law_pen" "_law_pen" (defArgs s__law_pen) (defBody s__law_pen) (defScope s__law_pen) .none kV1 dc1 pm1 an1 cd1 ct1), sl1⟩)
    (c1 : PySem.W.codeIn K cd1 "_law_pen" = true)
    (k1 : PySem.W.keepIn K (.ref f1) = true)
    (a2_0 : PySem.W.nsIn K mainGlobals "_law_fresh" = some (some (.ref f2)))
    (l2 : K.lookup f2 = some ⟨oc2, od2, .func (PySem.W.fnOf "_law_fresh" "_law_fresh" (defArgs s__law_fresh) (defBody s__law_fresh) (defScope s__law_fresh) .none kV2 dc2 pm2 an2 cd2 ct2), sl2⟩)
    (c2 : PySem.W.codeIn K cd2 "_law_fresh" = true)
    (k2 : PySem.W.keepIn K (.ref f2) = true)
    (a3_0 : PySem.W.nsIn K mainGlobals "_law_draw" = some (some (.ref f3)))
    (l3 : K.lookup f3 = some ⟨oc3, od3, .func (PySem.W.fnOf "_law_draw" "_law_draw" (defArgs s__law_draw) (defBody s__law_draw) (defScope s__law_draw) .none kV3 dc3 pm3 an3 cd3 ct3), sl3⟩)
    (c3 : PySem.W.codeIn K cd3 "_law_draw" = true)
    (k3 : PySem.W.keepIn K (.ref f3) = true)
    (a4_0 : PySem.W.nsIn K mainGlobals "_law_prime" = some (some (.ref f4)))
    (l4 : K.lookup f4 = some ⟨oc4, od4, .func (PySem.W.fnOf "_law_prime" "_law_prime" (defArgs s__law_prime) (defBody s__law_prime) (defScope s__law_prime) .none kV4 dc4 pm4 an4 cd4 ct4), sl4⟩)
    (c4 : PySem.W.codeIn K cd4 "_law_prime" = true)
    (k4 : PySem.W.keepIn K (.ref f4) = true)
    (a5_0 : PySem.W.nsIn K mainGlobals "_law_shape" = some (some (.ref f5)))
    (l5 : K.lookup f5 = some ⟨oc5, od5, .func (PySem.W.fnOf "_law_shape" "_law_shape" (defArgs s__law_shape) (defBody s__law_shape) (defScope s__law_shape) .none kV5 dc5 pm5 an5 cd5 ct5), sl5⟩)
    (c5 : PySem.W.codeIn K cd5 "_law_shape" = true)
    (k5 : PySem.W.keepIn K (.ref f5) = true)
    (a6_0 : PySem.W.nsIn K mainGlobals "is_prime" = some (some (.ref f6)))
    (l6 : K.lookup f6 = some ⟨oc6, od6, .func (PySem.W.fnOf "is_prime" "is_prime" (defArgs s_is_prime) (defBody s_is_prime) (defScope s_is_prime) .none kV6 dc6 pm6 an6 cd6 ct6), sl6⟩)
    (c6 : PySem.W.codeIn K cd6 "is_prime" = true)
    (k6 : PySem.W.keepIn K (.ref f6) = true)
    (a7_0 : PySem.W.nsIn K mainGlobals "require_prime" = some (some (.ref f7)))
    (l7 : K.lookup f7 = some ⟨oc7, od7, .func (PySem.W.fnOf "require_prime" "require_prime" (defArgs s_require_prime) (defBody s_require_prime) (defScope s_require_prime) .none kV7 dc7 pm7 an7 cd7 ct7), sl7⟩)
    (c7 : PySem.W.codeIn K cd7 "require_prime" = true)
    (k7 : PySem.W.keepIn K (.ref f7) = true)
    (a8_0 : PySem.W.nsIn K mainGlobals "is_integer" = some (some (.ref f8)))
    (l8 : K.lookup f8 = some ⟨oc8, od8, .func (PySem.W.fnOf "is_integer" "is_integer" (defArgs s_is_integer) (defBody s_is_integer) (defScope s_is_integer) .none kV8 dc8 pm8 an8 cd8 ct8), sl8⟩)
    (c8 : PySem.W.codeIn K cd8 "is_integer" = true)
    (k8 : PySem.W.keepIn K (.ref f8) = true)
    (a9_0 : PySem.W.nsIn K mainGlobals "is_coordinate_tuple" = some (some (.ref f9)))
    (l9 : K.lookup f9 = some ⟨oc9, od9, .func (PySem.W.fnOf "is_coordinate_tuple" "is_coordinate_tuple" (defArgs s_is_coordinate_tuple) (defBody s_is_coordinate_tuple) (defScope s_is_coordinate_tuple) .none kV9 dc9 pm9 an9 cd9 ct9), sl9⟩)
    (c9 : PySem.W.codeIn K cd9 "is_coordinate_tuple" = true)
    (k9 : PySem.W.keepIn K (.ref f9) = true)
    (a10_0 : PySem.W.nsIn K mainGlobals "require_shape" = some (some (.ref f10)))
    (l10 : K.lookup f10 = some ⟨oc10, od10, .func (PySem.W.fnOf "require_shape" "require_shape" (defArgs s_require_shape) (defBody s_require_shape) (defScope s_require_shape) .none kV10 dc10 pm10 an10 cd10 ct10), sl10⟩)
    (c10 : PySem.W.codeIn K cd10 "require_shape" = true)
    (k10 : PySem.W.keepIn K (.ref f10) = true)
    (a11_0 : PySem.W.nsIn K mainGlobals "point_of" = some (some (.ref f11)))
    (l11 : K.lookup f11 = some ⟨oc11, od11, .func (PySem.W.fnOf "point_of" "point_of" (defArgs s_point_of) (defBody s_point_of) (defScope s_point_of) .none kV11 dc11 pm11 an11 cd11 ct11), sl11⟩)
    (c11 : PySem.W.codeIn K cd11 "point_of" = true)
    (k11 : PySem.W.keepIn K (.ref f11) = true)
    (a12_0 : PySem.W.nsIn K mainGlobals "entry_points" = some (some (.ref f12)))
    (l12 : K.lookup f12 = some ⟨oc12, od12, .func (PySem.W.fnOf "entry_points" "entry_points" (defArgs s_entry_points) (defBody s_entry_points) (defScope s_entry_points) .none kV12 dc12 pm12 an12 cd12 ct12), sl12⟩)
    (c12 : PySem.W.codeIn K cd12 "entry_points" = true)
    (k12 : PySem.W.keepIn K (.ref f12) = true)
    (a13_0 : PySem.W.nsIn K mainGlobals "is_vector" = some (some (.ref f13)))
    (l13 : K.lookup f13 = some ⟨oc13, od13, .func (PySem.W.fnOf "is_vector" "is_vector" (defArgs s_is_vector) (defBody s_is_vector) (defScope s_is_vector) .none kV13 dc13 pm13 an13 cd13 ct13), sl13⟩)
    (c13 : PySem.W.codeIn K cd13 "is_vector" = true)
    (k13 : PySem.W.keepIn K (.ref f13) = true)
    (a14_0 : PySem.W.nsIn K mainGlobals "are_vectors" = some (some (.ref f14)))
    (l14 : K.lookup f14 = some ⟨oc14, od14, .func (PySem.W.fnOf "are_vectors" "are_vectors" (defArgs s_are_vectors) (defBody s_are_vectors) (defScope s_are_vectors) .none kV14 dc14 pm14 an14 cd14 ct14), sl14⟩)
    (c14 : PySem.W.codeIn K cd14 "are_vectors" = true)
    (k14 : PySem.W.keepIn K (.ref f14) = true)
    (a15_0 : PySem.W.findIn K (.ref C_Scheme) "is_part" = some (some (.ref f15))) (i15 : PySem.W.isFn K (.ref f15) = true)
    (l15 : K.lookup f15 = some ⟨oc15, od15, .func (PySem.W.fnOf "is_part" "Scheme.is_part" (defArgs s_Scheme_is_part) (defBody s_Scheme_is_part) (defScope s_Scheme_is_part) .none kV15 dc15 pm15 an15 cd15 ct15), sl15⟩)
    (c15 : PySem.W.codeIn K cd15 "Scheme.is_part" = true)
    (k15 : PySem.W.keepIn K (.ref f15) = true)
    (a16_0 : PySem.W.findIn K (.ref C_Scheme) "__init__" = some (some (.ref f16))) (i16 : PySem.W.isFn K (.ref f16) = true)
    (l16 : K.lookup f16 = some ⟨oc16, od16, .func (PySem.W.fnOf "__init__" "Scheme.__init__" (defArgs s_Scheme___init__) (defBody s_Scheme___init__) (defScope s_Scheme___init__) .none kV16 dc16 pm16 an16 cd16 ct16), sl16⟩)
    (c16 : PySem.W.codeIn K cd16 "Scheme.__init__" = true)
    (k16 : PySem.W.keepIn K (.ref f16) = true)
    (a17_0 : PySem.W.nsIn K mainGlobals "download" = some (some (.ref f17)))
    (l17 : K.lookup f17 = some ⟨oc17, od17, .func (PySem.W.fnOf "download" "download" (defArgs s_download) (defBody s_download) (defScope s_download) .none kV17 dc17 pm17 an17 cd17 ct17), sl17⟩)
    (c17 : PySem.W.codeIn K cd17 "download" = true)
    (k17 : PySem.W.keepIn K (.ref f17) = true)
    (a18_0 : PySem.W.findIn K (.ref C_Scheme) "__len__" = some (some (.ref f18))) (i18 : PySem.W.isFn K (.ref f18) = true)
    (l18 : K.lookup f18 = some ⟨oc18, od18, .func (PySem.W.fnOf "__len__" "Scheme.__len__" (defArgs s_Scheme___len__) (defBody s_Scheme___len__) (defScope s_Scheme___len__) .none kV18 dc18 pm18 an18 cd18 ct18), sl18⟩)
    (c18 : PySem.W.codeIn K cd18 "Scheme.__len__" = true)
    (k18 : PySem.W.keepIn K (.ref f18) = true)
    (a19_0 : PySem.W.findIn K (.ref C_Scheme) "question" = some (some (.ref f19))) (i19 : PySem.W.isFn K (.ref f19) = true)
    (l19 : K.lookup f19 = some ⟨oc19, od19, .func (PySem.W.fnOf "question" "Scheme.question" (defArgs s_Scheme_question) (defBody s_Scheme_question) (defScope s_Scheme_question) .none kV19 dc19 pm19 an19 cd19 ct19), sl19⟩)
    (c19 : PySem.W.codeIn K cd19 "Scheme.question" = true)
    (k19 : PySem.W.keepIn K (.ref f19) = true)
    (a20_0 : PySem.W.nsIn K mainGlobals "_law_point" = some (some (.ref f20)))
    (l20 : K.lookup f20 = some ⟨oc20, od20, .func (PySem.W.fnOf "_law_point" "_law_point" (defArgs s__law_point) (defBody s__law_point) (defScope s__law_point) .none kV20 dc20 pm20 an20 cd20 ct20), sl20⟩)
    (c20 : PySem.W.codeIn K cd20 "_law_point" = true)
    (k20 : PySem.W.keepIn K (.ref f20) = true)
    (a21_0 : PySem.W.nsIn K mainGlobals "_law_row" = some (some (.ref f21)))
    (l21 : K.lookup f21 = some ⟨oc21, od21, .func (PySem.W.fnOf "_law_row" "_law_row" (defArgs s__law_row) (defBody s__law_row) (defScope s__law_row) .none kV21 dc21 pm21 an21 cd21 ct21), sl21⟩)
    (c21 : PySem.W.codeIn K cd21 "_law_row" = true)
    (k21 : PySem.W.keepIn K (.ref f21) = true)
    (a22_0 : PySem.W.findIn K (.ref C_Scheme) "group_parts" = some (some (.ref f22))) (i22 : PySem.W.isFn K (.ref f22) = true)
    (l22 : K.lookup f22 = some ⟨oc22, od22, .func (PySem.W.fnOf "group_parts" "Scheme.group_parts" (defArgs s_Scheme_group_parts) (defBody s_Scheme_group_parts) (defScope s_Scheme_group_parts) .none kV22 dc22 pm22 an22 cd22 ct22), sl22⟩)
    (c22 : PySem.W.codeIn K cd22 "Scheme.group_parts" = true)
    (k22 : PySem.W.keepIn K (.ref f22) = true)
    (a23_0 : PySem.W.findIn K (.ref C_Scheme) "seen_by" = some (some (.ref f23))) (i23 : PySem.W.isFn K (.ref f23) = true)
    (l23 : K.lookup f23 = some ⟨oc23, od23, .func (PySem.W.fnOf "seen_by" "Scheme.seen_by" (defArgs s_Scheme_seen_by) (defBody s_Scheme_seen_by) (defScope s_Scheme_seen_by) .none kV23 dc23 pm23 an23 cd23 ct23), sl23⟩)
    (c23 : PySem.W.codeIn K cd23 "Scheme.seen_by" = true)
    (k23 : PySem.W.keepIn K (.ref f23) = true)
    (a24_0 : PySem.W.nsIn K mainGlobals "_law_inverse" = some (some (.ref f24)))
    (l24 : K.lookup f24 = some ⟨oc24, od24, .func (PySem.W.fnOf "_law_inverse" "_law_inverse" (defArgs s__law_inverse) (defBody s__law_inverse) (defScope s__law_inverse) .none kV24 dc24 pm24 an24 cd24 ct24), sl24⟩)
    (c24 : PySem.W.codeIn K cd24 "_law_inverse" = true)
    (k24 : PySem.W.keepIn K (.ref f24) = true)
    (a25_0 : PySem.W.nsIn K mainGlobals "_law_reduced" = some (some (.ref f25)))
    (l25 : K.lookup f25 = some ⟨oc25, od25, .func (PySem.W.fnOf "_law_reduced" "_law_reduced" (defArgs s__law_reduced) (defBody s__law_reduced) (defScope s__law_reduced) .none kV25 dc25 pm25 an25 cd25 ct25), sl25⟩)
    (c25 : PySem.W.codeIn K cd25 "_law_reduced" = true)
    (k25 : PySem.W.keepIn K (.ref f25) = true)
    (a26_0 : PySem.W.nsIn K mainGlobals "law" = some (some (.ref f26)))
    (l26 : K.lookup f26 = some ⟨oc26, od26, .func (PySem.W.fnOf "law" "law" (defArgs s_law) (defBody s_law) (defScope s_law) .none kV26 dc26 pm26 an26 cd26 ct26), sl26⟩)
    (c26 : PySem.W.codeIn K cd26 "law" = true)
    (k26 : PySem.W.keepIn K (.ref f26) = true)
    (z_all : PySem.W.nsIn K mainGlobals "all" = some none)
    (z_bool : PySem.W.nsIn K mainGlobals "bool" = some none)
    (z_enumerate : PySem.W.nsIn K mainGlobals "enumerate" = some none)
    (z_int : PySem.W.nsIn K mainGlobals "int" = some none)
    (z_isinstance : PySem.W.nsIn K mainGlobals "isinstance" = some none)
    (z_len : PySem.W.nsIn K mainGlobals "len" = some none)
    (z_list : PySem.W.nsIn K mainGlobals "list" = some none)
    (z_range : PySem.W.nsIn K mainGlobals "range" = some none)
    (z_set : PySem.W.nsIn K mainGlobals "set" = some none)
    (z_sorted : PySem.W.nsIn K mainGlobals "sorted" = some none)
    (z_sum : PySem.W.nsIn K mainGlobals "sum" = some none)
    (z_tuple : PySem.W.nsIn K mainGlobals "tuple" = some none)
    (z_zip : PySem.W.nsIn K mainGlobals "zip" = some none)
    (y_MAX_COINS : PySem.W.nsIn K mainGlobals "MAX_COINS" = some (some (.int (12) t_MAX_COINS)))
    (y_MAX_COORDINATES : PySem.W.nsIn K mainGlobals "MAX_COORDINATES" = some (some (.int (6) t_MAX_COORDINATES)))
    (y_MAX_ENTRIES : PySem.W.nsIn K mainGlobals "MAX_ENTRIES" = some (some (.int (8) t_MAX_ENTRIES)))
    (y_MAX_LENGTH : PySem.W.nsIn K mainGlobals "MAX_LENGTH" = some (some (.int (3) t_MAX_LENGTH)))
    (y_MAX_MASKS : PySem.W.nsIn K mainGlobals "MAX_MASKS" = some (some (.int (3) t_MAX_MASKS)))
    (y_MAX_PARTS : PySem.W.nsIn K mainGlobals "MAX_PARTS" = some (some (.int (8) t_MAX_PARTS)))
    (y_MAX_PRIME : PySem.W.nsIn K mainGlobals "MAX_PRIME" = some (some (.int (101) t_MAX_PRIME)))
    (y_MAX_SERVERS : PySem.W.nsIn K mainGlobals "MAX_SERVERS" = some (some (.int (6) t_MAX_SERVERS))) :
    ∃ fd : FuncData, (∀ (s : Shared) (v : Value), BindsTo s fd ⟨[v], []⟩ [("_law_script", v)]) ∧ ∀ base : Heap, K.In base → base.Ns mainGlobals mg → FnD l.prog w K mg base 8 fa fd ["_law_script"] sp_law := by
  have e := hfa.symm.trans (PySem.W.mg_of X G a26_0)
  cases e
  have T : Txt K mg C_Scheme := ⟨⟨pg_Scheme, hd_Scheme, po_Scheme, sa_Scheme⟩, nA_Scheme_coins, nA_Scheme_masks, nA_Scheme_parts, nA_Scheme_q, nA_Scheme_servers, nA_Scheme_shape, PySem.W.mg_none_of X G z_all, PySem.W.mg_none_of X G z_bool, PySem.W.mg_none_of X G z_enumerate, PySem.W.mg_none_of X G z_int, PySem.W.mg_none_of X G z_isinstance, PySem.W.mg_none_of X G z_len, PySem.W.mg_none_of X G z_list, PySem.W.mg_none_of X G z_range, PySem.W.mg_none_of X G z_set, PySem.W.mg_none_of X G z_sorted, PySem.W.mg_none_of X G z_sum, PySem.W.mg_none_of X G z_tuple, PySem.W.mg_none_of X G z_zip, ⟨_, PySem.W.mg_of X G y_MAX_COINS⟩, ⟨_, PySem.W.mg_of X G y_MAX_COORDINATES⟩, ⟨_, PySem.W.mg_of X G y_MAX_ENTRIES⟩, ⟨_, PySem.W.mg_of X G y_MAX_LENGTH⟩, ⟨_, PySem.W.mg_of X G y_MAX_MASKS⟩, ⟨_, PySem.W.mg_of X G y_MAX_PARTS⟩, ⟨_, PySem.W.mg_of X G y_MAX_PRIME⟩, ⟨_, PySem.W.mg_of X G y_MAX_SERVERS⟩⟩
  have F1 := fun_mk (st := s__law_pen) l1 c1 k1
  have b1 := F1.binds (ps := ["_law_script"]) fun _ _ _ _ _ _ us hl => match us, hl with | [_], _ => rfl
  have F2 := fun_mk (st := s__law_fresh) l2 c2 k2
  have b2 := F2.binds (ps := ["_law_pen_here"]) fun _ _ _ _ _ _ us hl => match us, hl with | [_], _ => rfl
  have F3 := fun_mk (st := s__law_draw) l3 c3 k3
  have b3 := F3.binds (ps := ["_law_pen_here", "_law_many"]) fun _ _ _ _ _ _ us hl => match us, hl with | [_, _], _ => rfl
  have F4 := fun_mk (st := s__law_prime) l4 c4 k4
  have b4 := F4.binds (ps := ["_law_pen_here"]) fun _ _ _ _ _ _ us hl => match us, hl with | [_], _ => rfl
  have F5 := fun_mk (st := s__law_shape) l5 c5 k5
  have b5 := F5.binds (ps := ["_law_pen_here", "_law_entries"]) fun _ _ _ _ _ _ us hl => match us, hl with | [_, _], _ => rfl
  have F6 := fun_mk (st := s_is_prime) l6 c6 k6
  have b6 := F6.binds (ps := ["value"]) fun _ _ _ _ _ _ us hl => match us, hl with | [_], _ => rfl
  have F7 := fun_mk (st := s_require_prime) l7 c7 k7
  have b7 := F7.binds (ps := ["q"]) fun _ _ _ _ _ _ us hl => match us, hl with | [_], _ => rfl
  have F8 := fun_mk (st := s_is_integer) l8 c8 k8
  have b8 := F8.binds (ps := ["value", "low", "high"]) fun _ _ _ _ _ _ us hl => match us, hl with | [_, _, _], _ => rfl
  have F9 := fun_mk (st := s_is_coordinate_tuple) l9 c9 k9
  have b9 := F9.binds (ps := ["value", "coordinates"]) fun _ _ _ _ _ _ us hl => match us, hl with | [_, _], _ => rfl
  have F10 := fun_mk (st := s_require_shape) l10 c10 k10
  have b10 := F10.binds (ps := ["shape"]) fun _ _ _ _ _ _ us hl => match us, hl with | [_], _ => rfl
  have F11 := fun_mk (st := s_point_of) l11 c11 k11
  have b11 := F11.binds (ps := ["shape", "entry"]) fun _ _ _ _ _ _ us hl => match us, hl with | [_, _], _ => rfl
  have F12 := fun_mk (st := s_entry_points) l12 c12 k12
  have b12 := F12.binds (ps := ["shape"]) fun _ _ _ _ _ _ us hl => match us, hl with | [_], _ => rfl
  have F13 := fun_mk (st := s_is_vector) l13 c13 k13
  have b13 := F13.binds (ps := ["value", "length", "q"]) fun _ _ _ _ _ _ us hl => match us, hl with | [_, _, _], _ => rfl
  have F14 := fun_mk (st := s_are_vectors) l14 c14 k14
  have b14 := F14.binds (ps := ["value", "count", "length", "q"]) fun _ _ _ _ _ _ us hl => match us, hl with | [_, _, _, _], _ => rfl
  have F15 := fun_mk (st := s_Scheme_is_part) l15 c15 k15
  have b15 := F15.binds (ps := ["self", "value"]) fun _ _ _ _ _ _ us hl => match us, hl with | [_, _], _ => rfl
  have F16 := fun_mk (st := s_Scheme___init__) l16 c16 k16
  have b16 := F16.binds (ps := ["self", "q", "shape", "servers", "coins", "masks", "parts"]) fun _ _ _ _ _ _ us hl => match us, hl with | [_, _, _, _, _, _, _], _ => rfl
  have F17 := fun_mk (st := s_download) l17 c17 k17
  have b17 := F17.binds (ps := ["q", "shape", "servers"]) fun _ _ _ _ _ _ us hl => match us, hl with | [_, _, _], _ => rfl
  have F18 := fun_mk (st := s_Scheme___len__) l18 c18 k18
  have b18 := F18.binds (ps := ["self"]) fun _ _ _ _ _ _ us hl => match us, hl with | [_], _ => rfl
  have F19 := fun_mk (st := s_Scheme_question) l19 c19 k19
  have b19 := F19.binds (ps := ["self", "part", "entry", "coins"]) fun _ _ _ _ _ _ us hl => match us, hl with | [_, _, _, _], _ => rfl
  have F20 := fun_mk (st := s__law_point) l20 c20 k20
  have b20 := F20.binds (ps := ["_law_shape_here", "_law_entry"]) fun _ _ _ _ _ _ us hl => match us, hl with | [_, _], _ => rfl
  have F21 := fun_mk (st := s__law_row) l21 c21 k21
  have b21 := F21.binds (ps := ["_law_shape_here", "_law_question", "_law_q"]) fun _ _ _ _ _ _ us hl => match us, hl with | [_, _, _], _ => rfl
  have F22 := fun_mk (st := s_Scheme_group_parts) l22 c22 k22
  have b22 := F22.binds (ps := ["self", "group"]) fun _ _ _ _ _ _ us hl => match us, hl with | [_, _], _ => rfl
  have F23 := fun_mk (st := s_Scheme_seen_by) l23 c23 k23
  have b23 := F23.binds (ps := ["self", "group", "entry", "coins"]) fun _ _ _ _ _ _ us hl => match us, hl with | [_, _, _, _], _ => rfl
  have F24 := fun_mk (st := s__law_inverse) l24 c24 k24
  have b24 := F24.binds (ps := ["_law_number", "_law_q"]) fun _ _ _ _ _ _ us hl => match us, hl with | [_, _], _ => rfl
  have F25 := fun_mk (st := s__law_reduced) l25 c25 k25
  have b25 := F25.binds (ps := ["_law_rows", "_law_q"]) fun _ _ _ _ _ _ us hl => match us, hl with | [_, _], _ => rfl
  have F26 := fun_mk (st := s_law) l26 c26 k26
  refine ⟨PySem.W.fnOf "law" "law" (defArgs s_law) (defBody s_law) (defScope s_law) .none kV26 dc26 pm26 an26 cd26 ct26, fun s v => .of_eq rfl, fun base _ _ => ?_⟩
  have G1 := (ok__law_pen (P := l.prog) (w := w) (base := base) F1 T).frame
  have g1_0 : CalD l.prog w K mg base 1 "_law_pen" (frm sp__law_pen) [] := .of G1 (PySem.W.mg_of X G a1_0) k1 b1
  have G2 := (ok__law_fresh (P := l.prog) (w := w) (base := base) F2 T).frame
  have g2_0 : CalD l.prog w K mg base 1 "_law_fresh" (frm sp__law_fresh) [] := .of G2 (PySem.W.mg_of X G a2_0) k2 b2
  have G3 := (ok__law_draw (P := l.prog) (w := w) (base := base) F3 T g2_0).frame
  have g3_0 : CalD l.prog w K mg base 2 "_law_draw" (frm sp__law_draw) [] := .of G3 (PySem.W.mg_of X G a3_0) k3 b3
  have G4 := (ok__law_prime (P := l.prog) (w := w) (base := base) F4 T g3_0).frame
  have g4_0 : CalD l.prog w K mg base 3 "_law_prime" (frm sp__law_prime) [] := .of G4 (PySem.W.mg_of X G a4_0) k4 b4
  have G5 := (ok__law_shape (P := l.prog) (w := w) (base := base) F5 T g3_0).frame
  have g5_0 : CalD l.prog w K mg base 3 "_law_shape" (frm sp__law_shape) [] := .of G5 (PySem.W.mg_of X G a5_0) k5 b5
  have G6 := (ok_is_prime (P := l.prog) (w := w) (base := base) F6 T).frame
  have g6_0 : CalD l.prog w K mg base 1 "is_prime" (frm sp_is_prime) [] := .of G6 (PySem.W.mg_of X G a6_0) k6 b6
  have G7 := (ok_require_prime (P := l.prog) (w := w) (base := base) F7 T g6_0).frame
  have g7_0 : CalD l.prog w K mg base 2 "require_prime" (frm sp_require_prime) [] := .of G7 (PySem.W.mg_of X G a7_0) k7 b7
  have G8 := (ok_is_integer (P := l.prog) (w := w) (base := base) F8 T).frame
  have g8_0 : CalD l.prog w K mg base 1 "is_integer" (frm sp_is_integer) [] := .of G8 (PySem.W.mg_of X G a8_0) k8 b8
  have G9 := (ok_is_coordinate_tuple (P := l.prog) (w := w) (base := base) F9 T g8_0).frame
  have g9_0 : CalD l.prog w K mg base 2 "is_coordinate_tuple" (frm sp_is_coordinate_tuple) [] := .of G9 (PySem.W.mg_of X G a9_0) k9 b9
  have G10 := (ok_require_shape (P := l.prog) (w := w) (base := base) F10 T g8_0 g9_0).frame
  have g10_0 : CalD l.prog w K mg base 3 "require_shape" (frm sp_require_shape) [] := .of G10 (PySem.W.mg_of X G a10_0) k10 b10
  have G11 := (ok_point_of (P := l.prog) (w := w) (base := base) F11 T).frame
  have g11_0 : CalD l.prog w K mg base 1 "point_of" (frm sp_point_of) [] := .of G11 (PySem.W.mg_of X G a11_0) k11 b11
  have G12 := (ok_entry_points (P := l.prog) (w := w) (base := base) F12 T g11_0).frame
  have g12_0 : CalD l.prog w K mg base 2 "entry_points" (frm sp_entry_points) [] := .of G12 (PySem.W.mg_of X G a12_0) k12 b12
  have G13 := (ok_is_vector (P := l.prog) (w := w) (base := base) F13 T g8_0).frame
  have g13_0 : CalD l.prog w K mg base 2 "is_vector" (frm sp_is_vector) [] := .of G13 (PySem.W.mg_of X G a13_0) k13 b13
  have G14 := (ok_are_vectors (P := l.prog) (w := w) (base := base) F14 T g13_0).frame
  have g14_0 : CalD l.prog w K mg base 3 "are_vectors" (frm sp_are_vectors) [] := .of G14 (PySem.W.mg_of X G a14_0) k14 b14
  have G15 := (ok_Scheme_is_part (P := l.prog) (w := w) (base := base) F15 T g8_0 g14_0 g13_0).frame
  have gm15 : MetD l.prog w K mg base 4 C_Scheme "is_part" (frm (sp_Scheme_is_part C_Scheme)) [] := ⟨_, _, _, [], [], T.cl_Scheme, ⟨a15_0, i15, k15⟩, G15, b15, .nil, fun _ => .nil⟩
  have G16 := (ok_Scheme___init__ (P := l.prog) (w := w) (base := base) F16 T g7_0 g10_0 g8_0 gm15).frame
  have gk16 : MakD l.prog w K mg base 5 "Scheme" C_Scheme (frm (sp_Scheme___init__ C_Scheme)) [] := ⟨_, _, _, [], [], ⟨mk_Scheme, a16_0, i16, kc_Scheme⟩, G16, PySem.W.mg_of X G aC_Scheme, b16, .nil, fun _ => .nil⟩
  have G17 := (ok_download (P := l.prog) (w := w) (base := base) F17 T g7_0 g10_0 g8_0 g12_0 gk16).frame
  have g17_0 : CalD l.prog w K mg base 7 "download" (frm (sp_download C_Scheme)) [] := .of G17 (PySem.W.mg_of X G a17_0) k17 b17
  have G18 := (ok_Scheme___len__ (P := l.prog) (w := w) (base := base) F18 T).frame
  have gm18 : MetD l.prog w K mg base 1 C_Scheme "__len__" (frm (sp_Scheme___len__ C_Scheme)) [] := ⟨_, _, _, [], [], T.cl_Scheme, ⟨a18_0, i18, k18⟩, G18, b18, .nil, fun _ => .nil⟩
  have G19 := (ok_Scheme_question (P := l.prog) (w := w) (base := base) F19 T).frame
  have gm19 : MetD l.prog w K mg base 1 C_Scheme "question" (frm (sp_Scheme_question C_Scheme)) [] := ⟨_, _, _, [], [], T.cl_Scheme, ⟨a19_0, i19, k19⟩, G19, b19, .nil, fun _ => .nil⟩
  have G20 := (ok__law_point (P := l.prog) (w := w) (base := base) F20 T).frame
  have g20_0 : CalD l.prog w K mg base 1 "_law_point" (frm sp__law_point) [] := .of G20 (PySem.W.mg_of X G a20_0) k20 b20
  have G21 := (ok__law_row (P := l.prog) (w := w) (base := base) F21 T).frame
  have g21_0 : CalD l.prog w K mg base 1 "_law_row" (frm sp__law_row) [] := .of G21 (PySem.W.mg_of X G a21_0) k21 b21
  have G22 := (ok_Scheme_group_parts (P := l.prog) (w := w) (base := base) F22 T).frame
  have gm22 : MetD l.prog w K mg base 1 C_Scheme "group_parts" (frm (sp_Scheme_group_parts C_Scheme)) [] := ⟨_, _, _, [], [], T.cl_Scheme, ⟨a22_0, i22, k22⟩, G22, b22, .nil, fun _ => .nil⟩
  have G23 := (ok_Scheme_seen_by (P := l.prog) (w := w) (base := base) F23 T gm22 gm19).frame
  have gm23 : MetD l.prog w K mg base 2 C_Scheme "seen_by" (frm (sp_Scheme_seen_by C_Scheme)) [] := ⟨_, _, _, [], [], T.cl_Scheme, ⟨a23_0, i23, k23⟩, G23, b23, .nil, fun _ => .nil⟩
  have G24 := (ok__law_inverse (P := l.prog) (w := w) (base := base) F24 T).frame
  have g24_0 : CalD l.prog w K mg base 1 "_law_inverse" (frm sp__law_inverse) [] := .of G24 (PySem.W.mg_of X G a24_0) k24 b24
  have G25 := (ok__law_reduced (P := l.prog) (w := w) (base := base) F25 T g24_0).frame
  have g25_0 : CalD l.prog w K mg base 2 "_law_reduced" (frm sp__law_reduced) [] := .of G25 (PySem.W.mg_of X G a25_0) k25 b25
  exact ok_law F26 T g1_0 g4_0 g5_0 g3_0 g17_0 gm18 gm19 g20_0 g21_0 gm23 g25_0
theorem walk {l : PySem.W.OpenLaw} {q : Program} {loose : List Str} {XP : (Str → Option Value) → Heap → Prop} {YP : World → Heap → Prop} {d : DefRec} {K : Params → PySem.W.Frag} (hn : l.most = some 63) (hdf : d.params.defaults = [])
    (hY : ∀ (w : World) (h : Heap), YP w h → (K w.params).In h)
    (F : ∀ (w : World) (mg : Str → Option Value) (fa : Addr) (h : Heap), (K w.params).In h → h.Ns mainGlobals mg → mg d.name = some (.ref fa) →
      ∃ fd : FuncData, (∀ (s : Shared) (u : Value), BindsTo s fd ⟨[u], []⟩ [("_law_script", u)]) ∧ ∀ base : Heap, (K w.params).In base → base.Ns mainGlobals mg → FnD l.prog w (K w.params) mg base 8 fa fd ["_law_script"] sp_law) :
    PySem.W.WalkO q loose XP YP l.row.toRowW d [] (fun f vs => PySem.call f vs) :=
  walk_ofD (n := 63) (k := 8) (x := "_law_script") hn (by decide) hdf roomG hY F fun ns hl => law_start ns hl
end QL
end L2
open PySem PySem.W PyProof.Rows
set_option maxRecDepth 100000 in
set_option maxHeartbeats 0 in
theorem PySem.Challenge.cw_quietlookup_k53_download_holds : PySem.Challenge.rw_quietlookup_k53_download.Holds := by
  w_on; o_law; k_head; (case hw => w_witness2)
  k_fill
  refine L2.QL.walk (l := PySem.Challenge.rw_quietlookup_k53_download) rfl rfl (fun w h Y => PySem.W.kIn_of Y) ?F
  case F =>
    intro w mg fa h KX G hmg
    refine' L2.QL.all_mk KX G hmg ?aC_Scheme ?pg_Scheme ?hd_Scheme ?po_Scheme ?sa_Scheme ?mk_Scheme ?kc_Scheme ?nA_Scheme_coins ?nA_Scheme_masks ?nA_Scheme_parts ?nA_Scheme_q ?nA_Scheme_servers ?nA_Scheme_shape ?a1_0 ?l1 ?c1 ?k1 ?a2_0 ?l2 ?c2 ?k2 ?a3_0 ?l3 ?c3 ?k3 ?a4_0 ?l4 ?c4 ?k4 ?a5_0 ?l5 ?c5 ?k5 ?a6_0 ?l6 ?c6 ?k6 ?a7_0 ?l7 ?c7 ?k7 ?a8_0 ?l8 ?c8 ?k8 ?a9_0 ?l9 ?c9 ?k9 ?a10_0 ?l10 ?c10 ?k10 ?a11_0 ?l11 ?c11 ?k11 ?a12_0 ?l12 ?c12 ?k12 ?a13_0 ?l13 ?c13 ?k13 ?a14_0 ?l14 ?c14 ?k14 ?a15_0 ?i15 ?l15 ?c15 ?k15 ?a16_0 ?i16 ?l16 ?c16 ?k16 ?a17_0 ?l17 ?c17 ?k17 ?a18_0 ?i18 ?l18 ?c18 ?k18 ?a19_0 ?i19 ?l19 ?c19 ?k19 ?a20_0 ?l20 ?c20 ?k20 ?a21_0 ?l21 ?c21 ?k21 ?a22_0 ?i22 ?l22 ?c22 ?k22 ?a23_0 ?i23 ?l23 ?c23 ?k23 ?a24_0 ?l24 ?c24 ?k24 ?a25_0 ?l25 ?c25 ?k25 ?a26_0 ?l26 ?c26 ?k26 ?z_all ?z_bool ?z_enumerate ?z_int ?z_isinstance ?z_len ?z_list ?z_range ?z_set ?z_sorted ?z_sum ?z_tuple ?z_zip ?y_MAX_COINS ?y_MAX_COORDINATES ?y_MAX_ENTRIES ?y_MAX_LENGTH ?y_MAX_MASKS ?y_MAX_PARTS ?y_MAX_PRIME ?y_MAX_SERVERS
    (case aC_Scheme => k_is)
    (case pg_Scheme => k_is)
    (case hd_Scheme => k_is)
    (case po_Scheme => k_is)
    (case sa_Scheme => k_is)
    (case mk_Scheme => k_is)
    (case kc_Scheme => k_is)
    (case nA_Scheme_coins => k_is)
    (case nA_Scheme_masks => k_is)
    (case nA_Scheme_parts => k_is)
    (case nA_Scheme_q => k_is)
    (case nA_Scheme_servers => k_is)
    (case nA_Scheme_shape => k_is)
    (case a1_0 => k_is)
    (case l1 => k_is)
    (case c1 => k_is)
    (case k1 => k_is)
    (case a2_0 => k_is)
    (case l2 => k_is)
    (case c2 => k_is)
    (case k2 => k_is)
    (case a3_0 => k_is)
    (case l3 => k_is)
    (case c3 => k_is)
    (case k3 => k_is)
    (case a4_0 => k_is)
    (case l4 => k_is)
    (case c4 => k_is)
    (case k4 => k_is)
    (case a5_0 => k_is)
    (case l5 => k_is)
    (case c5 => k_is)
    (case k5 => k_is)
    (case a6_0 => k_is)
    (case l6 => k_is)
    (case c6 => k_is)
    (case k6 => k_is)
    (case a7_0 => k_is)
    (case l7 => k_is)
    (case c7 => k_is)
    (case k7 => k_is)
    (case a8_0 => k_is)
    (case l8 => k_is)
    (case c8 => k_is)
    (case k8 => k_is)
    (case a9_0 => k_is)
    (case l9 => k_is)
    (case c9 => k_is)
    (case k9 => k_is)
    (case a10_0 => k_is)
    (case l10 => k_is)
    (case c10 => k_is)
    (case k10 => k_is)
    (case a11_0 => k_is)
    (case l11 => k_is)
    (case c11 => k_is)
    (case k11 => k_is)
    (case a12_0 => k_is)
    (case l12 => k_is)
    (case c12 => k_is)
    (case k12 => k_is)
    (case a13_0 => k_is)
    (case l13 => k_is)
    (case c13 => k_is)
    (case k13 => k_is)
    (case a14_0 => k_is)
    (case l14 => k_is)
    (case c14 => k_is)
    (case k14 => k_is)
    (case a15_0 => k_is)
    (case i15 => k_is)
    (case l15 => k_is)
    (case c15 => k_is)
    (case k15 => k_is)
    (case a16_0 => k_is)
    (case i16 => k_is)
    (case l16 => k_is)
    (case c16 => k_is)
    (case k16 => k_is)
    (case a17_0 => k_is)
    (case l17 => k_is)
    (case c17 => k_is)
    (case k17 => k_is)
    (case a18_0 => k_is)
    (case i18 => k_is)
    (case l18 => k_is)
    (case c18 => k_is)
    (case k18 => k_is)
    (case a19_0 => k_is)
    (case i19 => k_is)
    (case l19 => k_is)
    (case c19 => k_is)
    (case k19 => k_is)
    (case a20_0 => k_is)
    (case l20 => k_is)
    (case c20 => k_is)
    (case k20 => k_is)
    (case a21_0 => k_is)
    (case l21 => k_is)
    (case c21 => k_is)
    (case k21 => k_is)
    (case a22_0 => k_is)
    (case i22 => k_is)
    (case l22 => k_is)
    (case c22 => k_is)
    (case k22 => k_is)
    (case a23_0 => k_is)
    (case i23 => k_is)
    (case l23 => k_is)
    (case c23 => k_is)
    (case k23 => k_is)
    (case a24_0 => k_is)
    (case l24 => k_is)
    (case c24 => k_is)
    (case k24 => k_is)
    (case a25_0 => k_is)
    (case l25 => k_is)
    (case c25 => k_is)
    (case k25 => k_is)
    (case a26_0 => k_is)
    (case l26 => k_is)
    (case c26 => k_is)
    (case k26 => k_is)
    (case z_all => k_is)
    (case z_bool => k_is)
    (case z_enumerate => k_is)
    (case z_int => k_is)
    (case z_isinstance => k_is)
    (case z_len => k_is)
    (case z_list => k_is)
    (case z_range => k_is)
    (case z_set => k_is)
    (case z_sorted => k_is)
    (case z_sum => k_is)
    (case z_tuple => k_is)
    (case z_zip => k_is)
    (case y_MAX_COINS => k_is)
    (case y_MAX_COORDINATES => k_is)
    (case y_MAX_ENTRIES => k_is)
    (case y_MAX_LENGTH => k_is)
    (case y_MAX_MASKS => k_is)
    (case y_MAX_PARTS => k_is)
    (case y_MAX_PRIME => k_is)
    (case y_MAX_SERVERS => k_is)
