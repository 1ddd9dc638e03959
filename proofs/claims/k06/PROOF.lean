import PyProof.Rows.All
import Wide.All
import OpenK.AllK
import Wide.FinOn
import HandS.ForMost
import HandS.ForExc
import HandS.Wide
import HandS.Codes
import HandS.Style
import HandS.CallSlots
import HandS.Steps
import HandS.Zip
import KE.GoesEnum
import HandS.IsInst
import HandS.Text
import HandS.SortKw
import HandS.NoneIn
import PyProof.ReprRoads
import KE.KIntText
import PySem.Challenge.RW_twinsieve_k06_whole_least_sizes_by_all_r
set_option Elab.async false
set_option linter.all false
set_option maxRecDepth 100000
set_option maxHeartbeats 4000000
set_option exponentiation.threshold 10000
/-! Z1: the D-layer's core. Abstract data D, abstract states, what an expression / a statement does as a plain function. -/
namespace Z
open PySem L2

/-- the package's own error classes -/
inductive EC where
  | row | pip | num | und | unr
  deriving DecidableEq
def EC.nm : EC → Str
  | .row => "InvalidRow"
  | .pip => "InvalidPipeline"
  | .num => "InvalidNumber"
  | .und => "NothingToUndo"
  | .unr => "Unreadable"
/-- an error object of the class at C, its dict at dd -/
def xco (C dd a : Addr) : HO := .ext fun h => ∃ (oe : Obj) (vs : Array Value), h.get? a = some oe ∧ Zc (.ref C) (some dd) oe ∧ oe.data = .fields vs
inductive D where
  | non | bl (b : Bool) | int (i : Int) | str (s : List Nat) | lst (l : List D) | tup (l : List D) | fz (l : List D) | ref (i : Nat) | exc (c : EC) (d : D)

abbrev KK := Sum Int (List Nat)
def kk : KK → Key
  | .inl i => .inl i
  | .inr s => .inr ⟨s.toArray⟩
def kD : KK → D
  | .inl i => .int i
  | .inr s => .str s
/-- what an own object holds -/
inductive AO where
  | lst (l : List D)
  | dk (kvs : List (KK × D))
  | dt (kvs : List (List KK × D))
  | dkL (kvs : List (KK × D))
  | ins (C : Addr) (fs : List (Str × D))
  | dead
/-- what stands in a slot: data, or an object that this slot alone knows -/
inductive SV where
  | val (d : D) | own (o : AO)
structure A where
  sl : List (Option SV)
  hp : List AO
structure Exn where
  c : EC
  v : D
inductive O (α : Type) where
  | ok (a : α) (s : A)
  | ex (e : Exn) (s : A)
abbrev M (α : Type) := A → Option (O α)
def ret {α : Type} (a : α) : M α := fun s => some (.ok a s)
def bnd {α β : Type} (m : M α) (k : α → M β) : M β := fun s => match m s with
  | some (.ok a s') => k a s'
  | some (.ex e s') => some (.ex e s')
  | none => none
def lft {α : Type} (o : Option α) : M α := fun s => match o with
  | some a => some (.ok a s)
  | none => none
/-- a def's end -/
inductive FR where
  | ok (d : D) (hp : List AO)
  | ex (e : Exn) (hp : List AO)
abbrev Fn := List D → List AO → Option FR

/-! ### what stands for what -/
mutual
def rep (K : PySem.W.Frag) (io : List Addr) (F : Hp) : D → V → Prop
  | .non, v => v = .non
  | .bl b, v => v = .bl b
  | .int i, v => v = .int i
  | .str s, v => v = .str ⟨s.toArray⟩
  | .lst l, v => ∃ a xs, v = .ref a ∧ F a = some (.lst xs) ∧ reps K io F l xs
  | .tup l, v => ∃ a xs, v = .ref a ∧ SqT K F a xs ∧ reps K io F l xs
  | .fz l, v => ∃ a xs, v = .ref a ∧ SqL K F a xs ∧ reps K io F l xs
  | .ref i, v => ∃ a, v = .ref a ∧ io[i]? = some a
  | .exc c d, v => ∃ a C dd w, v = .ref a ∧ PySem.W.nsIn K mainGlobals c.nm = some (some (.ref C)) ∧ F a = some (xco C dd a) ∧ F dd = some (.xd [(("value" : Str), w)]) ∧ rep K io F d w
def reps (K : PySem.W.Frag) (io : List Addr) (F : Hp) : List D → List V → Prop
  | [], xs => xs = []
  | d :: l, xs => ∃ x r, xs = x :: r ∧ rep K io F d x ∧ reps K io F l r
end

def Ex (H H' : Hp) : Prop := ∀ a o, H a = some o → H' a = some o
theorem Ex.refl (H : Hp) : Ex H H := fun _ _ h => h
theorem Ex.trans {H H1 H2 : Hp} (a : Ex H H1) (b : Ex H1 H2) : Ex H H2 := fun x o h => b x o (a x o h)
theorem Ex.new {H : Hp} {p : Addr} {o : HO} (h : H p = none) : Ex H (upd H p o) := fun a u e => by
  rw [upd_ne (ne_of_none e h)]
  exact e
theorem Ex.up {H H' : Hp} {p : Addr} {o : HO} (e : Ex H H') : Ex (upd H p o) (upd H' p o) := fun a u h => by
  by_cases ha : a = p
  · subst ha
    rw [upd_same] at h ⊢
    exact h
  · rw [upd_ne ha] at h ⊢
    exact e a u h
theorem Ex.none_of {H H' : Hp} {p : Addr} (e : Ex H H') (h : H' p = none) : H p = none := by
  cases h1 : H p with
  | none => rfl
  | some o =>
    rw [e p o h1] at h
    cases h
theorem Ex.rd {H H' : Hp} {a : Addr} {u : HO} (e : Ex H H') (h : Rd H a u) : Rd H' a u := by
  rcases h with h | ⟨o, h⟩
  · exact .inl (e a _ h)
  · exact .inr ⟨o, e a _ h⟩
theorem Ex.l {K : PySem.W.Frag} {H H' : Hp} {a : Addr} {xs : List V} (e : Ex H H') (h : SqL K H a xs) : SqL K H' a xs := by
  rcases h with h | h
  · exact .inl (e.rd h)
  · exact .inr h
theorem Ex.t {K : PySem.W.Frag} {H H' : Hp} {a : Addr} {xs : List V} (e : Ex H H') (h : SqT K H a xs) : SqT K H' a xs := by
  rcases h with h | h
  · exact .inl (e.rd h)
  · exact .inr h

/-- later: more addresses known, more frozen -/
structure Le (io : List Addr) (F : Hp) (io' : List Addr) (F' : Hp) : Prop where
  pre : ∀ (i : Nat) a, io[i]? = some a → io'[i]? = some a
  ex : Ex F F'
theorem Le.refl (io : List Addr) (F : Hp) : Le io F io F := ⟨fun _ _ h => h, Ex.refl F⟩
theorem Le.trans {a b c : List Addr} {F G H : Hp} (x : Le a F b G) (y : Le b G c H) : Le a F c H := ⟨fun i p h => y.pre i p (x.pre i p h), x.ex.trans y.ex⟩

section
variable {K : PySem.W.Frag} {io io' : List Addr} {F F' : Hp}
mutual
theorem rep_le (h : Le io F io' F') : ∀ (d : D) (v : V), rep K io F d v → rep K io' F' d v
  | .non, _, r => r
  | .bl _, _, r => r
  | .int _, _, r => r
  | .str _, _, r => r
  | .lst l, v, r => by
    obtain ⟨a, xs, e, p, q⟩ := r
    exact ⟨a, xs, e, h.ex a _ p, reps_le h l xs q⟩
  | .tup l, v, r => by
    obtain ⟨a, xs, e, p, q⟩ := r
    exact ⟨a, xs, e, h.ex.t p, reps_le h l xs q⟩
  | .fz l, v, r => by
    obtain ⟨a, xs, e, p, q⟩ := r
    exact ⟨a, xs, e, h.ex.l p, reps_le h l xs q⟩
  | .ref i, v, r => by
    obtain ⟨a, e, p⟩ := r
    exact ⟨a, e, h.pre i a p⟩
  | .exc c d, v, r => by
    obtain ⟨a, C, dd, w, e, k, p, q, r⟩ := r
    exact ⟨a, C, dd, w, e, k, h.ex a _ p, h.ex dd _ q, rep_le h d w r⟩
theorem reps_le (h : Le io F io' F') : ∀ (l : List D) (xs : List V), reps K io F l xs → reps K io' F' l xs
  | [], _, r => r
  | d :: l, xs, r => by
    obtain ⟨x, t, e, p, q⟩ := r
    exact ⟨x, t, e, rep_le h d x p, reps_le h l t q⟩
end
theorem reps_len : ∀ {l : List D} {xs : List V}, reps K io F l xs → xs.length = l.length
  | [], xs, r => by
    rw [show xs = [] from r]
    rfl
  | d :: l, _, r => by
    obtain ⟨x, t, e, p, q⟩ := r
    rw [e, List.length_cons, List.length_cons, reps_len q]
theorem reps_get : ∀ {l : List D} {xs : List V} {i : Nat} {d : D}, reps K io F l xs → l[i]? = some d → ∃ x, xs[i]? = some x ∧ rep K io F d x
  | [], _, i, d, _, h => by simp at h
  | c :: l, _, 0, d, r, h => by
    obtain ⟨x, t, e, p, q⟩ := r
    rw [List.getElem?_cons_zero] at h
    cases h
    subst e
    exact ⟨x, rfl, p⟩
  | c :: l, _, i + 1, d, r, h => by
    obtain ⟨x, t, e, p, q⟩ := r
    rw [List.getElem?_cons_succ] at h
    subst e
    obtain ⟨y, h1, h2⟩ := reps_get q h
    exact ⟨y, by rw [List.getElem?_cons_succ]; exact h1, h2⟩
theorem reps_get' {l : List D} {xs : List V} {i : Nat} {x : V} (r : reps K io F l xs) (h : xs[i]? = some x) : ∃ d, l[i]? = some d ∧ rep K io F d x := by
  have hi := (List.getElem?_eq_some_iff.mp h).1
  rw [reps_len r] at hi
  obtain ⟨y, h1, h2⟩ := reps_get r (List.getElem?_eq_getElem hi)
  rw [h] at h1
  cases h1
  exact ⟨_, List.getElem?_eq_getElem hi, h2⟩
theorem reps_app : ∀ {l l' : List D} {xs xs' : List V}, reps K io F l xs → reps K io F l' xs' → reps K io F (l ++ l') (xs ++ xs')
  | [], _, xs, _, r, r' => by
    rw [show xs = [] from r]
    exact r'
  | d :: l, _, _, _, r, r' => by
    obtain ⟨x, t, e, p, q⟩ := r
    subst e
    exact ⟨x, _, rfl, p, reps_app q r'⟩
theorem reps_one {d : D} {x : V} (h : rep K io F d x) : reps K io F [d] [x] := ⟨x, [], rfl, h, rfl⟩
theorem reps_set : ∀ {l : List D} {xs : List V} {d : D} {x : V} (i : Nat), reps K io F l xs → rep K io F d x → reps K io F (l.set i d) (xs.set i x)
  | [], xs, _, _, i, r, _ => by
    rw [show xs = [] from r]
    rfl
  | c :: l, _, d, x, 0, r, h => by
    obtain ⟨y, t, e, p, q⟩ := r
    subst e
    exact ⟨x, t, rfl, h, q⟩
  | c :: l, _, d, x, i + 1, r, h => by
    obtain ⟨y, t, e, p, q⟩ := r
    subst e
    exact ⟨y, _, rfl, p, reps_set i q h⟩
theorem reps_take : ∀ {l : List D} {xs : List V} (n : Nat), reps K io F l xs → reps K io F (l.take n) (xs.take n)
  | _, _, 0, _ => rfl
  | [], xs, n + 1, r => by
    rw [show xs = [] from r]
    rfl
  | c :: l, _, n + 1, r => by
    obtain ⟨y, t, e, p, q⟩ := r
    subst e
    exact ⟨y, _, rfl, p, reps_take n q⟩
theorem reps_drop : ∀ {l : List D} {xs : List V} (n : Nat), reps K io F l xs → reps K io F (l.drop n) (xs.drop n)
  | _, _, 0, r => r
  | [], xs, n + 1, r => by
    rw [show xs = [] from r]
    rfl
  | c :: l, _, n + 1, r => by
    obtain ⟨y, t, e, p, q⟩ := r
    subst e
    exact reps_drop n q
theorem reps_rev : ∀ {l : List D} {xs : List V}, reps K io F l xs → reps K io F l.reverse xs.reverse
  | [], xs, r => by
    rw [show xs = [] from r]
    rfl
  | c :: l, _, r => by
    obtain ⟨y, t, e, p, q⟩ := r
    subst e
    rw [List.reverse_cons, List.reverse_cons]
    exact reps_app (reps_rev q) (reps_one p)
theorem reps_erase : ∀ {l : List D} {xs : List V} (i : Nat), reps K io F l xs → reps K io F (l.eraseIdx i) (xs.eraseIdx i)
  | [], xs, i, r => by
    rw [show xs = [] from r]
    rfl
  | c :: l, _, 0, r => by
    obtain ⟨y, t, e, p, q⟩ := r
    subst e
    exact q
  | c :: l, _, i + 1, r => by
    obtain ⟨y, t, e, p, q⟩ := r
    subst e
    exact ⟨y, _, rfl, p, reps_erase i q⟩
theorem reps_dropLast {l : List D} {xs : List V} (r : reps K io F l xs) : reps K io F l.dropLast xs.dropLast := by
  rw [List.dropLast_eq_take, List.dropLast_eq_take, reps_len r]
  exact reps_take _ r
end

/-- pairs of a dict -/
def KReps {κ κ' : Type} (g : κ → κ') (K : PySem.W.Frag) (io : List Addr) (F : Hp) (kvs : List (κ × D)) (ws : List (κ' × V)) : Prop :=
  ws.map (·.1) = kvs.map (fun p => g p.1) ∧ reps K io F (kvs.map (·.2)) (ws.map (·.2))
def FReps (K : PySem.W.Frag) (io : List Addr) (F : Hp) (fs : List (Str × D)) (ws : List (Str × V)) : Prop :=
  ws.map (·.1) = fs.map (·.1) ∧ reps K io F (fs.map (·.2)) (ws.map (·.2))
/-- what stands at p is o; F does not know it -/
def Cont (K : PySem.W.Frag) (io : List Addr) (F H : Hp) (p : Addr) : AO → Prop
  | .lst l => F p = none ∧ ∃ xs, H p = some (.lst xs) ∧ reps K io F l xs
  | .dk kvs => F p = none ∧ ∃ ws, H p = some (.dK ws) ∧ KReps kk K io F kvs ws
  | .dt kvs => F p = none ∧ ∃ ws, H p = some (.dT ws) ∧ KReps (fun k : List KK => k.map kk) K io F kvs ws
  | .ins C fs => F p = none ∧ ∃ dx ws, H p = some (.ins C dx ws) ∧ FReps K io F fs ws
  | .dkL kvs => ∃ ob ws, F p = some (.frz ob (.dK ws)) ∧ H p = some (.frz ob (.dK ws)) ∧ KReps kk K io F kvs ws
  | .dead => H p ≠ none
theorem Cont.live {K : PySem.W.Frag} {io : List Addr} {F H : Hp} {p : Addr} {o : AO} (c : Cont K io F H p o) : H p ≠ none := by
  cases o with
  | dead => exact c
  | lst l => obtain ⟨_, xs, e, _⟩ := c; rw [e]; exact fun z => nomatch z
  | dk l => obtain ⟨_, xs, e, _⟩ := c; rw [e]; exact fun z => nomatch z
  | dt l => obtain ⟨_, xs, e, _⟩ := c; rw [e]; exact fun z => nomatch z
  | dkL l => obtain ⟨_, xs, _, e, _⟩ := c; rw [e]; exact fun z => nomatch z
  | ins C l => obtain ⟨_, dx, xs, e, _⟩ := c; rw [e]; exact fun z => nomatch z
/-- it stands as it stood, F knows it not still -/
theorem Cont.le {K : PySem.W.Frag} {io io' : List Addr} {F F' H H' : Hp} {p : Addr} {o : AO} (h : Le io F io' F') (hF : F p = none → F' p = none) (hH : ∀ u, H p = some u → H' p = some u) (c : Cont K io F H p o) : Cont K io' F' H' p o := by
  cases o with
  | dead =>
    intro z
    cases e : H p with
    | none => exact c e
    | some u => rw [hH u e] at z; cases z
  | lst l => obtain ⟨a, xs, e, r⟩ := c; exact ⟨hF a, xs, hH _ e, reps_le h _ _ r⟩
  | dk l => obtain ⟨a, xs, e, r1, r⟩ := c; exact ⟨hF a, xs, hH _ e, r1, reps_le h _ _ r⟩
  | dt l => obtain ⟨a, xs, e, r1, r⟩ := c; exact ⟨hF a, xs, hH _ e, r1, reps_le h _ _ r⟩
  | dkL l => obtain ⟨ob, xs, f, e, r1, r⟩ := c; exact ⟨ob, xs, h.ex _ _ f, hH _ e, r1, reps_le h _ _ r⟩
  | ins C l => obtain ⟨a, dx, xs, e, r1, r⟩ := c; exact ⟨hF a, dx, xs, hH _ e, r1, reps_le h _ _ r⟩

/-- the own heap -/
structure HRel (K : PySem.W.Frag) (io : List Addr) (F H : Hp) (hp : List AO) : Prop where
  ex : Ex F H
  len : io.length = hp.length
  nd : ∀ (i j : Nat) p, io[i]? = some p → io[j]? = some p → i = j
  ids : ∀ (i : Nat) p o, io[i]? = some p → hp[i]? = some o → Cont K io F H p o
/-- an entry: the heap, what is frozen, what is known -/
structure Ent where
  H : Hp
  F : Hp
  io : List Addr
/-- what a def's run keeps of its entry -/
structure Kept (en : Ent) (io : List Addr) (F H : Hp) : Prop where
  pre : ∀ (i : Nat) a, en.io[i]? = some a → io[i]? = some a
  new : ∀ (i : Nat) a, io[i]? = some a → en.io.length ≤ i → en.H a = none
  frm : ∀ b o, en.H b = some o → b ∉ en.io → H b = some o
  liv : ∀ b, en.H b ≠ none → H b ≠ none
  grow : ∀ b, en.H b ≠ none → F b = en.F b
  ex : Ex en.F F
/-- the whole relation: slots, heap -/
structure Rel (K : PySem.W.Frag) (en : Ent) (io : List Addr) (F H : Hp) (σ : St) (s : A) : Prop where
  h : HRel K io F H s.hp
  k : Kept en io F H
  len : s.sl.length = σ.length
  val : ∀ (i : Nat) d, s.sl[i]? = some (some (.val d)) → ∃ v, σ[i]? = some (some v) ∧ rep K io F d v
  own : ∀ (i : Nat) o, s.sl[i]? = some (some (.own o)) → ∃ p, σ[i]? = some (some (.ref p)) ∧ Cont K io F H p o ∧ p ∉ io ∧ en.H p = none
  sep : ∀ (i j : Nat) o o' p, s.sl[i]? = some (some (.own o)) → s.sl[j]? = some (some (.own o')) → σ[i]? = some (some (.ref p)) → σ[j]? = some (some (.ref p)) → i = j

/-! ### what an exception is -/
def XRep (K : PySem.W.Frag) (mg : Str → Option Value) (io : List Addr) (F H : Hp) (e : Exn) (cls : Value) (dd : Option Addr) : Prop :=
  PySem.W.nsIn K mainGlobals e.c.nm = some (some cls) ∧ (∃ C, cls = .ref C) ∧ ∃ d v, dd = some d ∧ F d = some (.xd [(("value" : Str), v)]) ∧ rep K io F e.v v

section
variable (K : PySem.W.Frag) (mg : Str → Option Value) (W : WX)
/-- what must hold of the wish, if it ends by an exception -/
def PostX {α : Type} (en : Ent) (io : List Addr) (F : Hp) (o : O α) : Prop := match o with
  | .ok _ _ => True
  | .ex e s' => ∀ cls dd io' F' H' σ', Le io F io' F' → Rel K en io' F' H' σ' s' → XRep K mg io' F' H' e cls dd → W cls dd σ' H'
theorem PostX.le {α : Type} {en : Ent} {io io' : List Addr} {F F' : Hp} {o : O α} (h : Le io F io' F') (p : PostX K mg W en io F o) : PostX K mg W en io' F' o := by
  cases o with
  | ok _ _ => trivial
  | ex e s' => exact fun cls dd i f g t l => p cls dd i f g t (h.trans l)
def SemE (t : TE) (m : M D) : Prop := ∀ (en : Ent) (io : List Addr) (F H : Hp) (σ : St) (s : A) (o : O D) (Q : VK), Rel K en io F H σ s → m s = some o → PostX K mg W en io F o →
  (∀ d s', o = .ok d s' → ∀ v io' F' H', Le io F io' F' → Rel K en io' F' H' σ s' → rep K io' F' d v → Q v H') → t σ H Q
def SemT (t : TT) (m : M Bool) : Prop := ∀ (en : Ent) (io : List Addr) (F H : Hp) (σ : St) (s : A) (o : O Bool) (Q : Bool → Hp → Prop), Rel K en io F H σ s → m s = some o → PostX K mg W en io F o →
  (∀ d s', o = .ok d s' → ∀ io' F' H', Le io F io' F' → Rel K en io' F' H' σ s' → Q d H') → t σ H Q
def SemA (t : TA) (m : M (List D)) : Prop := ∀ (en : Ent) (io : List Addr) (F H : Hp) (σ : St) (s : A) (o : O (List D)) (Q : List V → Hp → Prop), Rel K en io F H σ s → m s = some o → PostX K mg W en io F o →
  (∀ d s', o = .ok d s' → ∀ v io' F' H', Le io F io' F' → Rel K en io' F' H' σ s' → reps K io' F' d v → Q v H') → t σ H Q
/-- how a statement ends -/
inductive Fl where
  | nx | rt (d : D) | bk | ct
def EndP (io : List Addr) (F H : Hp) (σ : St) (E : Ends) : Fl → Prop
  | .nx => E.nx σ H
  | .rt d => ∀ v, rep K io F d v → E.rt v H
  | .bk => E.bk σ H
  | .ct => E.ct σ H
def SemS (t : TS) (m : M Fl) : Prop := ∀ (en : Ent) (io : List Addr) (F H : Hp) (σ : St) (s : A) (o : O Fl) (E : Ends), Rel K en io F H σ s → m s = some o → PostX K mg W en io F o →
  (∀ f s', o = .ok f s' → ∀ io' F' H' σ', Le io F io' F' → Rel K en io' F' H' σ' s' → EndP K io' F' H' σ' E f) → t E σ H
def SemG (g : TG) (m : D → M Unit) : Prop := ∀ (en : Ent) (io : List Addr) (F H : Hp) (σ : St) (s : A) (d : D) (v : V) (o : O Unit) (Q : St → Hp → Prop), Rel K en io F H σ s → rep K io F d v → m d s = some o → PostX K mg W en io F o →
  (∀ u s', o = .ok u s' → ∀ io' F' H' σ', Le io F io' F' → Rel K en io' F' H' σ' s' → Q σ' H') → g v σ H Q
end

section
variable {K : PySem.W.Frag} {mg : Str → Option Value} {W : WX} {en : Ent} {io : List Addr} {F H : Hp} {σ : St} {s : A} {β : Type}
theorem bnd_some {α : Type} {m : M α} {k : α → M β} {o : O β} (e : bnd m k s = some o) : (∃ a s', m s = some (.ok a s') ∧ k a s' = some o) ∨ ∃ x s', m s = some (.ex x s') ∧ o = .ex x s' := by
  unfold bnd at e
  split at e
  · exact .inl ⟨_, _, by assumption, e⟩
  · exact .inr ⟨_, _, by assumption, (Option.some.inj e).symm⟩
  · cases e
theorem lft_some {o : Option β} {r : O β} (e : lft o s = some r) : ∃ a, o = some a ∧ r = .ok a s := by
  unfold lft at e
  split at e
  · exact ⟨_, rfl, (Option.some.inj e).symm⟩
  · cases e
/-- first t, then what follows -/
theorem SemE.step {t : TE} {m : M D} {k : D → M β} {o : O β} {Q : VK} (h : SemE K mg W t m) (R : Rel K en io F H σ s) (e : bnd m k s = some o) (hx : PostX K mg W en io F o)
    (hk : ∀ d s1 v io' F' H', Le io F io' F' → Rel K en io' F' H' σ s1 → rep K io' F' d v → k d s1 = some o → PostX K mg W en io' F' o → Q v H') : t σ H Q := by
  rcases bnd_some e with ⟨a, s', e1, e2⟩ | ⟨x, s', e1, e2⟩
  · exact h en io F H σ s _ Q R e1 trivial fun d s2 e3 v io' F' H' l R' r => by
      cases e3
      exact hk a s' v io' F' H' l R' r e2 (hx.le _ _ _ l)
  · subst e2
    exact h en io F H σ s _ Q R e1 hx fun d s2 e3 => by cases e3
theorem SemT.step {t : TT} {m : M Bool} {k : Bool → M β} {o : O β} {Q : Bool → Hp → Prop} (h : SemT K mg W t m) (R : Rel K en io F H σ s) (e : bnd m k s = some o) (hx : PostX K mg W en io F o)
    (hk : ∀ d s1 io' F' H', Le io F io' F' → Rel K en io' F' H' σ s1 → k d s1 = some o → PostX K mg W en io' F' o → Q d H') : t σ H Q := by
  rcases bnd_some e with ⟨a, s', e1, e2⟩ | ⟨x, s', e1, e2⟩
  · exact h en io F H σ s _ Q R e1 trivial fun d s2 e3 io' F' H' l R' => by
      cases e3
      exact hk a s' io' F' H' l R' e2 (hx.le _ _ _ l)
  · subst e2
    exact h en io F H σ s _ Q R e1 hx fun d s2 e3 => by cases e3
theorem SemA.step {t : TA} {m : M (List D)} {k : List D → M β} {o : O β} {Q : List V → Hp → Prop} (h : SemA K mg W t m) (R : Rel K en io F H σ s) (e : bnd m k s = some o) (hx : PostX K mg W en io F o)
    (hk : ∀ d s1 v io' F' H', Le io F io' F' → Rel K en io' F' H' σ s1 → reps K io' F' d v → k d s1 = some o → PostX K mg W en io' F' o → Q v H') : t σ H Q := by
  rcases bnd_some e with ⟨a, s', e1, e2⟩ | ⟨x, s', e1, e2⟩
  · exact h en io F H σ s _ Q R e1 trivial fun d s2 e3 v io' F' H' l R' r => by
      cases e3
      exact hk a s' v io' F' H' l R' r e2 (hx.le _ _ _ l)
  · subst e2
    exact h en io F H σ s _ Q R e1 hx fun d s2 e3 => by cases e3
theorem SemG.step {g : TG} {m : D → M Unit} {k : Unit → M β} {o : O β} {Q : St → Hp → Prop} {d : D} {v : V} (h : SemG K mg W g m) (R : Rel K en io F H σ s) (r : rep K io F d v) (e : bnd (m d) k s = some o) (hx : PostX K mg W en io F o)
    (hk : ∀ s1 io' F' H' σ', Le io F io' F' → Rel K en io' F' H' σ' s1 → k () s1 = some o → PostX K mg W en io' F' o → Q σ' H') : g v σ H Q := by
  rcases bnd_some e with ⟨a, s', e1, e2⟩ | ⟨x, s', e1, e2⟩
  · exact h en io F H σ s d v _ Q R r e1 trivial fun u s2 e3 io' F' H' σ' l R' => by
      cases e3
      exact hk s' io' F' H' σ' l R' e2 (hx.le _ _ _ l)
  · subst e2
    exact h en io F H σ s d v _ Q R r e1 hx fun d s2 e3 => by cases e3
end

/-! ### the judgements -/
structure DE (X : Cx) (W : WX) (e : Expr) (t : TE) (m : M D) : Prop where
  p : PE X e t
  s : SemE X.K X.mg W t m
structure DT (X : Cx) (W : WX) (e : Expr) (t : TT) (m : M Bool) : Prop where
  p : PT X e t
  s : SemT X.K X.mg W t m
structure DA (X : Cx) (W : WX) (es : List Expr) (t : TA) (m : M (List D)) : Prop where
  p : PA X es t
  s : SemA X.K X.mg W t m
structure DS (X : Cx) (W : WX) (st : Stmt) (t : TS) (m : M Fl) : Prop where
  p : PS X st t
  s : SemS X.K X.mg W t m
structure DSs (X : Cx) (W : WX) (sts : List Stmt) (t : TS) (m : M Fl) : Prop where
  p : PSs X sts t
  s : SemS X.K X.mg W t m
structure DG (X : Cx) (W : WX) (e : Expr) (g : TG) (m : D → M Unit) : Prop where
  p : PG X e g
  s : SemG X.K X.mg W g m
end Z
/-! Z2: how the relation is carried over a change -/
namespace Z
open PySem L2
section
variable {K : PySem.W.Frag} {en : Ent} {io io' : List Addr} {F F' H H' : Hp} {σ : St} {s : A} {p : Addr}

theorem HRel.at (h : HRel K io F H s.hp) {i : Nat} {o : AO} (e : s.hp[i]? = some o) : ∃ p, io[i]? = some p ∧ Cont K io F H p o := by
  have hi := (List.getElem?_eq_some_iff.mp e).1
  rw [← h.len] at hi
  exact ⟨io[i], List.getElem?_eq_getElem hi, h.ids i _ o (List.getElem?_eq_getElem hi) e⟩
theorem HRel.mem (h : HRel K io F H s.hp) (hp : p ∈ io) : ∃ (i : Nat) (o : AO), io[i]? = some p ∧ s.hp[i]? = some o ∧ Cont K io F H p o := by
  obtain ⟨i, hi⟩ := List.getElem?_of_mem hp
  have hl := (List.getElem?_eq_some_iff.mp hi).1
  have hl2 : i < s.hp.length := by rw [← h.len]; exact hl
  exact ⟨i, s.hp[i], hi, List.getElem?_eq_getElem hl2, h.ids i p _ hi (List.getElem?_eq_getElem hl2)⟩
/-- a step of another's: calls, new objects -/
theorem Rel.after (R : Rel K en io F H σ s) {hp' : List AO} (h' : HRel K io' F' H' hp') (l : Le io F io' F') (hF : ∀ q, H q ≠ none → F' q = F q) (fr : ∀ b o, H b = some o → b ∉ io → H' b = some o)
    (lv : ∀ b, H b ≠ none → H' b ≠ none) (nw : ∀ (i : Nat) a, io'[i]? = some a → io.length ≤ i → H a = none) : Rel K en io' F' H' σ { s with hp := hp' } := by
  have notin : ∀ q, q ∉ io → H q ≠ none → q ∉ io' := fun q hq hn hm => by
    obtain ⟨i, hi⟩ := List.getElem?_of_mem hm
    by_cases hl : io.length ≤ i
    · exact hn (nw i q hi hl)
    · have hl' : i < io.length := by omega
      have e := l.pre i io[i] (List.getElem?_eq_getElem hl')
      rw [hi] at e
      cases e
      exact hq (List.getElem_mem hl')
  have enio : ∀ (i : Nat) a, en.io[i]? = some a → a ∈ io := fun i a e => List.mem_of_getElem? (R.k.pre i a e)
  refine ⟨h', ⟨fun i a e => l.pre i a (R.k.pre i a e), fun i a e hl => ?_, fun b o e hb => ?_, fun b hb => lv b (R.k.liv b hb), fun b hb => (hF b (R.k.liv b hb)).trans (R.k.grow b hb), R.k.ex.trans l.ex⟩, R.len, fun i d e => ?_, fun i o e => ?_, R.sep⟩
  · by_cases hl2 : io.length ≤ i
    · cases q : en.H a with
      | none => rfl
      | some u => exact absurd (nw i a e hl2) (R.k.liv a (by rw [q]; exact fun z => nomatch z))
    · have hl' : i < io.length := by omega
      have e2 := l.pre i io[i] (List.getElem?_eq_getElem hl')
      rw [e] at e2
      cases e2
      exact R.k.new i _ (List.getElem?_eq_getElem hl') hl
  · have hH := R.k.frm b o e hb
    refine fr b o hH fun hm => ?_
    obtain ⟨i, hi⟩ := List.getElem?_of_mem hm
    by_cases hl2 : en.io.length ≤ i
    · rw [R.k.new i b hi hl2] at e
      cases e
    · have hl' : i < en.io.length := by omega
      have e2 := R.k.pre i en.io[i] (List.getElem?_eq_getElem hl')
      rw [hi] at e2
      cases e2
      exact hb (List.getElem_mem hl')
  · obtain ⟨v, e1, r⟩ := R.val i d e
    exact ⟨v, e1, rep_le l d v r⟩
  · obtain ⟨q, e1, c, hq, hn⟩ := R.own i o e
    have hne := c.live
    exact ⟨q, e1, c.le l (fun z => (hF q hne).trans z) (fun u hu => fr q u hu hq), notin q hq hne, hn⟩
/-- H grows, and F with it -/
theorem Rel.grow (R : Rel K en io F H σ s) (hF : ∀ q, H q ≠ none → F' q = F q) (exF : Ex F F') (exH : Ex H H') (ex' : Ex F' H') : Rel K en io F' H' σ s := by
  have l : Le io F io F' := ⟨fun _ _ h => h, exF⟩
  have h' : HRel K io F' H' s.hp := ⟨ex', R.h.len, R.h.nd, fun i q o e1 e2 => by
    have c := R.h.ids i q o e1 e2
    exact c.le l (fun z => (hF q c.live).trans z) (fun u hu => exH q u hu)⟩
  exact R.after h' l hF (fun b o e _ => exH b o e) (fun b hb z => by
    cases e : H b with
    | none => exact hb e
    | some o => rw [exH b o e] at z; cases z) fun i a e hl => absurd (List.getElem?_eq_some_iff.mp e).1 (by omega)
/-- a new frozen object -/
theorem Rel.new (R : Rel K en io F H σ s) (hp : H p = none) (o : HO) : Rel K en io (upd F p o) (upd H p o) σ s ∧ Le io F io (upd F p o) := by
  have hFp : F p = none := R.h.ex.none_of hp
  refine ⟨R.grow (fun q hq => upd_ne fun z => ?_) (Ex.new hFp) (Ex.new hp) R.h.ex.up, ⟨fun _ _ h => h, Ex.new hFp⟩⟩
  subst z
  exact hq hp
/-- .. that nobody needs -/
theorem Rel.junk (R : Rel K en io F H σ s) (hp : H p = none) (o : HO) : Rel K en io F (upd H p o) σ s :=
  R.grow (fun _ _ => rfl) (Ex.refl F) (Ex.new hp) (R.h.ex.trans (Ex.new hp))

/-- a slot takes data -/
theorem Rel.setv (R : Rel K en io F H σ s) {i : Nat} {d : D} {v : V} (r : rep K io F d v) : Rel K en io F H (σ.set i (some v)) { s with sl := s.sl.set i (some (.val d)) } := by
  refine ⟨R.h, R.k, by simpa using R.len, fun j e h => ?_, fun j o h => ?_, fun j k o o' q h1 h2 e1 e2 => ?_⟩
  · by_cases hj : i = j
    · subst hj
      have hl := (List.getElem?_eq_some_iff.mp h).1
      rw [List.length_set] at hl
      rw [List.getElem?_set_self hl] at h
      cases h
      exact ⟨v, List.getElem?_set_self (by rw [← R.len]; exact hl), r⟩
    · rw [List.getElem?_set_ne hj] at h ⊢
      exact R.val j e h
  · by_cases hj : i = j
    · subst hj
      have hl := (List.getElem?_eq_some_iff.mp h).1
      rw [List.length_set] at hl
      rw [List.getElem?_set_self hl] at h
      cases h
    · rw [List.getElem?_set_ne hj] at h ⊢
      exact R.own j o h
  · have key : ∀ (j : Nat) (o : AO), (s.sl.set i (some (.val d)))[j]? = some (some (.own o)) → i ≠ j := fun j o h z => by
      subst z
      have hl := (List.getElem?_eq_some_iff.mp h).1
      rw [List.length_set] at hl
      rw [List.getElem?_set_self hl] at h
      cases h
    have n1 := key j o h1
    have n2 := key k o' h2
    rw [List.getElem?_set_ne n1] at h1 e1
    rw [List.getElem?_set_ne n2] at h2 e2
    exact R.sep j k o o' q h1 h2 e1 e2
/-- a slot is forgotten -/
theorem Rel.forget (R : Rel K en io F H σ s) {i : Nat} (x : Option V) : Rel K en io F H (σ.set i x) { s with sl := s.sl.set i none } := by
  have key : ∀ (j : Nat) (o : SV), (s.sl.set i none)[j]? = some (some o) → i ≠ j := fun j o h z => by
    subst z
    have hl := (List.getElem?_eq_some_iff.mp h).1
    rw [List.length_set] at hl
    rw [List.getElem?_set_self hl] at h
    cases h
  refine ⟨R.h, R.k, by simpa using R.len, fun j e h => ?_, fun j o h => ?_, fun j k o o' q h1 h2 e1 e2 => ?_⟩
  · have n := key j _ h
    rw [List.getElem?_set_ne n] at h ⊢
    exact R.val j e h
  · have n := key j _ h
    rw [List.getElem?_set_ne n] at h ⊢
    exact R.own j o h
  · have n1 := key j _ h1
    have n2 := key k _ h2
    rw [List.getElem?_set_ne n1] at h1 e1
    rw [List.getElem?_set_ne n2] at h2 e2
    exact R.sep j k o o' q h1 h2 e1 e2
/-- a new object that the slot alone knows -/
theorem Rel.seto (R : Rel K en io F H σ s) {i : Nat} {ho : HO} {o : AO} (hp : H p = none) (c : Cont K io F (upd H p ho) p o) : Rel K en io F (upd H p ho) (σ.set i (some (.ref p))) { s with sl := s.sl.set i (some (.own o)) } := by
  have R1 := R.junk hp ho
  have pn : ∀ (j : Nat) o', s.sl[j]? = some (some (.own o')) → σ[j]? = some (some (.ref p)) → False := fun j o' h e => by
    obtain ⟨q, e1, c', _, _⟩ := R.own j o' h
    rw [e] at e1
    cases e1
    exact c'.live hp
  have pio : p ∉ io := fun hm => by
    obtain ⟨j, o', _, _, c'⟩ := R.h.mem hm
    exact c'.live hp
  have enp : en.H p = none := by
    cases q : en.H p with
    | none => rfl
    | some u => exact absurd hp (R.k.liv p (by rw [q]; exact fun z => nomatch z))
  have self : ∀ (j : Nat) (o' : SV), (s.sl.set i (some (.own o)))[j]? = some (some o') → i = j → i < s.sl.length ∧ o' = .own o := fun j o' h z => by
    subst z
    have hl := (List.getElem?_eq_some_iff.mp h).1
    rw [List.length_set] at hl
    rw [List.getElem?_set_self hl] at h
    cases h
    exact ⟨hl, rfl⟩
  refine ⟨R1.h, R1.k, by simpa using R1.len, fun j e h => ?_, fun j o' h => ?_, fun j k o1 o2 q h1 h2 e1 e2 => ?_⟩
  · by_cases hj : i = j
    · have := (self j _ h hj).2
      cases this
    · rw [List.getElem?_set_ne hj] at h ⊢
      exact R1.val j e h
  · by_cases hj : i = j
    · obtain ⟨hl, e⟩ := self j _ h hj
      cases e
      subst hj
      exact ⟨p, List.getElem?_set_self (by rw [← R.len]; exact hl), c, pio, enp⟩
    · rw [List.getElem?_set_ne hj] at h ⊢
      exact R1.own j o' h
  · by_cases hj : i = j
    · obtain ⟨hl, _⟩ := self j _ h1 hj
      subst hj
      rw [List.getElem?_set_self (by rw [← R.len]; exact hl)] at e1
      cases e1
      by_cases hk : i = k
      · exact hk
      · rw [List.getElem?_set_ne hk] at h2 e2
        exact (pn k o2 h2 e2).elim
    · by_cases hk : i = k
      · obtain ⟨hl, _⟩ := self k _ h2 hk
        subst hk
        rw [List.getElem?_set_self (by rw [← R.len]; exact hl)] at e2
        cases e2
        rw [List.getElem?_set_ne hj] at h1 e1
        exact (pn j o1 h1 e1).elim
      · rw [List.getElem?_set_ne hj] at h1 e1
        rw [List.getElem?_set_ne hk] at h2 e2
        exact R.sep j k o1 o2 q h1 h2 e1 e2
/-- the object of a slot is changed -/
theorem Rel.put (R : Rel K en io F H σ s) {i : Nat} {ho : HO} {o o' : AO} (hs : s.sl[i]? = some (some (.own o))) (hσ : σ[i]? = some (some (.ref p))) (hF : F p = none) (c : Cont K io F (upd H p ho) p o') :
    Rel K en io F (upd H p ho) σ { s with sl := s.sl.set i (some (.own o')) } := by
  obtain ⟨q, e1, c0, pio, enp⟩ := R.own i o hs
  rw [hσ] at e1
  cases e1
  have hlt := (List.getElem?_eq_some_iff.mp hs).1
  have self : ∀ (j : Nat) (x : SV), (s.sl.set i (some (.own o')))[j]? = some (some x) → i = j → x = .own o' := fun j x h z => by
    subst z
    rw [List.getElem?_set_self hlt] at h
    cases h
    rfl
  refine ⟨⟨fun b u e => ?_, R.h.len, R.h.nd, fun j b u e1 e2 => ?_⟩, ⟨R.k.pre, R.k.new, fun b u e hb => ?_, fun b hb => ?_, R.k.grow, R.k.ex⟩, by simpa using R.len, fun j e h => ?_, fun j x h => ?_, fun j k o1 o2 b h1 h2 e1 e2 => ?_⟩
  · rw [upd_ne (fun z => by subst z; rw [hF] at e; cases e)]
    exact R.h.ex b u e
  · have hb : b ≠ p := fun z => by
      subst z
      exact pio (List.mem_of_getElem? e1)
    exact (R.h.ids j b u e1 e2).le (Le.refl io F) id fun w hw => by rw [upd_ne hb]; exact hw
  · rw [upd_ne (fun z => by subst z; rw [enp] at e; cases e)]
    exact R.k.frm b u e hb
  · by_cases z : b = p
    · subst z
      rw [upd_same]
      exact fun z => nomatch z
    · rw [upd_ne z]
      exact R.k.liv b hb
  · by_cases hj : i = j
    · cases self j _ h hj
    · rw [List.getElem?_set_ne hj] at h
      exact R.val j e h
  · by_cases hj : i = j
    · cases self j _ h hj
      subst hj
      exact ⟨p, hσ, c, pio, enp⟩
    · rw [List.getElem?_set_ne hj] at h
      obtain ⟨b, e1, c1, h3, h4⟩ := R.own j x h
      have hb : b ≠ p := fun z => by
        subst z
        exact hj (R.sep i j o x b hs h hσ e1)
      exact ⟨b, e1, c1.le (Le.refl io F) id fun w hw => by rw [upd_ne hb]; exact hw, h3, h4⟩
  · have back : ∀ (j : Nat) (x : AO), (s.sl.set i (some (.own o')))[j]? = some (some (.own x)) → ∃ y, s.sl[j]? = some (some (.own y)) := fun j x h => by
      by_cases hj : i = j
      · subst hj
        exact ⟨o, hs⟩
      · rw [List.getElem?_set_ne hj] at h
        exact ⟨x, h⟩
    obtain ⟨y1, g1⟩ := back j o1 h1
    obtain ⟨y2, g2⟩ := back k o2 h2
    exact R.sep j k y1 y2 b g1 g2 e1 e2
/-- a slot's list is frozen: it is data from now on -/
theorem Rel.frz (R : Rel K en io F H σ s) {i : Nat} {l : List D} (hs : s.sl[i]? = some (some (.own (.lst l)))) :
    ∃ p F', σ[i]? = some (some (.ref p)) ∧ Le io F io F' ∧ Rel K en io F' H σ { s with sl := s.sl.set i (some (.val (.lst l))) } ∧ rep K io F' (.lst l) (.ref p) := by
  obtain ⟨p, e1, ⟨hF, xs, hH, r⟩, pio, enp⟩ := R.own i _ hs
  have l1 : Le io F io (upd F p (.lst xs)) := ⟨fun _ _ h => h, Ex.new hF⟩
  have rr : rep K io (upd F p (.lst xs)) (.lst l) (.ref p) := ⟨p, xs, rfl, upd_same, reps_le l1 _ _ r⟩
  have hlt := (List.getElem?_eq_some_iff.mp hs).1
  have self : ∀ (j : Nat) (x : SV), (s.sl.set i (some (.val (.lst l))))[j]? = some (some x) → i = j → x = .val (.lst l) := fun j x h z => by
    subst z
    rw [List.getElem?_set_self hlt] at h
    cases h
    rfl
  refine ⟨p, upd F p (.lst xs), e1, l1, ⟨⟨fun b u e => ?_, R.h.len, R.h.nd, fun j b u h1 h2 => ?_⟩, ⟨R.k.pre, R.k.new, R.k.frm, R.k.liv, fun b hb => ?_, R.k.ex.trans l1.ex⟩, by simpa using R.len, fun j e h => ?_, fun j x h => ?_, fun j k o1 o2 b h1 h2 g1 g2 => ?_⟩, rr⟩
  · by_cases z : b = p
    · subst z
      rw [upd_same] at e
      cases e
      exact hH
    · rw [upd_ne z] at e
      exact R.h.ex b u e
  · have hb : b ≠ p := fun z => by
      subst z
      exact pio (List.mem_of_getElem? h1)
    exact (R.h.ids j b u h1 h2).le l1 (fun z => by rw [upd_ne hb]; exact z) fun w hw => hw
  · rw [upd_ne (fun z => by subst z; exact hb enp)]
    exact R.k.grow b hb
  · by_cases hj : i = j
    · cases self j _ h hj
      subst hj
      exact ⟨_, e1, rr⟩
    · rw [List.getElem?_set_ne hj] at h
      obtain ⟨v, e2, r2⟩ := R.val j e h
      exact ⟨v, e2, rep_le l1 _ _ r2⟩
  · by_cases hj : i = j
    · cases self j _ h hj
    · rw [List.getElem?_set_ne hj] at h
      obtain ⟨b, e2, c1, h3, h4⟩ := R.own j x h
      have hb : b ≠ p := fun z => by
        subst z
        exact hj (R.sep i j _ x b hs h e1 e2)
      exact ⟨b, e2, c1.le l1 (fun z => by rw [upd_ne hb]; exact z) fun w hw => hw, h3, h4⟩
  · have key : ∀ (j : Nat) (o : AO), (s.sl.set i (some (.val (.lst l))))[j]? = some (some (.own o)) → i ≠ j := fun j o h z => by cases self j _ h z
    have n1 := key j o1 h1
    have n2 := key k o2 h2
    rw [List.getElem?_set_ne n1] at h1
    rw [List.getElem?_set_ne n2] at h2
    exact R.sep j k o1 o2 b h1 h2 g1 g2
/-- an object of the own heap is changed -/
theorem Rel.hput (R : Rel K en io F H σ s) {i : Nat} {ho : HO} {o o' : AO} (hs : s.hp[i]? = some o) (hi : io[i]? = some p) (hF : F p = none) (c : Cont K io F (upd H p ho) p o') :
    Rel K en io F (upd H p ho) σ { s with hp := s.hp.set i o' } := by
  have hlt := (List.getElem?_eq_some_iff.mp hs).1
  have pin : p ∈ io := List.mem_of_getElem? hi
  have h' : HRel K io F (upd H p ho) (s.hp.set i o') := ⟨fun b u e => by
    rw [upd_ne (fun z => by subst z; rw [hF] at e; cases e)]
    exact R.h.ex b u e, by rw [List.length_set]; exact R.h.len, R.h.nd, fun j b u e1 e2 => by
    by_cases hj : i = j
    · subst hj
      rw [hi] at e1
      cases e1
      rw [List.getElem?_set_self hlt] at e2
      cases e2
      exact c
    · rw [List.getElem?_set_ne hj] at e2
      have hb : b ≠ p := fun z => by
        subst z
        exact hj (R.h.nd i j b hi e1)
      exact (R.h.ids j b u e1 e2).le (Le.refl io F) id fun w hw => by rw [upd_ne hb]; exact hw⟩
  refine R.after h' (Le.refl io F) (fun _ _ => rfl) (fun b u e hb => ?_) (fun b hb => ?_) fun j a e hl => absurd (List.getElem?_eq_some_iff.mp e).1 (by omega)
  · rw [upd_ne (fun z => by subst z; exact hb pin)]
    exact e
  · by_cases z : b = p
    · subst z
      rw [upd_same]
      exact fun z => nomatch z
    · rw [upd_ne z]
      exact hb
/-- a new object of the own heap -/
theorem Rel.hnew (R : Rel K en io F H σ s) {ho : HO} {o : AO} (hp : H p = none) (c : Cont K (io ++ [p]) F (upd H p ho) p o) :
    Rel K en (io ++ [p]) F (upd H p ho) σ { s with hp := s.hp ++ [o] } ∧ Le io F (io ++ [p]) F ∧ rep K (io ++ [p]) F (.ref s.hp.length) (.ref p) := by
  have l : Le io F (io ++ [p]) F := ⟨fun i a e => by rw [List.getElem?_append_left (List.getElem?_eq_some_iff.mp e).1]; exact e, Ex.refl F⟩
  have pnot : p ∉ io := fun hm => by
    obtain ⟨j, o', _, _, c'⟩ := R.h.mem hm
    exact c'.live hp
  have at_ : ∀ (i : Nat) a, (io ++ [p])[i]? = some a → (i < io.length ∧ io[i]? = some a) ∨ (i = io.length ∧ a = p) := fun i a e => by
    by_cases hl : i < io.length
    · rw [List.getElem?_append_left hl] at e
      exact .inl ⟨hl, e⟩
    · have hlt := (List.getElem?_eq_some_iff.mp e).1
      rw [List.length_append, List.length_singleton] at hlt
      have hi : i = io.length := by omega
      subst hi
      rw [List.getElem?_append_right (Nat.le_refl _), Nat.sub_self] at e
      exact .inr ⟨rfl, by simpa using e.symm⟩
  have h' : HRel K (io ++ [p]) F (upd H p ho) (s.hp ++ [o]) := by
    refine ⟨R.h.ex.trans (Ex.new hp), by simp [R.h.len], fun i j a e1 e2 => ?_, fun i a u e1 e2 => ?_⟩
    · rcases at_ i a e1 with ⟨_, g1⟩ | ⟨g1, g1'⟩
      · rcases at_ j a e2 with ⟨_, g2⟩ | ⟨_, g2'⟩
        · exact R.h.nd i j a g1 g2
        · subst g2'
          exact absurd (List.mem_of_getElem? g1) pnot
      · rcases at_ j a e2 with ⟨_, g2⟩ | ⟨g2, _⟩
        · subst g1'
          exact absurd (List.mem_of_getElem? g2) pnot
        · omega
    · rcases at_ i a e1 with ⟨hl, g1⟩ | ⟨g1, g1'⟩
      · rw [List.getElem?_append_left (by rw [← R.h.len]; exact hl)] at e2
        have c1 := R.h.ids i a u g1 e2
        have hb : a ≠ p := fun z => by
          subst z
          exact c1.live hp
        exact c1.le l id fun w hw => by rw [upd_ne hb]; exact hw
      · subst g1'
        rw [g1, R.h.len, List.getElem?_append_right (Nat.le_refl _), Nat.sub_self] at e2
        have e3 : o = u := by simpa using e2
        subst e3
        exact c
  refine ⟨R.after h' l (fun _ _ => rfl) (fun b u e _ => Ex.new hp b u e) (fun b hb => ?_) (fun i a e hl => ?_), l, ⟨p, rfl, by rw [← R.h.len]; simp⟩⟩
  · by_cases z : b = p
    · subst z
      rw [upd_same]
      exact fun z => nomatch z
    · rw [upd_ne z]
      exact hb
  · rcases at_ i a e with ⟨hl', _⟩ | ⟨_, e'⟩
    · omega
    · rw [e']
      exact hp
/-- no new names are needed: slots alike -/
theorem Rel.same (R : Rel K en io F H σ s) {s' : A} (h1 : s'.sl = s.sl) (h2 : s'.hp = s.hp) : Rel K en io F H σ s' := by
  obtain ⟨a, b⟩ := s'
  obtain ⟨c, d⟩ := s
  simp only at h1 h2
  subst h1 h2
  exact R
end
end Z
/-! Z3: expressions -/
namespace Z
open PySem L2
open Classical

/-! ### names, constants -/
def mVar (i : Nat) : M D := fun s => match s.sl[i]? with
  | some (some (.val d)) => some (.ok d s)
  | some (some (.own (.lst l))) => some (.ok (.lst l) { s with sl := s.sl.set i (some (.val (.lst l))) })
  | _ => none
def mC (d : D) : M D := ret d
section
variable {X : Cx} {W : WX} {pos : Pos} {K : PySem.W.Frag} {mg : Str → Option Value}
theorem sem_var {i : Nat} : SemE K mg W (tVar i) (mVar i) := by
  intro en io F H σ s o Q R e hx hq
  unfold mVar at e
  split at e
  · rename_i d h
    cases e
    obtain ⟨v, e1, r⟩ := R.val i d h
    exact ⟨v, e1, hq _ _ rfl v io F H (Le.refl _ _) R r⟩
  · rename_i l h
    cases e
    obtain ⟨p, F', e1, l1, R', r⟩ := R.frz h
    exact ⟨.ref p, e1, hq _ _ rfl _ io F' H l1 R' r⟩
  · cases e
theorem de_var (i : Nat) {x : Str} (hN : X.N[i]? = some x := by rfl) (hv : Vis X.env.scope x := by first | exact Or.inl rfl | exact Or.inr (Or.inl rfl) | exact Or.inr (Or.inr rfl)) (hd : (x == ("__debug__" : Str)) = false := by decide)
    (hcd : (x == ("__classdict__" : Str)) = false := by decide) : DE X W (.Name x pos) (tVar i) (mVar i) := ⟨pe_var hN hv hd hcd, sem_var⟩
theorem sem_c {d : D} {v : V} (h : ∀ io F, rep K io F d v) : SemE K mg W (tC v) (mC d) := by
  intro en io F H σ s o Q R e hx hq
  cases e
  exact hq _ _ rfl v io F H (Le.refl _ _) R (h io F)
theorem de_int {i : Int} {j} : DE X W (.Constant (.int i) j pos) (tC (.int i)) (mC (.int i)) := ⟨pe_int, sem_c fun _ _ => rfl⟩
theorem de_bl {b : Bool} {j} : DE X W (.Constant (.bool b) j pos) (tC (.bl b)) (mC (.bl b)) := ⟨pe_bl, sem_c fun _ _ => rfl⟩
theorem de_non {j} : DE X W (.Constant .none j pos) (tC .non) (mC .non) := ⟨pe_non, sem_c fun _ _ => rfl⟩
theorem de_str {x : Str} {j} (l : List Nat) (h : x = ⟨l.toArray⟩ := by decide) : DE X W (.Constant (.str x) j pos) (tC (.str x)) (mC (.str l)) := ⟨pe_str, sem_c fun _ _ => by rw [h]; rfl⟩
/-- a text of the module -/
theorem de_globS {x y : Str} {t : Tok} (l : List Nat) (hg : Gl X x) (hm : X.mg x = some (.str y t)) (h : y = ⟨l.toArray⟩ := by decide) (hd : (x == ("__debug__" : Str)) = false := by decide) : DE X W (.Name x pos) (tC (.str y)) (mC (.str l)) :=
  ⟨pe_glob hg hm ⟨t, rfl⟩ hd, sem_c fun _ _ => by rw [h]; rfl⟩
theorem de_globI {x : Str} {i : Int} {t : Tok} (hg : Gl X x) (hm : X.mg x = some (.int i t)) (hd : (x == ("__debug__" : Str)) = false := by decide) : DE X W (.Name x pos) (tC (.int i)) (mC (.int i)) :=
  ⟨pe_glob hg hm ⟨t, rfl⟩ hd, sem_c fun _ _ => rfl⟩
/-- a tuple of ints of the module -/
theorem de_globT {x : Str} {a : Addr} (ns : List Int) (hg : Gl X x) (hm : X.mg x = some (.ref a)) (h : ∀ H, SqT X.K H a (ns.map V.int)) (hd : (x == ("__debug__" : Str)) = false := by decide) : DE X W (.Name x pos) (tC (.ref a)) (mC (.tup (ns.map D.int))) :=
  ⟨pe_glob hg hm rfl hd, sem_c fun io F => ⟨a, _, rfl, h F, by
    clear h
    induction ns with
    | nil => rfl
    | cons n r ih => exact ⟨_, _, rfl, rfl, ih⟩⟩⟩
end

/-! ### two-place operations -/
def OpD (K : PySem.W.Frag) (r : R2) (f : D → D → Option D) : Prop := ∀ (en : Ent) (io : List Addr) (F H : Hp) (σ : St) (s : A) (x y : V) (dx dy d : D) (Q : VK), Rel K en io F H σ s → rep K io F dx x → rep K io F dy y → f dx dy = some d →
  (∀ v io' F' H', Le io F io' F' → Rel K en io' F' H' σ s → rep K io' F' d v → Q v H') → r x y H Q
structure OpOk (X : Cx) (f : Value → Value → Sem Value) (r : R2) (g : D → D → Option D) : Prop where
  p : OpR X f r
  s : OpD X.K r g
def mBin (f : D → D → Option D) (ma mb : M D) : M D := bnd ma fun x => bnd mb fun y => lft (f x y)
/-- a value as a test -/
def mTst (m : M D) : M Bool := bnd m fun d => match d with
  | .bl b => ret b
  | _ => fun _ => none
section
variable {X : Cx} {W : WX} {pos : Pos} {K : PySem.W.Frag} {mg : Str → Option Value} {a b c : Expr} {ta tb tc : TE} {ma mb mc : M D} {r r' : R2} {f f' : D → D → Option D}
theorem sem_bin (ha : SemE K mg W ta ma) (hb : SemE K mg W tb mb) (ho : OpD K r f) : SemE K mg W (tOp r ta tb) (mBin f ma mb) := by
  intro en io F H σ s o Q R e hx hq
  refine ha.step R e hx fun d s1 v io1 F1 H1 l1 R1 r1 e1 hx1 => ?_
  refine hb.step R1 e1 hx1 fun d2 s2 v2 io2 F2 H2 l2 R2 r2 e2 hx2 => ?_
  obtain ⟨z, e3, e4⟩ := lft_some e2
  exact ho en io2 F2 H2 σ s2 v v2 d d2 z Q R2 (rep_le l2 _ _ r1) r2 e3 fun w io3 F3 H3 l3 R3 r3 => hq z s2 e4 w io3 F3 H3 ((l1.trans l2).trans l3) R3 r3
theorem sem_tst {t : TE} {m : M D} (h : SemE K mg W t m) : SemT K mg W (tTest t) (mTst m) := by
  intro en io F H σ s o Q R e hx hq
  refine h.step R e hx fun d s1 v io1 F1 H1 l1 R1 r1 e1 hx1 => ?_
  cases d with
  | bl b =>
    cases e1
    exact ⟨b, r1, hq _ _ rfl io1 F1 H1 l1 R1⟩
  | _ => cases e1
theorem de_op {op : Operator} (ho : OpOk X (binaryOp op) r f) (ha : DE X W a ta ma) (hb : DE X W b tb mb) : DE X W (.BinOp a op b pos) (tOp r ta tb) (mBin f ma mb) := ⟨pe_op ho.p ha.p hb.p, sem_bin ha.s hb.s ho.s⟩
theorem de_cmp {op : CmpOp} (ho : OpOk X (compareOp op) r f) (ha : DE X W a ta ma) (hb : DE X W b tb mb) (hm : behindInMarks op b = false := by first | exact nomark _ | rfl) : DE X W (.Compare a [op] [b] pos) (tOp r ta tb) (mBin f ma mb) := ⟨pe_cmpR ho.p ha.p hb.p hm, sem_bin ha.s hb.s ho.s⟩
theorem dt_cmp {op : CmpOp} (ho : OpOk X (compareOp op) r f) (ha : DE X W a ta ma) (hb : DE X W b tb mb) (hm : behindInMarks op b = false := by first | exact nomark _ | rfl) : DT X W (.Compare a [op] [b] pos) (tTest (tOp r ta tb)) (mTst (mBin f ma mb)) :=
  ⟨pt_cmpR ho.p ha.p hb.p hm, sem_tst (sem_bin ha.s hb.s ho.s)⟩
def mChain (f f' : D → D → Option D) (ma mb mc : M D) : M D := bnd ma fun x => bnd mb fun y => bnd (mTst (lft (f x y))) fun k => if k = true then bnd mc fun z => lft (f' y z) else ret (.bl false)
theorem sem_chain (ha : SemE K mg W ta ma) (hb : SemE K mg W tb mb) (hc : SemE K mg W tc mc) (ho : OpD K r f) (ho' : OpD K r' f') : SemE K mg W (tChain r r' ta tb tc) (mChain f f' ma mb mc) := by
  intro en io F H σ s o Q R e hx hq
  refine ha.step R e hx fun d s1 v io1 F1 H1 l1 R1 r1 e1 hx1 => ?_
  refine hb.step R1 e1 hx1 fun d2 s2 v2 io2 F2 H2 l2 R2 r2 e2 hx2 => ?_
  rcases bnd_some e2 with ⟨k, s3, e3, e4⟩ | ⟨x, s3, e3, e4⟩
  · rcases bnd_some e3 with ⟨z, s4, g1, g2⟩ | ⟨x, s4, g1, g2⟩
    · obtain ⟨z', g3, g4⟩ := lft_some g1
      cases g4
      cases z with
      | bl b =>
        cases g2
        refine ho en io2 F2 H2 σ s2 v v2 d d2 _ _ R2 (rep_le l2 _ _ r1) r2 g3 fun w io3 F3 H3 l3 R3 r3 => ?_
        refine ⟨_, r3, ?_⟩
        cases k with
        | true =>
          have e4' : bnd mc (fun z => lft (f' d2 z)) s2 = some o := e4
          rw [if_pos rfl]
          refine hc.step R3 e4' (hx2.le _ _ _ l3) fun d5 s5 v5 io5 F5 H5 l5 R5 r5 e5 hx5 => ?_
          obtain ⟨z, e6, e7⟩ := lft_some e5
          exact ho' en io5 F5 H5 σ s5 v2 v5 d2 d5 z Q R5 (rep_le (l3.trans l5) _ _ r2) r5 e6 fun w io6 F6 H6 l6 R6 r6 => hq z s5 e7 w io6 F6 H6 ((((l1.trans l2).trans l3).trans l5).trans l6) R6 r6
        | false =>
          have e4' : ret (D.bl false) s2 = some o := e4
          rw [if_neg Bool.false_ne_true]
          cases e4'
          exact hq _ _ rfl _ io3 F3 H3 ((l1.trans l2).trans l3) R3 rfl
      | _ => cases g2
    · obtain ⟨z', g3, g4⟩ := lft_some g1
      cases g4
  · rcases bnd_some e3 with ⟨z, s4, g1, g2⟩ | ⟨x, s4, g1, g2⟩
    · obtain ⟨z', g3, g4⟩ := lft_some g1
      cases g4
      cases z <;> cases g2
    · obtain ⟨z', g3, g4⟩ := lft_some g1
      cases g4
theorem dt_chain {op op' : CmpOp} (ho : OpOk X (compareOp op) r f) (ho' : OpOk X (compareOp op') r' f') (ha : DE X W a ta ma) (hb : DE X W b tb mb) (hc : DE X W c tc mc)
    (hm : lastMarks [op, op'] [b, c] = false := by with_unfolding_all rfl) : DT X W (.Compare a [op, op'] [b, c] pos) (tTest (tChain r r' ta tb tc)) (mTst (mChain f f' ma mb mc)) :=
  ⟨pt_chain ho.p ho'.p ha.p hb.p hc.p hm, sem_tst (sem_chain ha.s hb.s hc.s ho.s ho'.s)⟩
theorem de_chain {op op' : CmpOp} (ho : OpOk X (compareOp op) r f) (ho' : OpOk X (compareOp op') r' f') (ha : DE X W a ta ma) (hb : DE X W b tb mb) (hc : DE X W c tc mc)
    (hm : lastMarks [op, op'] [b, c] = false := by with_unfolding_all rfl) : DE X W (.Compare a [op, op'] [b, c] pos) (tChain r r' ta tb tc) (mChain f f' ma mb mc) :=
  ⟨pe_chain ho.p ho'.p ha.p hb.p hc.p hm, sem_chain ha.s hb.s hc.s ho.s ho'.s⟩
/-- an operation on values that makes nothing -/
theorem opd_val {r : R2} {f : D → D → Option D} (h : ∀ (io : List Addr) (F H : Hp) x y dx dy d Q, Ex F H → rep K io F dx x → rep K io F dy y → f dx dy = some d → (∀ v, (∀ io' F', Le io F io' F' → rep K io' F' d v) → Q v H) → r x y H Q) : OpD K r f :=
  fun en io F H σ s x y dx dy d Q R rx ry e k => h io F H x y dx dy d Q R.h.ex rx ry e fun v hv => k v io F H (Le.refl _ _) R (hv _ _ (Le.refl _ _))

/-! ### ints -/
def fI (g : Int → Int → D) : D → D → Option D
  | .int i, .int j => some (g i j)
  | _, _ => none
noncomputable def fIc (C : Int → Int → Prop) (g : Int → Int → D) : D → D → Option D
  | .int i, .int j => if C i j then some (g i j) else none
  | _, _ => none
theorem opd_I0 {g : Int → Int → V} {g' : Int → Int → D} (h : ∀ i j io F, rep K io F (g' i j) (g i j)) : OpD K (rI0 g) (fI g') := opd_val fun io F H x y dx dy d Q ex rx ry e k => by
  cases dx with
  | int i =>
    cases dy with
    | int j =>
      cases e
      exact ⟨i, j, rx, ry, k _ fun io' F' _ => h i j io' F'⟩
    | _ => cases e
  | _ => cases e
theorem opd_I {C : Int → Int → Prop} {g : Int → Int → V} {g' : Int → Int → D} (h : ∀ i j io F, rep K io F (g' i j) (g i j)) : OpD K (rI C g) (fIc C g') := opd_val fun io F H x y dx dy d Q ex rx ry e k => by
  cases dx with
  | int i =>
    cases dy with
    | int j =>
      have e' : (if C i j then some (g' i j) else none) = some d := e
      by_cases hc : C i j
      · rw [if_pos hc] at e'
        cases e'
        exact ⟨i, j, rx, ry, hc, k _ fun io' F' _ => h i j io' F'⟩
      · rw [if_neg hc] at e'
        cases e'
    | _ => cases e
  | _ => cases e
abbrev addI := fI fun i j => .int (i + j)
abbrev subI := fI fun i j => .int (i - j)
noncomputable abbrev mulI := fIc CMulW fun i j => .int (i * j)
noncomputable abbrev divI := fIc CDivW fun i j => .int (i / j)
noncomputable abbrev modI := fIc (fun _ j => 0 < j) fun i j => .int (i % j)
abbrev ltI := fI fun i j => .bl (decide (i < j))
abbrev leI := fI fun i j => .bl (decide (i ≤ j))
abbrev gtI := fI fun i j => .bl (decide (j < i))
abbrev geI := fI fun i j => .bl (decide (j ≤ i))
abbrev r_addI : R2 := rI0 fun i j => .int (i + j)
theorem o_addI : OpOk X (binaryOp .Add) r_addI addI := ⟨op_add, opd_I0 fun _ _ _ _ => rfl⟩
abbrev r_subI : R2 := rI0 fun i j => .int (i - j)
theorem o_subI : OpOk X (binaryOp .Sub) r_subI subI := ⟨op_sub, opd_I0 fun _ _ _ _ => rfl⟩
abbrev r_mulI : R2 := rI CMulW fun i j => .int (i * j)
theorem o_mulI : OpOk X (binaryOp .Mult) r_mulI mulI := ⟨op_mulW, opd_I fun _ _ _ _ => rfl⟩
abbrev r_divI : R2 := rI CDivW fun i j => .int (i / j)
theorem o_divI : OpOk X (binaryOp .FloorDiv) r_divI divI := ⟨op_fdivW, opd_I fun _ _ _ _ => rfl⟩
abbrev r_modI : R2 := rI (fun _ j => 0 < j) fun i j => .int (i % j)
theorem o_modI : OpOk X (binaryOp .Mod) r_modI modI := ⟨op_mod, opd_I fun _ _ _ _ => rfl⟩
abbrev r_ltI : R2 := rI0 fun i j => .bl (decide (i < j))
theorem o_ltI : OpOk X (compareOp .Lt) r_ltI ltI := ⟨op_lt, opd_I0 fun _ _ _ _ => rfl⟩
abbrev r_leI : R2 := rI0 fun i j => .bl (decide (i ≤ j))
theorem o_leI : OpOk X (compareOp .LtE) r_leI leI := ⟨op_le, opd_I0 fun _ _ _ _ => rfl⟩
abbrev r_gtI : R2 := rI0 fun i j => .bl (decide (j < i))
theorem o_gtI : OpOk X (compareOp .Gt) r_gtI gtI := ⟨op_gt, opd_I0 fun _ _ _ _ => rfl⟩
abbrev r_geI : R2 := rI0 fun i j => .bl (decide (j ≤ i))
theorem o_geI : OpOk X (compareOp .GtE) r_geI geI := ⟨op_ge, opd_I0 fun _ _ _ _ => rfl⟩
/-- a ** b: the bits together below a hundred million -/
def CPowW (i j : Int) : Prop := 0 ≤ j ∧ (i.natAbs.log2 + 1 : Int) * j ≤ 2 ^ 27
theorem op_powW : OpR X (binaryOp .Pow) (rI CPowW fun i j => .int (i ^ j.toNat)) := opI fun i j _ _ _ _ _ hc q => PyProof.Rows.pow_int hc.1 (Int.le_trans (Int.mul_le_mul_of_nonneg_right (by
  show ((Builtin.Int.intBits i : Nat) : Int) ≤ (i.natAbs.log2 : Int) + 1
  unfold Builtin.Int.intBits
  split <;> omega) hc.1) hc.2) q
noncomputable abbrev powI := fIc CPowW fun i j => .int (i ^ j.toNat)
abbrev r_powI : R2 := rI CPowW fun i j => .int (i ^ j.toNat)
theorem o_powI : OpOk X (binaryOp .Pow) r_powI powI := ⟨op_powW, opd_I fun _ _ _ _ => rfl⟩

/-! ### texts -/
def addS : D → D → Option D
  | .str x, .str y => if x.length + y.length ≤ sizeLine then some (.str (x ++ y)) else none
  | _, _ => none
theorem str_len (l : List Nat) : (⟨l.toArray⟩ : Str).length = l.length := by
  show l.toArray.size = l.length
  simp
theorem str_app (x y : List Nat) : ((⟨x.toArray⟩ : Str) ++ (⟨y.toArray⟩ : Str)) = ⟨(x ++ y).toArray⟩ := by
  show (⟨x.toArray ++ y.toArray⟩ : Str) = _
  simp
abbrev r_addS : R2 := fun x y H Q => ∃ i j, x = .str i ∧ y = .str j ∧ i.length + j.length ≤ sizeLine ∧ Q (.str (i ++ j)) H
theorem o_addS : OpOk X (binaryOp .Add) r_addS addS := ⟨op_add_str, opd_val fun io F H x y dx dy d Q ex rx ry e k => by
  cases dx with
  | str i =>
    cases dy with
    | str j =>
      have e' : (if i.length + j.length ≤ sizeLine then some (D.str (i ++ j)) else none) = some d := e
      by_cases hc : i.length + j.length ≤ sizeLine
      · rw [if_pos hc] at e'
        cases e'
        exact ⟨⟨i.toArray⟩, ⟨j.toArray⟩, rx, ry, by rw [str_len, str_len]; exact hc, by rw [str_app]; exact k _ fun _ _ _ => rfl⟩
      · rw [if_neg hc] at e'
        cases e'
    | _ => cases e
  | _ => cases e⟩
/-- text * int -/
def repL {α : Type} (l : List α) (n : Nat) : List α := (List.replicate n l).flatten
def rMulS : R2 := fun x y H Q => ∃ z n, x = .str z ∧ y = .int n ∧ -(2 ^ 62) ≤ n ∧ n < 2 ^ 62 ∧ z.length * n.toNat ≤ sizeLine ∧ Q (.str ⟨(repL z.cps.toList n.toNat).toArray⟩) H
theorem foldl_rep (l : Array Nat) : ∀ (k : Nat) (acc : Array Nat), (List.replicate k l).foldl (· ++ ·) acc = acc ++ (repL l.toList k).toArray
  | 0, acc => by simp [repL]
  | k + 1, acc => by
    rw [List.replicate_succ, List.foldl_cons, foldl_rep l k (acc ++ l)]
    unfold repL
    rw [List.replicate_succ, List.flatten_cons]
    apply Array.ext'
    simp
theorem op_mulS : OpR X (binaryOp .Mult) rMulS := by
  intro pins s σ H x y v u Q I rx ry h
  obtain ⟨z, n, rfl, rfl, h1, h2, h3, q⟩ := h
  obtain ⟨t, rfl⟩ := rx
  obtain ⟨t', rfl⟩ := ry
  have hz : z.length * n.toNat ≤ sizeLine := h3
  have hs : (sizeLine : Nat) < 2 ^ 62 := by rw [sizeLine_eq]; decide
  refine PySem.P.mul_str ?_ (fun h5 h6 => ?_) (fun h5 h6 => ?_) ?_
  · rw [decide_eq_false (by omega), decide_eq_false (by omega)]
    rfl
  · intro h7
    have h8 : (z.length : Int) ≤ (2 ^ 63 - 1) / n := by
      refine Int.le_ediv_of_mul_le (by omega) ?_
      have e1 : (z.length : Int) * n = ((z.length * n.toNat : Nat) : Int) := by
        rw [Int.natCast_mul, Int.toNat_of_nonneg (by omega)]
      rw [e1]
      omega
    omega
  · show decide (z.length * n.toNat > sizeLine) = false
    exact decide_eq_false (by omega)
  · by_cases h5 : n < 1
    · rw [if_pos h5]
      have e : n.toNat = 0 := by omega
      rw [e] at q
      exact ⟨by decide, .str _, H, I.tok _, ⟨_, rfl⟩, q⟩
    · rw [if_neg h5]
      by_cases h6 : (n == 1 || z.length == 0) = true
      · rw [if_pos h6]
        have e : (⟨(repL z.cps.toList n.toNat).toArray⟩ : Str) = z := by
          rw [Bool.or_eq_true] at h6
          rcases h6 with h6 | h6
          · have : n = 1 := by simpa using h6
            subst this
            simp [repL]
          · have h7 : z.cps.size = 0 := beq_iff_eq.mp h6
            obtain ⟨cp⟩ := z
            have h8 : cp = #[] := Array.eq_empty_of_size_eq_zero h7
            subst h8
            simp [repL]
        rw [e] at q
        exact ⟨.str _, H, I, ⟨_, rfl⟩, q⟩
      · rw [if_neg h6]
        have e : (List.replicate n.toNat z.cps).foldl (· ++ ·) #[] = (repL z.cps.toList n.toNat).toArray := by
          rw [foldl_rep]
          simp
        rw [e]
        refine ⟨?_, .str _, H, I.tok _, ⟨_, rfl⟩, q⟩
        show (repL z.cps.toList n.toNat).toArray.size ≤ sizeLine
        have : ∀ k, (repL z.cps.toList k).length = z.cps.toList.length * k := fun k => by
          induction k with
          | zero => rfl
          | succ k ih =>
            unfold repL at ih ⊢
            rw [List.replicate_succ, List.flatten_cons, List.length_append, ih, Nat.mul_succ]
            omega
        rw [List.size_toArray, this]
        exact hz
def mulS : D → D → Option D
  | .str x, .int n => if -(2 ^ 62) ≤ n ∧ n < 2 ^ 62 ∧ x.length * n.toNat ≤ sizeLine then some (.str (repL x n.toNat)) else none
  | _, _ => none
theorem o_mulS : OpOk X (binaryOp .Mult) rMulS mulS := ⟨op_mulS, opd_val fun io F H x y dx dy d Q ex rx ry e k => by
  cases dx with
  | str i =>
    cases dy with
    | int n =>
      have e' : (if -(2 ^ 62) ≤ n ∧ n < 2 ^ 62 ∧ i.length * n.toNat ≤ sizeLine then some (D.str (repL i n.toNat)) else none) = some d := e
      by_cases hc : -(2 ^ 62) ≤ n ∧ n < 2 ^ 62 ∧ i.length * n.toNat ≤ sizeLine
      · rw [if_pos hc] at e'
        cases e'
        exact ⟨⟨i.toArray⟩, n, rx, ry, hc.1, hc.2.1, by rw [str_len]; exact hc.2.2, k _ fun _ _ _ => by simp [rep]⟩
      · rw [if_neg hc] at e'
        cases e'
    | _ => cases e
  | _ => cases e⟩

/-! ### == and != -/
mutual
def toP : D → Option PyData
  | .non => some .none
  | .bl b => some (.bool b)
  | .int i => some (.int i)
  | .str s => some (.str ⟨s.toArray⟩)
  | .lst l => (toPs l).map .list
  | .fz l => (toPs l).map .list
  | .tup l => (toPs l).map .tuple
  | .ref _ => none
  | .exc _ _ => none
def toPs : List D → Option (List PyData)
  | [] => some []
  | d :: l => match toP d, toPs l with
    | some p, some q => some (p :: q)
    | _, _ => none
end
mutual
theorem rep_dp {io : List Addr} {F H : Hp} (ex : Ex F H) : ∀ (d : D) (v : V) (p : PyData), toP d = some p → rep K io F d v → Dp K H v p
  | .non, v, p, e, r => by
    cases e
    rw [show v = .non from r]
    exact .non
  | .bl b, v, p, e, r => by
    cases e
    rw [show v = .bl b from r]
    exact .bl b
  | .int i, v, p, e, r => by
    cases e
    rw [show v = .int i from r]
    exact .int i
  | .str x, v, p, e, r => by
    cases e
    rw [show v = .str ⟨x.toArray⟩ from r]
    exact .str _
  | .lst l, v, p, e, r => by
    obtain ⟨a, xs, rfl, h, q⟩ := r
    unfold toP at e
    obtain ⟨ps, e1, rfl⟩ := Option.map_eq_some_iff.mp e
    exact .lst (.of (ex a _ h)) (reps_dp ex l xs ps e1 q)
  | .fz l, v, p, e, r => by
    obtain ⟨a, xs, rfl, h, q⟩ := r
    unfold toP at e
    obtain ⟨ps, e1, rfl⟩ := Option.map_eq_some_iff.mp e
    exact .lst (ex.l h) (reps_dp ex l xs ps e1 q)
  | .tup l, v, p, e, r => by
    obtain ⟨a, xs, rfl, h, q⟩ := r
    unfold toP at e
    obtain ⟨ps, e1, rfl⟩ := Option.map_eq_some_iff.mp e
    exact .tup (ex.t h) (reps_dp ex l xs ps e1 q)
  | .ref i, v, p, e, r => by cases e
  | .exc _ _, v, p, e, r => by cases e
theorem reps_dp {io : List Addr} {F H : Hp} (ex : Ex F H) : ∀ (l : List D) (xs : List V) (ps : List PyData), toPs l = some ps → reps K io F l xs → DpAll K H xs ps
  | [], xs, ps, e, r => by
    cases e
    rw [show xs = [] from r]
    exact .nil
  | d :: l, xs, ps, e, r => by
    obtain ⟨x, t, rfl, r1, r2⟩ := r
    unfold toPs at e
    split at e
    · rename_i p q h1 h2
      cases e
      exact .cons (rep_dp ex d x p h1 r1) (reps_dp ex l t q h2 r2)
    · cases e
end
def eqd (d e : D) : Option Bool := match toP d, toP e with
  | some p, some q => if SeqAt.shaped p = true ∧ SeqAt.shaped q = true then some (PyData.eqv p q) else none
  | _, _ => none
def eqD (d e : D) : Option D := (eqd d e).map .bl
def neD (d e : D) : Option D := (eqd d e).map fun b => .bl (!b)
theorem eqd_some {d e : D} {b : Bool} (h : eqd d e = some b) : ∃ p q, toP d = some p ∧ toP e = some q ∧ SeqAt.shaped p = true ∧ SeqAt.shaped q = true ∧ b = PyData.eqv p q := by
  unfold eqd at h
  split at h
  · rename_i p q h1 h2
    split at h
    · rename_i hc
      cases h
      exact ⟨p, q, h1, h2, hc.1, hc.2, rfl⟩
    · cases h
  · cases h
theorem o_eqD (hu : X.A.units + 64 < cLine) : OpOk X (compareOp .Eq) (rEqD X.K) eqD := ⟨op_eqD hu, opd_val fun io F H x y dx dy d Q ex rx ry e k => by
  obtain ⟨b, e1, rfl⟩ := Option.map_eq_some_iff.mp e
  obtain ⟨p, q, h1, h2, h3, h4, rfl⟩ := eqd_some e1
  exact ⟨p, q, rep_dp ex _ _ _ h1 rx, rep_dp ex _ _ _ h2 ry, h3, h4, k _ fun _ _ _ => rfl⟩⟩
theorem o_neD (hu : X.A.units + 64 < cLine) : OpOk X (compareOp .NotEq) (rNeD X.K) neD := ⟨op_neD hu, opd_val fun io F H x y dx dy d Q ex rx ry e k => by
  obtain ⟨b, e1, rfl⟩ := Option.map_eq_some_iff.mp e
  obtain ⟨p, q, h1, h2, h3, h4, rfl⟩ := eqd_some e1
  exact ⟨p, q, rep_dp ex _ _ _ h1 rx, rep_dp ex _ _ _ h2 ry, h3, h4, k _ fun _ _ _ => rfl⟩⟩

/-! ### is None -/
def isNon : D → Bool
  | .non => true
  | _ => false
def isN (d e : D) : Option D := match e with
  | .non => some (.bl (isNon d))
  | _ => none
def notN (d e : D) : Option D := match e with
  | .non => some (.bl (!isNon d))
  | _ => none
theorem rep_non {io : List Addr} {F : Hp} {d : D} {x : V} (r : rep K io F d x) : decide (x = .non) = isNon d := by
  cases d with
  | non => cases (show x = .non from r); rfl
  | bl b => cases (show x = .bl b from r); rfl
  | int b => cases (show x = .int b from r); rfl
  | str b => cases (show x = .str _ from r); rfl
  | lst b => obtain ⟨a, xs, rfl, _⟩ := r; rfl
  | tup b => obtain ⟨a, xs, rfl, _⟩ := r; rfl
  | fz b => obtain ⟨a, xs, rfl, _⟩ := r; rfl
  | ref b => obtain ⟨a, rfl, _⟩ := r; rfl
  | exc c b => obtain ⟨a, C, dd, w, rfl, _⟩ := r; rfl
abbrev r_isN : R2 := fun x y H Q => y = .non ∧ Q (.bl (decide (x = .non))) H
theorem o_isN : OpOk X (compareOp .Is) r_isN isN := ⟨op_isN, opd_val fun io F H x y dx dy d Q ex rx ry e k => by
  cases dy with
  | non =>
    cases e
    exact ⟨ry, by rw [rep_non rx]; exact k _ fun _ _ _ => rfl⟩
  | _ => cases e⟩
abbrev r_notN : R2 := fun x y H Q => y = .non ∧ Q (.bl (!decide (x = .non))) H
theorem o_notN : OpOk X (compareOp .IsNot) r_notN notN := ⟨op_notN, opd_val fun io F H x y dx dy d Q ex rx ry e k => by
  cases dy with
  | non =>
    cases e
    exact ⟨ry, by rw [rep_non rx]; exact k _ fun _ _ _ => rfl⟩
  | _ => cases e⟩
end
end Z
/-! Z4: tests, displays, calls, subscripts -/
namespace Z
open PySem L2
open Classical
section
variable {X : Cx} {W : WX} {pos : Pos} {K : PySem.W.Frag} {mg : Str → Option Value} {a b c e : Expr} {es : List Expr} {ta tb tc te : TE} {ma mb mc me : M D} {tA tB' : TT} {mA mB : M Bool} {tl : TA} {ml : M (List D)}

/-! ### tests -/
structure DW (X : Cx) (W : WX) (e : Expr) (t : TT) (m : M Bool) : Prop where
  p : PW X e t
  s : SemT X.K X.mg W t m
theorem dt_val (h : DE X W e te me) (he : ∀ whole, isTrue e X.env whole = (do let v ← whole; standAt e.pos; holding [v] (truthy v)) := by intro _; rfl) : DT X W e (tB te) (mTst me) := ⟨pt_val h.p he, sem_tst h.s⟩
def mNot (m : M Bool) : M Bool := bnd m fun b => ret (!b)
theorem dt_not (h : DT X W a tA mA) : DT X W (.UnaryOp .Not a pos) (tNot tA) (mNot mA) := ⟨pt_not h.p, by
  intro en io F H σ s o Q R e hx hq
  refine h.s.step R e hx fun d s1 io1 F1 H1 l1 R1 e1 hx1 => ?_
  cases e1
  exact hq _ _ rfl io1 F1 H1 l1 R1⟩
def mAnd (m n : M Bool) : M Bool := bnd m fun b => if b = true then n else ret false
def mOr (m n : M Bool) : M Bool := bnd m fun b => if b = true then ret true else n
theorem sem_and (ha : SemT K mg W tA mA) (hb : SemT K mg W tB' mB) : SemT K mg W (tAnd tA tB') (mAnd mA mB) := by
  intro en io F H σ s o Q R e hx hq
  refine ha.step R e hx fun d s1 io1 F1 H1 l1 R1 e1 hx1 => ?_
  cases d with
  | true =>
    rw [if_pos rfl]
    exact hb en io1 F1 H1 σ s1 o Q R1 e1 hx1 fun d s2 e2 io2 F2 H2 l2 R2 => hq d s2 e2 io2 F2 H2 (l1.trans l2) R2
  | false =>
    rw [if_neg Bool.false_ne_true]
    cases e1
    exact hq _ _ rfl io1 F1 H1 l1 R1
theorem sem_or (ha : SemT K mg W tA mA) (hb : SemT K mg W tB' mB) : SemT K mg W (tOr tA tB') (mOr mA mB) := by
  intro en io F H σ s o Q R e hx hq
  refine ha.step R e hx fun d s1 io1 F1 H1 l1 R1 e1 hx1 => ?_
  cases d with
  | false =>
    rw [if_neg Bool.false_ne_true]
    exact hb en io1 F1 H1 σ s1 o Q R1 e1 hx1 fun d s2 e2 io2 F2 H2 l2 R2 => hq d s2 e2 io2 F2 H2 (l1.trans l2) R2
  | true =>
    rw [if_pos rfl]
    cases e1
    exact hq _ _ rfl io1 F1 H1 l1 R1
theorem dw_and1 (h : DT X W a tA mA) : DW X W (.BoolOp .And [a] pos) tA mA := ⟨pw_and1 h.p, h.s⟩
theorem dw_or1 (h : DT X W a tA mA) : DW X W (.BoolOp .Or [a] pos) tA mA := ⟨pw_or1 h.p, h.s⟩
theorem dw_and (h : DT X W a tA mA) (g : DW X W (.BoolOp .And (b :: es) pos) tB' mB) : DW X W (.BoolOp .And (a :: b :: es) pos) (tAnd tA tB') (mAnd mA mB) := ⟨pw_and h.p g.p, sem_and h.s g.s⟩
theorem dw_or (h : DT X W a tA mA) (g : DW X W (.BoolOp .Or (b :: es) pos) tB' mB) : DW X W (.BoolOp .Or (a :: b :: es) pos) (tOr tA tB') (mOr mA mB) := ⟨pw_or h.p g.p, sem_or h.s g.s⟩
theorem dt_w (h : DW X W e tA mA) : DT X W e tA mA := ⟨h.p.pt, h.s⟩
/-- .. as values -/
def mAndV (m n : M D) : M D := bnd m fun d => match d with
  | .bl true => n
  | .bl false => ret (.bl false)
  | _ => fun _ => none
def mOrV (m n : M D) : M D := bnd m fun d => match d with
  | .bl true => ret (.bl true)
  | .bl false => n
  | _ => fun _ => none
theorem de_one {op} (h : DE X W a ta ma) : DE X W (.BoolOp op [a] pos) ta ma := ⟨pe_one h.p, h.s⟩
theorem de_and (h : DE X W a ta ma) (g : DE X W (.BoolOp .And (b :: es) pos) tb mb) : DE X W (.BoolOp .And (a :: b :: es) pos) (tAndV ta tb) (mAndV ma mb) := ⟨pe_and h.p g.p, by
  intro en io F H σ s o Q R e hx hq
  refine h.s.step R e hx fun d s1 v io1 F1 H1 l1 R1 r1 e1 hx1 => ?_
  cases d with
  | bl k =>
    refine ⟨k, r1, ?_⟩
    cases k with
    | true =>
      rw [if_pos rfl]
      exact g.s en io1 F1 H1 σ s1 o Q R1 e1 hx1 fun d s2 e2 v io2 F2 H2 l2 R2 => hq d s2 e2 v io2 F2 H2 (l1.trans l2) R2
    | false =>
      rw [if_neg Bool.false_ne_true]
      cases e1
      exact hq _ _ rfl _ io1 F1 H1 l1 R1 rfl
  | _ => cases e1⟩
theorem de_or (h : DE X W a ta ma) (g : DE X W (.BoolOp .Or (b :: es) pos) tb mb) : DE X W (.BoolOp .Or (a :: b :: es) pos) (tOrV ta tb) (mOrV ma mb) := ⟨pe_or h.p g.p, by
  intro en io F H σ s o Q R e hx hq
  refine h.s.step R e hx fun d s1 v io1 F1 H1 l1 R1 r1 e1 hx1 => ?_
  cases d with
  | bl k =>
    refine ⟨k, r1, ?_⟩
    cases k with
    | false =>
      rw [if_neg Bool.false_ne_true]
      exact g.s en io1 F1 H1 σ s1 o Q R1 e1 hx1 fun d s2 e2 v io2 F2 H2 l2 R2 => hq d s2 e2 v io2 F2 H2 (l1.trans l2) R2
    | true =>
      rw [if_pos rfl]
      cases e1
      exact hq _ _ rfl _ io1 F1 H1 l1 R1 rfl
  | _ => cases e1⟩
def mNotV (m : M D) : M D := bnd m fun d => match d with
  | .bl k => ret (.bl (!k))
  | _ => fun _ => none
theorem de_not (h : DE X W a ta ma) : DE X W (.UnaryOp .Not a pos) (tNotV ta) (mNotV ma) := ⟨pe_not h.p, by
  intro en io F H σ s o Q R e hx hq
  refine h.s.step R e hx fun d s1 v io1 F1 H1 l1 R1 r1 e1 hx1 => ?_
  cases d with
  | bl k =>
    cases e1
    exact ⟨k, r1, hq _ _ rfl _ io1 F1 H1 l1 R1 rfl⟩
  | _ => cases e1⟩
def mIf {α : Type} (c : M Bool) (m n : M α) : M α := bnd c fun b => if b = true then m else n
theorem de_if (h : DT X W c tA mA) (ha : DE X W a ta ma) (hb : DE X W b tb mb) : DE X W (.IfExp c a b pos) (tIf tA ta tb) (mIf mA ma mb) := ⟨pe_ifExp h.p ha.p hb.p, by
  intro en io F H σ s o Q R e hx hq
  refine h.s.step R e hx fun d s1 io1 F1 H1 l1 R1 e1 hx1 => ?_
  cases d with
  | true =>
    rw [if_pos rfl]
    exact ha.s en io1 F1 H1 σ s1 o Q R1 e1 hx1 fun d s2 e2 v io2 F2 H2 l2 R2 => hq d s2 e2 v io2 F2 H2 (l1.trans l2) R2
  | false =>
    rw [if_neg Bool.false_ne_true]
    exact hb.s en io1 F1 H1 σ s1 o Q R1 e1 hx1 fun d s2 e2 v io2 F2 H2 l2 R2 => hq d s2 e2 v io2 F2 H2 (l1.trans l2) R2⟩
def mUn (f : D → Option D) (m : M D) : M D := bnd m fun d => lft (f d)
def negI : D → Option D
  | .int i => some (.int (-i))
  | _ => none
theorem de_neg (ha : DE X W a ta ma) : DE X W (.UnaryOp .USub a pos) (tUn (rU fun i => .int (-i)) ta) (mUn negI ma) := ⟨pe_un un_neg ha.p, by
  intro en io F H σ s o Q R e hx hq
  refine ha.s.step R e hx fun d s1 v io1 F1 H1 l1 R1 r1 e1 hx1 => ?_
  obtain ⟨z, e2, e3⟩ := lft_some e1
  cases d with
  | int i =>
    cases e2
    exact ⟨i, r1, hq _ _ e3 _ io1 F1 H1 l1 R1 rfl⟩
  | _ => cases e2⟩

/-! ### argument lists, displays -/
def mNil : M (List D) := ret []
def mCons (m : M D) (n : M (List D)) : M (List D) := bnd m fun d => bnd n fun l => ret (d :: l)
theorem da_nil : DA X W [] tNil mNil := ⟨pa_nil, by
  intro en io F H σ s o Q R e hx hq
  cases e
  exact hq _ _ rfl [] io F H (Le.refl _ _) R rfl⟩
theorem da_cons (h : DE X W e te me) (g : DA X W es tl ml) (hs : starEach (e :: es) X.env = (false, eval e X.env) :: starEach es X.env := by rfl) : DA X W (e :: es) (tCons te tl) (mCons me ml) := ⟨pa_cons h.p g.p hs, by
  intro en io F H σ s o Q R e hx hq
  refine h.s.step R e hx fun d s1 v io1 F1 H1 l1 R1 r1 e1 hx1 => ?_
  refine g.s.step R1 e1 hx1 fun d2 s2 v2 io2 F2 H2 l2 R2 r2 e2 hx2 => ?_
  cases e2
  exact hq _ _ rfl _ io2 F2 H2 (l1.trans l2) R2 ⟨v, v2, rfl, rep_le l2 _ _ r1, r2⟩⟩
def tupD (l : List D) : Option D := if l.length ≤ sizeLine then some (.tup l) else none
def lstD (l : List D) : Option D := if l.length ≤ sizeLine then some (.lst l) else none
def mTup (m : M (List D)) : M D := bnd m fun l => lft (tupD l)
def mLst (m : M (List D)) : M D := bnd m fun l => lft (lstD l)
theorem de_tup {x1} (h : DA X W es tl ml) : DE X W (.Tuple es x1 pos) (tTup tl) (mTup ml) := ⟨pe_tup h.p, by
  intro en io F H σ s o Q R e hx hq
  refine h.s.step R e hx fun d s1 v io1 F1 H1 l1 R1 r1 e1 hx1 => ?_
  obtain ⟨z, e2, e3⟩ := lft_some e1
  unfold tupD at e2
  by_cases hc : d.length ≤ sizeLine
  · rw [if_pos hc] at e2
    cases e2
    refine ⟨by rw [reps_len r1]; exact hc, fun p hp => ?_⟩
    obtain ⟨R2, l2⟩ := R1.new hp (.tup v)
    exact hq _ _ e3 _ io1 _ _ (l1.trans l2) R2 ⟨p, v, rfl, .inl (.inl upd_same), reps_le l2 _ _ r1⟩
  · rw [if_neg hc] at e2
    cases e2⟩
theorem de_lst (h : DA X W es tl ml) : DE X W (.List es pos) (tLst tl) (mLst ml) := ⟨pe_lst h.p, by
  intro en io F H σ s o Q R e hx hq
  refine h.s.step R e hx fun d s1 v io1 F1 H1 l1 R1 r1 e1 hx1 => ?_
  obtain ⟨z, e2, e3⟩ := lft_some e1
  unfold lstD at e2
  by_cases hc : d.length ≤ sizeLine
  · rw [if_pos hc] at e2
    cases e2
    refine ⟨by rw [reps_len r1]; exact hc, fun p hp => ?_⟩
    obtain ⟨R2, l2⟩ := R1.new hp (.lst v)
    exact hq _ _ e3 _ io1 _ _ (l1.trans l2) R2 ⟨p, v, rfl, upd_same, reps_le l2 _ _ r1⟩
  · rw [if_neg hc] at e2
    cases e2⟩
/-- a list that is a new object of the own heap -/
def mLstH (m : M (List D)) : M D := bnd m fun l => fun s => if l.length ≤ sizeLine then some (.ok (.ref s.hp.length) { s with hp := s.hp ++ [.lst l] }) else none
theorem de_lstH (h : DA X W es tl ml) : DE X W (.List es pos) (tLst tl) (mLstH ml) := ⟨pe_lst h.p, by
  intro en io F H σ s o Q R e hx hq
  refine h.s.step R e hx fun d s1 v io1 F1 H1 l1 R1 r1 e1 hx1 => ?_
  by_cases hc : d.length ≤ sizeLine
  · have e2 : some (O.ok (D.ref s1.hp.length) { s1 with hp := s1.hp ++ [.lst d] }) = some o := by rw [← e1]; exact (if_pos hc).symm
    cases e2
    refine ⟨by rw [reps_len r1]; exact hc, fun p hp => ?_⟩
    obtain ⟨R2, l2, r2⟩ := R1.hnew (ho := .lst v) (o := .lst d) hp ⟨R1.h.ex.none_of hp, v, upd_same, reps_le ⟨fun i a e => by rw [List.getElem?_append_left (List.getElem?_eq_some_iff.mp e).1]; exact e, Ex.refl _⟩ _ _ r1⟩
    exact hq _ _ rfl _ _ _ _ (l1.trans l2) R2 r2
  · have e2 : none = some o := by rw [← e1]; exact (if_neg hc).symm
    cases e2⟩

/-! ### calls of the text's own defs -/
structure Stp (K : PySem.W.Frag) (io : List Addr) (F H : Hp) (io' : List Addr) (F' H' : Hp) (hp' : List AO) : Prop where
  h : HRel K io' F' H' hp'
  l : Le io F io' F'
  hF : ∀ q, H q ≠ none → F' q = F q
  fr : ∀ b o, H b = some o → b ∉ io → H' b = some o
  lv : ∀ b, H b ≠ none → H' b ≠ none
  nw : ∀ (i : Nat) a, io'[i]? = some a → io.length ≤ i → H a = none
theorem Rel.stp {en : Ent} {io io' : List Addr} {F F' H H' : Hp} {σ : St} {s : A} {hp' : List AO} (R : Rel K en io F H σ s) (x : Stp K io F H io' F' H' hp') : Rel K en io' F' H' σ { s with hp := hp' } := R.after x.h x.l x.hF x.fr x.lv x.nw
def FEnd (K : PySem.W.Frag) (mg : Str → Option Value) (io : List Addr) (F H : Hp) (Q : VK) (E : XK) : FR → Prop
  | .ok d hp' => ∀ v io' F' H', Stp K io F H io' F' H' hp' → rep K io' F' d v → Q v H'
  | .ex e hp' => ∀ cls dd io' F' H', Stp K io F H io' F' H' hp' → XRep K mg io' F' H' e cls dd → E cls dd H'
/-- called with such data, a def does what n says -/
def spD (K : PySem.W.Frag) (mg : Str → Option Value) (np : Nat) (n : Fn) : Sp := fun vs H Q E => ∃ (io : List Addr) (F : Hp) (ds : List D) (hp : List AO) (r : FR),
  HRel K io F H hp ∧ reps K io F ds vs ∧ ds.length = np ∧ n ds hp = some r ∧ FEnd K mg io F H Q E r
theorem spD_imp {np : Nat} {n n' : Fn} (h : ∀ ds hp r, ds.length = np → n' ds hp = some r → n ds hp = some r) : ∀ vs H Q E, spD K mg np n' vs H Q E → spD K mg np n vs H Q E :=
  fun vs H Q E ⟨io, F, ds, hp, r, h1, h2, h3, h4, h5⟩ => ⟨io, F, ds, hp, r, h1, h2, h3, h ds hp r h3 h4, h5⟩
def ofFR (f : Option FR) (s : A) : Option (O D) := match f with
  | some (.ok d hp') => some (.ok d { s with hp := hp' })
  | some (.ex e hp') => some (.ex e { s with hp := hp' })
  | none => none
/-- a call: the arity np, the def's function -/
def mCall (np : Nat) (n : Fn) (m : M (List D)) : M D := bnd m fun ds s => if ds.length = np then ofFR (n ds s.hp) s else none
theorem sem_call {np : Nat} {n : Fn} {en : Ent} {io : List Addr} {F H : Hp} {σ : St} {s : A} {o : O D} {Q : VK} {ds : List D} {vs : List V} (R : Rel K en io F H σ s) (r : reps K io F ds vs) (hx : PostX K mg W en io F o)
    (e : (if ds.length = np then ofFR (n ds s.hp) s else none) = some o)
    (hq : ∀ d s', o = .ok d s' → ∀ v io' F' H', Le io F io' F' → Rel K en io' F' H' σ s' → rep K io' F' d v → Q v H') : spD K mg np n vs H Q (fun c d H => W c d σ H) := by
  by_cases hl : ds.length = np
  · rw [if_pos hl] at e
    unfold ofFR at e
    split at e
    · rename_i d hp' h1
      cases e
      refine ⟨io, F, ds, s.hp, _, R.h, r, hl, h1, fun v io' F' H' x rv => ?_⟩
      exact hq _ _ rfl v io' F' H' x.l (R.stp x) rv
    · rename_i d hp' h1
      cases e
      refine ⟨io, F, ds, s.hp, _, R.h, r, hl, h1, fun cls dd io' F' H' x rv => ?_⟩
      exact hx cls dd io' F' H' σ x.l (R.stp x) rv
    · cases e
  · rw [if_neg hl] at e
    cases e
/-- room, and no repr under way -/
structure RoomG (k : Nat) (A : Around) : Prop where
  r : Room k A
  g : A.guards = some []
theorem RoomG.mono {j k : Nat} {A : Around} (r : RoomG k A) (h : j ≤ k) : RoomG j A := ⟨r.r.mono h, r.g⟩
theorem RoomG.units {k : Nat} {A : Around} (r : RoomG k A) : A.units + 64 < cLine := r.r.units
/-- a def keeps its promise wherever there is room and no repr is under way -/
structure FnG (P : Program) (w : World) (K : PySem.W.Frag) (mg : Str → Option Value) (base : Heap) (k : Nat) (f : Addr) (fd : FuncData) (ps : List Str) (sp : Sp) : Prop where
  len : ∀ vs H Q E, sp vs H Q E → vs.length = ps.length
  run : ∀ (A : Around) (outer : List Env) (s : Shared) (H : Hp) (args : Args) (us : List Value) (vs : List V) (Q : VK) (E : XK), RoomG k A → Env0 P w K mg base A outer s H → BindsTo s fd args (ps.zip us) → Vals vs us → sp vs H Q E →
    codeAny (model P w) A (.call (.ref f) args) (CR (L2.CX P w) outer P w H s Q E) s
theorem FnG.mono {P : Program} {w : World} {K : PySem.W.Frag} {mg : Str → Option Value} {base : Heap} {j k : Nat} {f : Addr} {fd : FuncData} {ps : List Str} {sp : Sp} (F : FnG P w K mg base j f fd ps sp) (h : j ≤ k) : FnG P w K mg base k f fd ps sp :=
  ⟨F.len, fun A outer s H args us vs Q E hr => F.run A outer s H args us vs Q E (hr.mono h)⟩
theorem FnG.imp {P : Program} {w : World} {K : PySem.W.Frag} {mg : Str → Option Value} {base : Heap} {k : Nat} {f : Addr} {fd : FuncData} {ps : List Str} {sp sp' : Sp} (F : FnG P w K mg base k f fd ps sp) (h : ∀ vs H Q E, sp' vs H Q E → sp vs H Q E) : FnG P w K mg base k f fd ps sp' :=
  ⟨fun vs H Q E q => F.len vs H Q E (h _ _ _ _ q), fun A outer s H args us vs Q E hr he hb hv hs => F.run A outer s H args us vs Q E hr he hb hv (h _ _ _ _ hs)⟩
theorem run_fnG {k : Nat} {f : Addr} {fd : FuncData} {ps : List Str} {sp : Sp} {pins : List (Addr × Obj)} {σ : St} {H : Hp} {s : Shared} {Q : VK} {E : XK} {args : Args} {us : List Value} {vs : List V} (F : FnG X.prog X.w X.K X.mg X.base k f fd ps sp) (hr : RoomG k X.A) (hb : (us.length = ps.length) → BindsTo s fd args (ps.zip us)) (hx : PassesAt (L2.CX X.prog X.w) X σ E)
    (I : Inv X pins σ H s) (r : Vals vs us) (h : sp vs H Q E) : wpAny (model X.prog X.w) X.A (call (.ref f) args.pos args.kw) (EP X pins σ Q) X.xe s := by
  have hl : us.length = ps.length := by rw [← r.length]; exact F.len _ _ _ _ h
  refine wpAny_call (codeAny_mono (F.run X.A X.stack s H args us vs Q E hr I.env0 (hb hl) r h) fun r s' hq => ?_)
  cases r with
  | error e => exact hx pins H s e s' I hq
  | ok fl =>
    cases fl with
    | ret u => exact I.after hq
    | next => exact False.elim hq
    | brk => exact False.elim hq
    | cont => exact False.elim hq
theorem de_call {k np : Nat} {f : Addr} {fd : FuncData} {ps : List Str} {n : Fn} {x : Str} {p : Pos} (Fk : FnG X.prog X.w X.K X.mg X.base k f fd ps (spD X.K X.mg np n)) (hr : RoomG k X.A) (hg : Gl X x) (hm : X.mg x = some (.ref f)) (hk : PySem.W.keepIn X.K (.ref f) = true)
    (hb : Binds X.K fd ps []) (tk : Takes X W) (ha : DA X W (e :: es) tl ml) (hdb : (x == ("__debug__" : Str)) = false := by decide) (he : starEach (e :: es) X.env = (false, eval e X.env) :: starEach es X.env := by rfl) (hpl : (backTo pos (starEach es X.env)).any (·.1) = false := by rfl) :
    DE X W (.Call (.Name x p) (e :: es) [] pos) (tCallSD (spD X.K X.mg np n) [] (fun σ c d H => W c d σ H) tl) (mCall np n ml) := ⟨⟨fun pins s σ H Q I h => by
  refine wpAny_Call_Name_kw (ld_glob I hg hm ?_ hdb)
  refine PySem.W.callWith_K (h₀ := X.base) I.ok.mod.kin hk (thn (ha.p.run pos pins s σ H _ I h) fun us s1 ⟨vs, H1, I1, r, q⟩ => ⟨I1.kIn, ?_⟩) he hpl
  have q' : spD X.K X.mg np n (vs ++ []) H1 Q (fun c d H => W c d σ H) := q
  rw [List.append_nil] at q'
  exact run_fnG (args := ⟨us, []⟩) Fk hr (fun hl => by have := hb s1 us I1.kIn (by rw [List.append_nil]; exact hl); rwa [List.append_nil] at this) (passAt tk σ) I1 r q'⟩, by
  intro en io F H σ s o Q R e hx hq
  refine ha.s.step R e hx fun d s1 v io1 F1 H1 l1 R1 r1 e1 hx1 => ?_
  show spD _ _ _ _ (v ++ []) H1 Q _
  rw [List.append_nil]
  exact sem_call R1 r1 hx1 e1 fun d2 s2 e2 w io2 F2 H2 l2 R2 r2 => hq d2 s2 e2 w io2 F2 H2 (l1.trans l2) R2 r2⟩

/-! ### calls of builtins by values -/
def mFn (f : List D → Option D) (m : M (List D)) : M D := bnd m fun l => lft (f l)
def CallD (K : PySem.W.Frag) (r : List V → Hp → VK → Prop) (g : List D → Option D) : Prop := ∀ (en : Ent) (io : List Addr) (F H : Hp) (σ : St) (s : A) (vs : List V) (ds : List D) (d : D) (Q : VK), Rel K en io F H σ s → reps K io F ds vs → g ds = some d →
  (∀ v io' F' H', Le io F io' F' → Rel K en io' F' H' σ s → rep K io' F' d v → Q v H') → r vs H Q
structure CallOk (X : Cx) (f : Value) (r : List V → Hp → VK → Prop) (g : List D → Option D) : Prop where
  p : CallR X f r
  s : CallD X.K r g
theorem sem_cb {r : List V → Hp → VK → Prop} {g : List D → Option D} (h : SemA K mg W tl ml) (hc : CallD K r g) : SemE K mg W (tCB r tl) (mFn g ml) := by
  intro en io F H σ s o Q R e hx hq
  refine h.step R e hx fun d s1 v io1 F1 H1 l1 R1 r1 e1 hx1 => ?_
  obtain ⟨z, e2, e3⟩ := lft_some e1
  exact hc en io1 F1 H1 σ s1 v d z Q R1 r1 e2 fun w io2 F2 H2 l2 R2 r2 => hq _ _ e3 w io2 F2 H2 (l1.trans l2) R2 r2
theorem de_callB {id : String} {r : List V → Hp → VK → Prop} {g : List D → Option D} {x : Str} {p : Pos} (hc : CallOk X (.builtin id) r g) (hg : Gl X x) (hm : X.mg x = none) (hv : bootBuiltins x = some (.builtin id)) (ha : DA X W (e :: es) tl ml) (hn : x ≠ "__name__" := by decide) (hdb : (x == ("__debug__" : Str)) = false := by decide)
    (hs : starEach (e :: es) X.env = (false, eval e X.env) :: starEach es X.env := by rfl) (hpl : (backTo pos (starEach es X.env)).any (·.1) = false := by rfl) : DE X W (.Call (.Name x p) (e :: es) [] pos) (tCB r tl) (mFn g ml) :=
  ⟨pe_callB hc.p hg hm hv ha.p hn hdb hs hpl, sem_cb ha.s hc.s⟩
theorem de_callTy {T : String} {r : List V → Hp → VK → Prop} {g : List D → Option D} {x : Str} {p : Pos} (hc : CallOk X (.type T) r g) (hg : Gl X x) (hm : X.mg x = none) (hv : bootBuiltins x = some (.type T)) (ha : DA X W (e :: es) tl ml) (hn : x ≠ "__name__" := by decide) (hdb : (x == ("__debug__" : Str)) = false := by decide)
    (hs : starEach (e :: es) X.env = (false, eval e X.env) :: starEach es X.env := by rfl) (hpl : (backTo pos (starEach es X.env)).any (·.1) = false := by rfl) : DE X W (.Call (.Name x p) (e :: es) [] pos) (tCB r tl) (mFn g ml) :=
  ⟨pe_callTy hc.p hg hm hv ha.p hn hdb hs hpl, sem_cb ha.s hc.s⟩
theorem calld_val {r : List V → Hp → VK → Prop} {g : List D → Option D} (h : ∀ (io : List Addr) (F H : Hp) vs ds d Q, Ex F H → reps K io F ds vs → g ds = some d → (∀ v, (∀ io' F', Le io F io' F' → rep K io' F' d v) → Q v H) → r vs H Q) : CallD K r g :=
  fun en io F H σ s vs ds d Q R rx e k => h io F H vs ds d Q R.h.ex rx e fun v hv => k v io F H (Le.refl _ _) R (hv _ _ (Le.refl _ _))
def lenF : List D → Option D
  | [.str x] => if x.length ≤ sizeLine then some (.int x.length) else none
  | [.lst l] => some (.int l.length)
  | [.fz l] => some (.int l.length)
  | [.tup l] => some (.int l.length)
  | _ => none
theorem reps1 {io : List Addr} {F : Hp} {d : D} {vs : List V} (r : reps K io F [d] vs) : ∃ x, vs = [x] ∧ rep K io F d x := by
  obtain ⟨x, t, rfl, h, h2⟩ := r
  rw [show t = [] from h2]
  exact ⟨x, rfl, h⟩
theorem reps2 {io : List Addr} {F : Hp} {d d' : D} {vs : List V} (r : reps K io F [d, d'] vs) : ∃ x y, vs = [x, y] ∧ rep K io F d x ∧ rep K io F d' y := by
  obtain ⟨x, t, rfl, h, h2⟩ := r
  obtain ⟨y, rfl, h3⟩ := reps1 h2
  exact ⟨x, y, rfl, h, h3⟩
abbrev r_len (K : PySem.W.Frag) : List V → Hp → VK → Prop := fun xs H Q => ∃ x n, xs = [x] ∧ LenV K x H n ∧ Q (.int n) H
theorem b_len : CallOk X (.builtin "len") (r_len X.K) lenF := ⟨call_len, calld_val fun io F H vs ds d Q ex rx e k => by
  match ds, e with
  | [.str x], e =>
    obtain ⟨v, rfl, r⟩ := reps1 rx
    have e' : (if x.length ≤ sizeLine then some (D.int x.length) else none) = some d := e
    by_cases hc : x.length ≤ sizeLine
    · rw [if_pos hc] at e'
      cases e'
      exact ⟨v, x.length, rfl, by rw [show v = _ from r]; exact ⟨by rw [str_len]; exact hc, (str_len x).symm⟩, k _ fun _ _ _ => rfl⟩
    · rw [if_neg hc] at e'
      cases e'
  | [.lst l], e =>
    obtain ⟨v, rfl, p, xs, rfl, h, r⟩ := reps1 rx
    cases e
    exact ⟨_, l.length, rfl, .inl ⟨xs, .of (ex p _ h), (reps_len r).symm⟩, k _ fun _ _ _ => rfl⟩
  | [.fz l], e =>
    obtain ⟨v, rfl, p, xs, rfl, h, r⟩ := reps1 rx
    cases e
    exact ⟨_, l.length, rfl, .inl ⟨xs, ex.l h, (reps_len r).symm⟩, k _ fun _ _ _ => rfl⟩
  | [.tup l], e =>
    obtain ⟨v, rfl, p, xs, rfl, h, r⟩ := reps1 rx
    cases e
    exact ⟨_, l.length, rfl, .inr ⟨xs, ex.t h, (reps_len r).symm⟩, k _ fun _ _ _ => rfl⟩⟩
def absF : List D → Option D
  | [.int i] => some (.int (if i < 0 then -i else i))
  | _ => none
def maxF : List D → Option D
  | [.int i, .int j] => some (.int (if j > i then j else i))
  | _ => none
def minF : List D → Option D
  | [.int i, .int j] => some (.int (if j < i then j else i))
  | _ => none
def intF : List D → Option D
  | [.int i] => some (.int i)
  | [.bl b] => some (.int (if b then 1 else 0))
  | _ => none
abbrev r_abs : List V → Hp → VK → Prop := fun xs H Q => ∃ i, xs = [.int i] ∧ Q (.int (if i < 0 then -i else i)) H
abbrev r_max : List V → Hp → VK → Prop := fun xs H Q => ∃ i j, xs = [.int i, .int j] ∧ Q (.int (if j > i then j else i)) H
abbrev r_min : List V → Hp → VK → Prop := fun xs H Q => ∃ i j, xs = [.int i, .int j] ∧ Q (.int (if j < i then j else i)) H
abbrev r_int : List V → Hp → VK → Prop := fun xs H Q => (∃ i, xs = [.int i] ∧ Q (.int i) H) ∨ ∃ k, xs = [.bl k] ∧ Q (.int (if k then 1 else 0)) H
theorem b_abs : CallOk X (.builtin "abs") r_abs absF := ⟨call_abs, calld_val fun io F H vs ds d Q ex rx e k => by
  match ds, e with
  | [.int i], e =>
    obtain ⟨v, rfl, r⟩ := reps1 rx
    cases e
    exact ⟨i, by rw [show v = _ from r], k _ fun _ _ _ => rfl⟩⟩
theorem b_max (hc : X.calm = true) : CallOk X (.builtin "max") r_max maxF := ⟨call_max2 hc, calld_val fun io F H vs ds d Q ex rx e k => by
  match ds, e with
  | [.int i, .int j], e =>
    obtain ⟨v, w, rfl, r, r'⟩ := reps2 rx
    cases e
    exact ⟨i, j, by rw [show v = _ from r, show w = _ from r'], k _ fun _ _ _ => rfl⟩⟩
theorem b_min (hc : X.calm = true) : CallOk X (.builtin "min") r_min minF := ⟨call_min2 hc, calld_val fun io F H vs ds d Q ex rx e k => by
  match ds, e with
  | [.int i, .int j], e =>
    obtain ⟨v, w, rfl, r, r'⟩ := reps2 rx
    cases e
    exact ⟨i, j, by rw [show v = _ from r, show w = _ from r'], k _ fun _ _ _ => rfl⟩⟩
theorem b_int : CallOk X (.type "int") r_int intF := ⟨call_int1, calld_val fun io F H vs ds d Q ex rx e k => by
  match ds, e with
  | [.int i], e =>
    obtain ⟨v, rfl, r⟩ := reps1 rx
    cases e
    exact .inl ⟨i, by rw [show v = _ from r], k _ fun _ _ _ => rfl⟩
  | [.bl i], e =>
    obtain ⟨v, rfl, r⟩ := reps1 rx
    cases e
    exact .inr ⟨i, by rw [show v = _ from r], k _ fun _ _ _ => rfl⟩⟩

/-! ### subscripts -/
structure IxOk (X : Cx) (r : R2) (g : D → D → Option D) : Prop where
  p : IxR X r
  s : OpD X.K r g
theorem de_ix {r : R2} {g : D → D → Option D} (ho : IxOk X r g) (ha : DE X W a ta ma) (hb : DE X W b tb mb) (hs : PlainIx b := by exact fun _ _ => rfl) : DE X W (.Subscript a b pos) (tOp r ta tb) (mBin g ma mb) := ⟨pe_ix ho.p ha.p hb.p hs, sem_bin ha.s hb.s ho.s⟩
def ixF : D → D → Option D
  | .lst l, .int i => atI l i
  | .fz l, .int i => atI l i
  | .tup l, .int i => atI l i
  | .str x, .int i => if x.length ≤ sizeLine then (atI x i).map fun c => .str [c] else none
  | _, _ => none
theorem atI_reps {io : List Addr} {F : Hp} {l : List D} {xs : List V} {i : Int} {d : D} (r : reps K io F l xs) (h : atI l i = some d) : ∃ x, atI xs i = some x ∧ rep K io F d x := by
  unfold atI at h ⊢
  rw [reps_len r]
  cases e : ixN l.length i with
  | none => rw [e] at h; cases h
  | some j =>
    rw [e] at h
    exact reps_get r h
theorem o_ix : IxOk X (rIx X.K) ixF := ⟨ix_seq, opd_val fun io F H x y dx dy d Q ex rx ry e k => by
  match dx, dy, e with
  | .lst l, .int i, e =>
    obtain ⟨p, xs, rfl, h, r⟩ := rx
    obtain ⟨v, h1, h2⟩ := atI_reps r e
    exact .inl ⟨p, xs, i, v, rfl, ry, .of (ex p _ h), h1, k _ fun _ _ l => rep_le l _ _ h2⟩
  | .fz l, .int i, e =>
    obtain ⟨p, xs, rfl, h, r⟩ := rx
    obtain ⟨v, h1, h2⟩ := atI_reps r e
    exact .inl ⟨p, xs, i, v, rfl, ry, ex.l h, h1, k _ fun _ _ l => rep_le l _ _ h2⟩
  | .tup l, .int i, e =>
    obtain ⟨p, xs, rfl, h, r⟩ := rx
    obtain ⟨v, h1, h2⟩ := atI_reps r e
    exact .inr (.inl ⟨p, xs, i, v, rfl, ry, ex.t h, h1, k _ fun _ _ l => rep_le l _ _ h2⟩)
  | .str z, .int i, e =>
    have e' : (if z.length ≤ sizeLine then (atI z i).map fun c => D.str [c] else none) = some d := e
    by_cases hc : z.length ≤ sizeLine
    · rw [if_pos hc] at e'
      obtain ⟨c, h1, rfl⟩ := Option.map_eq_some_iff.mp e'
      exact .inr (.inr ⟨⟨z.toArray⟩, i, c, rx, ry, by rw [str_len]; exact hc, h1, k _ fun _ _ _ => rfl⟩)
    · rw [if_neg hc] at e'
      cases e'⟩
/-- a slice -/
structure DO (X : Cx) (W : WX) (e : Option Expr) (t : TO) (m : M (Option Int)) : Prop where
  p : PO X e t
  s : ∀ (en : Ent) (io : List Addr) (F H : Hp) (σ : St) (s : A) (o : O (Option Int)) (Q : Option Int → Hp → Prop), Rel X.K en io F H σ s → m s = some o → PostX X.K X.mg W en io F o →
    (∀ d s', o = .ok d s' → ∀ io' F' H', Le io F io' F' → Rel X.K en io' F' H' σ s' → Q d H') → t σ H Q
def mNo : M (Option Int) := ret none
def mSo (m : M D) : M (Option Int) := bnd m fun d => match d with
  | .int i => ret (some i)
  | _ => fun _ => none
theorem do_none : DO X W none tNoPart mNo := ⟨po_none, by
  intro en io F H σ s o Q R e hx hq
  cases e
  exact hq _ _ rfl io F H (Le.refl _ _) R⟩
theorem do_some (h : DE X W e te me) : DO X W (some e) (tPart te) (mSo me) := ⟨po_some h.p, by
  intro en io F H σ s o Q R e hx hq
  refine h.s.step R e hx fun d s1 v io1 F1 H1 l1 R1 r1 e1 hx1 => ?_
  cases d with
  | int i =>
    cases e1
    exact ⟨i, r1, hq _ _ rfl io1 F1 H1 l1 R1⟩
  | _ => cases e1⟩
def cutL {α : Type} (l : List α) (lo hi : Option Int) : List α := (l.drop (HT.sIx l.length 0 lo)).take (HT.sIx l.length l.length hi - HT.sIx l.length 0 lo)
def slS : D → Option Int → Option Int → Option D
  | .str x, lo, hi => if x.length ≤ sizeLine then some (.str (cutL x lo hi)) else none
  | _, _, _ => none
def slL : D → Option Int → Option Int → Option D
  | .lst l, lo, hi => some (.lst (cutL l lo hi))
  | .fz l, lo, hi => some (.lst (cutL l lo hi))
  | _, _, _ => none
def SlD (K : PySem.W.Frag) (r : V → Option Int → Option Int → Hp → VK → Prop) (g : D → Option Int → Option Int → Option D) : Prop := ∀ (en : Ent) (io : List Addr) (F H : Hp) (σ : St) (s : A) (x : V) (dx d : D) (lo hi : Option Int) (Q : VK), Rel K en io F H σ s → rep K io F dx x → g dx lo hi = some d →
  (∀ v io' F' H', Le io F io' F' → Rel K en io' F' H' σ s → rep K io' F' d v → Q v H') → r x lo hi H Q
structure SlOk (X : Cx) (r : V → Option Int → Option Int → Hp → VK → Prop) (g : D → Option Int → Option Int → Option D) : Prop where
  p : SlR X r
  s : SlD X.K r g
theorem o_slS : SlOk X rSlS slS := ⟨sl_str, fun en io F H σ s x dx d lo hi Q R rx e k => by
  cases dx with
  | str z =>
    have e' : (if z.length ≤ sizeLine then some (D.str (cutL z lo hi)) else none) = some d := e
    by_cases hc : z.length ≤ sizeLine
    · rw [if_pos hc] at e'
      cases e'
      refine ⟨⟨z.toArray⟩, rx, by rw [str_len]; exact hc, k _ io F H (Le.refl _ _) R ?_⟩
      show V.str (cutS ⟨z.toArray⟩ lo hi) = V.str ⟨(cutL z lo hi).toArray⟩
      unfold cutS cutL
      rw [str_len]
    · rw [if_neg hc] at e'
      cases e'
  | _ => cases e⟩
theorem reps_cut {io : List Addr} {F : Hp} {l : List D} {xs : List V} (r : reps K io F l xs) (lo hi : Option Int) : reps K io F (cutL l lo hi) (cutV xs lo hi) := by
  unfold cutL cutV
  rw [reps_len r]
  exact reps_take _ (reps_drop _ r)
theorem o_slL : SlOk X (rSlL X.K) slL := ⟨sl_list, fun en io F H σ s x dx d lo hi Q R rx e k => by
  match dx, e with
  | .lst l, e =>
    cases e
    obtain ⟨p, xs, rfl, h, r⟩ := rx
    refine ⟨p, xs, rfl, .of (R.h.ex p _ h), fun q hq => ?_⟩
    obtain ⟨R2, l2⟩ := R.new hq (.lst (cutV xs lo hi))
    exact k _ io _ _ l2 R2 ⟨q, _, rfl, upd_same, reps_le l2 _ _ (reps_cut r lo hi)⟩
  | .fz l, e =>
    cases e
    obtain ⟨p, xs, rfl, h, r⟩ := rx
    refine ⟨p, xs, rfl, R.h.ex.l h, fun q hq => ?_⟩
    obtain ⟨R2, l2⟩ := R.new hq (.lst (cutV xs lo hi))
    exact k _ io _ _ l2 R2 ⟨q, _, rfl, upd_same, reps_le l2 _ _ (reps_cut r lo hi)⟩⟩
def mSl (g : D → Option Int → Option Int → Option D) (m : M D) (ml mh : M (Option Int)) : M D := bnd m fun d => bnd ml fun lo => bnd mh fun hi => lft (g d lo hi)
theorem DO.step {β : Type} {e : Option Expr} {t : TO} {m : M (Option Int)} {k : Option Int → M β} {en : Ent} {io : List Addr} {F H : Hp} {σ : St} {s : A} {o : O β} {Q : Option Int → Hp → Prop} (h : DO X W e t m) (R : Rel X.K en io F H σ s) (e' : bnd m k s = some o) (hx : PostX X.K X.mg W en io F o)
    (hk : ∀ d s1 io' F' H', Le io F io' F' → Rel X.K en io' F' H' σ s1 → k d s1 = some o → PostX X.K X.mg W en io' F' o → Q d H') : t σ H Q := by
  rcases bnd_some e' with ⟨a, s', e1, e2⟩ | ⟨x, s', e1, e2⟩
  · exact h.s en io F H σ s _ Q R e1 trivial fun d s2 e3 io' F' H' l R' => by
      cases e3
      exact hk a s' io' F' H' l R' e2 (hx.le _ _ _ l)
  · subst e2
    exact h.s en io F H σ s _ Q R e1 hx fun d s2 e3 => by cases e3
theorem de_slice {r : V → Option Int → Option Int → Hp → VK → Prop} {g : D → Option Int → Option Int → Option D} {lo hi : Option Expr} {th tl' : TO} {mh ml' : M (Option Int)} {p2 : Pos} (hr : SlOk X r g) (he : DE X W e te me) (hl : DO X W lo tl' ml') (hu : DO X W hi th mh) :
    DE X W (.Subscript e (.Slice lo hi none p2) pos) (tSl r te tl' th) (mSl g me ml' mh) := ⟨pe_slice hr.p he.p hl.p hu.p, by
  intro en io F H σ s o Q R e hx hq
  refine he.s.step R e hx fun d s1 v io1 F1 H1 l1 R1 r1 e1 hx1 => ?_
  refine hl.step R1 e1 hx1 fun lo s2 io2 F2 H2 l2 R2 e2 hx2 => ?_
  refine hu.step R2 e2 hx2 fun hi s3 io3 F3 H3 l3 R3 e3 hx3 => ?_
  obtain ⟨z, e4, e5⟩ := lft_some e3
  exact hr.s en io3 F3 H3 σ s3 v d z lo hi Q R3 (rep_le (l2.trans l3) _ _ r1) e4 fun w io4 F4 H4 l4 R4 r4 => hq _ _ e5 w io4 F4 H4 (((l1.trans l2).trans l3).trans l4) R4 r4⟩
/-- xs[::-1] of a list -/
def revL : D → Option D
  | .lst l => some (.lst l.reverse)
  | .fz l => some (.lst l.reverse)
  | _ => none
theorem de_revL {k : Nat} {p1 p2 p3 : Pos} (he : DE X W e te me) : DE X W (.Subscript e (.Slice none none (some (.UnaryOp .USub (.Constant (.int 1) k p1) p2)) p3) pos) (tRevL X.K te) (mUn revL me) := ⟨pe_revL he.p, by
  intro en io F H σ s o Q R e hx hq
  refine he.s.step R e hx fun d s1 v io1 F1 H1 l1 R1 r1 e1 hx1 => ?_
  obtain ⟨z, e2, e3⟩ := lft_some e1
  match d, e2 with
  | .lst l, e2 =>
    cases e2
    obtain ⟨p, xs, rfl, h, r⟩ := r1
    refine ⟨p, xs, rfl, .of (R1.h.ex p _ h), fun q hq' => ?_⟩
    obtain ⟨R2, l2⟩ := R1.new hq' (.lst xs.reverse)
    exact hq _ _ e3 _ io1 _ _ (l1.trans l2) R2 ⟨q, _, rfl, upd_same, reps_le l2 _ _ (reps_rev r)⟩
  | .fz l, e2 =>
    cases e2
    obtain ⟨p, xs, rfl, h, r⟩ := r1
    refine ⟨p, xs, rfl, R1.h.ex.l h, fun q hq' => ?_⟩
    obtain ⟨R2, l2⟩ := R1.new hq' (.lst xs.reverse)
    exact hq _ _ e3 _ io1 _ _ (l1.trans l2) R2 ⟨q, _, rfl, upd_same, reps_le l2 _ _ (reps_rev r)⟩⟩

/-! ### lists: +, *; in -/
def catL : D → D → Option D
  | .lst l, .lst l' => if l.length + l'.length ≤ sizeLine then some (.lst (l ++ l')) else none
  | _, _ => none
theorem o_catL : OpOk X (binaryOp .Add) rCat catL := ⟨op_cat, fun en io F H σ s x y dx dy d Q R rx ry e k => by
  match dx, dy, e with
  | .lst l, .lst l', e =>
    have e' : (if l.length + l'.length ≤ sizeLine then some (D.lst (l ++ l')) else none) = some d := e
    by_cases hc : l.length + l'.length ≤ sizeLine
    · rw [if_pos hc] at e'
      cases e'
      obtain ⟨p, xs, rfl, h, r⟩ := rx
      obtain ⟨q, ys, rfl, h', r'⟩ := ry
      refine ⟨p, q, xs, ys, rfl, rfl, R.h.ex p _ h, R.h.ex q _ h', by rw [reps_len r, reps_len r']; exact hc, fun z hz => ?_⟩
      obtain ⟨R2, l2⟩ := R.new hz (.lst (xs ++ ys))
      exact k _ io _ _ l2 R2 ⟨z, _, rfl, upd_same, reps_le l2 _ _ (reps_app r r')⟩
    · rw [if_neg hc] at e'
      cases e'⟩
theorem reps_rep {io : List Addr} {F : Hp} {l : List D} {xs : List V} (r : reps K io F l xs) : ∀ n : Nat, reps K io F (repL l n) (List.replicate n xs).flatten
  | 0 => rfl
  | n + 1 => by
    unfold repL
    rw [List.replicate_succ, List.replicate_succ, List.flatten_cons, List.flatten_cons]
    exact reps_app r (reps_rep r n)
def repF : D → D → Option D
  | .lst l, .int n => if -(2 ^ 62) ≤ n ∧ n < 2 ^ 62 ∧ l.length * n.toNat ≤ sizeLine then some (.lst (repL l n.toNat)) else none
  | _, _ => none
theorem o_repL : OpOk X (binaryOp .Mult) rRep repF := ⟨op_rep, fun en io F H σ s x y dx dy d Q R rx ry e k => by
  match dx, dy, e with
  | .lst l, .int n, e =>
    have e' : (if -(2 ^ 62) ≤ n ∧ n < 2 ^ 62 ∧ l.length * n.toNat ≤ sizeLine then some (D.lst (repL l n.toNat)) else none) = some d := e
    by_cases hc : -(2 ^ 62) ≤ n ∧ n < 2 ^ 62 ∧ l.length * n.toNat ≤ sizeLine
    · rw [if_pos hc] at e'
      cases e'
      obtain ⟨p, xs, rfl, h, r⟩ := rx
      refine ⟨p, n, xs, rfl, ry, R.h.ex p _ h, by omega, by omega, by rw [reps_len r]; exact hc.2.2, fun z hz => ?_⟩
      obtain ⟨R2, l2⟩ := R.new hz (.lst (List.replicate n.toNat xs).flatten)
      exact k _ io _ _ l2 R2 ⟨z, _, rfl, upd_same, reps_le l2 _ _ (reps_rep r n.toNat)⟩
    · rw [if_neg hc] at e'
      cases e'⟩
/-- one sign in a text -/
def inS : D → D → Option D
  | .str [c], .str z => some (.bl (decide (c ∈ z)))
  | _, _ => none
def notInS : D → D → Option D
  | .str [c], .str z => some (.bl (!decide (c ∈ z)))
  | _, _ => none
theorem o_inS : OpOk X (compareOp .In) rInS inS := ⟨op_inS, opd_val fun io F H x y dx dy d Q ex rx ry e k => by
  match dx, dy, e with
  | .str [c], .str z, e =>
    cases e
    exact ⟨c, ⟨z.toArray⟩, rx, ry, k _ fun _ _ _ => rfl⟩⟩
theorem o_notInS : OpOk X (compareOp .NotIn) rNotInS notInS := ⟨op_notInS, opd_val fun io F H x y dx dy d Q ex rx ry e k => by
  match dx, dy, e with
  | .str [c], .str z, e =>
    cases e
    exact ⟨c, ⟨z.toArray⟩, rx, ry, k _ fun _ _ _ => rfl⟩⟩
/-- a flat thing in a list or tuple of flat things -/
def flatD : D → Bool
  | .non | .bl _ | .int _ | .str _ => true
  | _ => false
def eqF : D → D → Bool
  | .non, .non => true
  | .bl a, .bl b => a == b
  | .int i, .int j => i == j
  | .str x, .str y => x == y
  | .bl a, .int j => (if a then 1 else 0) == j
  | .int i, .bl b => i == (if b then 1 else 0)
  | _, _ => false
theorem rep_flat {io : List Addr} {F : Hp} {d : D} {x : V} (h : flatD d = true) (r : rep K io F d x) : flatV x = true := by
  cases d with
  | non => cases (show x = _ from r); rfl
  | bl b => cases (show x = _ from r); rfl
  | int b => cases (show x = _ from r); rfl
  | str b => cases (show x = _ from r); rfl
  | _ => cases h
theorem strBeq (x y : List Nat) : ((⟨x.toArray⟩ : Str) == (⟨y.toArray⟩ : Str)) = (x == y) := by
  by_cases h : x = y
  · subst h
    rw [beq_self_eq_true, beq_self_eq_true]
  · rw [beq_eq_false_iff_ne.mpr h, beq_eq_false_iff_ne.mpr]
    intro z
    apply h
    have z1 : x.toArray = y.toArray := congrArg Str.cps z
    simpa using congrArg Array.toList z1
theorem rep_eqF {io : List Addr} {F : Hp} {d d' : D} {x y : V} (h : flatD d = true) (h' : flatD d' = true) (r : rep K io F d x) (r' : rep K io F d' y) : eqV x y = eqF d d' := by
  cases d with
  | non => cases (show x = _ from r); (cases d' <;> first | (cases (show y = _ from r'); rfl) | cases h')
  | bl b => cases (show x = _ from r); (cases d' <;> first | (cases (show y = _ from r'); rfl) | cases h')
  | int b => cases (show x = _ from r); (cases d' <;> first | (cases (show y = _ from r'); rfl) | cases h')
  | str b => cases (show x = _ from r); (cases d' <;> first | (cases (show y = _ from r'); first | exact strBeq _ _ | rfl) | cases h')
  | _ => cases h
theorem reps_flat {io : List Addr} {F : Hp} : ∀ {l : List D} {xs : List V}, l.all flatD = true → reps K io F l xs → xs.all flatV = true
  | [], xs, _, r => by
    rw [show xs = [] from r]
    rfl
  | d :: l, _, h, r => by
    obtain ⟨x, t, rfl, r1, r2⟩ := r
    rw [List.all_cons, Bool.and_eq_true] at h
    rw [List.all_cons, rep_flat h.1 r1, reps_flat h.2 r2]
    rfl
theorem reps_inV {io : List Addr} {F : Hp} {d : D} {x : V} (hd : flatD d = true) (rd : rep K io F d x) : ∀ {l : List D} {xs : List V}, l.all flatD = true → reps K io F l xs → inV x xs = l.any fun y => eqF y d
  | [], xs, _, r => by
    rw [show xs = [] from r]
    rfl
  | c :: l, _, h, r => by
    obtain ⟨y, t, rfl, r1, r2⟩ := r
    rw [List.all_cons, Bool.and_eq_true] at h
    unfold inV
    rw [List.any_cons, List.any_cons, rep_eqF h.1 hd r1 rd]
    have ih := reps_inV hd rd h.2 r2
    unfold inV at ih
    rw [ih]
def seqD : D → Option (List D)
  | .lst l | .tup l | .fz l => some l
  | _ => none
def inL (d e : D) : Option D := match seqD e with
  | some l => if flatD d = true ∧ l.all flatD = true then some (.bl (l.any fun y => eqF y d)) else none
  | none => none
def notInL (d e : D) : Option D := match seqD e with
  | some l => if flatD d = true ∧ l.all flatD = true then some (.bl (!l.any fun y => eqF y d)) else none
  | none => none
theorem seq_rep {io : List Addr} {F H : Hp} {e : D} {y : V} {l : List D} (ex : Ex F H) (h : seqD e = some l) (r : rep K io F e y) : ∃ p xs, y = .ref p ∧ (SqL K H p xs ∨ SqT K H p xs) ∧ reps K io F l xs := by
  match e, h with
  | .lst _, h =>
    cases h
    obtain ⟨p, xs, rfl, h, r⟩ := r
    exact ⟨p, xs, rfl, .inl (.of (ex p _ h)), r⟩
  | .fz _, h =>
    cases h
    obtain ⟨p, xs, rfl, h, r⟩ := r
    exact ⟨p, xs, rfl, .inl (ex.l h), r⟩
  | .tup _, h =>
    cases h
    obtain ⟨p, xs, rfl, h, r⟩ := r
    exact ⟨p, xs, rfl, .inr (ex.t h), r⟩
theorem o_inL : OpOk X (compareOp .In) (rIn X.K false) inL := ⟨op_in_seq, opd_val fun io F H x y dx dy d Q ex rx ry e k => by
  unfold inL at e
  split at e
  · rename_i l hl
    split at e
    · rename_i hc
      cases e
      obtain ⟨p, xs, rfl, h, r⟩ := seq_rep ex hl ry
      refine ⟨p, xs, rfl, h, rep_flat hc.1 rx, reps_flat hc.2 r, k _ fun _ _ _ => ?_⟩
      show V.bl (if false = true then _ else inV x xs) = _
      rw [if_neg Bool.false_ne_true, reps_inV hc.1 rx hc.2 r]
    · cases e
  · cases e⟩
theorem o_notInL : OpOk X (compareOp .NotIn) (rIn X.K true) notInL := ⟨op_notIn_seq, opd_val fun io F H x y dx dy d Q ex rx ry e k => by
  unfold notInL at e
  split at e
  · rename_i l hl
    split at e
    · rename_i hc
      cases e
      obtain ⟨p, xs, rfl, h, r⟩ := seq_rep ex hl ry
      refine ⟨p, xs, rfl, h, rep_flat hc.1 rx, reps_flat hc.2 r, k _ fun _ _ _ => ?_⟩
      show V.bl (if true = true then !inV x xs else _) = _
      rw [if_pos rfl, reps_inV hc.1 rx hc.2 r]
    · cases e
  · cases e⟩
/-- sep.join(texts) -/
def joinL : List Nat → List (List Nat) → List Nat
  | _, [] => []
  | _, [p] => p
  | s, p :: q :: r => p ++ (s ++ joinL s (q :: r))
def strsD : List D → Option (List (List Nat))
  | [] => some []
  | .str x :: l => (strsD l).map (x :: ·)
  | _ => none
theorem strs_reps {io : List Addr} {F : Hp} : ∀ {l : List D} {xs : List V} {ys : List (List Nat)}, strsD l = some ys → reps K io F l xs → xs = (ys.map fun y => (⟨y.toArray⟩ : Str)).map V.str
  | [], xs, ys, h, r => by
    cases h
    exact r
  | .str x :: l, xs, ys, h, r => by
    obtain ⟨v, t, rfl, r1, r2⟩ := r
    have h' : (strsD l).map (x :: ·) = some ys := h
    obtain ⟨zs, h1, rfl⟩ := Option.map_eq_some_iff.mp h'
    rw [strs_reps h1 r2, show v = _ from r1]
    rfl
theorem joinL_eq (s : List Nat) : ∀ ys : List (List Nat), TL.joinL s ys = joinL s ys
  | [] => rfl
  | [_] => rfl
  | p :: q :: r => by
    show p ++ (s ++ TL.joinL s (q :: r)) = p ++ (s ++ joinL s (q :: r))
    rw [joinL_eq s (q :: r)]
abbrev r_join (K : PySem.W.Frag) : V → List V → Hp → VK → Prop := fun x xs H Q => ∃ a p, ∃ ys : List Str, x = .str a ∧ xs = [.ref p] ∧ (SqL K H p (ys.map V.str) ∨ SqT K H p (ys.map V.str)) ∧
      (ys.map (·.length)).sum + ys.length * a.length ≤ 16777216 ∧ Q (.str (Txt.join a ys)) H
def joinD (s : List Nat) (e : D) : Option D := match seqD e with
  | some l => match strsD l with
    | some ys => if (ys.map (·.length)).sum + ys.length * s.length ≤ 16777216 then some (.str (joinL s ys)) else none
    | none => none
  | none => none
theorem joinD_some {s : List Nat} {e d : D} (h : joinD s e = some d) : ∃ l ys, seqD e = some l ∧ strsD l = some ys ∧ (ys.map (·.length)).sum + ys.length * s.length ≤ 16777216 ∧ d = .str (joinL s ys) := by
  unfold joinD at h
  split at h
  · rename_i l hl
    split at h
    · rename_i ys hys
      split at h
      · rename_i hc
        cases h
        exact ⟨l, ys, hl, hys, hc, rfl⟩
      · cases h
    · cases h
  · cases h
def mJoin (ma mb : M D) : M D := bnd ma fun d => match d with
  | .str s => bnd mb fun e => lft (joinD s e)
  | _ => fun _ => none
theorem de_join {apos : Pos} (ho : DE X W a ta ma) (he : DE X W b tb mb) (hs : starEach [b] X.env = [(false, eval b X.env)] := by rfl) (hbase : attributeBase a "join" X.env (eval a X.env) = eval a X.env := by rfl) (hline : (apos.endLine == pos.line) = true := by rfl) :
    DE X W (.Call (.Attribute a "join" apos) [b] [] pos) (tM1 (r_join X.K) ta tb) (mJoin ma mb) := ⟨pe_join ho.p he.p hs hbase hline, by
  intro en io F H σ s o Q R e hx hq
  refine ho.s.step R e hx fun d s1 v io1 F1 H1 l1 R1 r1 e1 hx1 => ?_
  cases d with
  | str sp =>
    refine ⟨⟨_, r1⟩, he.s.step R1 e1 hx1 fun d2 s2 v2 io2 F2 H2 l2 R2 r2 e2 hx2 => ?_⟩
    obtain ⟨z2, e5, e6⟩ := lft_some e2
    obtain ⟨l, ys, hl, hys, hc, rfl⟩ := joinD_some e5
    obtain ⟨p, xs, rfl, hq', rq⟩ := seq_rep R2.h.ex hl r2
    have ex := strs_reps hys rq
    refine ⟨⟨sp.toArray⟩, p, ys.map fun y => (⟨y.toArray⟩ : Str), r1, rfl, ?_, ?_, ?_⟩
    · rw [← ex]
      exact hq'
    · rw [List.length_map, str_len, List.map_map]
      have : (fun x : Str => x.length) ∘ (fun y : List Nat => (⟨y.toArray⟩ : Str)) = fun y => y.length := by
        funext y
        exact str_len y
      rw [this]
      exact hc
    · have ej := SX.join_S sp ys
      rw [joinL_eq] at ej
      have ej' : Txt.join ⟨sp.toArray⟩ (ys.map fun y => (⟨y.toArray⟩ : Str)) = ⟨(joinL sp ys).toArray⟩ := ej
      rw [ej']
      exact hq _ _ e6 _ io2 F2 H2 (l1.trans l2) R2 rfl
  | _ => cases e1⟩
end
end Z
/-! Z5: statements, loops, defs -/
namespace Z
open PySem L2
open Classical

/-! ### what is walked -/
def WalkD (K : PySem.W.Frag) (J : It) (io : List Addr) (F : Hp) (ds : List D) : Prop := ∀ (i : Nat) (en : Ent) (io2 : List Addr) (F2 H2 : Hp) (σ2 : St) (s2 : A), Le io F io2 F2 → Rel K en io2 F2 H2 σ2 s2 →
  (∀ d, ds[i]? = some d → J.go i H2 ∧ ∀ x H3, J.yld i H2 x H3 → ∃ F3, Le io2 F2 io2 F3 ∧ Rel K en io2 F3 H3 σ2 s2 ∧ rep K io2 F3 d x) ∧ (i = ds.length → J.stop i H2)
def SemI (K : PySem.W.Frag) (mg : Str → Option Value) (W : WX) (w : TI) (m : M (List D)) : Prop := ∀ (en : Ent) (io : List Addr) (F H : Hp) (σ : St) (s : A) (o : O (List D)) (R : It → Hp → Prop), Rel K en io F H σ s → m s = some o → PostX K mg W en io F o →
  (∀ ds s', o = .ok ds s' → ∀ J io' F' H', Le io F io' F' → Rel K en io' F' H' σ s' → WalkD K J io' F' ds → R J H') → w σ H R
structure DI (X : Cx) (W : WX) (tg e : Expr) (w : TI) (m : M (List D)) : Prop where
  p : PI X tg e w
  s : SemI X.K X.mg W w m
section
variable {X : Cx} {W : WX} {pos : Pos} {K : PySem.W.Frag} {mg : Str → Option Value} {tg a b c e : Expr} {es : List Expr} {ta tb tc te : TE} {ma mb mc me : M D} {tA tB' : TT} {mA mB : M Bool} {tl : TA} {ml : M (List D)}
theorem SemI.step {β : Type} {en : Ent} {io : List Addr} {F H : Hp} {σ : St} {s : A} {w : TI} {m : M (List D)} {k : List D → M β} {o : O β} {Q : It → Hp → Prop} (h : SemI K mg W w m) (R : Rel K en io F H σ s) (e : bnd m k s = some o) (hx : PostX K mg W en io F o)
    (hk : ∀ ds s1 J io' F' H', Le io F io' F' → Rel K en io' F' H' σ s1 → WalkD K J io' F' ds → k ds s1 = some o → PostX K mg W en io' F' o → Q J H') : w σ H Q := by
  rcases bnd_some e with ⟨a, s', e1, e2⟩ | ⟨x, s', e1, e2⟩
  · exact h en io F H σ s _ Q R e1 trivial fun d s2 e3 J io' F' H' l R' r => by
      cases e3
      exact hk a s' J io' F' H' l R' r e2 (hx.le _ _ _ l)
  · subst e2
    exact h en io F H σ s _ Q R e1 hx fun d s2 e3 => by cases e3
def itL : D → Option (List D)
  | .lst l => some l
  | .fz l => some l
  | _ => none
def itT : D → Option (List D)
  | .tup l => some l
  | _ => none
def itS : D → Option (List D)
  | .str x => some (x.map fun c => .str [c])
  | _ => none
def mIt (f : D → Option (List D)) (m : M D) : M (List D) := bnd m fun d => lft (f d)
theorem di_lst (he : DE X W e te me) : DI X W tg e (iList X.K te) (mIt itL me) := ⟨pi_list he.p, by
  intro en io F H σ s o Q R e hx hq
  refine he.s.step R e hx fun d s1 v io1 F1 H1 l1 R1 r1 e1 hx1 => ?_
  obtain ⟨z, e2, e3⟩ := lft_some e1
  have fin : ∀ (p : Addr) (xs : List V), v = .ref p → SqL X.K F1 p xs → reps X.K io1 F1 z xs → iList X.K (fun _ H Q => Q v H) σ H1 Q := fun p xs ev hs hr => by
    subst ev
    refine ⟨p, rfl, ⟨xs, R1.h.ex.l hs⟩, hq _ _ e3 _ io1 F1 H1 l1 R1 fun i en2 io2 F2 H2 σ2 s2 l2 R2 => ⟨fun d hd => ?_, fun hi => ⟨xs, R2.h.ex.l (l2.ex.l hs), by rw [reps_len hr]; omega⟩⟩⟩
    obtain ⟨x, h1, h2⟩ := reps_get hr hd
    refine ⟨⟨xs, x, R2.h.ex.l (l2.ex.l hs), h1⟩, fun y H3 hy => ?_⟩
    obtain ⟨rfl, hy⟩ := hy
    have := hy xs (R2.h.ex.l (l2.ex.l hs))
    rw [h1] at this
    cases this
    exact ⟨F2, Le.refl _ _, R2, rep_le l2 _ _ h2⟩
  match d, e2 with
  | .lst l, e2 =>
    cases e2
    obtain ⟨p, xs, ev, h, r⟩ := r1
    exact fin p xs ev (.of h) r
  | .fz l, e2 =>
    cases e2
    obtain ⟨p, xs, ev, h, r⟩ := r1
    exact fin p xs ev h r⟩
theorem di_tup (he : DE X W e te me) : DI X W tg e (iTup X.K te) (mIt itT me) := ⟨pi_tup he.p, by
  intro en io F H σ s o Q R e hx hq
  refine he.s.step R e hx fun d s1 v io1 F1 H1 l1 R1 r1 e1 hx1 => ?_
  obtain ⟨z, e2, e3⟩ := lft_some e1
  match d, e2 with
  | .tup l, e2 =>
    cases e2
    obtain ⟨p, xs, rfl, hs, hr⟩ := r1
    refine ⟨p, rfl, ⟨xs, R1.h.ex.t hs⟩, hq _ _ e3 _ io1 F1 H1 l1 R1 fun i en2 io2 F2 H2 σ2 s2 l2 R2 => ⟨fun d hd => ?_, fun hi => ⟨xs, R2.h.ex.t (l2.ex.t hs), by rw [reps_len hr]; omega⟩⟩⟩
    obtain ⟨x, h1, h2⟩ := reps_get hr hd
    refine ⟨⟨xs, x, R2.h.ex.t (l2.ex.t hs), h1⟩, fun y H3 hy => ?_⟩
    obtain ⟨rfl, hy⟩ := hy
    have := hy xs (R2.h.ex.t (l2.ex.t hs))
    rw [h1] at this
    cases this
    exact ⟨F2, Le.refl _ _, R2, rep_le l2 _ _ h2⟩⟩
theorem di_str (he : DE X W e te me) : DI X W tg e (iStr te) (mIt itS me) := ⟨pi_str he.p, by
  intro en io F H σ s o Q R e hx hq
  refine he.s.step R e hx fun d s1 v io1 F1 H1 l1 R1 r1 e1 hx1 => ?_
  obtain ⟨z, e2, e3⟩ := lft_some e1
  match d, e2 with
  | .str x, e2 =>
    cases e2
    refine ⟨_, r1, hq _ _ e3 _ io1 F1 H1 l1 R1 fun i en2 io2 F2 H2 σ2 s2 l2 R2 => ⟨fun d hd => ?_, fun hi => ?_⟩⟩
    · rw [List.getElem?_map] at hd
      obtain ⟨c, hc, rfl⟩ := Option.map_eq_some_iff.mp hd
      have hl := (List.getElem?_eq_some_iff.mp hc).1
      refine ⟨by show i < x.toArray.size; simpa using hl, fun y H3 hy => ?_⟩
      obtain ⟨rfl, c', hc', rfl⟩ := hy
      have e5 : x.toArray[i]? = some c' := hc'
      rw [List.getElem?_toArray, hc] at e5
      cases e5
      exact ⟨F2, Le.refl _ _, R2, rfl⟩
    · show x.toArray.size ≤ i
      rw [hi]
      simp⟩
def rngD (lo : Int) (n : Nat) : List D := (List.range n).map fun i => .int (lo + (i : Nat))
def rng1 : List D → Option (List D)
  | [.int j] => if -(2 ^ 62) ≤ j ∧ j < 2 ^ 62 then some (rngD 0 j.toNat) else none
  | _ => none
def rng2 : List D → Option (List D)
  | [.int i, .int j] => if -(2 ^ 62) ≤ i ∧ i < 2 ^ 62 ∧ -(2 ^ 62) ≤ j ∧ j < 2 ^ 62 then some (rngD i (j - i).toNat) else none
  | _ => none
def mItA (f : List D → Option (List D)) (m : M (List D)) : M (List D) := bnd m fun d => lft (f d)
theorem walk_rng {io : List Addr} {F : Hp} (lo : Int) (n : Nat) : WalkD K (Itr lo n) io F (rngD lo n) := fun i en2 io2 F2 H2 σ2 s2 l2 R2 => ⟨fun d hd => by
  unfold rngD at hd
  rw [List.getElem?_map] at hd
  obtain ⟨c, hc, rfl⟩ := Option.map_eq_some_iff.mp hd
  have hl := (List.getElem?_eq_some_iff.mp hc).1
  rw [List.length_range] at hl
  rw [List.getElem?_range hl] at hc
  cases hc
  refine ⟨hl, fun y H3 hy => ?_⟩
  obtain ⟨rfl, rfl⟩ := hy
  exact ⟨F2, Le.refl _ _, R2, rfl⟩, fun hi => by
  unfold rngD at hi
  rw [List.length_map, List.length_range] at hi
  show n ≤ i
  omega⟩
theorem di_rng1 {p : Pos} (hg : Gl X "range") (hm : X.mg "range" = none) (ha : DA X W [a] tl ml) (hs : starEach [a] X.env = [(false, eval a X.env)] := by rfl) : DI X W tg (.Call (.Name "range" p) [a] [] pos) (iRng1 tl) (mItA rng1 ml) := ⟨pi_range1 hg hm ha.p hs, by
  intro en io F H σ s o Q R e hx hq
  refine ha.s.step R e hx fun d s1 v io1 F1 H1 l1 R1 r1 e1 hx1 => ?_
  obtain ⟨z, e2, e3⟩ := lft_some e1
  match d, e2 with
  | [.int j], e2 =>
    obtain ⟨x, rfl, r⟩ := reps1 r1
    have e2' : (if -(2 ^ 62) ≤ j ∧ j < 2 ^ 62 then some (rngD 0 j.toNat) else none) = some z := e2
    by_cases hc : -(2 ^ 62) ≤ j ∧ j < 2 ^ 62
    · rw [if_pos hc] at e2'
      cases e2'
      exact ⟨j, by rw [show x = _ from r], hc.1, hc.2, hq _ _ e3 _ io1 F1 H1 l1 R1 (walk_rng _ _)⟩
    · rw [if_neg hc] at e2'
      cases e2'⟩
theorem di_rng2 {p : Pos} (hg : Gl X "range") (hm : X.mg "range" = none) (ha : DA X W [a, b] tl ml) (hs : starEach [a, b] X.env = [(false, eval a X.env), (false, eval b X.env)] := by rfl) (hs2 : starEach [b] X.env = [(false, eval b X.env)] := by rfl) :
    DI X W tg (.Call (.Name "range" p) [a, b] [] pos) (iRng2 tl) (mItA rng2 ml) := ⟨pi_range2 hg hm ha.p hs hs2, by
  intro en io F H σ s o Q R e hx hq
  refine ha.s.step R e hx fun d s1 v io1 F1 H1 l1 R1 r1 e1 hx1 => ?_
  obtain ⟨z, e2, e3⟩ := lft_some e1
  match d, e2 with
  | [.int i, .int j], e2 =>
    obtain ⟨x, y, rfl, r, r'⟩ := reps2 r1
    have e2' : (if -(2 ^ 62) ≤ i ∧ i < 2 ^ 62 ∧ -(2 ^ 62) ≤ j ∧ j < 2 ^ 62 then some (rngD i (j - i).toNat) else none) = some z := e2
    by_cases hc : -(2 ^ 62) ≤ i ∧ i < 2 ^ 62 ∧ -(2 ^ 62) ≤ j ∧ j < 2 ^ 62
    · rw [if_pos hc] at e2'
      cases e2'
      exact ⟨i, j, by rw [show x = _ from r, show y = _ from r'], hc, hq _ _ e3 _ io1 F1 H1 l1 R1 (walk_rng _ _)⟩
    · rw [if_neg hc] at e2'
      cases e2'⟩
end

/-! ### targets -/
def gV (i : Nat) (d : D) : M Unit := fun s => some (.ok () { s with sl := s.sl.set i (some (.val d)) })
def gT (gs : List D → M Unit) (n : Nat) (d : D) : M Unit := match d with
  | .tup l => if l.length = n then gs l else fun _ => none
  | _ => fun _ => none
def gN (l : List D) : M Unit := match l with
  | [] => ret ()
  | _ => fun _ => none
def gC (g : D → M Unit) (gs : List D → M Unit) (l : List D) : M Unit := match l with
  | d :: r => bnd (g d) fun _ => gs r
  | _ => fun _ => none
structure DGs (X : Cx) (W : WX) (ts : List Expr) (t : TGs) (m : List D → M Unit) : Prop where
  p : PGs X ts t
  s : ∀ (en : Ent) (io : List Addr) (F H : Hp) (σ : St) (s : A) (d : List D) (v : List V) (o : O Unit) (Q : St → Hp → Prop), Rel X.K en io F H σ s → reps X.K io F d v → m d s = some o → PostX X.K X.mg W en io F o →
    (∀ u s', o = .ok u s' → ∀ io' F' H' σ', Le io F io' F' → Rel X.K en io' F' H' σ' s' → Q σ' H') → t v σ H Q
section
variable {X : Cx} {W : WX} {pos : Pos} {K : PySem.W.Frag} {mg : Str → Option Value} {tg a b c e : Expr} {es : List Expr} {ta tb tc te : TE} {ma mb mc me : M D} {tA tB' : TT} {mA mB : M Bool} {tl : TA} {ml : M (List D)} {g : TG} {gm : D → M Unit}
theorem dg_name (i : Nat) {x : Str} (hN : X.N.Nodup) (hi : X.N[i]? = some x := by rfl) (hx : Loc X.env.scope x := by first | exact Or.inl rfl | exact Or.inr rfl) (hf : X.fn x = true ∨ X.env.scope.names.lookup x = some .local := by first | exact .inl rfl | exact .inr rfl | assumption) : DG X W (.Name x pos) (gName i) (gV i) := ⟨pg_name hN hi hx hf, by
  intro en io F H σ s d v o Q R r e hx hq
  cases e
  exact hq _ _ rfl io F H _ (Le.refl _ _) (R.setv r)⟩
theorem dgs_nil : DGs X W [] gNil gN := ⟨pgs_nil, by
  intro en io F H σ s d v o Q R r e hx hq
  match d, e with
  | [], e =>
    cases e
    exact ⟨r, hq _ _ rfl io F H _ (Le.refl _ _) R⟩⟩
theorem dgs_cons {t : TGs} {gs : List D → M Unit} (h1 : DG X W e g gm) (h2 : DGs X W es t gs) (hs : (assignEach (e :: es) X.env).map (·.2) = assign e X.env :: (assignEach es X.env).map (·.2) := by rfl) : DGs X W (e :: es) (gCons g t) (gC gm gs) := ⟨pgs_cons h1.p h2.p hs, by
  intro en io F H σ s d v o Q R r e hx hq
  match d, e with
  | d :: l, e =>
    obtain ⟨x, t, rfl, r1, r2⟩ := r
    refine ⟨x, t, rfl, h1.s.step R r1 e hx fun s1 io1 F1 H1 σ1 l1 R1 e1 hx1 => ?_⟩
    exact h2.s en io1 F1 H1 σ1 s1 l t o Q R1 (reps_le l1 _ _ r2) e1 hx1 fun u s2 e2 io2 F2 H2 σ2 l2 R2 => hq u s2 e2 io2 F2 H2 σ2 (l1.trans l2) R2⟩
theorem dg_tup {k : Nat} {t : TGs} {gs : List D → M Unit} {n : Nat} (hc : X.calm = true) (h : DGs X W es t gs)
    (hn : (assignEach es X.env).length = n := by rfl) (hst : (assignEach es X.env).findIdx? (·.1) = none := by rfl) : DG X W (.Tuple es k pos) (gTup X.K n t) (gT gs n) := ⟨pg_tup hc h.p hn hst, by
  intro en io F H σ s d v o Q R r e hx hq
  match d, e with
  | .tup l, e =>
    obtain ⟨a, xs, rfl, h1, h2⟩ := r
    have e' : (if l.length = n then gs l else fun _ => none) s = some o := e
    by_cases hl : l.length = n
    · rw [if_pos hl] at e'
      exact ⟨a, xs, rfl, R.h.ex.t h1, by rw [reps_len h2]; exact hl, h.s en io F H σ s l xs o Q R h2 e' hx hq⟩
    · rw [if_neg hl] at e'
      cases e'⟩

/-! ### statements -/
def mNx : M Fl := ret .nx
def mSeq (m n : M Fl) : M Fl := bnd m fun f => match f with
  | .nx => n
  | f => ret f
def mAsg (m : M D) (g : D → M Unit) : M Fl := bnd m fun d => bnd (g d) fun _ => ret .nx
def mDrop (m : M D) : M Fl := bnd m fun _ => ret .nx
def mRet (m : M D) : M Fl := bnd m fun d => ret (.rt d)
variable {st : Stmt} {sts : List Stmt} {t u : TS} {m n : M Fl}
theorem SemS.step {β : Type} {en : Ent} {io : List Addr} {F H : Hp} {σ : St} {s : A} {m : M Fl} {k : Fl → M β} {o : O β} {E : Ends} (h : SemS K mg W t m) (R : Rel K en io F H σ s) (e : bnd m k s = some o) (hx : PostX K mg W en io F o)
    (hk : ∀ f s1 io' F' H' σ', Le io F io' F' → Rel K en io' F' H' σ' s1 → k f s1 = some o → PostX K mg W en io' F' o → EndP K io' F' H' σ' E f) : t E σ H := by
  rcases bnd_some e with ⟨a, s', e1, e2⟩ | ⟨x, s', e1, e2⟩
  · exact h en io F H σ s _ E R e1 trivial fun d s2 e3 io' F' H' σ' l R' => by
      cases e3
      exact hk a s' io' F' H' σ' l R' e2 (hx.le _ _ _ l)
  · subst e2
    exact h en io F H σ s _ E R e1 hx fun d s2 e3 => by cases e3
theorem dss_nil : DSs X W [] tNext mNx := ⟨pss_nil, by
  intro en io F H σ s o E R e hx hq
  cases e
  exact hq _ _ rfl io F H σ (Le.refl _ _) R⟩
theorem dss_cons (h1 : DS X W st t m) (h2 : DSs X W sts u n) : DSs X W (st :: sts) (tSeq t u) (mSeq m n) := ⟨pss_cons h1.p h2.p, by
  intro en io F H σ s o E R e hx hq
  refine h1.s.step (E := { E with nx := u E }) R e hx fun f s1 io1 F1 H1 σ1 l1 R1 e1 hx1 => ?_
  cases f with
  | nx => exact h2.s en io1 F1 H1 σ1 s1 o E R1 e1 hx1 fun f s2 e2 io2 F2 H2 σ2 l2 R2 => hq f s2 e2 io2 F2 H2 σ2 (l1.trans l2) R2
  | rt d => cases e1; exact hq _ _ rfl io1 F1 H1 σ1 l1 R1
  | bk => cases e1; exact hq _ _ rfl io1 F1 H1 σ1 l1 R1
  | ct => cases e1; exact hq _ _ rfl io1 F1 H1 σ1 l1 R1⟩
theorem dss_one (h1 : DS X W st t m) : DSs X W [st] t m := ⟨pss_one h1.p, h1.s⟩
theorem ds_pass : DS X W (.Pass pos) tNext mNx := ⟨ps_pass, dss_nil (X := X).s⟩
theorem ds_doc {x j p} : DS X W (.Expr (.Constant (.str x) j p) pos) tNext mNx := ⟨ps_doc, dss_nil (X := X).s⟩
theorem ds_break : DS X W (.Break pos) tBreak (ret .bk) := ⟨ps_break, by
  intro en io F H σ s o E R e hx hq
  cases e
  exact hq _ _ rfl io F H σ (Le.refl _ _) R⟩
theorem ds_continue : DS X W (.Continue pos) tCont (ret .ct) := ⟨ps_continue, by
  intro en io F H σ s o E R e hx hq
  cases e
  exact hq _ _ rfl io F H σ (Le.refl _ _) R⟩
/-- a statement that is never come to -/
def mNo' : M Fl := fun _ => none
theorem ds_never : DS X W st tNever mNo' := ⟨ps_never, by
  intro en io F H σ s o E R e hx hq
  cases e⟩
theorem ds_expr (he : DE X W e te me) (hs : swapsWith e none pos.line X.env = pure false := by rfl) : DS X W (.Expr e pos) (tDrop te) (mDrop me) := ⟨ps_expr he.p hs, by
  intro en io F H σ s o E R e hx hq
  refine he.s.step R e hx fun d s1 v io1 F1 H1 l1 R1 r1 e1 hx1 => ?_
  cases e1
  exact hq _ _ rfl io1 F1 H1 σ l1 R1⟩
theorem ds_ret (he : DE X W e te me) : DS X W (.Return (some e) pos) (tRet te) (mRet me) := ⟨ps_ret he.p, by
  intro en io F H σ s o E R e hx hq
  refine he.s.step R e hx fun d s1 v io1 F1 H1 l1 R1 r1 e1 hx1 => ?_
  cases e1
  exact hq _ _ rfl io1 F1 H1 σ l1 R1 v r1⟩
theorem ds_retN : DS X W (.Return none pos) tRetN (ret (.rt .non)) := ⟨ps_retN, by
  intro en io F H σ s o E R e hx hq
  cases e
  exact hq _ _ rfl io F H σ (Le.refl _ _) R .non rfl⟩
theorem ds_asg {swt : tg = tg} (he : DE X W e te me) (hg : DG X W tg g gm) (hs : swapsWithSole [tg] e pos.line X.env = pure false := by rfl) (hw : swappedStores [tg] e X.env = pure none := by rfl)
    (h1 : (assignEach [tg] X.env).map (·.2) = [assign tg X.env] := by rfl) : DS X W (.Assign [tg] e pos) (tAsg te g) (mAsg me gm) := ⟨ps_asg he.p hg.p hs hw h1, by
  intro en io F H σ s o E R e hx hq
  refine he.s.step R e hx fun d s1 v io1 F1 H1 l1 R1 r1 e1 hx1 => ?_
  refine hg.s.step R1 r1 e1 hx1 fun s2 io2 F2 H2 σ2 l2 R2 e2 hx2 => ?_
  cases e2
  exact hq _ _ rfl io2 F2 H2 σ2 (l1.trans l2) R2⟩
theorem ds_set (i : Nat) {x : Str} {pos' : Pos} (hN : X.N.Nodup) (he : DE X W e te me) (hi : X.N[i]? = some x := by rfl) (hx : Loc X.env.scope x := by first | exact Or.inl rfl | exact Or.inr rfl) (hs : swapsWith e (some (.Name x pos')) pos.line X.env = pure false := by rfl)
    (hf : X.fn x = true ∨ X.env.scope.names.lookup x = some .local := by first | exact .inl rfl | exact .inr rfl | assumption) : DS X W (.Assign [.Name x pos'] e pos) (tAsg te (gName i)) (mAsg me (gV i)) := ⟨ps_set hN hi hx he.p hs hf, by
  intro en io F H σ s o E R e hx hq
  refine he.s.step R e hx fun d s1 v io1 F1 H1 l1 R1 r1 e1 hx1 => ?_
  cases e1
  exact hq _ _ rfl io1 F1 H1 _ l1 (R1.setv r1)⟩
/-- x, y = a, b -/
def mPar (i j : Nat) (m : M (List D)) : M Fl := bnd m fun l => match l with
  | [d, e] => fun s => some (.ok .nx { s with sl := (s.sl.set i (some (.val d))).set j (some (.val e)) })
  | _ => fun _ => none
theorem ds_par (i j : Nat) {x y : Str} {px py pt : Pos} {kt k2 pt2} (hc : X.calm = true) (hN : X.N.Nodup) (ha : DA X W [a, b] tl ml) (hi : X.N[i]? = some x := by rfl) (hj : X.N[j]? = some y := by rfl) (hij : i ≠ j := by decide)
    (hx : X.env.scope.names.lookup x = some .local := by rfl) (hy : X.env.scope.names.lookup y = some .local := by rfl)
    (hw : swappedStores [.Tuple [.Name x px, .Name y py] kt pt] (.Tuple [a, b] k2 pt2) X.env = pure (some [x, y]) := by rfl)
    (hs : swapsWithSole [.Tuple [.Name x px, .Name y py] kt pt] (.Tuple [a, b] k2 pt2) pos.line X.env = pure false := by rfl) :
    DS X W (.Assign [.Tuple [.Name x px, .Name y py] kt pt] (.Tuple [a, b] k2 pt2) pos) (tPar i j tl) (mPar i j ml) := ⟨ps_par hc hN hi hj hij hx hy ha.p hw hs, by
  intro en io F H σ s o E R e hx hq
  refine ha.s.step R e hx fun d s1 v io1 F1 H1 l1 R1 r1 e1 hx1 => ?_
  match d, e1 with
  | [d, d2], e1 =>
    cases e1
    obtain ⟨x1, x2, rfl, r, r'⟩ := reps2 r1
    exact ⟨x1, x2, rfl, hq _ _ rfl io1 F1 H1 _ l1 ((R1.setv r).setv r')⟩⟩
/-- x += e -/
def mAug (i : Nat) (f : D → D → Option D) (m : M D) : M Fl := fun s => match s.sl[i]? with
  | some (some (.val x)) => bnd m (fun y => bnd (lft (f x y)) fun z => bnd (gV i z) fun _ => ret .nx) s
  | _ => none
theorem ip_of {op : Operator} {r : R2} (h : OpR X (inplaceOp op) r) : PIp X op (fun x y H Q => r x y H Q) := fun pins s σ H x y v u Q I rx ry q => h pins s σ H x y v u Q I rx ry q
theorem ds_aug (i : Nat) {x : Str} {op : Operator} {pos' : Pos} {r : R2} {f : D → D → Option D} (hN : X.N.Nodup) (ho : OpOk X (inplaceOp op) r f) (he : DE X W e te me) (hi : X.N[i]? = some x := by rfl) (hx : Loc X.env.scope x := by first | exact Or.inl rfl | exact Or.inr rfl)
    (hf : X.fn x = true ∨ X.env.scope.names.lookup x = some .local := by first | exact .inl rfl | exact .inr rfl | assumption) : DS X W (.AugAssign (.Name x pos') op e pos) (tAug i te (fun x y H Q => r x y H Q)) (mAug i f me) := ⟨ps_aug hN hi hx he.p (ip_of ho.p) hf, by
  intro en io F H σ s o E R e hx hq
  unfold mAug at e
  split at e
  · rename_i d h
    obtain ⟨v, e1, r1⟩ := R.val i d h
    refine ⟨v, e1, he.s.step R e hx fun d2 s1 v2 io1 F1 H1 l1 R1 r2 e2 hx1 => ?_⟩
    rcases bnd_some e2 with ⟨z, s2, g1, g2⟩ | ⟨z, s2, g1, g2⟩
    · obtain ⟨z', g3, g4⟩ := lft_some g1
      cases g4
      refine ho.s en io1 F1 H1 σ s1 v v2 d d2 z _ R1 (rep_le l1 _ _ r1) r2 g3 fun w io2 F2 H2 l2 R2 r3 => ?_
      cases g2
      exact hq _ _ rfl io2 F2 H2 _ (l1.trans l2) (R2.setv r3)
    · obtain ⟨z', g3, g4⟩ := lft_some g1
      cases g4
  · cases e⟩
theorem o_iaddI : OpOk X (inplaceOp .Add) r_addI addI := ⟨iop_add, (o_addI (X := X)).s⟩
theorem o_isubI : OpOk X (inplaceOp .Sub) r_subI subI := ⟨iop_sub, (o_subI (X := X)).s⟩
theorem o_iaddS : OpOk X (inplaceOp .Add) r_addS addS := ⟨iop_add_str, (o_addS (X := X)).s⟩
theorem o_idivI : OpOk X (inplaceOp .FloorDiv) (rI CDiv fun i j => .int (i / j)) (fIc CDiv fun i j => .int (i / j)) := ⟨iop_fdiv, opd_I fun _ _ _ _ => rfl⟩
theorem ds_if (hc : DT X W c tA mA) (ha : DSs X W sts t m) {sts2 : List Stmt} (hb : DSs X W sts2 u n) : DS X W (.If c sts sts2 pos) (tIfS tA t u) (mIf mA m n) := ⟨ps_if hc.p ha.p hb.p, by
  intro en io F H σ s o E R e hx hq
  refine hc.s.step R e hx fun d s1 io1 F1 H1 l1 R1 e1 hx1 => ?_
  cases d with
  | true =>
    rw [if_pos rfl]
    exact ha.s en io1 F1 H1 σ s1 o E R1 e1 hx1 fun f s2 e2 io2 F2 H2 σ2 l2 R2 => hq f s2 e2 io2 F2 H2 σ2 (l1.trans l2) R2
  | false =>
    rw [if_neg Bool.false_ne_true]
    exact hb.s en io1 F1 H1 σ s1 o E R1 e1 hx1 fun f s2 e2 io2 F2 H2 σ2 l2 R2 => hq f s2 e2 io2 F2 H2 σ2 (l1.trans l2) R2⟩

/-! ### for -/
def mForL (g : D → M Unit) (b : M Fl) : List D → M Fl
  | [] => ret .nx
  | d :: l => bnd (g d) fun _ => bnd b fun f => match f with
    | .nx => mForL g b l
    | .ct => mForL g b l
    | .bk => ret .nx
    | .rt d => ret (.rt d)
def mFor (mi : M (List D)) (g : D → M Unit) (b : M Fl) : M Fl := bnd mi fun l => mForL g b l
theorem sem_for {w : TI} {mi : M (List D)} (hi : SemI K mg W w mi) (hg : SemG K mg W g gm) (hb : SemS K mg W t m) : SemS K mg W (tFor w g t) (mFor mi gm m) := by
  intro en io F H σ s o E R e hx hq
  refine hi.step R e hx fun ds s1 J io1 F1 H1 l1 R1 wk e1 hx1 => ?_
  refine ⟨fun i k σ H => k = ds.length - i ∧ i ≤ ds.length ∧ ∃ io' F' s', Le io1 F1 io' F' ∧ Rel K en io' F' H σ s' ∧ mForL gm m (ds.drop i) s' = some o, ⟨_, rfl, Nat.zero_le _, io1, F1, s1, Le.refl _ _, R1, e1⟩, ?_⟩
  rintro i k σ2 H2 ⟨rfl, hil, io2, F2, s2, l2, R2, e2⟩
  have hw := wk i en io2 F2 H2 σ2 s2 l2 R2
  by_cases hlt : i < ds.length
  · obtain ⟨go, yl⟩ := hw.1 ds[i] (List.getElem?_eq_getElem hlt)
    refine .inr ⟨go, fun σ' H' => ∃ io' F' s', Le io1 F1 io' F' ∧ Rel K en io' F' H' σ' s' ∧ mForL gm m (ds.drop (i + 1)) s' = some o, fun σ' H' ⟨a, b, c, d⟩ => ⟨ds.length - (i + 1), by omega, rfl, hlt, a, b, c, d⟩, fun x H3 hy => ?_⟩
    obtain ⟨F3, l3, R3, r3⟩ := yl x H3 hy
    rw [List.drop_eq_getElem_cons hlt] at e2
    have hx3 := hx1.le _ _ _ (l2.trans l3)
    refine hg.step R3 r3 e2 hx3 fun s4 io4 F4 H4 σ4 l4 R4 e4 hx4 => ?_
    refine hb.step (E := { E with nx := _, ct := _, bk := E.nx }) R4 e4 hx4 fun f s5 io5 F5 H5 σ5 l5 R5 e5 hx5 => ?_
    have lt := ((l2.trans l3).trans l4).trans l5
    cases f with
    | nx => exact ⟨io5, F5, s5, lt, R5, e5⟩
    | ct => exact ⟨io5, F5, s5, lt, R5, e5⟩
    | bk => cases e5; exact hq _ _ rfl io5 F5 H5 σ5 (l1.trans lt) R5
    | rt d => cases e5; exact hq _ _ rfl io5 F5 H5 σ5 (l1.trans lt) R5
  · have hi' : i = ds.length := by omega
    rw [hi', List.drop_length] at e2
    cases e2
    exact .inl ⟨hw.2 hi', hq _ _ rfl io2 F2 H2 σ2 (l1.trans l2) R2⟩
theorem ds_for {w : TI} {mi : M (List D)} (hp : PassesOwn (model X.prog X.w) X.A X.env X.xe) (hc : X.calm = true) (hi : DI X W tg e w mi) (hg : DG X W tg g gm) (hb : DSs X W sts t m)
    (hs : ∀ x, foldedSetIterable e X.env x = pure x := by intro _; rfl) : DS X W (.For tg e sts [] pos) (tFor w g t) (mFor mi gm m) := ⟨ps_for hp hc hi.p hg.p hb.p hs, sem_for hi.s hg.s hb.s⟩

/-! ### while -/
def whileN (c : M Bool) (b : M Fl) : Nat → M Fl
  | 0 => fun _ => none
  | n + 1 => bnd c fun k => if k = true then bnd b fun f => match f with
      | .nx => whileN c b n
      | .ct => whileN c b n
      | .bk => ret .nx
      | .rt d => ret (.rt d)
    else ret .nx
noncomputable def mWhile (c : M Bool) (b : M Fl) : M Fl := fun s => if h : ∃ (n : Nat) (o : O Fl), whileN c b n s = some o then whileN c b (choose h) s else none
theorem whileN_mono {c : M Bool} {b : M Fl} : ∀ {n k : Nat} {s : A} {o : O Fl}, whileN c b n s = some o → whileN c b (n + k) s = some o
  | 0, k, s, o, h => by cases h
  | n + 1, k, s, o, h => by
    rw [Nat.add_right_comm]
    unfold whileN at h ⊢
    rcases bnd_some h with ⟨a, s', e1, e2⟩ | ⟨x, s', e1, e2⟩
    · unfold bnd
      rw [e1]
      cases a with
      | false => exact e2
      | true =>
        have e2' : bnd b (fun f => match f with | .nx => whileN c b n | .ct => whileN c b n | .bk => ret .nx | .rt d => ret (.rt d)) s' = some o := e2
        show bnd b (fun f => match f with | .nx => whileN c b (n + k) | .ct => whileN c b (n + k) | .bk => ret .nx | .rt d => ret (.rt d)) s' = some o
        rcases bnd_some e2' with ⟨f, s2, g1, g2⟩ | ⟨x, s2, g1, g2⟩
        · unfold bnd
          rw [g1]
          cases f with
          | nx => exact whileN_mono g2
          | ct => exact whileN_mono g2
          | bk => exact g2
          | rt d => exact g2
        · unfold bnd
          rw [g1]
          exact congrArg some g2.symm
    · unfold bnd
      rw [e1]
      exact congrArg some e2.symm
theorem while_of {c : M Bool} {b : M Fl} {n : Nat} {s : A} {o : O Fl} (h : whileN c b n s = some o) : mWhile c b s = some o := by
  have hh : ∃ (n : Nat) (o : O Fl), whileN c b n s = some o := ⟨n, o, h⟩
  unfold mWhile
  rw [dif_pos hh]
  obtain ⟨o', h'⟩ := choose_spec hh
  have h1 := whileN_mono (k := choose hh) h
  have h2 := whileN_mono (k := n) h'
  rw [Nat.add_comm, h1] at h2
  rw [h', h2]
theorem of_while {c : M Bool} {b : M Fl} {s : A} {o : O Fl} (h : mWhile c b s = some o) : ∃ n, whileN c b n s = some o := by
  unfold mWhile at h
  split at h
  · exact ⟨_, h⟩
  · cases h
theorem sem_while (hc : SemT K mg W tA mA) (hb : SemS K mg W t m) : SemS K mg W (tWhile tA t) (mWhile mA m) := by
  intro en io F H σ s o E R e hx hq
  obtain ⟨n, e⟩ := of_while e
  refine ⟨fun k σ H => ∃ io' F' s', Le io F io' F' ∧ Rel K en io' F' H σ s' ∧ whileN mA m k s' = some o, ⟨n, io, F, s, Le.refl _ _, R, e⟩, ?_⟩
  rintro k σ1 H1 ⟨io1, F1, s1, l1, R1, e1⟩
  cases k with
  | zero => cases e1
  | succ k =>
    refine hc.step R1 e1 (hx.le _ _ _ l1) fun d s2 io2 F2 H2 l2 R2 e2 hx2 => ?_
    cases d with
    | false =>
      rw [if_neg Bool.false_ne_true]
      cases e2
      exact hq _ _ rfl io2 F2 H2 σ1 (l1.trans l2) R2
    | true =>
      rw [if_pos rfl]
      refine ⟨fun σ' H' => ∃ io' F' s', Le io F io' F' ∧ Rel K en io' F' H' σ' s' ∧ whileN mA m k s' = some o, fun σ' H' h => ⟨k, Nat.lt_succ_self k, h⟩, ?_⟩
      have e2' : bnd m (fun f => match f with | .nx => whileN mA m k | .ct => whileN mA m k | .bk => ret .nx | .rt d => ret (.rt d)) s2 = some o := e2
      refine hb.step (E := { E with nx := _, ct := _, bk := E.nx }) R2 e2' hx2 fun f s5 io5 F5 H5 σ5 l5 R5 e5 hx5 => ?_
      have lt := (l1.trans l2).trans l5
      cases f with
      | nx => exact ⟨io5, F5, s5, lt, R5, e5⟩
      | ct => exact ⟨io5, F5, s5, lt, R5, e5⟩
      | bk => cases e5; exact hq _ _ rfl io5 F5 H5 σ5 lt R5
      | rt d => cases e5; exact hq _ _ rfl io5 F5 H5 σ5 lt R5
theorem ds_while (hp : PassesOwn (model X.prog X.w) X.A X.env X.xe) (hc : DT X W c tA mA) (hb : DSs X W sts t m) : DS X W (.While c sts [] pos) (tWhile tA t) (mWhile mA m) := ⟨ps_while hp hc.p hb.p, sem_while hc.s hb.s⟩
end

/-! ### a def -/
def entA (N : Nat) (ds : List D) (hp : List AO) : A := ⟨ds.map (fun d => some (.val d)) ++ List.replicate (N - ds.length) none, hp⟩
def fnOf (N : Nat) (m : M Fl) : Fn := fun ds hp => match m (entA N ds hp) with
  | some (.ok .nx s) => some (.ok .non s.hp)
  | some (.ok (.rt d) s) => some (.ok d s.hp)
  | some (.ex e s) => some (.ex e s.hp)
  | _ => none
section
variable {K : PySem.W.Frag} {P : Program} {w : World} {mg : Str → Option Value} {base : Heap}
theorem Rel.start {io : List Addr} {F H : Hp} {hp : List AO} {N : List Str} {ds : List D} {vs : List V} (h : HRel K io F H hp) (r : reps K io F ds vs) : Rel K ⟨H, F, io⟩ io F H (start N vs) (entA N.length ds hp) := by
  have noown : ∀ (i : Nat) o, (entA N.length ds hp).sl[i]? = some (some (.own o)) → False := fun i o e => by
    unfold entA at e
    by_cases hl : i < ds.length
    · rw [List.getElem?_append_left (by rw [List.length_map]; exact hl), List.getElem?_map] at e
      obtain ⟨d, _, h2⟩ := Option.map_eq_some_iff.mp e
      cases h2
    · rw [List.getElem?_append_right (by rw [List.length_map]; omega)] at e
      have := List.mem_of_getElem? e
      cases (List.mem_replicate.mp this).2
  refine ⟨h, ⟨fun _ _ e => e, fun i a e (hl : io.length ≤ i) => absurd (List.getElem?_eq_some_iff.mp e).1 (by omega), fun _ _ e _ => e, fun _ e => e, fun _ _ => rfl, Ex.refl F⟩, ?_, fun i d e => ?_, fun i o e => (noown i o e).elim, fun i j o o' p e => (noown i o e).elim⟩
  · unfold entA L2.start
    simp [reps_len r]
  · unfold entA at e
    by_cases hl : i < ds.length
    · rw [List.getElem?_append_left (by rw [List.length_map]; exact hl), List.getElem?_map] at e
      obtain ⟨d', h1, h2⟩ := Option.map_eq_some_iff.mp e
      cases h2
      obtain ⟨x, hx, rx⟩ := reps_get r h1
      refine ⟨x, ?_, rx⟩
      unfold L2.start
      rw [List.getElem?_append_left (by rw [List.length_map, reps_len r]; exact hl), List.getElem?_map, hx]
      rfl
    · rw [List.getElem?_append_right (by rw [List.length_map]; omega)] at e
      have := List.mem_of_getElem? e
      cases (List.mem_replicate.mp this).2
theorem Rel.stpd {io io' : List Addr} {F F' H H' : Hp} {σ : St} {s : A} (R : Rel K ⟨H, F, io⟩ io' F' H' σ s) : Stp K io F H io' F' H' s.hp :=
  ⟨R.h, ⟨R.k.pre, R.k.ex⟩, R.k.grow, R.k.frm, R.k.liv, R.k.new⟩
/-- a def by its body, where no repr is under way -/
theorem fnG_of {x qual : Str} {st : Stmt} {f : Addr} {fd : FuncData} {N ps : List Str} {k : Nat} {sp : Sp} (Fk : Fun K x qual st f fd) (S : FnScope N ps (defScope st)) (len : ∀ vs H Q E, sp vs H Q E → vs.length = ps.length)
    (hbody : ∀ (cdv : Value) (A : Around) (outer : List Env) (s : Shared) (H : Hp) (vs : List V) (Q : VK) (E : XK), RoomG k (A.deeper (PyProof.Rows.envOfC qual (defScope st) s.heap.objs.size f cdv)) → sp vs H Q E →
      ∃ t, PSs (cxOf (L2.CX P w) P w K mg base N qual (defScope st) f cdv A outer s H E) (defBody st) t ∧ t { nx := fun _ H' => Q .non H', rt := Q } (L2.start N vs) H) : FnG P w K mg base (k + 1) f fd ps sp := by
  obtain ⟨oc, od, kV, doc, pm, an, cdv, ct, osl, rfl, lk, hcd⟩ := Fk.ex
  refine ⟨len, fun A outer s H args us vs Q E hr e0 hb r hsp => ?_⟩
  have hl := len _ _ _ _ hsp
  have KX : K.In s.heap := e0.mod.kin.keeps fun b o e => (e0.bs b o e).1
  have lim : s.heap.NoLimit := e0.mod.nolimit.keeps fun b o e => (e0.bs b o e).1
  have hkind : ∀ y ∈ ps.zip us, (defScope st).names.lookup y.1 = some .local ∨ ((defScope st).names.lookup y.1 = some .cell ∧ ((PySem.cellsFrom (s.heap.objs.size + 1) (defScope st).names []).lookup y.1).isSome = true) := fun ⟨n, v⟩ hy => by
    rcases S.par n (List.of_mem_zip hy).1 with q | q
    · exact .inl q
    · exact .inr ⟨q, PySem.W.cellsFrom_some _ _ _ (.inl q)⟩
  refine PySem.codeAny_call_function hr.r.depth (KX _ _ lk) rfl S.co S.gen rfl (PySem.W.codeRec_of KX hcd) (hb _ _ _ _ ?_)
  refine wpAny_newFunctionEnv_cells S.kind hkind fun env he s1 x => ?_
  subst he
  refine ⟨lim.keeps x.toInCall.keep, codeAny_func ?_⟩
  obtain ⟨t, ht, hq⟩ := hbody cdv A outer s H vs Q E ⟨hr.r.deeper _, hr.g⟩ hsp
  have I : Inv (cxOf (L2.CX P w) P w K mg base N qual (defScope st) f cdv A outer s H E) [] (L2.start N vs) H s1 := inv_start S hr.r.hd e0 hl r x
  refine wpAny_mono (ht.run [] s1 (L2.start N vs) H _ I hq) (fun fl s' hs => ?_) fun e s' hs => hs
  have fin : ∀ {σ' : St} {H' : Hp} {v : V} {u : Value}, Inv (cxOf (L2.CX P w) P w K mg base N qual (defScope st) f cdv A outer s H E) [] σ' H' s' → RelV v u → Q v H' → CE outer P w H s Q u s' :=
    fun {σ' H' v u} J rv q => ⟨v, H', J.os, J.bare, J.base, J.hok, rv, q⟩
  cases fl with
  | ret u =>
    obtain ⟨v, σ', H', J, rv, q⟩ := hs
    exact fin J rv q
  | next =>
    obtain ⟨σ', H', J, q⟩ := hs
    exact fin (v := V.non) (u := Value.none) J rfl q
  | brk =>
    obtain ⟨_, _, _, q⟩ := hs
    exact False.elim q
  | cont =>
    obtain ⟨_, _, _, q⟩ := hs
    exact False.elim q
/-- THE RULE for a def -/
theorem okD {x qual : Str} {st : Stmt} {f : Addr} {fd : FuncData} {N ps : List Str} {k : Nat} {m : M Fl} (Fk : Fun K x qual st f fd) (S : FnScope N ps (defScope st))
    (hb : ∀ (cdv : Value) (A : Around) (outer : List Env) (s : Shared) (H : Hp) (E : XK), RoomG k (A.deeper (PyProof.Rows.envOfC qual (defScope st) s.heap.objs.size f cdv)) →
      ∃ t, DSs (cxOf (L2.CX P w) P w K mg base N qual (defScope st) f cdv A outer s H E) (fun c d _ H => E c d H) (defBody st) t m) :
    FnG P w K mg base (k + 1) f fd ps (spD K mg ps.length (fnOf N.length m)) := by
  refine fnG_of Fk S (fun vs H Q E h => ?_) (fun cdv A outer s H vs Q E hr h => ?_)
  · obtain ⟨io, F, ds, hp, r, h1, h2, h3, _⟩ := h
    rw [reps_len h2]
    exact h3
  · obtain ⟨t, hd⟩ := hb cdv A outer s H E hr
    obtain ⟨io, F, ds, hp, r, h1, h2, h3, h4, h5⟩ := h
    refine ⟨t, hd.p, ?_⟩
    have R0 := Rel.start (N := N) h1 h2
    unfold fnOf at h4
    split at h4
    · rename_i s1 e
      cases h4
      exact hd.s _ io F H _ _ _ _ R0 e trivial fun f s2 e2 io2 F2 H2 σ2 l2 R2 => by
        cases e2
        exact h5 .non io2 F2 H2 R2.stpd rfl
    · rename_i d s1 e
      cases h4
      exact hd.s _ io F H _ _ _ _ R0 e trivial fun f s2 e2 io2 F2 H2 σ2 l2 R2 => by
        cases e2
        exact fun v rv => h5 v io2 F2 H2 R2.stpd rv
    · rename_i x s1 e
      cases h4
      exact hd.s _ io F H _ _ _ _ R0 e (fun cls dd io2 F2 H2 σ2 l2 R2 xr => h5 cls dd io2 F2 H2 R2.stpd xr) fun f s2 e2 => by cases e2
    · cases h4
theorem okD_imp {f : Addr} {fd : FuncData} {ps : List Str} {k np : Nat} {n n' : Fn} (Fk : FnG P w K mg base k f fd ps (spD K mg np n)) (h : ∀ ds hp r, ds.length = np → n' ds hp = some r → n ds hp = some r) :
    FnG P w K mg base k f fd ps (spD K mg np n') := Fk.imp (spD_imp h)
end
end Z
/-! Z6: comprehensions; lists that a slot alone knows -/
namespace Z
open PySem L2
open Classical

/-! ### an object beside the relation -/
section
variable {K : PySem.W.Frag} {en : Ent} {io io' : List Addr} {F F' H H' : Hp} {σ : St} {s : A} {p : Addr}
abbrev Ent.wi (en : Ent) (p : Addr) (o : HO) : Ent := ⟨upd en.H p o, en.F, en.io⟩
theorem Rel.enH (R : Rel K en io F H σ s) (h : H p = none) : en.H p = none := by
  cases q : en.H p with
  | none => rfl
  | some u => exact absurd h (R.k.liv p (by rw [q]; exact fun z => nomatch z))
theorem Rel.notio (R : Rel K en io F H σ s) (h : H p = none) : p ∉ io := fun hm => by
  obtain ⟨j, o', _, _, c'⟩ := R.h.mem hm
  exact c'.live h
theorem Rel.sideNew (R : Rel K en io F H σ s) (hp : H p = none) (o : HO) : Rel K (en.wi p o) io F (upd H p o) σ s := by
  have R1 := R.junk hp o
  have e0 := R.enH hp
  have hn := R.notio hp
  have hF := R.h.ex.none_of hp
  refine ⟨R1.h, ⟨R1.k.pre, fun i a e hl => ?_, fun b u e hb => ?_, fun b hb => ?_, fun b hb => ?_, R1.k.ex⟩, R1.len, R1.val, fun i u e => ?_, R1.sep⟩
  · have : a ≠ p := fun z => by
      subst z
      exact hn (List.mem_of_getElem? e)
    show upd en.H p o a = none
    rw [upd_ne this]
    exact R1.k.new i a e hl
  · by_cases z : b = p
    · subst z
      have e' : upd en.H b o b = some u := e
      rw [upd_same] at e'
      cases e'
      exact upd_same
    · have e' : upd en.H p o b = some u := e
      rw [upd_ne z] at e'
      exact R1.k.frm b u e' hb
  · by_cases z : b = p
    · subst z
      rw [upd_same]
      exact fun z => nomatch z
    · have hb' : upd en.H p o b ≠ none := hb
      rw [upd_ne z] at hb'
      exact R1.k.liv b hb'
  · by_cases z : b = p
    · subst z
      show F b = en.F b
      rw [hF, R.k.ex.none_of hF]
    · have hb' : upd en.H p o b ≠ none := hb
      rw [upd_ne z] at hb'
      exact R1.k.grow b hb'
  · obtain ⟨q, e1, c, h1, h2⟩ := R1.own i u e
    refine ⟨q, e1, c, h1, ?_⟩
    have : q ≠ p := fun z => by
      subst z
      obtain ⟨q', e1', c', _, _⟩ := R.own i u e
      rw [e1] at e1'
      cases e1'
      exact c'.live hp
    show upd en.H p o q = none
    rw [upd_ne this]
    exact h2
theorem Rel.sideAt {o : HO} (R : Rel K (en.wi p o) io F H σ s) (hio : p ∉ en.io) : H p = some o := R.k.frm p o upd_same hio
theorem Rel.sideio {o : HO} (R : Rel K (en.wi p o) io F H σ s) (hio : p ∉ en.io) : p ∉ io := fun hm => by
  obtain ⟨i, hi⟩ := List.getElem?_of_mem hm
  by_cases hl : en.io.length ≤ i
  · have := R.k.new i p hi hl
    have e' : upd en.H p o p = none := this
    rw [upd_same] at e'
    cases e'
  · have hl' : i < en.io.length := by omega
    have e2 := R.k.pre i en.io[i] (List.getElem?_eq_getElem hl')
    rw [hi] at e2
    cases e2
    exact hio (List.getElem_mem hl')
theorem Rel.sideF {o : HO} (R : Rel K (en.wi p o) io F H σ s) (hF : en.F p = none) : F p = none := by
  have := R.k.grow p (by show upd en.H p o p ≠ none; rw [upd_same]; exact fun z => nomatch z)
  exact this.trans hF
theorem Rel.sideOwn {o : HO} (R : Rel K (en.wi p o) io F H σ s) {i : Nat} {u : AO} {q : Addr} (e : s.sl[i]? = some (some (.own u))) (e1 : σ[i]? = some (some (.ref q))) : q ≠ p := fun z => by
  subst z
  obtain ⟨q', e1', c', _, h⟩ := R.own i u e
  rw [e1] at e1'
  cases e1'
  have h' : upd en.H q o q = none := h
  rw [upd_same] at h'
  cases h'
theorem Rel.sideChg {o : HO} (R : Rel K (en.wi p o) io F H σ s) (hio : p ∉ en.io) (hF : en.F p = none) (o' : HO) : Rel K (en.wi p o') io F (upd H p o') σ s := by
  have pio := R.sideio hio
  have pF := R.sideF hF
  refine ⟨⟨fun b u e => ?_, R.h.len, R.h.nd, fun j b u h1 h2 => ?_⟩, ⟨R.k.pre, fun i a e hl => ?_, fun b u e hb => ?_, fun b hb => ?_, fun b hb => ?_, R.k.ex⟩, R.len, R.val, fun i u e => ?_, R.sep⟩
  · rw [upd_ne (fun z => by subst z; rw [pF] at e; cases e)]
    exact R.h.ex b u e
  · have hb : b ≠ p := fun z => by
      subst z
      exact pio (List.mem_of_getElem? h1)
    exact (R.h.ids j b u h1 h2).le (Le.refl io F) id fun w hw => by rw [upd_ne hb]; exact hw
  · have : a ≠ p := fun z => by
      subst z
      exact pio (List.mem_of_getElem? e)
    have h := R.k.new i a e hl
    have h' : upd en.H p o a = none := h
    rw [upd_ne this] at h'
    show upd en.H p o' a = none
    rw [upd_ne this]
    exact h'
  · by_cases z : b = p
    · subst z
      have e' : upd en.H b o' b = some u := e
      rw [upd_same] at e' ⊢
      exact e'
    · have e' : upd en.H p o' b = some u := e
      rw [upd_ne z] at e' ⊢
      exact R.k.frm b u (by show upd en.H p o b = some u; rw [upd_ne z]; exact e') hb
  · by_cases z : b = p
    · subst z
      rw [upd_same]
      exact fun z => nomatch z
    · have e' : upd en.H p o' b ≠ none := hb
      rw [upd_ne z] at e' ⊢
      exact R.k.liv b (by show upd en.H p o b ≠ none; rw [upd_ne z]; exact e')
  · by_cases z : b = p
    · subst z
      rw [pF]
      exact hF.symm
    · have e' : upd en.H p o' b ≠ none := hb
      rw [upd_ne z] at e'
      exact R.k.grow b (by show upd en.H p o b ≠ none; rw [upd_ne z]; exact e')
  · obtain ⟨q, e1, c, h1, h2⟩ := R.own i u e
    have hq := R.sideOwn e e1
    have h2' : upd en.H p o q = none := h2
    rw [upd_ne hq] at h2'
    refine ⟨q, e1, c.le (Le.refl io F) id fun w hw => by rw [upd_ne hq]; exact hw, h1, ?_⟩
    show upd en.H p o' q = none
    rw [upd_ne hq]
    exact h2'
theorem Rel.sideEnd {xs : List V} {ds : List D} (R : Rel K (en.wi p (.lst xs)) io F H σ s) (hio : p ∉ en.io) (hF : en.F p = none) (hH : en.H p = none) (r : reps K io F ds xs) :
    Rel K en io (upd F p (.lst xs)) H σ s ∧ Le io F io (upd F p (.lst xs)) ∧ rep K io (upd F p (.lst xs)) (.lst ds) (.ref p) := by
  have pio := R.sideio hio
  have pF := R.sideF hF
  have l : Le io F io (upd F p (.lst xs)) := ⟨fun _ _ h => h, Ex.new pF⟩
  refine ⟨⟨⟨fun b u e => ?_, R.h.len, R.h.nd, fun j b u h1 h2 => ?_⟩, ⟨R.k.pre, fun i a e hl => ?_, fun b u e hb => ?_, fun b hb => ?_, fun b hb => ?_, R.k.ex.trans l.ex⟩, R.len, fun i d e => ?_, fun i u e => ?_, R.sep⟩, l, ⟨p, xs, rfl, upd_same, reps_le l _ _ r⟩⟩
  · by_cases z : b = p
    · subst z
      rw [upd_same] at e
      cases e
      exact R.sideAt hio
    · rw [upd_ne z] at e
      exact R.h.ex b u e
  · have hb : b ≠ p := fun z => by
      subst z
      exact pio (List.mem_of_getElem? h1)
    exact (R.h.ids j b u h1 h2).le l (fun z => by rw [upd_ne hb]; exact z) fun w hw => hw
  · have h := R.k.new i a e hl
    have : a ≠ p := fun z => by
      subst z
      exact pio (List.mem_of_getElem? e)
    have h' : upd en.H p (.lst xs) a = none := h
    rw [upd_ne this] at h'
    exact h'
  · have : b ≠ p := fun z => by
      subst z
      rw [hH] at e
      cases e
    exact R.k.frm b u (by show upd en.H p (.lst xs) b = some u; rw [upd_ne this]; exact e) hb
  · have : b ≠ p := fun z => by
      subst z
      exact hb hH
    exact R.k.liv b (by show upd en.H p (.lst xs) b ≠ none; rw [upd_ne this]; exact hb)
  · have : b ≠ p := fun z => by
      subst z
      exact hb hH
    rw [upd_ne this]
    exact R.k.grow b (by show upd en.H p (.lst xs) b ≠ none; rw [upd_ne this]; exact hb)
  · obtain ⟨v, e1, r1⟩ := R.val i d e
    exact ⟨v, e1, rep_le l _ _ r1⟩
  · obtain ⟨q, e1, c, h1, h2⟩ := R.own i u e
    have hq := R.sideOwn e e1
    have h2' : upd en.H p (.lst xs) q = none := h2
    rw [upd_ne hq] at h2'
    exact ⟨q, e1, c.le l (fun z => by rw [upd_ne hq]; exact z) fun w hw => hw, h1, h2'⟩
end

/-! ### comprehensions -/
def wipeL (l : List (Option SV)) : List Nat → List (Option SV)
  | [] => l
  | v :: vs => (wipeL l vs).set v none
def wipeA (s : A) (vs : List Nat) : A := { s with sl := wipeL s.sl vs }
theorem Rel.wipe {K : PySem.W.Frag} {en : Ent} {io : List Addr} {F H : Hp} {σ : St} {s : A} (R : Rel K en io F H σ s) : ∀ vs : List Nat, Rel K en io F H (L2.wipe σ vs) (wipeA s vs)
  | [] => R
  | v :: vs => (R.wipe vs).forget none
theorem wipeL_none {l : List (Option SV)} {i : Nat} {x : SV} : ∀ {vs : List Nat}, (wipeL l vs)[i]? = some (some x) → l[i]? = some (some x) ∧ i ∉ vs
  | [], h => ⟨h, by simp⟩
  | v :: vs, h => by
    unfold wipeL at h
    by_cases hi : v = i
    · subst hi
      have hl := (List.getElem?_eq_some_iff.mp h).1
      rw [List.length_set] at hl
      rw [List.getElem?_set_self hl] at h
      cases h
    · rw [List.getElem?_set_ne hi] at h
      obtain ⟨a, b⟩ := wipeL_none h
      exact ⟨a, by simp [b, Ne.symm hi]⟩
theorem wipe_get {σ : St} {i : Nat} : ∀ {vs : List Nat}, i ∉ vs → (L2.wipe σ vs)[i]? = σ[i]?
  | [], _ => rfl
  | v :: vs, h => by
    have h1 : i ≠ v := fun z => h (by simp [z])
    have h2 : i ∉ vs := fun z => h (by simp [z])
    unfold L2.wipe
    rw [List.getElem?_set_ne (Ne.symm h1)]
    exact wipe_get h2
/-- back to the slots ahead of the wiping -/
theorem Rel.unwipe {K : PySem.W.Frag} {en : Ent} {io : List Addr} {F H : Hp} {σ : St} {s : A} {vs : List Nat} (R : Rel K en io F H (L2.wipe σ vs) s) (h : ∀ (i : Nat) x, s.sl[i]? = some (some x) → i ∉ vs) : Rel K en io F H σ s := by
  refine ⟨R.h, R.k, by rw [R.len, wipe_length], fun i d e => ?_, fun i o e => ?_, fun i j o o' p h1 h2 e1 e2 => ?_⟩
  · obtain ⟨v, e1, r⟩ := R.val i d e
    rw [wipe_get (h i _ e)] at e1
    exact ⟨v, e1, r⟩
  · obtain ⟨v, e1, r⟩ := R.own i o e
    rw [wipe_get (h i _ e)] at e1
    exact ⟨v, e1, r⟩
  · exact R.sep i j o o' p h1 h2 (by rw [wipe_get (h i _ h1)]; exact e1) (by rw [wipe_get (h j _ h2)]; exact e2)
/-- no exception -/
def bndN {α β : Type} (m : M α) (k : α → M β) : M β := fun s => match m s with
  | some (.ok a s') => k a s'
  | _ => none
theorem bndN_some {α β : Type} {m : M α} {k : α → M β} {s : A} {o : O β} (e : bndN m k s = some o) : ∃ a s', m s = some (.ok a s') ∧ k a s' = some o := by
  unfold bndN at e
  split at e
  · exact ⟨_, _, by assumption, e⟩
  · cases e
abbrev W0 : WX := fun _ _ _ _ => False
/-- the target stores the block's own names alone -/
def GKeep (g : TG) (vs : List Nat) : Prop := ∀ v σ H Q, g v σ H Q → g v σ H (fun σ' H' => L2.wipe σ' vs = L2.wipe σ vs ∧ Q σ' H')
def GKeeps (g : TGs) (vs : List Nat) : Prop := ∀ v σ H Q, g v σ H Q → g v σ H (fun σ' H' => L2.wipe σ' vs = L2.wipe σ vs ∧ Q σ' H')
theorem wipe_set {σ : St} {i : Nat} {x : Option V} : ∀ {vs : List Nat}, i ∈ vs → L2.wipe (σ.set i x) vs = L2.wipe σ vs
  | v :: vs, h => by
    unfold L2.wipe
    by_cases hi : i ∈ vs
    · rw [wipe_set hi]
    · have hv : i = v := by simpa [hi] using h
      subst hv
      have : ∀ (us : List Nat) (τ : St), i ∉ us → L2.wipe (τ.set i x) us = (L2.wipe τ us).set i x := fun us => by
        induction us with
        | nil => intro τ _; rfl
        | cons u us ih =>
          intro τ hu
          have h1 : i ≠ u := fun z => hu (by simp [z])
          have h2 : i ∉ us := fun z => hu (by simp [z])
          unfold L2.wipe
          rw [ih τ h2, List.set_comm _ _ h1]
      rw [this vs σ hi, List.set_set]
theorem gk_name {i : Nat} {vs : List Nat} (h : i ∈ vs) : GKeep (gName i) vs := fun v σ H Q q => ⟨wipe_set h, q⟩
theorem gk_nil {vs : List Nat} : GKeeps gNil vs := fun v σ H Q q => ⟨q.1, rfl, q.2⟩
theorem gk_mono {g : TG} {vs : List Nat} (h : GKeep g vs) : GKeep g vs := h
theorem gk_cons {i : Nat} {u : TGs} {vs : List Nat} (h : i ∈ vs) (h2 : GKeeps u vs) : GKeeps (gCons (gName i) u) vs := fun v σ H Q q => by
  obtain ⟨x, r, e, q⟩ := q
  refine ⟨x, r, e, ?_⟩
  have q' := h2 r (σ.set i (some x)) H Q q
  rw [wipe_set h] at q'
  exact q'
theorem gk_tup {K : PySem.W.Frag} {n : Nat} {u : TGs} {vs : List Nat} (h : GKeeps u vs) : GKeep (gTup K n u) vs := fun v σ H Q q => by
  obtain ⟨a, xs, e, h1, h2, q⟩ := q
  exact ⟨a, xs, e, h1, h2, h xs σ H Q q⟩
structure DTs (X : Cx) (W : WX) (ifs : List Expr) (t : TT) (m : M Bool) : Prop where
  p : PTs X ifs t
  s : SemT X.K X.mg W t m
noncomputable def mLcL (g : D → M Unit) (tt : M Bool) (me : M D) (vs : List Nat) : List D → List D → M D
  | [], acc => fun s => some (.ok (.lst acc) s)
  | d :: l, acc => bndN (g d) fun _ => bndN tt fun b => if b = true then bndN me fun y s' => if acc.length < sizeLine then mLcL g tt me vs l (acc ++ [y]) (wipeA s' vs) else none
      else fun s' => mLcL g tt me vs l acc (wipeA s' vs)
noncomputable def mLc (mi : M (List D)) (g : D → M Unit) (tt : M Bool) (me : M D) (vs : List Nat) : M D := bnd mi fun ds s => mLcL g tt me vs ds [] (wipeA s vs)
section
variable {X : Cx} {W : WX} {pos : Pos} {K : PySem.W.Frag} {mg : Str → Option Value} {tg a b c e elt iter : Expr} {es ifs : List Expr} {ta tb tc te : TE} {ma mb mc me : M D} {tA tB' : TT} {mA mB : M Bool} {tl : TA} {ml : M (List D)} {g : TG} {gm : D → M Unit} {w : TI} {mi : M (List D)} {vs : List Nat}
theorem sem_lc (hi : SemI K mg W w mi) (hg : SemG K mg W0 g gm) (hk : GKeep g vs) (ht : SemT K mg W0 tA mA) (he : SemE K mg W0 te me) : SemE K mg W (tLc w g tA te vs) (mLc mi gm mA me vs) := by
  intro en io F H σ s o Q R e hx hq
  refine hi.step R e hx fun ds s1 J io1 F1 H1 l1 R1 wk e1 hx1 => ?_
  intro Dd hD
  have e0 := R1.enH hD
  have eF : en.F Dd = none := R1.k.ex.none_of (R1.h.ex.none_of hD)
  have eio : Dd ∉ en.io := fun hm => by
    obtain ⟨i, hi⟩ := List.getElem?_of_mem hm
    exact R1.notio hD (List.mem_of_getElem? (R1.k.pre i Dd hi))
  refine ⟨fun i k H => k = ds.length - i ∧ i ≤ ds.length ∧ ∃ io' F' s' acc dn, Le io1 F1 io' F' ∧ Rel K (en.wi Dd (.lst acc)) io' F' H (L2.wipe σ vs) s' ∧ reps K io' F' dn acc ∧ mLcL gm mA me vs (ds.drop i) dn s' = some o ∧ ∀ (j : Nat) x, s'.sl[j]? = some (some x) → j ∉ vs,
    ⟨_, rfl, Nat.zero_le _, io1, F1, _, [], [], Le.refl _ _, (R1.wipe vs).sideNew hD _, rfl, e1, fun j x h => (wipeL_none h).2⟩, ?_⟩
  rintro i k H2 ⟨rfl, hil, io2, F2, s2, acc, dn, l2, R2, ra, e2, hv⟩
  have hw := wk i _ io2 F2 H2 _ s2 l2 R2
  by_cases hlt : i < ds.length
  · obtain ⟨go, yl⟩ := hw.1 ds[i] (List.getElem?_eq_getElem hlt)
    refine .inr ⟨go, fun H' => ∃ io' F' s' acc dn, Le io1 F1 io' F' ∧ Rel K (en.wi Dd (.lst acc)) io' F' H' (L2.wipe σ vs) s' ∧ reps K io' F' dn acc ∧ mLcL gm mA me vs (ds.drop (i + 1)) dn s' = some o ∧ ∀ (j : Nat) x, s'.sl[j]? = some (some x) → j ∉ vs,
      fun H' h => ⟨ds.length - (i + 1), by omega, rfl, hlt, h⟩, fun x H3 hy => ?_⟩
    obtain ⟨F3, l3, R3, r3⟩ := yl x H3 hy
    rw [List.drop_eq_getElem_cons hlt] at e2
    obtain ⟨u, s4, g1, g2⟩ := bndN_some e2
    have hw2 : L2.wipe (L2.wipe σ vs) vs = L2.wipe σ vs := by
      have : ∀ (us : List Nat) (τ : St), (∀ v ∈ us, v ∈ vs) → L2.wipe (L2.wipe τ us) vs = L2.wipe τ vs := fun us => by
        induction us with
        | nil => intro τ _; rfl
        | cons u us ih =>
          intro τ h
          show L2.wipe ((L2.wipe τ us).set u none) vs = _
          rw [wipe_set (h u (by simp)), ih τ fun v hv => h v (by simp [hv])]
      exact this vs σ fun v h => h
    have step := hg _ io2 F3 H3 _ s2 _ x _ (fun σ2 H4 => L2.wipe σ2 vs = L2.wipe σ vs → tA σ2 H4 fun b H5 => if b = true then te σ2 H5 fun y H6 => ∃ acc, H6 Dd = some (.lst acc) ∧ acc.length < sizeLine ∧ ∃ io' F' s' acc' dn, Le io1 F1 io' F' ∧ Rel K (en.wi Dd (.lst acc')) io' F' (upd H6 Dd (.lst (acc ++ [y]))) (L2.wipe σ vs) s' ∧ reps K io' F' dn acc' ∧ mLcL gm mA me vs (ds.drop (i + 1)) dn s' = some o ∧ ∀ (j : Nat) x, s'.sl[j]? = some (some x) → j ∉ vs
        else ∃ io' F' s' acc dn, Le io1 F1 io' F' ∧ Rel K (en.wi Dd (.lst acc)) io' F' H5 (L2.wipe σ vs) s' ∧ reps K io' F' dn acc ∧ mLcL gm mA me vs (ds.drop (i + 1)) dn s' = some o ∧ ∀ (j : Nat) x, s'.sl[j]? = some (some x) → j ∉ vs) R3 r3 g1 trivial fun u s5 e5 io5 F5 H5 σ5 l5 R5 hw5 => by
      cases e5
      obtain ⟨b, s6, g3, g4⟩ := bndN_some g2
      refine ht _ io5 F5 H5 σ5 s4 _ _ R5 g3 trivial fun b' s7 e7 io7 F7 H7 l7 R7 => ?_
      cases e7
      cases b with
      | true =>
        rw [if_pos rfl]
        have g4' : bndN me (fun y s' => if dn.length < sizeLine then mLcL gm mA me vs (ds.drop (i + 1)) (dn ++ [y]) (wipeA s' vs) else none) s6 = some o := g4
        obtain ⟨y, s8, g5, g6⟩ := bndN_some g4'
        refine he _ io7 F7 H7 σ5 s6 _ _ R7 g5 trivial fun y' s9 e9 yv io9 F9 H9 l9 R9 r9 => ?_
        cases e9
        have lall := ((l3.trans l5).trans l7).trans l9
        have hH := R9.sideAt eio
        by_cases hz : dn.length < sizeLine
        · have g6' : mLcL gm mA me vs (ds.drop (i + 1)) (dn ++ [y]) (wipeA s8 vs) = some o := by rw [← g6]; exact (if_pos hz).symm
          refine ⟨acc, hH, by rw [reps_len ra]; exact hz, io9, F9, _, acc ++ [yv], dn ++ [y], l2.trans lall, ?_, reps_app (reps_le lall _ _ ra) (reps_one r9), g6', fun j x h => (wipeL_none h).2⟩
          have := (R9.wipe vs).sideChg eio eF (.lst (acc ++ [yv]))
          rw [hw5] at this
          exact this
        · have g6' : none = some o := by rw [← g6]; exact (if_neg hz).symm
          cases g6'
      | false =>
        rw [if_neg Bool.false_ne_true]
        have lall := (l3.trans l5).trans l7
        refine ⟨io7, F7, _, acc, dn, l2.trans lall, ?_, reps_le lall _ _ ra, g4, fun j x h => (wipeL_none h).2⟩
        have := R7.wipe vs
        rw [hw5] at this
        exact this
    have step2 := hk x _ H3 _ step
    have mono : ∀ (σ2 : St) (H4 : Hp), (L2.wipe σ2 vs = L2.wipe (L2.wipe σ vs) vs ∧ (L2.wipe σ2 vs = L2.wipe σ vs → tA σ2 H4 fun b H5 => if b = true then te σ2 H5 fun y H6 => ∃ acc, H6 Dd = some (.lst acc) ∧ acc.length < sizeLine ∧ ∃ io' F' s' acc' dn, Le io1 F1 io' F' ∧ Rel K (en.wi Dd (.lst acc')) io' F' (upd H6 Dd (.lst (acc ++ [y]))) (L2.wipe σ vs) s' ∧ reps K io' F' dn acc' ∧ mLcL gm mA me vs (ds.drop (i + 1)) dn s' = some o ∧ ∀ (j : Nat) x, s'.sl[j]? = some (some x) → j ∉ vs
        else ∃ io' F' s' acc dn, Le io1 F1 io' F' ∧ Rel K (en.wi Dd (.lst acc)) io' F' H5 (L2.wipe σ vs) s' ∧ reps K io' F' dn acc ∧ mLcL gm mA me vs (ds.drop (i + 1)) dn s' = some o ∧ ∀ (j : Nat) x, s'.sl[j]? = some (some x) → j ∉ vs)) →
        (L2.wipe σ2 vs = L2.wipe σ vs ∧ tA σ2 H4 fun b H5 => if b = true then te σ2 H5 fun y H6 => ∃ acc, H6 Dd = some (.lst acc) ∧ acc.length < sizeLine ∧ ∃ io' F' s' acc' dn, Le io1 F1 io' F' ∧ Rel K (en.wi Dd (.lst acc')) io' F' (upd H6 Dd (.lst (acc ++ [y]))) (L2.wipe σ vs) s' ∧ reps K io' F' dn acc' ∧ mLcL gm mA me vs (ds.drop (i + 1)) dn s' = some o ∧ ∀ (j : Nat) x, s'.sl[j]? = some (some x) → j ∉ vs
        else ∃ io' F' s' acc dn, Le io1 F1 io' F' ∧ Rel K (en.wi Dd (.lst acc)) io' F' H5 (L2.wipe σ vs) s' ∧ reps K io' F' dn acc ∧ mLcL gm mA me vs (ds.drop (i + 1)) dn s' = some o ∧ ∀ (j : Nat) x, s'.sl[j]? = some (some x) → j ∉ vs) := fun σ2 H4 ⟨h1, h2⟩ => by
      rw [hw2] at h1
      exact ⟨h1, h2 h1⟩
    have : (fun σ2 H4 => L2.wipe σ2 vs = L2.wipe (L2.wipe σ vs) vs ∧ (L2.wipe σ2 vs = L2.wipe σ vs → tA σ2 H4 fun b H5 => if b = true then te σ2 H5 fun y H6 => ∃ acc, H6 Dd = some (.lst acc) ∧ acc.length < sizeLine ∧ ∃ io' F' s' acc' dn, Le io1 F1 io' F' ∧ Rel K (en.wi Dd (.lst acc')) io' F' (upd H6 Dd (.lst (acc ++ [y]))) (L2.wipe σ vs) s' ∧ reps K io' F' dn acc' ∧ mLcL gm mA me vs (ds.drop (i + 1)) dn s' = some o ∧ ∀ (j : Nat) x, s'.sl[j]? = some (some x) → j ∉ vs
        else ∃ io' F' s' acc dn, Le io1 F1 io' F' ∧ Rel K (en.wi Dd (.lst acc)) io' F' H5 (L2.wipe σ vs) s' ∧ reps K io' F' dn acc ∧ mLcL gm mA me vs (ds.drop (i + 1)) dn s' = some o ∧ ∀ (j : Nat) x, s'.sl[j]? = some (some x) → j ∉ vs)) =
        (fun σ2 H4 => L2.wipe σ2 vs = L2.wipe σ vs ∧ tA σ2 H4 fun b H5 => if b = true then te σ2 H5 fun y H6 => ∃ acc, H6 Dd = some (.lst acc) ∧ acc.length < sizeLine ∧ ∃ io' F' s' acc' dn, Le io1 F1 io' F' ∧ Rel K (en.wi Dd (.lst acc')) io' F' (upd H6 Dd (.lst (acc ++ [y]))) (L2.wipe σ vs) s' ∧ reps K io' F' dn acc' ∧ mLcL gm mA me vs (ds.drop (i + 1)) dn s' = some o ∧ ∀ (j : Nat) x, s'.sl[j]? = some (some x) → j ∉ vs
        else ∃ io' F' s' acc dn, Le io1 F1 io' F' ∧ Rel K (en.wi Dd (.lst acc)) io' F' H5 (L2.wipe σ vs) s' ∧ reps K io' F' dn acc ∧ mLcL gm mA me vs (ds.drop (i + 1)) dn s' = some o ∧ ∀ (j : Nat) x, s'.sl[j]? = some (some x) → j ∉ vs) := by
      funext σ2 H4
      refine propext ⟨mono σ2 H4, fun ⟨h1, h2⟩ => ⟨by rw [hw2]; exact h1, fun _ => h2⟩⟩
    rw [this] at step2
    exact step2
  · have hi' : i = ds.length := by omega
    rw [hi', List.drop_length] at e2
    cases e2
    obtain ⟨R3, l3, r3⟩ := R2.sideEnd eio eF e0 ra
    exact .inl ⟨hw.2 hi', hq _ _ rfl _ io2 _ H2 ((l1.trans l2).trans l3) (R3.unwipe hv) r3⟩
theorem de_lc {scope : Scope} (own : List (Str × Nat)) (hc : X.calm = true) (hN : X.N.Nodup) (hi : DI X W tg iter w mi) (ok : BlkOk X.N X.env.scope scope own)
    (hg : ∀ (s : Shared) (H : Hp) (C : Addr) (cl : List (Str × Addr)) (fp : List Addr), DG (X.blk s H scope (compEnvC scope cl C X.env) fp) W0 tg g gm) (hk : GKeep g (own.map (·.2)))
    (ht : ∀ (s : Shared) (H : Hp) (C : Addr) (cl : List (Str × Addr)) (fp : List Addr), DTs (X.blk s H scope (compEnvC scope cl C X.env) fp) W0 ifs tA mA)
    (he : ∀ (s : Shared) (H : Hp) (C : Addr) (cl : List (Str × Addr)) (fp : List Addr), DE (X.blk s H scope (compEnvC scope cl C X.env) fp) W0 elt te me) (hs : ∀ x, foldedSetIterable iter X.env x = pure x := by intro _; rfl) :
    DE X W (.ListComp elt [⟨tg, iter, ifs, 0⟩] scope pos) (tLc w g tA te (own.map (·.2))) (mLc mi gm mA me (own.map (·.2))) :=
  ⟨pe_lc hc hN hi.p ok (fun s H C cl fp => (hg s H C cl fp).p) (fun s H C cl fp => (ht s H C cl fp).p) (fun s H C cl fp => (he s H C cl fp).p) hs,
   sem_lc hi.s (hg X.s_0 (fun _ => none) 0 [] []).s hk (ht X.s_0 (fun _ => none) 0 [] []).s (he X.s_0 (fun _ => none) 0 [] []).s⟩
theorem dts_nil : DTs X W [] tYes (ret true) := ⟨pts_nil, by
  intro en io F H σ s o Q R e hx hq
  cases e
  exact hq _ _ rfl io F H (Le.refl _ _) R⟩
theorem dts_one (h : DT X W c tA mA) : DTs X W [c] tA mA := ⟨pts_one h.p, h.s⟩
/-- name = [..] -/
theorem ds_setLc {scope : Scope} {y : Str} {py spos : Pos} (i : Nat) (own : List (Str × Nat)) (hc : X.calm = true) (hN : X.N.Nodup) (hsw : swapsWith (.ListComp elt [⟨tg, iter, ifs, 0⟩] scope pos) (some (.Name y py)) spos.line X.env = pure true) (hi : DI X W tg iter w mi) (ok : BlkOk X.N X.env.scope scope own)
    (hg : ∀ (s : Shared) (H : Hp) (C : Addr) (cl : List (Str × Addr)) (fp : List Addr), DG (X.blk s H scope (compEnvC scope cl C X.env) fp) W0 tg g gm) (hk : GKeep g (own.map (·.2)))
    (ht : ∀ (s : Shared) (H : Hp) (C : Addr) (cl : List (Str × Addr)) (fp : List Addr), DTs (X.blk s H scope (compEnvC scope cl C X.env) fp) W0 ifs tA mA)
    (he : ∀ (s : Shared) (H : Hp) (C : Addr) (cl : List (Str × Addr)) (fp : List Addr), DE (X.blk s H scope (compEnvC scope cl C X.env) fp) W0 elt te me)
    (hy : X.N[i]? = some y := by rfl) (hyl : X.env.scope.names.lookup y = some .local := by rfl) (hs : ∀ x, foldedSetIterable iter X.env x = pure x := by intro _; rfl) :
    DS X W (.Assign [.Name y py] (.ListComp elt [⟨tg, iter, ifs, 0⟩] scope pos) spos) (tAsg (tLc w g tA te (own.map (·.2))) (gName i)) (mAsg (mLc mi gm mA me (own.map (·.2))) (gV i)) :=
  ⟨ps_setLc hc hN hy hyl hsw hi.p ok (fun s H C cl fp => (hg s H C cl fp).p) (fun s H C cl fp => (ht s H C cl fp).p) (fun s H C cl fp => (he s H C cl fp).p) hs, by
    intro en io F H σ s o E R e hx hq
    refine (sem_lc hi.s (hg X.s_0 (fun _ => none) 0 [] []).s hk (ht X.s_0 (fun _ => none) 0 [] []).s (he X.s_0 (fun _ => none) 0 [] []).s).step R e hx fun d s1 v io1 F1 H1 l1 R1 r1 e1 hx1 => ?_
    cases e1
    exact hq _ _ rfl io1 F1 H1 _ l1 (R1.setv r1)⟩
end

/-! ### lists that one slot knows -/
def getO (s : A) (i : Nat) : Option (List D) := match s.sl[i]? with
  | some (some (.own (.lst l))) => some l
  | _ => none
def setO (s : A) (i : Nat) (l : List D) : A := { s with sl := s.sl.set i (some (.own (.lst l))) }
section
variable {X : Cx} {W : WX} {pos : Pos} {K : PySem.W.Frag} {mg : Str → Option Value} {tg a b c e elt iter : Expr} {es ifs : List Expr} {ta tb tc te : TE} {ma mb mc me : M D} {tA tB' : TT} {mA mB : M Bool} {tl : TA} {ml : M (List D)} {en : Ent} {io : List Addr} {F H : Hp} {σ : St} {s : A}
theorem Rel.getO (R : Rel K en io F H σ s) {i : Nat} {l : List D} (h : getO s i = some l) : s.sl[i]? = some (some (.own (.lst l))) ∧ ∃ p xs, σ[i]? = some (some (.ref p)) ∧ F p = none ∧ H p = some (.lst xs) ∧ reps K io F l xs := by
  unfold Z.getO at h
  split at h
  · rename_i l' h'
    cases h
    obtain ⟨p, e1, ⟨hF, xs, hH, r⟩, _⟩ := R.own i _ h'
    exact ⟨h', p, xs, e1, hF, hH, r⟩
  · cases h
theorem Rel.setO (R : Rel K en io F H σ s) {i : Nat} {l l' : List D} {p : Addr} {ys : List V} (h : Z.getO s i = some l) (hσ : σ[i]? = some (some (.ref p))) (hF : F p = none) (r : reps K io F l' ys) : Rel K en io F (upd H p (.lst ys)) σ (setO s i l') :=
  R.put (R.getO h).1 hσ hF ⟨hF, ys, upd_same, r⟩
/-- the slot's address is the same behind a step of expressions -/
theorem Rel.sameO {io' : List Addr} {F' H' : Hp} {s' : A} (R : Rel K en io F H σ s) (R' : Rel K en io' F' H' σ s') {i : Nat} {l l' : List D} (h : Z.getO s i = some l) (h' : Z.getO s' i = some l') :
    ∃ p xs, σ[i]? = some (some (.ref p)) ∧ F' p = none ∧ H' p = some (.lst xs) ∧ reps K io' F' l' xs := by
  obtain ⟨_, p, xs, e1, hF, hH, r⟩ := R'.getO h'
  exact ⟨p, xs, e1, hF, hH, r⟩
/-- x = [..], the slot's own -/
def mSetO (i : Nat) (m : M (List D)) : M Fl := bnd m fun l s => if l.length ≤ sizeLine then some (.ok .nx (setO s i l)) else none
theorem ds_setO (i : Nat) {x : Str} {pos' lpos : Pos} (hN : X.N.Nodup) (ha : DA X W es tl ml) (hi : X.N[i]? = some x := by rfl) (hx : Loc X.env.scope x := by first | exact Or.inl rfl | exact Or.inr rfl) (hs : swapsWith (.List es lpos) (some (.Name x pos')) pos.line X.env = pure false := by rfl)
    (hf : X.fn x = true ∨ X.env.scope.names.lookup x = some .local := by first | exact .inl rfl | exact .inr rfl | assumption) : DS X W (.Assign [.Name x pos'] (.List es lpos) pos) (tAsg (tLst tl) (gName i)) (mSetO i ml) := ⟨ps_set hN hi hx (pe_lst ha.p) hs hf, by
  intro en io F H σ s o E R e hx hq
  refine ha.s.step R e hx fun d s1 v io1 F1 H1 l1 R1 r1 e1 hx1 => ?_
  by_cases hc : d.length ≤ sizeLine
  · have e2 : some (O.ok Fl.nx (setO s1 i d)) = some o := by rw [← e1]; exact (if_pos hc).symm
    cases e2
    refine ⟨by rw [reps_len r1]; exact hc, fun p hp => ?_⟩
    exact hq _ _ rfl io1 F1 _ _ l1 (R1.seto (o := .lst d) hp ⟨R1.h.ex.none_of hp, v, upd_same, r1⟩)
  · have e2 : none = some o := by rw [← e1]; exact (if_neg hc).symm
    cases e2⟩
/-- x.append(e) -/
def mAppO (i : Nat) (m : M D) : M D := fun s => match getO s i with
  | some _ => bnd m (fun d s' => match getO s' i with
    | some l => if l.length < sizeLine then some (.ok .non (setO s' i (l ++ [d]))) else none
    | none => none) s
  | none => none
theorem de_appO (i : Nat) {x : Str} {npos apos : Pos} (he : DE X W e te me) (hi : X.N[i]? = some x := by rfl) (hv : Vis X.env.scope x := by first | exact Or.inl rfl | exact Or.inr (Or.inl rfl)) (hd : (x == ("__debug__" : Str)) = false := by decide) (hcd : (x == ("__classdict__" : Str)) = false := by decide)
    (hbase : attributeBase (.Name x npos) "append" X.env (eval (.Name x npos) X.env) = eval (.Name x npos) X.env := by rfl) (hline : (apos.endLine == pos.line) = true := by rfl)
    (hfew : ((backTo pos (starEach [e] X.env)).all (fun x => !x.1) && (backToKw pos (keywordEach [] X.env)).all (fun x => x.1.isSome)
      && decide (([e] : List Expr).length + ([] : List Keyword).length + (if ([] : List Keyword).isEmpty then 0 else 1) < 30)) = true := by rfl)
    (hs : starEach [e] X.env = (false, eval e X.env) :: starEach [] X.env := by rfl) (hpl : (backTo pos (starEach [] X.env)).any (·.1) = false := by rfl) :
    DE X W (.Call (.Attribute (.Name x npos) "append" apos) [e] [] pos) (tBM X.K "list" rAppend (tVar i) (tCons te tNil)) (mAppO i me) :=
  ⟨pe_bm PySem.F.plainAttrs_list PySem.F.slot_list_append PySem.F.type_list_append mt_append (pe_var hi hv hd hcd) (pa_cons he.p pa_nil hs) hbase hfew hline hs hpl, by
    intro en io F H σ s o Q R e hx hq
    unfold mAppO at e
    split at e
    · rename_i l hl
      obtain ⟨_, p, xs, e1, hF, hH, r⟩ := R.getO hl
      refine ⟨.ref p, e1, .inl ⟨rfl, xs, .of hH⟩, ?_⟩
      refine he.s.step R e hx fun d s1 v io1 F1 H1 l1 R1 r1 e2 hx1 => ?_
      split at e2
      · rename_i l2 hl2
        obtain ⟨q, ys, e3, hF1, hH1, r2⟩ := R.sameO R1 hl hl2
        rw [e1] at e3
        cases e3
        split at e2
        · rename_i hz
          cases e2
          exact ⟨p, ys, v, rfl, rfl, hH1, by rw [reps_len r2]; exact hz, hq _ _ rfl .non io1 F1 _ l1 (R1.setO hl2 e1 hF1 (reps_app r2 (reps_one r1))) rfl⟩
        · cases e2
      · cases e2
    · cases e⟩
/-- x.extend(e), e a new list -/
def mExtO (i : Nat) (m : M D) : M D := fun s => match getO s i with
  | some _ => bnd m (fun d s' => match d, getO s' i with
    | .lst l', some l => if l.length + l'.length ≤ sizeLine then some (.ok .non (setO s' i (l ++ l'))) else none
    | _, _ => none) s
  | none => none
theorem de_extO (i : Nat) {x : Str} {npos apos : Pos} (he : DE X W e te me) (hi : X.N[i]? = some x := by rfl) (hv : Vis X.env.scope x := by first | exact Or.inl rfl | exact Or.inr (Or.inl rfl)) (hd : (x == ("__debug__" : Str)) = false := by decide) (hcd : (x == ("__classdict__" : Str)) = false := by decide)
    (hbase : attributeBase (.Name x npos) "extend" X.env (eval (.Name x npos) X.env) = eval (.Name x npos) X.env := by rfl) (hline : (apos.endLine == pos.line) = true := by rfl)
    (hfew : ((backTo pos (starEach [e] X.env)).all (fun x => !x.1) && (backToKw pos (keywordEach [] X.env)).all (fun x => x.1.isSome)
      && decide (([e] : List Expr).length + ([] : List Keyword).length + (if ([] : List Keyword).isEmpty then 0 else 1) < 30)) = true := by rfl)
    (hs : starEach [e] X.env = (false, eval e X.env) :: starEach [] X.env := by rfl) (hpl : (backTo pos (starEach [] X.env)).any (·.1) = false := by rfl) :
    DE X W (.Call (.Attribute (.Name x npos) "extend" apos) [e] [] pos) (tBM X.K "list" rExtend (tVar i) (tCons te tNil)) (mExtO i me) :=
  ⟨pe_bm PySem.F.plainAttrs_list PySem.F.slot_list_extend PySem.F.type_list_extend mt_extend (pe_var hi hv hd hcd) (pa_cons he.p pa_nil hs) hbase hfew hline hs hpl, by
    intro en io F H σ s o Q R e hx hq
    unfold mExtO at e
    split at e
    · rename_i l hl
      obtain ⟨_, p, xs, e1, hF, hH, r⟩ := R.getO hl
      refine ⟨.ref p, e1, .inl ⟨rfl, xs, .of hH⟩, ?_⟩
      refine he.s.step R e hx fun d s1 v io1 F1 H1 l1 R1 r1 e2 hx1 => ?_
      split at e2
      · rename_i l' l2 hl2
        obtain ⟨q, ys, e3, hF1, hH1, r2⟩ := R.sameO R1 hl hl2
        rw [e1] at e3
        cases e3
        obtain ⟨q, zs, rfl, hq', rz⟩ := r1
        split at e2
        · rename_i hz
          cases e2
          exact ⟨p, q, ys, zs, rfl, rfl, hH1, R1.h.ex q _ hq', by rw [reps_len r2, reps_len rz]; exact hz, hq _ _ rfl .non io1 F1 _ l1 (R1.setO hl2 e1 hF1 (reps_app r2 rz)) rfl⟩
        · cases e2
      · cases e2
    · cases e⟩
/-- an operation whose first operand is the slot's list -/
def mOwn (i : Nat) (f : List D → D → Option D) (m : M D) : M D := fun s => match getO s i with
  | some _ => bnd m (fun d s' => match getO s' i with
    | some l => match f l d with
      | some z => some (.ok z s')
      | none => none
    | none => none) s
  | none => none
def OwnD (K : PySem.W.Frag) (r : R2) (f : List D → D → Option D) : Prop := ∀ (en : Ent) (io : List Addr) (F H : Hp) (σ : St) (s : A) (p : Addr) (xs : List V) (l : List D) (y : V) (dy d : D) (Q : VK), Rel K en io F H σ s → H p = some (.lst xs) → reps K io F l xs → rep K io F dy y → f l dy = some d →
  (∀ v io' F' H', Le io F io' F' → Rel K en io' F' H' σ s → rep K io' F' d v → Q v H') → r (.ref p) y H Q
theorem sem_own {i : Nat} {r : R2} {f : List D → D → Option D} (hb : SemE K mg W tb mb) (ho : OwnD K r f) : SemE K mg W (tOp r (tVar i) tb) (mOwn i f mb) := by
  intro en io F H σ s o Q R e hx hq
  unfold mOwn at e
  split at e
  · rename_i l hl
    obtain ⟨_, p, xs, e1, hF, hH, r⟩ := R.getO hl
    refine ⟨.ref p, e1, ?_⟩
    refine hb.step R e hx fun d s1 v io1 F1 H1 l1 R1 r1 e2 hx1 => ?_
    split at e2
    · rename_i l2 hl2
      obtain ⟨q, ys, e3, hF1, hH1, r2⟩ := R.sameO R1 hl hl2
      rw [e1] at e3
      cases e3
      split at e2
      · rename_i z hz
        cases e2
        exact ho en io1 F1 H1 σ s1 p ys l2 v d z Q R1 hH1 r2 r1 hz fun w io2 F2 H2 l3 R2 r3 => hq _ _ rfl w io2 F2 H2 (l1.trans l3) R2 r3
      · cases e2
    · cases e2
  · cases e
def ixO (l : List D) : D → Option D
  | .int i => atI l i
  | _ => none
theorem own_ix : OwnD K (rIx K) ixO := fun en io F H σ s p xs l y dy d Q R hH r ry e k => by
  match dy, e with
  | .int i, e =>
    obtain ⟨v, h1, h2⟩ := atI_reps r e
    exact .inl ⟨p, xs, i, v, rfl, ry, .of hH, h1, k _ io F H (Le.refl _ _) R h2⟩
theorem de_ixO (i : Nat) {x : Str} {npos : Pos} (hb : DE X W b tb mb) (hi : X.N[i]? = some x := by rfl) (hv : Vis X.env.scope x := by first | exact Or.inl rfl | exact Or.inr (Or.inl rfl)) (hd : (x == ("__debug__" : Str)) = false := by decide) (hcd : (x == ("__classdict__" : Str)) = false := by decide)
    (hs : PlainIx b := by exact fun _ _ => rfl) : DE X W (.Subscript (.Name x npos) b pos) (tOp (rIx X.K) (tVar i) tb) (mOwn i ixO mb) := ⟨pe_ix ix_seq (pe_var hi hv hd hcd) hb.p hs, sem_own hb.s own_ix⟩
def eqO (l : List D) (d : D) : Option D := eqD (.lst l) d
def neO (l : List D) (d : D) : Option D := neD (.lst l) d
theorem own_dp {io : List Addr} {F H : Hp} {p : Addr} {xs : List V} {l : List D} {q : PyData} (ex : Ex F H) (hH : H p = some (.lst xs)) (r : reps K io F l xs) (h : toP (.lst l) = some q) : Dp K H (.ref p) q := by
  unfold toP at h
  obtain ⟨ps, e1, rfl⟩ := Option.map_eq_some_iff.mp h
  exact .lst (.of hH) (reps_dp ex l xs ps e1 r)
theorem own_eq : OwnD K (rEqD K) eqO := fun en io F H σ s p xs l y dy d Q R hH r ry e k => by
  obtain ⟨b, e1, rfl⟩ := Option.map_eq_some_iff.mp e
  obtain ⟨p', q, h1, h2, h3, h4, rfl⟩ := eqd_some e1
  exact ⟨p', q, own_dp R.h.ex hH r h1, rep_dp R.h.ex _ _ _ h2 ry, h3, h4, k _ io F H (Le.refl _ _) R rfl⟩
theorem own_ne : OwnD K (rNeD K) neO := fun en io F H σ s p xs l y dy d Q R hH r ry e k => by
  obtain ⟨b, e1, rfl⟩ := Option.map_eq_some_iff.mp e
  obtain ⟨p', q, h1, h2, h3, h4, rfl⟩ := eqd_some e1
  exact ⟨p', q, own_dp R.h.ex hH r h1, rep_dp R.h.ex _ _ _ h2 ry, h3, h4, k _ io F H (Le.refl _ _) R rfl⟩
theorem dt_eqO (i : Nat) {x : Str} {npos : Pos} (hu : X.A.units + 64 < cLine) (hb : DE X W b tb mb) (hi : X.N[i]? = some x := by rfl) (hv : Vis X.env.scope x := by first | exact Or.inl rfl | exact Or.inr (Or.inl rfl)) (hd : (x == ("__debug__" : Str)) = false := by decide) (hcd : (x == ("__classdict__" : Str)) = false := by decide) :
    DT X W (.Compare (.Name x npos) [.Eq] [b] pos) (tTest (tOp (rEqD X.K) (tVar i) tb)) (mTst (mOwn i eqO mb)) := ⟨pt_cmpR (op_eqD hu) (pe_var hi hv hd hcd) hb.p (nomark _), sem_tst (sem_own hb.s own_eq)⟩
theorem dt_neO (i : Nat) {x : Str} {npos : Pos} (hu : X.A.units + 64 < cLine) (hb : DE X W b tb mb) (hi : X.N[i]? = some x := by rfl) (hv : Vis X.env.scope x := by first | exact Or.inl rfl | exact Or.inr (Or.inl rfl)) (hd : (x == ("__debug__" : Str)) = false := by decide) (hcd : (x == ("__classdict__" : Str)) = false := by decide) :
    DT X W (.Compare (.Name x npos) [.NotEq] [b] pos) (tTest (tOp (rNeD X.K) (tVar i) tb)) (mTst (mOwn i neO mb)) := ⟨pt_cmpR (op_neD hu) (pe_var hi hv hd hcd) hb.p (nomark _), sem_tst (sem_own hb.s own_ne)⟩
/-- len(x) -/
def mLenO (i : Nat) : M D := fun s => match getO s i with
  | some l => some (.ok (.int l.length) s)
  | none => none
theorem de_lenO (i : Nat) {x f : Str} {npos p : Pos} (hg : Gl X f) (hm : X.mg f = none) (hb : bootBuiltins f = some (.builtin "len")) (hi : X.N[i]? = some x := by rfl) (hv : Vis X.env.scope x := by first | exact Or.inl rfl | exact Or.inr (Or.inl rfl)) (hd : (x == ("__debug__" : Str)) = false := by decide) (hcd : (x == ("__classdict__" : Str)) = false := by decide)
    (hn : f ≠ "__name__" := by decide) (hdb : (f == ("__debug__" : Str)) = false := by decide) (hs : starEach [Expr.Name x npos] X.env = (false, eval (.Name x npos) X.env) :: starEach [] X.env := by rfl) (hpl : (backTo pos (starEach [] X.env)).any (·.1) = false := by rfl) :
    DE X W (.Call (.Name f p) [.Name x npos] [] pos) (tCB (r_len X.K) (tCons (tVar i) tNil)) (mLenO i) := ⟨pe_callB call_len hg hm hb (pa_cons (pe_var hi hv hd hcd) pa_nil hs) hn hdb hs hpl, by
  intro en io F H σ s o Q R e hx hq
  unfold mLenO at e
  split at e
  · rename_i l hl
    cases e
    obtain ⟨_, p, xs, e1, hF, hH, r⟩ := R.getO hl
    exact ⟨.ref p, e1, .ref p, l.length, rfl, .inl ⟨xs, .of hH, (reps_len r).symm⟩, hq _ _ rfl _ io F H (Le.refl _ _) R rfl⟩
  · cases e⟩
/-- x[k] = e -/
def mSetIxO (i : Nat) (mv mk : M D) : M Fl := bnd mv fun d => fun s => match getO s i with
  | some _ => bnd mk (fun k s' => match k, getO s' i with
    | .int k, some l => match ixN l.length k with
      | some j => some (.ok .nx (setO s' i (l.set j d)))
      | none => none
    | _, _ => none) s
  | none => none
theorem ds_setIxO (i : Nat) {x : Str} {npos spos : Pos} (he : DE X W e te me) (hk : DE X W b tb mb) (hi : X.N[i]? = some x := by rfl) (hv : Vis X.env.scope x := by first | exact Or.inl rfl | exact Or.inr (Or.inl rfl)) (hd : (x == ("__debug__" : Str)) = false := by decide) (hcd : (x == ("__classdict__" : Str)) = false := by decide)
    (ha : ∀ v, assign (.Subscript (.Name x npos) b spos) X.env v = (do
      let ov ← holding [v] (eval (.Name x npos) X.env)
      let iv ← holding [v, ov] (eval b X.env)
      standAt spos
      holding [v, ov, iv] (setItem ov iv v)
      release [v, ov, iv] []) := by intro _; rfl)
    (hs : swapsWithSole [.Subscript (.Name x npos) b spos] e pos.line X.env = pure false := by rfl) (hw : swappedStores [.Subscript (.Name x npos) b spos] e X.env = pure none := by rfl)
    (h1 : (assignEach [.Subscript (.Name x npos) b spos] X.env).map (·.2) = [assign (.Subscript (.Name x npos) b spos) X.env] := by rfl) :
    DS X W (.Assign [.Subscript (.Name x npos) b spos] e pos) (tAsg te (gSub (tVar i) tb rSetL)) (mSetIxO i me mb) := ⟨ps_asg he.p (pg_sub (pe_var hi hv hd hcd) hk.p set_list ha) hs hw h1, by
  intro en io F H σ s o E R e hx hq
  refine he.s.step R e hx fun d s1 v io1 F1 H1 l1 R1 r1 e1 hx1 => ?_
  split at e1
  · rename_i l hl
    obtain ⟨_, p, xs, g1, hF, hH, r⟩ := R1.getO hl
    refine ⟨.ref p, g1, ?_⟩
    refine hk.s.step R1 e1 hx1 fun dk s2 vk io2 F2 H2 l2 R2 r2 e2 hx2 => ?_
    split at e2
    · rename_i k l2' hl2
      obtain ⟨q, ys, e3, hF1, hH1, r3⟩ := R1.sameO R2 hl hl2
      rw [g1] at e3
      cases e3
      split at e2
      · rename_i j hj
        cases e2
        exact ⟨p, ys, k, j, rfl, r2, hH1, by rw [reps_len r3]; exact hj, hq _ _ rfl io2 F2 _ σ (l1.trans l2) (R2.setO hl2 g1 hF1 (reps_set j r3 (rep_le l2 _ _ r1)))⟩
      · cases e2
    · cases e2
  · cases e1⟩
/-- x.pop() -/
def mPopO (i : Nat) : M D := fun s => match getO s i with
  | some l => match l.getLast? with
    | some d => some (.ok d (setO s i l.dropLast))
    | none => none
  | none => none
theorem de_popO (i : Nat) {x : Str} {npos apos : Pos} (hi : X.N[i]? = some x := by rfl) (hv : Vis X.env.scope x := by first | exact Or.inl rfl | exact Or.inr (Or.inl rfl)) (hd : (x == ("__debug__" : Str)) = false := by decide) (hcd : (x == ("__classdict__" : Str)) = false := by decide)
    (hbase : attributeBase (.Name x npos) "pop" X.env (eval (.Name x npos) X.env) = eval (.Name x npos) X.env := by rfl) (hline : (apos.endLine == pos.line) = true := by rfl) :
    DE X W (.Call (.Attribute (.Name x npos) "pop" apos) [] [] pos) (tBM0 X.K "list" rPop (tVar i)) (mPopO i) := ⟨pe_bm0 PySem.F.plainAttrs_list PySem.F.slot_list_pop PySem.F.type_list_pop mt_pop (pe_var hi hv hd hcd) hbase hline, by
  intro en io F H σ s o Q R e hx hq
  unfold mPopO at e
  split at e
  · rename_i l hl
    split at e
    · rename_i d hd
      cases e
      obtain ⟨_, p, xs, e1, hF, hH, r⟩ := R.getO hl
      rw [List.getLast?_eq_getElem?] at hd
      obtain ⟨v, hv, rv⟩ := reps_get r hd
      refine ⟨.ref p, e1, .inl ⟨rfl, xs, .of hH⟩, p, xs, v, rfl, rfl, hH, by rw [reps_len r]; exact hv, ?_⟩
      exact hq _ _ rfl v io F _ (Le.refl _ _) (R.setO hl e1 hF (reps_dropLast r)) rv
    · cases e
  · cases e⟩
end
end Z
/-! Z7: lists of the own heap; enumerate and zip of texts; a text turned round -/
namespace Z
open PySem L2 PySem.Spec
open Classical
section
variable {X : Cx} {W : WX} {pos : Pos} {K : PySem.W.Frag} {mg : Str → Option Value} {tg a b c e elt iter : Expr} {es ifs : List Expr} {ta tb tc te : TE} {ma mb mc me : M D} {tA tB' : TT} {mA mB : M Bool} {tl : TA} {ml : M (List D)} {en : Ent} {io : List Addr} {F H : Hp} {σ : St} {s : A}
def getH (s : A) (d : D) : Option (List D) := match d with
  | .ref r => match s.hp[r]? with
    | some (.lst l) => some l
    | _ => none
  | _ => none
def setH (s : A) (d : D) (l : List D) : A := match d with
  | .ref r => { s with hp := s.hp.set r (.lst l) }
  | _ => s
theorem Rel.getH (R : Rel K en io F H σ s) {d : D} {v : V} {l : List D} (h : getH s d = some l) (r : rep K io F d v) : ∃ p xs, v = .ref p ∧ F p = none ∧ H p = some (.lst xs) ∧ reps K io F l xs ∧
    ∀ l' ys, reps K io F l' ys → Rel K en io F (upd H p (.lst ys)) σ (setH s d l') := by
  match d, h with
  | .ref k, h =>
    unfold Z.getH at h
    simp only at h
    split at h
    · rename_i l' h'
      cases h
      obtain ⟨p, rfl, hp⟩ := r
      obtain ⟨hF, xs, hH, rx⟩ := R.h.ids k p _ hp h'
      exact ⟨p, xs, rfl, hF, hH, rx, fun l' ys ry => R.hput h' hp hF ⟨hF, ys, upd_same, ry⟩⟩
    · cases h
def mIxH (ma mb : M D) : M D := bnd ma fun o => bnd mb fun k s => match k, getH s o with
  | .int i, some l => match atI l i with
    | some d => some (.ok d s)
    | none => none
  | _, _ => none
theorem de_ixH (ha : DE X W a ta ma) (hb : DE X W b tb mb) (hs : PlainIx b := by exact fun _ _ => rfl) : DE X W (.Subscript a b pos) (tOp (rIx X.K) ta tb) (mIxH ma mb) := ⟨pe_ix ix_seq ha.p hb.p hs, by
  intro en io F H σ s o Q R e hx hq
  refine ha.s.step R e hx fun d s1 v io1 F1 H1 l1 R1 r1 e1 hx1 => ?_
  refine hb.s.step R1 e1 hx1 fun d2 s2 v2 io2 F2 H2 l2 R2 r2 e2 hx2 => ?_
  split at e2
  · rename_i i l hl
    split at e2
    · rename_i z hz
      cases e2
      obtain ⟨p, xs, rfl, hF, hH, rx, _⟩ := R2.getH hl (rep_le l2 _ _ r1)
      obtain ⟨w, h1, h2⟩ := atI_reps rx hz
      exact .inl ⟨p, xs, i, w, rfl, r2, .of hH, h1, hq _ _ rfl w io2 F2 H2 (l1.trans l2) R2 h2⟩
    · cases e2
  · cases e2⟩
def mSetIxH (mv mo mk : M D) : M Fl := bnd mv fun d => bnd mo fun o => bnd mk fun k s => match k, getH s o with
  | .int i, some l => match ixN l.length i with
    | some j => some (.ok .nx (setH s o (l.set j d)))
    | none => none
  | _, _ => none
theorem ds_setIxH {spos : Pos} (he : DE X W e te me) (ho : DE X W a ta ma) (hk : DE X W b tb mb)
    (ha : ∀ v, assign (.Subscript a b spos) X.env v = (do
      let ov ← holding [v] (eval a X.env)
      let iv ← holding [v, ov] (eval b X.env)
      standAt spos
      holding [v, ov, iv] (setItem ov iv v)
      release [v, ov, iv] []) := by intro _; rfl)
    (hs : swapsWithSole [.Subscript a b spos] e pos.line X.env = pure false := by rfl) (hw : swappedStores [.Subscript a b spos] e X.env = pure none := by rfl)
    (h1 : (assignEach [.Subscript a b spos] X.env).map (·.2) = [assign (.Subscript a b spos) X.env] := by rfl) :
    DS X W (.Assign [.Subscript a b spos] e pos) (tAsg te (gSub ta tb rSetL)) (mSetIxH me ma mb) := ⟨ps_asg he.p (pg_sub ho.p hk.p set_list ha) hs hw h1, by
  intro en io F H σ s o E R e hx hq
  refine he.s.step R e hx fun d s1 v io1 F1 H1 l1 R1 r1 e1 hx1 => ?_
  refine ho.s.step R1 e1 hx1 fun d2 s2 v2 io2 F2 H2 l2 R2 r2 e2 hx2 => ?_
  refine hk.s.step R2 e2 hx2 fun d3 s3 v3 io3 F3 H3 l3 R3 r3 e3 hx3 => ?_
  split at e3
  · rename_i i l hl
    split at e3
    · rename_i j hj
      cases e3
      obtain ⟨p, xs, rfl, hF, hH, rx, hput⟩ := R3.getH hl (rep_le l3 _ _ r2)
      exact ⟨p, xs, i, j, rfl, r3, hH, by rw [reps_len rx]; exact hj, hq _ _ rfl io3 F3 _ σ ((l1.trans l2).trans l3) (hput _ _ (reps_set j rx (rep_le (l2.trans l3) _ _ r1)))⟩
    · cases e3
  · cases e3⟩
def mAppH (mo me : M D) : M D := bnd mo fun o => fun s => match getH s o with
  | some _ => bnd me (fun d s' => match getH s' o with
    | some l => if l.length < sizeLine then some (.ok .non (setH s' o (l ++ [d]))) else none
    | none => none) s
  | none => none
theorem de_appH {apos : Pos} (ho : DE X W a ta ma) (he : DE X W e te me)
    (hbase : attributeBase a "append" X.env (eval a X.env) = eval a X.env := by rfl) (hline : (apos.endLine == pos.line) = true := by rfl)
    (hfew : ((backTo pos (starEach [e] X.env)).all (fun x => !x.1) && (backToKw pos (keywordEach [] X.env)).all (fun x => x.1.isSome)
      && decide (([e] : List Expr).length + ([] : List Keyword).length + (if ([] : List Keyword).isEmpty then 0 else 1) < 30)) = true := by rfl)
    (hs : starEach [e] X.env = (false, eval e X.env) :: starEach [] X.env := by rfl) (hpl : (backTo pos (starEach [] X.env)).any (·.1) = false := by rfl) :
    DE X W (.Call (.Attribute a "append" apos) [e] [] pos) (tBM X.K "list" rAppend ta (tCons te tNil)) (mAppH ma me) :=
  ⟨pe_bm PySem.F.plainAttrs_list PySem.F.slot_list_append PySem.F.type_list_append mt_append ho.p (pa_cons he.p pa_nil hs) hbase hfew hline hs hpl, by
    intro en io F H σ s o Q R e hx hq
    refine ho.s.step R e hx fun d s1 v io1 F1 H1 l1 R1 r1 e1 hx1 => ?_
    split at e1
    · rename_i l hl
      obtain ⟨p, xs, rfl, hF, hH, r, _⟩ := R1.getH hl r1
      refine ⟨.inl ⟨rfl, xs, .of hH⟩, ?_⟩
      refine he.s.step R1 e1 hx1 fun d2 s2 v2 io2 F2 H2 l2 R2 r2 e2 hx2 => ?_
      split at e2
      · rename_i l2' hl2
        obtain ⟨q, ys, e3, hF2, hH2, r3, hput⟩ := R2.getH hl2 (rep_le l2 _ _ r1)
        cases e3
        split at e2
        · rename_i hz
          cases e2
          exact ⟨p, ys, v2, rfl, rfl, hH2, by rw [reps_len r3]; exact hz, hq _ _ rfl .non io2 F2 _ (l1.trans l2) (hput _ _ (reps_app r3 (reps_one r2))) rfl⟩
        · cases e2
      · cases e2
    · cases e1⟩
/-- o.pop(0) -/
def mPop0H (mo : M D) (mk : M D) : M D := bnd mo fun o => fun s => match getH s o with
  | some _ => bnd mk (fun k s' => match k, getH s' o with
    | .int 0, some (d :: l) => some (.ok d (setH s' o l))
    | _, _ => none) s
  | none => none
theorem de_pop0H {apos : Pos} (ho : DE X W a ta ma) (he : DE X W e te me)
    (hbase : attributeBase a "pop" X.env (eval a X.env) = eval a X.env := by rfl) (hline : (apos.endLine == pos.line) = true := by rfl)
    (hfew : ((backTo pos (starEach [e] X.env)).all (fun x => !x.1) && (backToKw pos (keywordEach [] X.env)).all (fun x => x.1.isSome)
      && decide (([e] : List Expr).length + ([] : List Keyword).length + (if ([] : List Keyword).isEmpty then 0 else 1) < 30)) = true := by rfl)
    (hs : starEach [e] X.env = (false, eval e X.env) :: starEach [] X.env := by rfl) (hpl : (backTo pos (starEach [] X.env)).any (·.1) = false := by rfl) :
    DE X W (.Call (.Attribute a "pop" apos) [e] [] pos) (tBM X.K "list" rPopAt ta (tCons te tNil)) (mPop0H ma me) :=
  ⟨pe_bm PySem.F.plainAttrs_list PySem.F.slot_list_pop PySem.F.type_list_pop mt_popAt ho.p (pa_cons he.p pa_nil hs) hbase hfew hline hs hpl, by
    intro en io F H σ s o Q R e hx hq
    refine ho.s.step R e hx fun d s1 v io1 F1 H1 l1 R1 r1 e1 hx1 => ?_
    split at e1
    · rename_i l hl
      obtain ⟨p, xs, rfl, hF, hH, r, _⟩ := R1.getH hl r1
      refine ⟨.inl ⟨rfl, xs, .of hH⟩, ?_⟩
      refine he.s.step R1 e1 hx1 fun d2 s2 v2 io2 F2 H2 l2 R2 r2 e2 hx2 => ?_
      split at e2
      · rename_i d3 l3 hl2
        obtain ⟨q, ys, e3, hF2, hH2, r3, hput⟩ := R2.getH hl2 (rep_le l2 _ _ r1)
        cases e3
        cases e2
        obtain ⟨y, t, rfl, ry, rt⟩ := r3
        refine ⟨p, y :: t, 0, 0, y, rfl, by rw [show v2 = _ from r2], hH2, by decide, by decide, ?_, rfl, hq _ _ rfl y io2 F2 _ (l1.trans l2) (hput _ _ rt) ry⟩
        have : ixN (y :: t).length 0 = some 0 := by
          unfold ixN
          rw [if_pos (by decide), if_pos (by rw [List.length_cons]; omega)]
          rfl
        exact (ixN_seq this).1
      · cases e2
    · cases e1⟩
/-- o != [..], o == [..] : the left one a list of the own heap -/
def mCmpH (neg : Bool) (ma mb : M D) : M D := bnd ma fun o => bnd mb fun d s => match getH s o with
  | some l => match eqd (.lst l) d with
    | some k => some (.ok (.bl (if neg then !k else k)) s)
    | none => none
  | none => none
theorem sem_neH (ha : SemE K mg W ta ma) (hb : SemE K mg W tb mb) : SemE K mg W (tOp (rNeD K) ta tb) (mCmpH true ma mb) := by
  intro en io F H σ s o Q R e hx hq
  refine ha.step R e hx fun d s1 v io1 F1 H1 l1 R1 r1 e1 hx1 => ?_
  refine hb.step R1 e1 hx1 fun d2 s2 v2 io2 F2 H2 l2 R2 r2 e2 hx2 => ?_
  split at e2
  · rename_i l hl
    split at e2
    · rename_i k hk
      cases e2
      obtain ⟨p, xs, rfl, hF, hH, rx, _⟩ := R2.getH hl (rep_le l2 _ _ r1)
      obtain ⟨p', q, h1, h2, h3, h4, rfl⟩ := eqd_some hk
      exact ⟨p', q, own_dp R2.h.ex hH rx h1, rep_dp R2.h.ex _ _ _ h2 r2, h3, h4, hq _ _ rfl _ io2 F2 H2 (l1.trans l2) R2 rfl⟩
    · cases e2
  · cases e2
theorem dt_neH (hu : X.A.units + 64 < cLine) (ha : DE X W a ta ma) (hb : DE X W b tb mb) : DT X W (.Compare a [.NotEq] [b] pos) (tTest (tOp (rNeD X.K) ta tb)) (mTst (mCmpH true ma mb)) := ⟨pt_cmpR (op_neD hu) ha.p hb.p (nomark _), sem_tst (sem_neH ha.s hb.s)⟩

/-! ### a text turned round -/
def tRevS (te : TE) : TE := fun σ H Q => te σ H fun x H1 => ∃ z : Str, x = .str z ∧ z.length ≤ sizeLine ∧ Q (.str ⟨z.cps.toList.reverse.toArray⟩) H1
theorem pe_revS {k : Nat} {p1 p2 p3 : Pos} (he : PE X e te) : PE X (.Subscript e (.Slice none none (some (.UnaryOp .USub (.Constant (.int 1) k p1) p2)) p3) pos) (tRevS te) := by
  refine ⟨fun pins s σ H Q I h => ?_⟩
  refine PyProof.Rows.Subscript_ (thn (he.run pins s σ H _ I h) fun v s1 ⟨x, H1, I1, r1, q1⟩ => ?_)
  obtain ⟨z, rfl, hz, q⟩ := q1
  obtain ⟨t, rfl⟩ := r1
  have hst : PO X (some (.UnaryOp .USub (.Constant (.int 1) k p1) p2)) (tPart (tUn (rU fun i => .int (-i)) (tC (.int 1)))) := po_some (pe_un un_neg pe_int)
  refine wpAny_Slice (thn (po_none.run pins s1 σ H1 (fun o H2 => o = none ∧ H2 = H1) I1 ⟨rfl, rfl⟩) fun vl s2 ⟨l, H2, I2, pl, el, e2⟩ => ?_)
  subst el e2
  refine thn (po_none.run pins s2 σ H2 (fun o H3 => o = none ∧ H3 = H2) I2 ⟨rfl, rfl⟩) fun vu s3 ⟨u, H3, I3, pu, eu, e3⟩ => ?_
  subst eu e3
  refine thn (hst.run pins s3 σ H3 (fun o H4 => o = some (-1) ∧ H4 = H3) I3 ⟨1, rfl, -1, rfl, rfl, rfl⟩) fun vs s4 ⟨o, H4, I4, ps, eo, e4⟩ => ?_
  subst eo e4
  have I5 : Inv X pins σ H4 { s4 with heap := s4.heap.push { cls := .type "slice", data := .fields #[vl, vu, vs] } } := I4.kept (t' := s4.toks) fun b ob q => Heap.get?_push_of_some _ q
  obtain ⟨l, rfl, el⟩ := IsPart.raw pl
  obtain ⟨u, rfl, eu⟩ := IsPart.raw pu
  obtain ⟨st, rfl, est⟩ := IsPart.raw ps
  have hl0 : l = none := by cases l with | none => rfl | some x => cases el
  have hu0 : u = none := by cases u with | none => rfl | some x => cases eu
  subst hl0 hu0
  obtain ⟨sv, stk, rfl⟩ : ∃ a b, st = some (a, b) := by cases st with | none => cases est | some x => exact ⟨x.1, x.2, rfl⟩
  have hsv : sv = -1 := Option.some.inj est
  subst hsv
  show wpAny (model X.prog X.w) X.A (PyProof.Rows.subscriptTail e (.Slice none none (some (.UnaryOp .USub (.Constant (.int 1) k p1) p2)) p3) (.str z t) (.ref s4.heap.objs.size)) (EP X pins σ Q) X.xe _
  refine PyProof.Rows.tail_any (T := "str") (ops := [.str z t, .ref s4.heap.objs.size]) (typeIs_str _ _ _) PySem.F.slot_str_getitem.lookup ?_ (by with_unfolding_all rfl)
  refine wpAny_getItem_str_slice (l := none) (u := none) (st := some (-1, stk)) ⟨_, Heap.get?_push_size _ rfl, rfl, rfl⟩ rfl ?_
  have hp : slicePicked z none none (some (-1, stk)) = (List.range z.length).reverse := by
    show Builtin.Str.strSliceIndices none none (-1) z.length = _
    unfold Builtin.Str.strSliceIndices
    show sliceRange ((z.length : Int) - 1) (-1) (-1) = _
    rw [PySem.W.krv_sliceRange, PySem.W.krv_range]
  unfold sliceMade
  rw [hp, List.filterMap_reverse, show (List.range z.length).filterMap (z.cps[·]?) = z.cps.toList from PySem.W.krv_all z.cps]
  rw [if_neg (by intro hh; rw [Bool.and_eq_true] at hh; exact absurd hh.1 (by show ¬ (((-1 : Int) == 1) = true); decide))]
  refine ⟨?_, .str _, H4, I5.tok _, ⟨_, rfl⟩, q⟩
  show z.cps.toList.reverse.toArray.size ≤ sizeLine
  rw [List.size_toArray, List.length_reverse, Array.length_toList]
  exact hz
def revS : D → Option D
  | .str x => if x.length ≤ sizeLine then some (.str x.reverse) else none
  | _ => none
theorem de_revS {k : Nat} {p1 p2 p3 : Pos} (he : DE X W e te me) : DE X W (.Subscript e (.Slice none none (some (.UnaryOp .USub (.Constant (.int 1) k p1) p2)) p3) pos) (tRevS te) (mUn revS me) := ⟨pe_revS he.p, by
  intro en io F H σ s o Q R e hx hq
  refine he.s.step R e hx fun d s1 v io1 F1 H1 l1 R1 r1 e1 hx1 => ?_
  obtain ⟨z, e2, e3⟩ := lft_some e1
  match d, e2 with
  | .str x, e2 =>
    have e2' : (if x.length ≤ sizeLine then some (D.str x.reverse) else none) = some z := e2
    by_cases hc : x.length ≤ sizeLine
    · rw [if_pos hc] at e2'
      cases e2'
      exact ⟨_, r1, by rw [str_len]; exact hc, hq _ _ e3 _ io1 F1 H1 l1 R1 rfl⟩
    · rw [if_neg hc] at e2'
      cases e2'⟩

/-! ### walks that give new pairs -/
def ItP (n : Nat) (f : Nat → List V) : It := ⟨fun i _ => i < n, fun i H v H' => ∃ T, v = .ref T ∧ H T = none ∧ H' = upd H T (.tup (f i)), fun i _ => i = n⟩
theorem turn_P {P : Program} {w : World} {elts : List Expr} {kk : Nat} {tpos : Pos} {I : Addr} {fp wr : List Addr} {n : Nat} {Pt : Nat → Array Value → Prop} {Sx : Nat → Heap → Prop} {Mid : Nat → Addr → Heap → Prop} {f : Nat → List V}
    (hw : ∀ A : Around, A.handled = none → WalksT P w A I fp wr n Pt Sx Mid) (hI : I ∈ fp) (hobj : ∀ i h, Sx i h → ∀ b ∈ fp, ∃ o, h.get? b = some o ∧ ∀ v, o.data ≠ .cell v) (hv : ∀ i vals, i < n → Pt i vals → Vals (f i) vals.toList ∧ (f i).length ≤ 2)
    (hfr : ∀ i h h', Sx i h → (∀ b ∈ fp, ∀ o, h.get? b = some o → h'.get? b = some o) → Sx i h')
    (hself : ∀ (A : Around) i (s : Shared) (Q : Value → Shared → Prop) (E : Value → Shared → Prop), Sx i s.heap → Q (.ref I) s → wpAny (model P w) A (pyIter (.ref I)) Q E s) :
    Turn P w K (.Tuple elts kk tpos) (ItP n f) fp I Sx where
  mem := hI
  obj := hobj
  keep := hfr
  item := by
    intro X hP hw' hK hc i pins s σ H E Iv hf st hg
    subst hP hw' hK
    have hh := Iv.ok.hd hc
    have Wk := hw X.A hh
    have hsub := Wk.sub
    refine Wk.item i s _ _ hg st fun T vals h' tk hp hT hu hm hk => ?_
    refine ⟨.ref T, rfl, Wk.go elts kk tpos i T { s with heap := h', toks := tk } _ _ hm fun h'' st'' hk'' => ?_⟩
    obtain ⟨hv1, hv2⟩ := hv i vals hg hp
    have hap := Wk.apart i T h' hm
    obtain ⟨o, ho, hcl, nn, hd⟩ := hu
    have new : ObjOk X.prog X.w (upd H T (.tup (f i))) h'' T (.tup (f i)) :=
      ⟨Nat.le_trans hv2 (by decide), vals.toList, hv1, ⟨o, hk'' T o hap ho, hcl, nn, hd⟩⟩
    have I1 : Inv X pins σ (upd H T (.tup (f i))) { s with heap := h'', toks := tk } :=
      Iv.turnedNew (ch := fp) (fun b ob hb q => hk'' b ob (fun z => hb (hsub b z)) (hk b ob (fun z => hb (hsub b z)) q)) hf hT new
    refine ⟨.ref T, _, I1, rfl, ⟨T, rfl, Iv.hok.fresh hT, rfl⟩, st'', fun b hb => ?_⟩
    obtain ⟨ob, hob, _⟩ := hobj i _ st b hb
    rw [upd_ne (Nat.ne_of_lt (Nat.lt_of_lt_of_le (Heap.lt_size hob) hT))]
    exact (hf b hb).1
  done := by
    intro X hP hw' hK hc i pins s σ H E Iv hf st hg
    subst hP hw' hK
    have hh := Iv.ok.hd hc
    have Wk := hw X.A hh
    have hsub := Wk.sub
    have hg' : i = n := hg
    subst hg'
    exact Wk.done s _ _ st fun h' tk hk => ⟨rfl, Iv.turnedL (ch := fp) (fun b ob hb q => hk b ob (fun z => hb (hsub b z)) q) hf⟩
  self := hself
end
/-- what a text's iterator is -/
def StrIt (x : Str) (t : Tok) (it : Addr) (i : Nat) (h : Heap) : Prop := h.IsStrIter it (PySem.strIterType x) x t i
theorem draws_str {P : Program} {w : World} {A : Around} (hh : A.handled = none) (it : Addr) (x : Str) (t : Tok) : Draws P w A it [it] x.cps.size (fun i v => ∃ c u, x.cps[i]? = some c ∧ v = .str ⟨#[c]⟩ u) (StrIt x t it) := by
  unfold StrIt PySem.strIterType
  cases ha : x.cps.all (· < 128)
  · exact Draws.strWide hh it x t
  · exact Draws.strAscii hh it x t
theorem strIt_new {x : Str} {t : Tok} {it : Addr} {h : Heap} (e : h.get? it = some { cls := .type (PySem.strIterType x), data := .fields #[.str x t, .int 0 0] }) : StrIt x t it 0 h := ⟨_, e, rfl, rfl⟩
theorem strIt_obj {x : Str} {t : Tok} {it : Addr} {i : Nat} {h : Heap} (e : StrIt x t it i h) : ∃ o, h.get? it = some o ∧ ∀ v, o.data ≠ .cell v := by
  obtain ⟨o, e1, c, d⟩ := e
  exact ⟨o, e1, fun v z => by rw [d] at z; cases z⟩
theorem strIt_keep {x : Str} {t : Tok} {it : Addr} {i : Nat} {h h' : Heap} (e : StrIt x t it i h) (k : ∀ o, h.get? it = some o → h'.get? it = some o) : StrIt x t it i h' := by
  obtain ⟨o, e1, c, d⟩ := e
  exact ⟨o, k o e1, c, d⟩
def enS (x : Str) (i : Nat) : List V := [.int (i : Nat), .str ⟨#[x.cps.getD i 0]⟩]
def iEnS (ta : TA) : TI := fun σ H R => ta σ H fun vs H1 => ∃ x : Str, vs = [.str x] ∧ R (ItP x.cps.size (enS x)) H1
theorem pi_enS {elts : List Expr} {kk : Nat} {tpos p : Pos} {X : Cx} {e : Expr} {ta : TA} {pos : Pos} (hg : Gl X "enumerate") (hm : X.mg "enumerate" = none) (ha : PA X [e] ta) (hs : starEach [e] X.env = [(false, eval e X.env)] := by rfl) :
    PI X (.Tuple elts kk tpos) (.Call (.Name "enumerate" p) [e] [] pos) (iEnS ta) := by
  refine ⟨fun pins s σ H R I h => ?_⟩
  refine PyProof.Rows.Call_ (ld_blt I hg hm PyProof.Rows.boot_enumerate (PyProof.Rows.callWith_type1 (thn (ha.run pos pins s σ H _ I h) fun us s1 ⟨vs, H1, I1, r1, q1⟩ => ?_) hs rfl))
  obtain ⟨x, ex, q⟩ := q1
  subst ex
  cases r1 with
  | cons r rr =>
    cases rr
    obtain ⟨t, rfl⟩ := r
    refine call_enumerate_str fun h' he hit hsz hk => wpAny_pyIter_enum he ?_
    have I2 : Inv X pins σ H1 { s1 with heap := h' } := I1.kept (t' := s1.toks) hk
    have ne : s1.heap.objs.size + 1 ≠ s1.heap.objs.size := Nat.succ_ne_self _
    have T : Turn X.prog X.w X.K (.Tuple elts kk tpos) (ItP x.cps.size (enS x)) [s1.heap.objs.size + 1, s1.heap.objs.size] (s1.heap.objs.size + 1) (fun i h => (∃ old, IsEnum h (s1.heap.objs.size + 1) s1.heap.objs.size ((0 : Int) + (i : Int)) old) ∧ StrIt x t s1.heap.objs.size i h) := by
      refine turn_P (wr := [s1.heap.objs.size + 1, s1.heap.objs.size]) (fun A hA => WalksT.enumFrom 0 (draws_str (A := A.in1) hA _ x t) _ ne (by simp [ne]) (by simp)) (by simp) (fun i h st b hb => ?_) (fun i vals hi hp => ?_) (fun i h h' st k => ?_) (fun A i s Q E st h => ?_)
      · obtain ⟨⟨old, he⟩, hs⟩ := st
        have e' : b = s1.heap.objs.size + 1 ∨ b = s1.heap.objs.size := by simpa using hb
        rcases e' with z | z
        · rw [z]; exact ⟨_, he, fun v q => nomatch q⟩
        · rw [z]; exact strIt_obj hs
      · obtain ⟨tk, y, ⟨c, u, hc, rfl⟩, rfl⟩ := hp
        refine ⟨.cons ⟨tk, by rw [Int.zero_add]⟩ (.cons ⟨u, ?_⟩ .nil), Nat.le_refl 2⟩
        have : x.cps.getD i 0 = c := by rw [Array.getD_eq_getD_getElem?, hc]; rfl
        rw [this]
      · obtain ⟨⟨old, he⟩, hs⟩ := st
        exact ⟨⟨old, k _ (by simp) _ he⟩, strIt_keep hs fun o q => k _ (by simp) o q⟩
      · obtain ⟨⟨old, he⟩, _⟩ := st
        exact wpAny_pyIter_enum he h
    refine ⟨s1.heap.objs.size + 1, [s1.heap.objs.size + 1, s1.heap.objs.size], _, _, H1, rfl, I2, T, ⟨⟨.none, he⟩, hit⟩, fun b hb => ?_, q⟩
    have e' : b = s1.heap.objs.size + 1 ∨ b = s1.heap.objs.size := by simpa using hb
    have hle : s1.heap.objs.size ≤ b := by
      rcases e' with z | z
      · rw [z]; exact Nat.le_add_right _ _
      · rw [z]; exact Nat.le_refl _
    exact I1.fpOk hle (I1.hok.fresh hle)
def ziS (x y : Str) (i : Nat) : List V := [.str ⟨#[x.cps.getD i 0]⟩, .str ⟨#[y.cps.getD i 0]⟩]
def iZiS (ta : TA) : TI := fun σ H R => ta σ H fun vs H1 => ∃ x y : Str, vs = [.str x, .str y] ∧ R (ItP (min x.cps.size y.cps.size) (ziS x y)) H1
theorem pi_ziS {elts : List Expr} {kk : Nat} {tpos p : Pos} {X : Cx} {e e2 : Expr} {ta : TA} {pos : Pos} (hg : Gl X "zip") (hm : X.mg "zip" = none) (ha : PA X [e, e2] ta)
    (hs : starEach [e, e2] X.env = (false, eval e X.env) :: starEach [e2] X.env := by rfl) (hpl : (backTo pos (starEach [e2] X.env)).any (·.1) = false := by rfl) :
    PI X (.Tuple elts kk tpos) (.Call (.Name "zip" p) [e, e2] [] pos) (iZiS ta) := by
  refine ⟨fun pins s σ H R I h => ?_⟩
  refine PyProof.Rows.Call_ (ld_blt I hg hm PyProof.Rows.boot_zip (PyProof.Rows.callWith_type1 (thn (ha.run pos pins s σ H _ I h) fun us s1 ⟨vs, H1, I1, r1, q1⟩ => ?_) hs hpl))
  obtain ⟨x, y, ex, q⟩ := q1
  subst ex
  cases r1 with
  | cons r rr =>
    cases rr with
    | cons r' rr =>
    cases rr
    obtain ⟨t, rfl⟩ := r
    obtain ⟨t', rfl⟩ := r'
    refine zip_begins2 (begins_text x t) (begins_text y t') trivial trivial fun h' hz hTI hTO h1 h2 hsz hk => PySem.wpAny_pyIter_zip hz ?_
    have I2 : Inv X pins σ H1 { s1 with heap := h' } := I1.kept (t' := s1.toks) hk
    obtain ⟨N, hN⟩ : ∃ N, N = s1.heap.objs.size := ⟨_, rfl⟩
    rw [← hN] at hz hTI hTO h1 h2 ⊢
    have S := zip_sep2 (N := N) (fp1 := []) (fp2 := []) (fun b hb => nomatch hb) (fun b hb => nomatch hb)
    have T : Turn X.prog X.w X.K (.Tuple elts kk tpos) (ItP (min x.cps.size y.cps.size) (ziS x y)) ((N + 4) :: (N + 2) :: (N + 3) :: ([N] ++ [N + 1])) (N + 4)
        (fun i h => IsZip h (N + 4) (N + 2) (N + 3) .none ∧ IsTupOf2 h (N + 2) (.ref N) (.ref (N + 1)) ∧ (∃ a1 a2, IsTupOf2 h (N + 3) a1 a2) ∧ StrIt x t N i h ∧ StrIt y t' (N + 1) i h) := by
      refine turn_P (fun A hA => WalksT.zipD2 S (draws_str (A := A.in1) hA _ x t) (draws_str (A := A.in1) hA _ y t')) (by simp) (fun i h st b hb => ?_) (fun i vals hi hp => ?_) (fun i h h' st k => ?_) (fun A i s Q E st h => ?_)
      · obtain ⟨hz, hTI, ⟨a1, a2, hTO⟩, hs1, hs2⟩ := st
        have e' : b = N + 4 ∨ b = N + 2 ∨ b = N + 3 ∨ b = N ∨ b = N + 1 := by simpa using hb
        rcases e' with z | z | z | z | z
        · rw [z]; exact ⟨_, hz, fun v q => nomatch q⟩
        · rw [z]; exact ⟨_, hTI, fun v q => nomatch q⟩
        · rw [z]; exact ⟨_, hTO, fun v q => nomatch q⟩
        · rw [z]; exact strIt_obj hs1
        · rw [z]; exact strIt_obj hs2
      · obtain ⟨a, b, ⟨c, u, hc, rfl⟩, ⟨c', u', hc', rfl⟩, rfl⟩ := hp
        refine ⟨.cons ⟨u, ?_⟩ (.cons ⟨u', ?_⟩ .nil), Nat.le_refl 2⟩
        · have : x.cps.getD i 0 = c := by rw [Array.getD_eq_getD_getElem?, hc]; rfl
          rw [this]
        · have : y.cps.getD i 0 = c' := by rw [Array.getD_eq_getD_getElem?, hc']; rfl
          rw [this]
      · obtain ⟨hz, hTI, ⟨a1, a2, hTO⟩, hs1, hs2⟩ := st
        exact ⟨k _ (by simp) _ hz, k _ (by simp) _ hTI, ⟨a1, a2, k _ (by simp) _ hTO⟩, strIt_keep hs1 fun o q => k _ (by simp) o q, strIt_keep hs2 fun o q => k _ (by simp) o q⟩
      · exact PySem.wpAny_pyIter_zip st.1 h
    refine ⟨N + 4, _, _, _, H1, rfl, I2, T, ⟨hz, hTI, ⟨_, _, hTO⟩, strIt_new h1, strIt_new h2⟩, fun b hb => ?_, q⟩
    have e' : b = N + 4 ∨ b = N + 2 ∨ b = N + 3 ∨ b = N ∨ b = N + 1 := by simpa using hb
    have hle : s1.heap.objs.size ≤ b := by
      rw [← hN]
      rcases e' with z | z | z | z | z <;> rw [z] <;> first | exact Nat.le_refl _ | exact Nat.le_add_right _ _
    exact I1.fpOk hle (I1.hok.fresh hle)
/-- what they are as data -/
def enumD (l : List D) : List D := l.zipIdx.map fun p => .tup [.int (p.2 : Nat), p.1]
def zipD (l l' : List D) : List D := (l.zip l').map fun p => .tup [p.1, p.2]
def enSF : List D → Option (List D)
  | [.str x] => some (enumD (x.map fun c => .str [c]))
  | _ => none
def ziSF : List D → Option (List D)
  | [.str x, .str y] => some (zipD (x.map fun c => .str [c]) (y.map fun c => .str [c]))
  | _ => none
section
variable {X : Cx} {W : WX} {pos : Pos} {K : PySem.W.Frag} {mg : Str → Option Value} {tg a b c e elt iter : Expr} {es ifs : List Expr} {ta tb tc te : TE} {ma mb mc me : M D} {tA tB' : TT} {mA mB : M Bool} {tl : TA} {ml : M (List D)} {en : Ent} {io : List Addr} {F H : Hp} {σ : St} {s : A}
theorem walk_P {n : Nat} {f : Nat → List V} {ds : List D} (hn : ds.length = n) (h : ∀ i d, ds[i]? = some d → ∃ l, d = .tup l ∧ ∀ io F, reps K io F l (f i)) : WalkD K (ItP n f) io F ds := fun i en2 io2 F2 H2 σ2 s2 l2 R2 => ⟨fun d hd => by
  have hl := (List.getElem?_eq_some_iff.mp hd).1
  obtain ⟨l, rfl, hr⟩ := h i d hd
  refine ⟨by show i < n; omega, fun y H3 hy => ?_⟩
  obtain ⟨T, rfl, hT, rfl⟩ := hy
  obtain ⟨R3, l3⟩ := R2.new hT (.tup (f i))
  exact ⟨_, l3, R3, T, f i, rfl, .inl (.inl upd_same), hr _ _⟩, fun hi => by show i = n; omega⟩
theorem di_enS {elts : List Expr} {kk : Nat} {tpos p : Pos} (hg : Gl X "enumerate") (hm : X.mg "enumerate" = none) (ha : DA X W [e] tl ml) (hs : starEach [e] X.env = [(false, eval e X.env)] := by rfl) :
    DI X W (.Tuple elts kk tpos) (.Call (.Name "enumerate" p) [e] [] pos) (iEnS tl) (mItA enSF ml) := ⟨pi_enS hg hm ha.p hs, by
  intro en io F H σ s o Q R e hx hq
  refine ha.s.step R e hx fun d s1 v io1 F1 H1 l1 R1 r1 e1 hx1 => ?_
  obtain ⟨z, e2, e3⟩ := lft_some e1
  match d, e2 with
  | [.str x], e2 =>
    obtain ⟨v, rfl, r⟩ := reps1 r1
    cases e2
    refine ⟨⟨x.toArray⟩, by rw [show v = _ from r], hq _ _ e3 _ io1 F1 H1 l1 R1 (walk_P ?_ fun i d hd => ?_)⟩
    · unfold enumD
      simp
    · unfold enumD at hd
      rw [List.getElem?_map, List.getElem?_zipIdx, List.getElem?_map] at hd
      obtain ⟨⟨q, j⟩, h1, rfl⟩ := Option.map_eq_some_iff.mp hd
      obtain ⟨q', h2, h3⟩ := Option.map_eq_some_iff.mp h1
      obtain ⟨c, h4, rfl⟩ := Option.map_eq_some_iff.mp h2
      cases h3
      refine ⟨_, rfl, fun io F => ⟨_, _, rfl, ?_, _, _, rfl, ?_, rfl⟩⟩
      · show V.int _ = V.int _
        simp
      · show V.str ⟨#[x.toArray.getD i 0]⟩ = V.str ⟨[c].toArray⟩
        rw [Array.getD_eq_getD_getElem?, List.getElem?_toArray, h4]
        rfl⟩
theorem di_ziS {elts : List Expr} {kk : Nat} {tpos p : Pos} {e2 : Expr} (hg : Gl X "zip") (hm : X.mg "zip" = none) (ha : DA X W [e, e2] tl ml) (hs : starEach [e, e2] X.env = (false, eval e X.env) :: starEach [e2] X.env := by rfl) (hpl : (backTo pos (starEach [e2] X.env)).any (·.1) = false := by rfl) :
    DI X W (.Tuple elts kk tpos) (.Call (.Name "zip" p) [e, e2] [] pos) (iZiS tl) (mItA ziSF ml) := ⟨pi_ziS hg hm ha.p hs hpl, by
  intro en io F H σ s o Q R e hx hq
  refine ha.s.step R e hx fun d s1 v io1 F1 H1 l1 R1 r1 e1 hx1 => ?_
  obtain ⟨z, e2, e3⟩ := lft_some e1
  match d, e2 with
  | [.str x, .str y], e2 =>
    obtain ⟨v, w, rfl, r, r'⟩ := reps2 r1
    cases e2
    refine ⟨⟨x.toArray⟩, ⟨y.toArray⟩, by rw [show v = _ from r, show w = _ from r'], hq _ _ e3 _ io1 F1 H1 l1 R1 (walk_P ?_ fun i d hd => ?_)⟩
    · unfold zipD
      simp
    · unfold zipD at hd
      rw [List.getElem?_map, List.zip_map, List.getElem?_map] at hd
      obtain ⟨⟨q, j⟩, h1, rfl⟩ := Option.map_eq_some_iff.mp hd
      obtain ⟨⟨c, c'⟩, h2, h3⟩ := Option.map_eq_some_iff.mp h1
      cases h3
      rw [List.getElem?_zip_eq_some] at h2
      refine ⟨_, rfl, fun io F => ⟨_, _, rfl, ?_, _, _, rfl, ?_, rfl⟩⟩
      · show V.str ⟨#[x.toArray.getD i 0]⟩ = V.str ⟨[c].toArray⟩
        rw [Array.getD_eq_getD_getElem?, List.getElem?_toArray, h2.1]
        rfl
      · show V.str ⟨#[y.toArray.getD i 0]⟩ = V.str ⟨[c'].toArray⟩
        rw [Array.getD_eq_getD_getElem?, List.getElem?_toArray, h2.2]
        rfl⟩
end
end Z
/-! Z8: defs by name; the end of a law -/
namespace Z
open PySem L2
/-- what a def of the text is -/
structure Dfn (K : PySem.W.Frag) (mg : Str → Option Value) (x qual : Str) (st : Stmt) (ps : List Str) (f : Addr) (fd : FuncData) : Prop where
  mg : mg x = some (.ref f)
  fn : Fun K x qual st f fd
  bd : Binds K fd ps []
/-- a def that does what n says, by at most k calls one in another -/
structure Cal (P : Program) (w : World) (K : PySem.W.Frag) (mg : Str → Option Value) (base : Heap) (x qual : Str) (st : Stmt) (ps : List Str) (k np : Nat) (n : Fn) : Prop where
  ex : ∃ f fd, Dfn K mg x qual st ps f fd ∧ FnG P w K mg base k f fd ps (spD K mg np n)
section
variable {P : Program} {w : World} {K : PySem.W.Frag} {mg : Str → Option Value} {base : Heap} {x qual : Str} {st : Stmt} {ps : List Str} {k np : Nat} {n n' : Fn}
theorem Cal.imp (c : Cal P w K mg base x qual st ps k np n) (h : ∀ ds hp r, ds.length = np → n' ds hp = some r → n ds hp = some r) : Cal P w K mg base x qual st ps k np n' := by
  obtain ⟨f, fd, d, o⟩ := c.ex
  exact ⟨f, fd, d, okD_imp o h⟩
theorem Cal.mono (c : Cal P w K mg base x qual st ps k np n) {j : Nat} (h : k ≤ j) : Cal P w K mg base x qual st ps j np n := by
  obtain ⟨f, fd, d, o⟩ := c.ex
  exact ⟨f, fd, d, o.mono h⟩
/-- THE RULE for a def -/
theorem calD {f : Addr} {fd : FuncData} {N : List Str} {m : M Fl} (d : Dfn K mg x qual st ps f fd) (S : FnScope N ps (defScope st)) (hp : ps.length = np)
    (hb : ∀ (cdv : Value) (A : Around) (outer : List Env) (s : Shared) (H : Hp) (E : XK), RoomG k (A.deeper (PyProof.Rows.envOfC qual (defScope st) s.heap.objs.size f cdv)) →
      ∃ t, DSs (cxOf (L2.CX P w) P w K mg base N qual (defScope st) f cdv A outer s H E) (fun c d _ H => E c d H) (defBody st) t m) :
    Cal P w K mg base x qual st ps (k + 1) np (fnOf N.length m) := by
  subst hp
  exact ⟨f, fd, d, okD d.fn S hb⟩
end
section
variable {X : Cx} {W : WX} {pos : Pos} {e : Expr} {es : List Expr} {te : TE} {me : M D} {tl : TA} {ml : M (List D)}
theorem de_callC {x qual : Str} {st : Stmt} {ps : List Str} {k np : Nat} {n : Fn} {p : Pos} (c : Cal X.prog X.w X.K X.mg X.base x qual st ps k np n) (hr : RoomG k X.A) (tk : Takes X W) (ha : DA X W (e :: es) tl ml) (hg : Gl X x := by rfl)
    (hdb : (x == ("__debug__" : Str)) = false := by decide) (he : starEach (e :: es) X.env = (false, eval e X.env) :: starEach es X.env := by rfl) (hpl : (backTo pos (starEach es X.env)).any (·.1) = false := by rfl) :
    DE X W (.Call (.Name x p) (e :: es) [] pos) (tCallSD (spD X.K X.mg np n) [] (fun σ c d H => W c d σ H) tl) (mCall np n ml) := by
  obtain ⟨f, fd, d, o⟩ := c.ex
  exact de_call o hr hg d.mg d.fn.kp d.bd tk ha hdb he hpl
end
/-! ### == of plain things -/
def eqSc : D → D → Option D
  | .non, .non => some (.bl true)
  | .int i, .int j => some (.bl (decide (i = j)))
  | .str x, .str y => some (.bl (decide (x = y)))
  | .bl a, .bl b => some (.bl (decide (a = b)))
  | _, _ => none
def neSc : D → D → Option D
  | .non, .non => some (.bl false)
  | .int i, .int j => some (.bl (!decide (i = j)))
  | .str x, .str y => some (.bl (!decide (x = y)))
  | .bl a, .bl b => some (.bl (!decide (a = b)))
  | _, _ => none
theorem strDec (x y : List Nat) : decide (V.str ⟨x.toArray⟩ = V.str ⟨y.toArray⟩) = decide (x = y) := by
  by_cases h : x = y
  · subst h
    simp
  · rw [decide_eq_false h, decide_eq_false]
    intro z
    injection z with z
    apply h
    have z1 : x.toArray = y.toArray := congrArg Str.cps z
    simpa using congrArg Array.toList z1
theorem intDec (x y : Int) : decide (V.int x = V.int y) = decide (x = y) := by
  by_cases h : x = y
  · subst h
    simp
  · rw [decide_eq_false h, decide_eq_false]
    intro z
    injection z with z
    exact h z
theorem blDec (x y : Bool) : decide (V.bl x = V.bl y) = decide (x = y) := by
  by_cases h : x = y
  · subst h
    simp
  · rw [decide_eq_false h, decide_eq_false]
    intro z
    injection z with z
    exact h z
theorem o_eqS {X : Cx} : OpOk X (compareOp .Eq) rEq eqSc := ⟨op_eq, opd_val fun io F H x y dx dy d Q ex rx ry e k => by
  match dx, dy, e with
  | .non, .non, e =>
    cases e
    cases (show x = _ from rx)
    cases (show y = _ from ry)
    exact ⟨rfl, k _ fun _ _ _ => rfl⟩
  | .int i, .int j, e =>
    cases e
    cases (show x = _ from rx)
    cases (show y = _ from ry)
    exact ⟨rfl, by rw [intDec]; exact k _ fun _ _ _ => rfl⟩
  | .str i, .str j, e =>
    cases e
    cases (show x = _ from rx)
    cases (show y = _ from ry)
    exact ⟨rfl, by rw [strDec]; exact k _ fun _ _ _ => rfl⟩
  | .bl i, .bl j, e =>
    cases e
    cases (show x = _ from rx)
    cases (show y = _ from ry)
    exact ⟨rfl, by rw [blDec]; exact k _ fun _ _ _ => rfl⟩⟩
theorem o_neS {X : Cx} : OpOk X (compareOp .NotEq) rNe neSc := ⟨op_ne, opd_val fun io F H x y dx dy d Q ex rx ry e k => by
  match dx, dy, e with
  | .non, .non, e =>
    cases e
    cases (show x = _ from rx)
    cases (show y = _ from ry)
    exact ⟨rfl, k _ fun _ _ _ => rfl⟩
  | .int i, .int j, e =>
    cases e
    cases (show x = _ from rx)
    cases (show y = _ from ry)
    exact ⟨rfl, by rw [intDec]; exact k _ fun _ _ _ => rfl⟩
  | .str i, .str j, e =>
    cases e
    cases (show x = _ from rx)
    cases (show y = _ from ry)
    exact ⟨rfl, by rw [strDec]; exact k _ fun _ _ _ => rfl⟩
  | .bl i, .bl j, e =>
    cases e
    cases (show x = _ from rx)
    cases (show y = _ from ry)
    exact ⟨rfl, by rw [blDec]; exact k _ fun _ _ _ => rfl⟩⟩

/-! ### the same with the written part by name (within a comprehension's block it must not hang on the block) -/
section
variable {X : Cx} {W : WX} {pos : Pos} {a b c e tg : Expr} {es : List Expr} {ta tb tc te : TE} {ma mb mc me : M D} {tl : TA} {ml : M (List D)}
theorem k_eqD (K : PySem.W.Frag) (hu : X.A.units + 64 < cLine) (hK : X.K = K := by rfl) : OpOk X (compareOp .Eq) (rEqD K) eqD := by subst hK; exact o_eqD hu
theorem k_neD (K : PySem.W.Frag) (hu : X.A.units + 64 < cLine) (hK : X.K = K := by rfl) : OpOk X (compareOp .NotEq) (rNeD K) neD := by subst hK; exact o_neD hu
theorem k_inL (K : PySem.W.Frag) (hK : X.K = K := by rfl) : OpOk X (compareOp .In) (rIn K false) inL := by subst hK; exact o_inL
theorem k_notInL (K : PySem.W.Frag) (hK : X.K = K := by rfl) : OpOk X (compareOp .NotIn) (rIn K true) notInL := by subst hK; exact o_notInL
theorem k_ix (K : PySem.W.Frag) (hK : X.K = K := by rfl) : IxOk X (rIx K) ixF := by subst hK; exact o_ix
theorem kb_len (K : PySem.W.Frag) (hK : X.K = K := by rfl) : CallOk X (.builtin "len") (r_len K) lenF := by subst hK; exact b_len
theorem k_slL (K : PySem.W.Frag) (hK : X.K = K := by rfl) : SlOk X (rSlL K) slL := by subst hK; exact o_slL
theorem ki_lst (K : PySem.W.Frag) (he : DE X W e te me) (hK : X.K = K := by rfl) : DI X W tg e (iList K te) (mIt itL me) := by subst hK; exact di_lst he
theorem ki_tup (K : PySem.W.Frag) (he : DE X W e te me) (hK : X.K = K := by rfl) : DI X W tg e (iTup K te) (mIt itT me) := by subst hK; exact di_tup he
theorem ke_revL (K : PySem.W.Frag) {k : Nat} {p1 p2 p3 : Pos} (he : DE X W e te me) (hK : X.K = K := by rfl) : DE X W (.Subscript e (.Slice none none (some (.UnaryOp .USub (.Constant (.int 1) k p1) p2)) p3) pos) (tRevL K te) (mUn revL me) := by subst hK; exact de_revL he
theorem kg_tup (K : PySem.W.Frag) {k : Nat} {t : TGs} {gs : List D → M Unit} {n : Nat} (hc : X.calm = true) (h : DGs X W es t gs) (hK : X.K = K := by rfl)
    (hn : (assignEach es X.env).length = n := by rfl) (hst : (assignEach es X.env).findIdx? (·.1) = none := by rfl) : DG X W (.Tuple es k pos) (gTup K n t) (gT gs n) := by subst hK; exact dg_tup hc h hn hst
theorem ke_ixH (K : PySem.W.Frag) (ha : DE X W a ta ma) (hb : DE X W b tb mb) (hK : X.K = K := by rfl) (hs : PlainIx b := by exact fun _ _ => rfl) : DE X W (.Subscript a b pos) (tOp (rIx K) ta tb) (mIxH ma mb) := by subst hK; exact de_ixH ha hb hs
theorem ke_join (K : PySem.W.Frag) {apos : Pos} (ho : DE X W a ta ma) (he : DE X W b tb mb) (hK : X.K = K := by rfl) (hs : starEach [b] X.env = [(false, eval b X.env)] := by rfl) (hbase : attributeBase a "join" X.env (eval a X.env) = eval a X.env := by rfl) (hline : (apos.endLine == pos.line) = true := by rfl) :
    DE X W (.Call (.Attribute a "join" apos) [b] [] pos) (tM1 (r_join K) ta tb) (mJoin ma mb) := by subst hK; exact de_join ho he hs hbase hline
theorem ke_call (K : PySem.W.Frag) (mg : Str → Option Value) {x qual : Str} {st : Stmt} {ps : List Str} {k np : Nat} {n : Fn} {p : Pos} (c : Cal X.prog X.w X.K X.mg X.base x qual st ps k np n) (hr : RoomG k X.A) (tk : Takes X W) (ha : DA X W (e :: es) tl ml) (hK : X.K = K := by rfl) (hM : X.mg = mg := by rfl) (hg : Gl X x := by rfl)
    (hdb : (x == ("__debug__" : Str)) = false := by decide) (he : starEach (e :: es) X.env = (false, eval e X.env) :: starEach es X.env := by rfl) (hpl : (backTo pos (starEach es X.env)).any (·.1) = false := by rfl) :
    DE X W (.Call (.Name x p) (e :: es) [] pos) (tCallSD (spD K mg np n) [] (fun σ c d H => W c d σ H) tl) (mCall np n ml) := by subst hK hM; exact de_callC c hr tk ha hg hdb he hpl
end
theorem dfn_fd {K : PySem.W.Frag} {mg : Str → Option Value} {x qual qual' : Str} {st st' : Stmt} {ps ps' : List Str} {f : Addr} {fd fd' : FuncData} (a : Dfn K mg x qual st ps f fd) (b : Dfn K mg x qual' st' ps' f fd') : fd = fd' := by
  obtain ⟨_, _, _, _, _, _, _, _, _, _, l, _⟩ := a.fn.ex
  obtain ⟨_, _, _, _, _, _, _, _, _, _, l', _⟩ := b.fn.ex
  rw [l] at l'
  injection l' with l'
  injection l' with _ _ l' _
  injection l'
open PyProof.Rows in
theorem law_callG {P : Program} {w : World} {K : PySem.W.Frag} {mg mb : Str → Option Value} {k : Nat} {fa a : Addr} {fd : FuncData} {x : Str} {sp : Sp} {s₁ : Shared} {vs : List Value} {ns : List Int}
    (KX : K.In s₁.heap) (hns : s₁.heap.Ns mainGlobals mg) (hb : s₁.heap.Ns builtinsNs mb) (hbb : ∀ x : Str, x ≠ "__name__" → mb x = bootBuiltins x) (hlim : s₁.heap.NoLimit) (hg : s₁.gens = #[])
    (ha : s₁.heap.get? a = some { cls := .type "list", data := .seq vs.toArray }) (hi : IntsAre vs ns) (hl : ns.length ≤ sizeLine) (hr : RoomG k callerA)
    (F : ∀ base : Heap, K.In base → base.Ns mainGlobals mg → FnG P w K mg base k fa fd [x] sp) (hbind : ∀ (s : Shared) (u : Value), BindsTo s fd ⟨[u], []⟩ [(x, u)])
    (hsp : ∀ H : Hp, Only H → SqL K H a (ns.map V.int) → sp [.ref a] H (fun v _ => v = .bl true) fun _ _ _ => False)
    (hCX : ∀ H e s', L2.CX P w [] H s₁ (fun _ _ _ => False) e s' → False) :
    codeAny (model P w) callerA (.call (.ref fa) ⟨[.ref a], []⟩) (fun r s' => r = .ok (.ret (.bool true)) ∧ OldK s₁.heap s'.heap ∧ s'.os = s₁.os ∧ AllBare s'.gens) s₁ := by
  have rv := vals_ints hi
  have lenV := hi.length
  -- from an abstract heap in which nothing but the script may be tracked
  have core : ∀ H : Hp, Only H → SqL K H a (ns.map V.int) → HOk P w H s₁.heap → (∀ b, H b ≠ none → b = a) → (H a ≠ none → K.lookup a = none) →
      codeAny (model P w) callerA (.call (.ref fa) ⟨[.ref a], []⟩) (fun r s' => r = .ok (.ret (.bool true)) ∧ OldK s₁.heap s'.heap ∧ s'.os = s₁.os ∧ AllBare s'.gens) s₁ := by
    intro H hO hS hok hA hK
    have base_of : ∀ {b : Addr} {o : Obj}, s₁.heap.get? b = some o → H b = none → (hidT s₁.heap H).get? b = some o := fun e n => hidT_get e n
    have noA : ∀ {b : Addr} {o : Obj} {es : Array DictEntry} {ep : Nat}, s₁.heap.get? b = some o → o.data = .dict es ep → H b = none := fun {b o es ep} e d => by
      cases q : H b with
      | none => rfl
      | some u =>
        have e' : b = a := hA b (by rw [q]; simp)
        subst e'
        rw [ha] at e; cases e
        have d' : Data.seq vs.toArray _ = Data.dict es ep := d
        cases d'
    have nsK : ∀ {b : Addr} {m : Str → Option Value}, s₁.heap.Ns b m → (hidT s₁.heap H).Ns b m := fun {b m} ⟨o, es, ep, e, d, r⟩ => ⟨o, es, ep, base_of e (noA e d), d, r⟩
    have hKb : K.In (hidT s₁.heap H) := fun b o e => base_of (KX b o e) (by
      cases q : H b with
      | none => rfl
      | some u =>
        have e' : b = a := hA b (by rw [q]; simp)
        subst e'
        rw [hK (by rw [q]; simp)] at e; cases e)
    have hM : Mod K mg (hidT s₁.heap H) := ⟨hKb, nsK hns, ⟨mb, nsK hb, hbb⟩, let ⟨mc, h1, h2⟩ := hlim; ⟨mc, nsK h1, h2⟩⟩
    have e0 : Env0 P w K mg (hidT s₁.heap H) callerA [] s₁ H := ⟨rfl, hM, fun b o e => of_hidT e, Nat.le_of_eq (hidT_size _ _), trivial, fun b hb => absurd (show b ∈ ([] : List Addr) from hb) (by simp), hok, .of_eq hg⟩
    refine codeAny_mono ((F _ hKb (nsK hns)).run callerA [] s₁ H ⟨[.ref a], []⟩ [.ref a] [.ref a] _ _ hr e0 (hbind s₁ (.ref a)) (.cons rfl .nil) (hsp H hO hS)) fun r s' h => ?_
    cases r with
    | error e => exact (hCX H e s' h).elim
    | ok fl =>
      cases fl with
      | next => exact False.elim h
      | brk => exact False.elim h
      | cont => exact False.elim h
      | ret u =>
        obtain ⟨v, H', os, bare, un, hok', r', q⟩ := h
        have q' : v = .bl true := q
        subst q'
        obtain rfl : u = Value.bool true := r'
        refine ⟨rfl, OldK.of_keep fun b o e => ?_, os, bare⟩
        cases q : H b with
        | none => exact un.keep b o e q (by intro z; exact absurd (show b ∈ ([] : List Addr) from z) (by simp)) (by simp)
        | some u =>
          rcases hO b with z | ⟨ob, xs, z⟩
          · rw [q] at z; cases z
          · have z2 := un.frzs b ob _ z
            obtain ⟨e1, _⟩ := hok b _ z
            obtain ⟨e2, _⟩ := hok' b _ z2
            rw [e] at e1; cases e1
            exact e2
  cases hk : K.lookup a with
  | some o =>
    -- the script is one of the module's own objects
    have e := KX a o hk
    rw [ha] at e
    cases e
    refine core (fun _ => none) (fun _ => .inl rfl) (.inr ⟨_, vs.toArray, _, hk, rfl, rfl, rfl, by rw [List.size_toArray, lenV]; exact hl, by simpa using rv⟩) (fun b u z => by have z' : (none : Option HO) = some u := z; cases z') (fun b z => absurd rfl z) fun z => absurd rfl z
  | none =>
    refine core (fun b => if b = a then some (.frz { cls := .type "list", data := .seq vs.toArray } (.lst (ns.map V.int))) else none) (fun b => ?_) (.inl (.inr ⟨{ cls := .type "list", data := .seq vs.toArray }, if_pos rfl⟩)) (fun b u z => ?_) (fun b z => ?_) fun _ => hk
    · by_cases hb : b = a
      · exact .inr ⟨_, _, if_pos hb⟩
      · exact .inl (if_neg hb)
    · by_cases hb : b = a
      · have z' := (if_pos hb).symm.trans z
        cases z'
        subst hb
        exact ⟨ha, by rw [List.length_map]; exact hl, vs, _, rv, ha⟩
      · have z' := (if_neg hb).symm.trans z
        cases z'
    · by_cases hb : b = a
      · exact hb
      · exact absurd (if_neg hb) z
/-- the end: the law's def gives True at every list of ints -/
theorem endD {l : PySem.W.OpenLaw} {k : Nat} {q : Program} {loose : List Str} {XP : (Str → Option Value) → Heap → Prop} {YP : World → Heap → Prop} {d : DefRec} {K : Params → PySem.W.Frag} {n : Fn} {qual x : Str} {st : Stmt} (hn : l.most = some 63) (hdf : d.params.defaults = []) (hr : RoomG k callerA)
    (hY : ∀ (w : World) (h : Heap), YP w h → (K w.params).In h)
    (F : ∀ (w : World) (mg : Str → Option Value) (fa : Addr) (h : Heap), (K w.params).In h → h.Ns mainGlobals mg → mg d.name = some (.ref fa) →
      ∃ fd : FuncData, (∀ (s : Shared) (u : Value), BindsTo s fd ⟨[u], []⟩ [("script", u)]) ∧ ∀ base : Heap, (K w.params).In base → base.Ns mainGlobals mg → FnG l.prog w (K w.params) mg base k fa fd ["script"] (spD (K w.params) mg 1 n))
    (hlaw : ∀ ns : List Int, ns.length ≤ 63 → ∃ hp, n [.fz (ns.map D.int)] [] = some (.ok (.bl true) hp)) :
    PySem.W.WalkO q loose XP YP l.row.toRowW d [] (fun f vs => PySem.call f vs) := by
  refine Att.attach_call hn hdf fun w s₀ s₁ mg mb fa o pm cd doc a vs ns G Y ho hd hcd hmg hobj hints hlen hg => ?_
  have KX := hY w _ Y
  obtain ⟨fd, hb, hF⟩ := F w mg fa _ KX G.T.g hmg
  refine law_callG (x := "script") (sp := fun vs H Q E => ∃ (a : Addr) (ns : List Int), vs = [.ref a] ∧ ns.length ≤ 63 ∧ SqL (K w.params) H a (ns.map V.int) ∧ ∀ H', Q (.bl true) H') KX G.T.g G.T.b G.T.builtins G.T.nolimit hg hobj hints (Nat.le_trans hlen (by decide)) hr (fun base b1 b2 => (hF base b1 b2).imp fun vs H Q E hs => ?_) hb (fun H hO hS => ⟨a, ns, rfl, hlen, hS, fun _ => rfl⟩) (fun H e s' z => by
      obtain ⟨_, _, _, _, _, _, _, _, _, _, _, _, f⟩ := z
      exact f)
  obtain ⟨a, ns, rfl, hl, hS, hq⟩ := hs
  obtain ⟨hp, e⟩ := hlaw ns hl
  refine ⟨[], H, [.fz (ns.map D.int)], [], _, ⟨Ex.refl H, rfl, fun i j p h => by simp at h, fun i p o h => by simp at h⟩, ⟨.ref a, [], rfl, ⟨a, ns.map V.int, rfl, hS, ?_⟩, rfl⟩, rfl, e, fun v io' F' H' st hv => by rw [show v = .bl true from hv]; exact hq H'⟩
  clear hS e hl
  induction ns with
  | nil => rfl
  | cons z r ih => exact ⟨_, _, rfl, rfl, ih⟩
end Z
/-! Z9: calls by keywords; isinstance; more of the built-ins -/
namespace Z
open PySem L2 PySem.Spec
open Classical
/-! ### f(k = e, ..) -/
structure DK (X : Cx) (W : WX) (kws : List Keyword) (t : TA) (m : M (List D)) : Prop where
  p : PK X kws t
  s : SemA X.K X.mg W t m
section
variable {X : Cx} {W : WX} {pos kpos : Pos} {K : PySem.W.Frag} {mg : Str → Option Value} {a b c e : Expr} {es : List Expr} {kws : List Keyword} {ta tb tc te : TE} {ma mb mc me : M D} {tl tk : TA} {ml mk : M (List D)} {en : Ent} {io : List Addr} {F H : Hp} {σ : St} {s : A} {nm : Option Str}
theorem dk_nil : DK X W [] tNil mNil := ⟨pk_nil, (da_nil (X := X) (W := W)).s⟩
theorem sem_cons (h : SemE K mg W te me) (g : SemA K mg W tl ml) : SemA K mg W (tCons te tl) (mCons me ml) := by
  intro en io F H σ s o Q R e hx hq
  refine h.step R e hx fun d s1 v io1 F1 H1 l1 R1 r1 e1 hx1 => ?_
  refine g.step R1 e1 hx1 fun ds s2 vs io2 F2 H2 l2 R2 r2 e2 hx2 => ?_
  cases e2
  exact hq _ _ rfl (v :: vs) io2 F2 H2 (l1.trans l2) R2 ⟨v, vs, rfl, rep_le l2 _ _ r1, r2⟩
theorem dk_cons (h : DE X W e te me) (g : DK X W kws tl ml) : DK X W (⟨nm, e, kpos⟩ :: kws) (tCons te tl) (mCons me ml) := ⟨pk_cons h.p g.p, sem_cons h.s g.s⟩
/-- the places of the parameters among the keywords -/
def perm {α : Type} (π : List Nat) (l : List α) : List α := π.filterMap (l[·]?)
def gPerm {α : Type} (n : Nat) (π : List Nat) (us ws : List α) : List α := if us.length = 0 ∧ ws.length = n then perm π ws else []
theorem reps_perm {io : List Addr} {F : Hp} {ds : List D} {vs : List V} (r : reps K io F ds vs) : ∀ π : List Nat, reps K io F (perm π ds) (perm π vs)
  | [] => rfl
  | i :: π => by
    have ih := reps_perm r π
    unfold perm at ih ⊢
    rw [List.filterMap_cons, List.filterMap_cons]
    cases h : ds[i]? with
    | none =>
      have hl := reps_len r
      have : vs[i]? = none := by
        rw [List.getElem?_eq_none_iff] at h ⊢
        omega
      rw [this]
      exact ih
    | some d =>
      obtain ⟨v, h1, h2⟩ := reps_get r h
      rw [h1]
      exact ⟨v, _, rfl, h2, ih⟩
theorem vals_perm {zs : List V} {ws : List Value} (r : Vals zs ws) : ∀ π : List Nat, Vals (perm π zs) (perm π ws)
  | [] => .nil
  | i :: π => by
    have ih := vals_perm r π
    unfold perm at ih ⊢
    rw [List.filterMap_cons, List.filterMap_cons]
    have hl := r.length
    cases h : zs[i]? with
    | none =>
      have : ws[i]? = none := by
        rw [List.getElem?_eq_none_iff] at h ⊢
        omega
      rw [this]
      exact ih
    | some d =>
      obtain ⟨v, h1, h2⟩ := r.get h
      rw [h1]
      exact .cons h2 ih
theorem kb_perm {x qual : Str} {st : Stmt} {f : Addr} {fd : FuncData} {ps ks : List Str} (F : Fun K x qual st f fd) (n : Nat) (π : List Nat) (hn : 0 < ps.length)
    (h : ∀ (kV doc pm : Value) (an : Option Addr) (cdv ct : Value) (ws : List Value), ws.length = n → bindArgs (PySem.W.fnOf x qual (defArgs st) (defBody st) (defScope st) .none kV doc pm an cdv ct) ⟨[], ks.zip ws⟩ = pure (ps.zip (perm π ws))) :
    KBinds K fd ps ks (gPerm n π) (gPerm n π) := by
  obtain ⟨oc, od, kV, doc, pm, an, cdv, ct, osl, rfl, lk, hcd⟩ := F.ex
  refine ⟨fun s us ws _ hl => ?_, fun {vs us zs ws} r rz => ?_⟩
  · unfold gPerm at hl ⊢
    by_cases hc : us.length = 0 ∧ ws.length = n
    · rw [if_pos hc]
      have : us = [] := List.eq_nil_of_length_eq_zero hc.1
      subst this
      exact .of_eq (h kV doc pm an cdv ct ws hc.2)
    · rw [if_neg hc] at hl
      exfalso
      have : (0 : Nat) = ps.length := hl
      omega
  · unfold gPerm
    have h1 := r.length
    have h2 := rz.length
    by_cases hc : us.length = 0 ∧ ws.length = n
    · rw [if_pos hc, if_pos (by omega)]
      exact vals_perm rz π
    · rw [if_neg hc, if_neg (by omega)]
      exact .nil
def mPerm (n : Nat) (π : List Nat) (m : M (List D)) : M (List D) := bnd m fun l => if l.length = n then ret (perm π l) else fun _ => none
def tCallKD (sp : Sp) (gV : List V → List V → List V) (E : St → XK) (tk : TA) : TE := fun σ H Q => tk σ H fun zs H2 => sp (gV [] zs) H2 Q (E σ)
theorem de_callK0 {k np : Nat} {f : Addr} {fd : FuncData} {ps ks : List Str} {n : Fn} {x : Str} {p : Pos} {nk : Nat} {π : List Nat} (Fk : FnG X.prog X.w X.K X.mg X.base k f fd ps (spD X.K X.mg np n)) (hr : RoomG k X.A) (hg : Gl X x) (hm : X.mg x = some (.ref f)) (hk : PySem.W.keepIn X.K (.ref f) = true)
    (hb : KBinds X.K fd ps ks (gPerm nk π) (gPerm nk π)) (tk' : Takes X W) (hkw : DK X W kws tk mk) (hdb : (x == ("__debug__" : Str)) = false := by decide)
    (hall : (backToKw pos (keywordEach kws X.env)).all (·.1.isSome) = true := by rfl) (hks : (backToKw pos (keywordEach kws X.env)).filterMap (·.1) = ks := by rfl)
    (hpl : ((backTo pos (starEach [] X.env)).any (·.1) || (backToKw pos (keywordEach kws X.env)).any (·.1.isNone)) = false := by rfl) :
    DE X W (.Call (.Name x p) [] kws pos) (tCallKD (spD X.K X.mg np n) (gPerm nk π) (fun σ c d H => W c d σ H) tk) (mCall np n (mPerm nk π mk)) := by
  refine ⟨⟨fun pins s σ H Q I h => ?_⟩, ?_⟩
  · refine wpAny_Call_Name_kw (ld_glob I hg hm ?_ hdb)
    refine PySem.W.callWith_KW0 (h₀ := X.base) I.ok.mod.kin hk hall (thn (hkw.p.run pos pins s σ H _ I h) fun ws s2 ⟨zs, H2, I2, rz, q2⟩ => ⟨I2.kIn, ?_⟩) hpl
    rw [hks]
    have r2 := hb.rel .nil rz
    have hl : (gPerm nk π [] ws).length = ps.length := by rw [← r2.length]; exact Fk.len _ _ _ _ q2
    refine wpAny_call (codeAny_mono (Fk.run X.A X.stack s2 H2 ⟨[], ks.zip ws⟩ (gPerm nk π [] ws) (gPerm nk π [] zs) Q _ hr I2.env0 (hb.to s2 [] ws I2.kIn hl) r2 q2) fun r s' hq => ?_)
    cases r with
    | error e => exact passAt tk' σ pins H2 s2 e s' I2 hq
    | ok fl =>
      cases fl with
      | ret u => exact I2.after hq
      | next => exact False.elim hq
      | brk => exact False.elim hq
      | cont => exact False.elim hq
  · intro en io F H σ s o Q R e hx hq
    refine hkw.s.step (k := fun l => bnd (if l.length = nk then ret (perm π l) else fun _ => none) fun ds s => if ds.length = np then ofFR (n ds s.hp) s else none) R (by
      have : mCall np n (mPerm nk π mk) s = some o := e
      unfold mCall mPerm at this
      rw [← this]
      unfold bnd
      cases mk s with
      | none => rfl
      | some q =>
        cases q with
        | ok a s' => rfl
        | ex a s' => rfl) hx fun d s1 v io1 F1 H1 l1 R1 r1 e1 hx1 => ?_
    by_cases hc : d.length = nk
    · rw [if_pos hc] at e1
      have hv := reps_len r1
      have eg : gPerm nk π [] v = perm π v := if_pos ⟨rfl, by omega⟩
      show spD _ _ _ _ (gPerm nk π [] v) H1 Q _
      rw [eg]
      exact sem_call R1 (reps_perm r1 π) hx1 e1 fun d2 s2 e2 w io2 F2 H2 l2 R2 r2 => hq d2 s2 e2 w io2 F2 H2 (l1.trans l2) R2 r2
    · rw [if_neg hc] at e1
      cases e1
theorem de_callKC {x qual : Str} {st : Stmt} {ps ks : List Str} {k np : Nat} {n : Fn} {p : Pos} (nk : Nat) (π : List Nat) (c : Cal X.prog X.w X.K X.mg X.base x qual st ps k np n) (hr : RoomG k X.A) (tk' : Takes X W) (hn : 0 < ps.length)
    (hbd : ∀ (kV doc pm : Value) (an : Option Addr) (cdv ct : Value) (ws : List Value), ws.length = nk → bindArgs (PySem.W.fnOf x qual (defArgs st) (defBody st) (defScope st) .none kV doc pm an cdv ct) ⟨[], ks.zip ws⟩ = pure (ps.zip (perm π ws)))
    (hkw : DK X W kws tk mk) (hg : Gl X x := by rfl) (hdb : (x == ("__debug__" : Str)) = false := by decide)
    (hall : (backToKw pos (keywordEach kws X.env)).all (·.1.isSome) = true := by rfl) (hks : (backToKw pos (keywordEach kws X.env)).filterMap (·.1) = ks := by rfl)
    (hpl : ((backTo pos (starEach [] X.env)).any (·.1) || (backToKw pos (keywordEach kws X.env)).any (·.1.isNone)) = false := by rfl) :
    DE X W (.Call (.Name x p) [] kws pos) (tCallKD (spD X.K X.mg np n) (gPerm nk π) (fun σ c d H => W c d σ H) tk) (mCall np n (mPerm nk π mk)) := by
  obtain ⟨f, fd, d, o⟩ := c.ex
  exact de_callK0 o hr hg d.mg d.fn.kp (kb_perm d.fn nk π hn hbd) tk' hkw hdb hall hks hpl
/-! ### isinstance(x, T) -/
def tyD : D → Option String
  | .non => some "NoneType"
  | .bl _ => some "bool"
  | .int _ => some "int"
  | .str _ => some "str"
  | .lst _ => some "list"
  | .fz _ => some "list"
  | .tup _ => some "tuple"
  | .ref _ => none
  | .exc _ _ => none
def isiD (T : String) (d : D) : Option D := match tyD d with
  | some t => (kitB t T).map .bl
  | none => none
def tIsi (K : PySem.W.Frag) (T : String) (te : TE) : TE := tCB (rIsi K) (tCons te (tCons (tC (.ty T)) tNil))
theorem tyx_of {io : List Addr} (ex : Ex F H) {d : D} {v : V} {t : String} (h : tyD d = some t) (r : rep K io F d v) : TyX K H v (.type t) := by
  match d, h with
  | .non, h => cases h; rw [show v = _ from r]; exact .base .non
  | .bl b, h => cases h; rw [show v = _ from r]; exact .base (.bl b)
  | .int i, h => cases h; rw [show v = _ from r]; exact .base (.int i)
  | .str x, h => cases h; rw [show v = _ from r]; exact .base (.str _)
  | .lst l, h =>
    cases h
    obtain ⟨p, xs, rfl, h1, _⟩ := r
    exact .base (.lst (ex p _ h1))
  | .fz l, h =>
    cases h
    obtain ⟨p, xs, rfl, h1, _⟩ := r
    rcases ex.l h1 with h2 | ⟨o, its, n, e1, e2, _⟩
    · rcases h2 with h2 | ⟨o, h2⟩
      · exact .base (.lst h2)
      · exact .base (.frz h2)
    · exact .kList e1 e2
  | .tup l, h =>
    cases h
    obtain ⟨p, xs, rfl, h1, _⟩ := r
    rcases ex.t h1 with h2 | ⟨o, its, n, e1, e2, _⟩
    · rcases h2 with h2 | ⟨o, h2⟩
      · exact .base (.tup h2)
      · exact .fTuple h2
    · exact .kTuple e1 e2
theorem de_isi {x : Str} {T : String} {p p2 : Pos} (hg : Gl X "isinstance") (hm : X.mg "isinstance" = none) (hgT : Gl X x) (hmT : X.mg x = none) (hvT : bootBuiltins x = some (.type T)) (he : DE X W e te me) (hv : bootBuiltins "isinstance" = some (.builtin "isinstance") := by decide +kernel) (hn : x ≠ "__name__" := by decide) (hd : (x == ("__debug__" : Str)) = false := by decide)
    (hs : starEach [e, .Name x p2] X.env = (false, eval e X.env) :: starEach [.Name x p2] X.env := by rfl) (hs2 : starEach [.Name x p2] X.env = (false, eval (.Name x p2) X.env) :: starEach [] X.env := by rfl) (hpl : (backTo pos (starEach [.Name x p2] X.env)).any (·.1) = false := by rfl) :
    DE X W (.Call (.Name "isinstance" p) [e, .Name x p2] [] pos) (tIsi X.K T te) (mUn (isiD T) me) := by
  refine ⟨pe_callB call_isi hg hm hv (pa_cons he.p (pa_cons (pe_bltn (v := .ty T) hgT hmT hvT rfl hn hd) pa_nil hs2) hs) (by decide) (by decide) hs hpl, ?_⟩
  intro en io F H σ s o Q R e' hx hq
  refine he.s.step R e' hx fun d s1 v io1 F1 H1 l1 R1 r1 e1 hx1 => ?_
  obtain ⟨z, e2, e3⟩ := lft_some e1
  unfold isiD at e2
  cases ht : tyD d with
  | none => rw [ht] at e2; cases e2
  | some t =>
    rw [ht] at e2
    obtain ⟨b, hb, rfl⟩ := Option.map_eq_some_iff.mp e2
    exact ⟨v, .ty T, .type t, .type T, b, rfl, .ty T, tyx_of R1.h.ex ht r1, kit_ty hb, hq _ _ e3 _ io1 F1 H1 l1 R1 rfl⟩
/-! ### built-ins on texts and lists -/
def decS (i : Int) : List Nat := (Str.ofString (toString i)).cps.toList
def strF : List D → Option D
  | [.int i] => if i.natAbs.log2 < 1920 then some (.str (decS i)) else none
  | _ => none
theorem b_str : CallOk X (.type "str") (fun xs H Q => ∃ i, xs = [.int i] ∧ i.natAbs.log2 < 1920 ∧ Q (.str (toString i)) H) strF := ⟨call_str_int, calld_val fun io F H vs ds d Q ex rx e k => by
  match ds, e with
  | [.int i], e =>
    obtain ⟨v, rfl, r⟩ := reps1 rx
    have e' : (if i.natAbs.log2 < 1920 then some (D.str (decS i)) else none) = some d := e
    by_cases hc : i.natAbs.log2 < 1920
    · rw [if_pos hc] at e'
      cases e'
      exact ⟨i, by rw [show v = _ from r], hc, k _ fun _ _ _ => rfl⟩
    · rw [if_neg hc] at e'
      cases e'⟩
def intSF : List D → Option D
  | [.str x] => if x.length ≤ 640 then (PySem.intText? ⟨x.toArray⟩).map .int else none
  | _ => none
theorem b_intS : CallOk X (.type "int") (fun xs H Q => ∃ a n, xs = [.str a] ∧ PySem.intText? a = some n ∧ a.length ≤ 640 ∧ Q (.int n) H) intSF := ⟨call_int_str, calld_val fun io F H vs ds d Q ex rx e k => by
  match ds, e with
  | [.str x], e =>
    obtain ⟨v, rfl, r⟩ := reps1 rx
    have e' : (if x.length ≤ 640 then (PySem.intText? ⟨x.toArray⟩).map D.int else none) = some d := e
    by_cases hc : x.length ≤ 640
    · rw [if_pos hc] at e'
      obtain ⟨n, hn, rfl⟩ := Option.map_eq_some_iff.mp e'
      exact ⟨_, n, by rw [show v = _ from r], hn, by rw [str_len]; exact hc, k _ fun _ _ _ => rfl⟩
    · rw [if_neg hc] at e'
      cases e'⟩
/-- a list of truth values; of numbers -/
def blsD : List D → Option (List Bool)
  | [] => some []
  | .bl b :: l => (blsD l).map (b :: ·)
  | _ => none
def intsD : List D → Option (List Int)
  | [] => some []
  | .int b :: l => (intsD l).map (b :: ·)
  | _ => none
theorem bls_reps {io : List Addr} {F : Hp} : ∀ {l : List D} {xs : List V} {bs : List Bool}, blsD l = some bs → reps K io F l xs → xs = bs.map V.bl
  | [], xs, bs, h, r => by
    cases h
    exact r
  | .bl b :: l, xs, bs, h, r => by
    obtain ⟨v, t, rfl, r1, r2⟩ := r
    have h' : (blsD l).map (b :: ·) = some bs := h
    obtain ⟨cs, h1, rfl⟩ := Option.map_eq_some_iff.mp h'
    rw [bls_reps h1 r2, show v = _ from r1]
    rfl
theorem ints_reps {io : List Addr} {F : Hp} : ∀ {l : List D} {xs : List V} {bs : List Int}, intsD l = some bs → reps K io F l xs → xs = bs.map V.int
  | [], xs, bs, h, r => by
    cases h
    exact r
  | .int b :: l, xs, bs, h, r => by
    obtain ⟨v, t, rfl, r1, r2⟩ := r
    have h' : (intsD l).map (b :: ·) = some bs := h
    obtain ⟨cs, h1, rfl⟩ := Option.map_eq_some_iff.mp h'
    rw [ints_reps h1 r2, show v = _ from r1]
    rfl
def allF : List D → Option D
  | [.lst l] => (blsD l).map fun bs => .bl (bs.all id)
  | _ => none
def anyF : List D → Option D
  | [.lst l] => (blsD l).map fun bs => .bl (bs.any id)
  | _ => none
def sumF : List D → Option D
  | [.lst l] => (intsD l).map fun bs => .int bs.sum
  | _ => none
theorem b_all (hc : X.calm = true) : CallOk X (.builtin "all") (rAll X.K) allF := ⟨cr_all hc, calld_val fun io F H vs ds d Q ex rx e k => by
  match ds, e with
  | [.lst l], e =>
    obtain ⟨v, rfl, p, xs, rfl, h, r⟩ := reps1 rx
    obtain ⟨bs, h1, rfl⟩ := Option.map_eq_some_iff.mp (show (blsD l).map (fun bs => D.bl (bs.all id)) = some d from e)
    exact ⟨p, bs, rfl, .inl (.of (bls_reps h1 r ▸ ex p _ h)), k _ fun _ _ _ => rfl⟩⟩
theorem b_any (hc : X.calm = true) : CallOk X (.builtin "any") (rAny X.K) anyF := ⟨cr_any hc, calld_val fun io F H vs ds d Q ex rx e k => by
  match ds, e with
  | [.lst l], e =>
    obtain ⟨v, rfl, p, xs, rfl, h, r⟩ := reps1 rx
    obtain ⟨bs, h1, rfl⟩ := Option.map_eq_some_iff.mp (show (blsD l).map (fun bs => D.bl (bs.any id)) = some d from e)
    exact ⟨p, bs, rfl, .inl (.of (bls_reps h1 r ▸ ex p _ h)), k _ fun _ _ _ => rfl⟩⟩
theorem b_sum (hc : X.calm = true) : CallOk X (.builtin "sum") (rSum X.K) sumF := ⟨cr_sum hc, calld_val fun io F H vs ds d Q ex rx e k => by
  match ds, e with
  | [.lst l], e =>
    obtain ⟨v, rfl, p, xs, rfl, h, r⟩ := reps1 rx
    obtain ⟨bs, h1, rfl⟩ := Option.map_eq_some_iff.mp (show (intsD l).map (fun bs => D.int bs.sum) = some d from e)
    exact ⟨p, bs, rfl, .inl (.of (ints_reps h1 r ▸ ex p _ h)), k _ fun _ _ _ => rfl⟩⟩
/-- list(xs) -/
def listF : List D → Option D
  | [.lst l] => some (.lst l)
  | [.fz l] => some (.lst l)
  | [.tup l] => some (.lst l)
  | _ => none
abbrev r_list (K : PySem.W.Frag) : List V → Hp → VK → Prop := fun xs H Q => ∃ p ys, xs = [.ref p] ∧ (SqL K H p ys ∨ SqT K H p ys) ∧ ∀ l, H l = none → Q (.ref l) (upd H l (.lst ys))
theorem b_list : CallOk X (.type "list") (r_list X.K) listF := ⟨call_list_of, fun en io F H σ s vs ds d Q R rx e k => by
  have fin : ∀ (l : List D) (p : Addr) (xs : List V), d = .lst l → vs = [.ref p] → (SqL X.K H p xs ∨ SqT X.K H p xs) → reps X.K io F l xs → r_list X.K vs H Q := fun l p xs ed ev hs hr => by
    subst ed
    refine ⟨p, xs, ev, hs, fun q hq => ?_⟩
    obtain ⟨R2, l2⟩ := R.new hq (.lst xs)
    exact k _ io _ _ l2 R2 ⟨q, _, rfl, upd_same, reps_le l2 _ _ hr⟩
  match ds, e with
  | [.lst l], e =>
    obtain ⟨v, rfl, p, xs, rfl, h, r⟩ := reps1 rx
    cases e
    exact fin l p xs rfl rfl (.inl (.of (R.h.ex p _ h))) r
  | [.fz l], e =>
    obtain ⟨v, rfl, p, xs, rfl, h, r⟩ := reps1 rx
    cases e
    exact fin l p xs rfl rfl (.inl (R.h.ex.l h)) r
  | [.tup l], e =>
    obtain ⟨v, rfl, p, xs, rfl, h, r⟩ := reps1 rx
    cases e
    exact fin l p xs rfl rfl (.inr (R.h.ex.t h)) r⟩
/-! ### text.split(sep) -/
def splitD (a : List Nat) : D → Option D
  | .str b => if b.length ≠ 0 ∧ a.length + 2 ≤ sizeLine then some (.lst ((Txt.split ⟨a.toArray⟩ ⟨b.toArray⟩).map fun y => .str y.cps.toList)) else none
  | _ => none
def mSplit (ma mb : M D) : M D := bnd ma fun d => match d with
  | .str x => bnd mb fun e => lft (splitD x e)
  | _ => fun _ => none
abbrev rSplit : V → List V → Hp → VK → Prop := fun x xs H Q => ∃ a b, x = .str a ∧ xs = [.str b] ∧ (b.length == 0) = false ∧ a.length + 2 ≤ sizeLine ∧ rNewStrs (Txt.split a b) H Q
theorem reps_strs {io : List Addr} {F : Hp} : ∀ l : List Str, reps K io F (l.map fun y => .str y.cps.toList) (l.map V.str)
  | [] => rfl
  | y :: l => ⟨_, _, rfl, rfl, reps_strs l⟩
theorem de_split {apos : Pos} (ho : DE X W a ta ma) (he : DE X W b tb mb) (hs : starEach [b] X.env = [(false, eval b X.env)] := by rfl) (hbase : attributeBase a "split" X.env (eval a X.env) = eval a X.env := by rfl) (hline : (apos.endLine == pos.line) = true := by rfl) :
    DE X W (.Call (.Attribute a "split" apos) [b] [] pos) (tM1 rSplit ta tb) (mSplit ma mb) := ⟨pe_split ho.p he.p hs hbase hline, by
  intro en io F H σ s o Q R e hx hq
  refine ho.s.step R e hx fun d s1 v io1 F1 H1 l1 R1 r1 e1 hx1 => ?_
  cases d with
  | str x =>
    refine ⟨⟨_, r1⟩, he.s.step R1 e1 hx1 fun d2 s2 v2 io2 F2 H2 l2 R2 r2 e2 hx2 => ?_⟩
    obtain ⟨z, e3, e4⟩ := lft_some e2
    match d2, e3 with
    | .str y, e3 =>
      have e' : (if y.length ≠ 0 ∧ x.length + 2 ≤ sizeLine then some (D.lst ((Txt.split ⟨x.toArray⟩ ⟨y.toArray⟩).map fun y => .str y.cps.toList)) else none) = some z := e3
      by_cases hc : y.length ≠ 0 ∧ x.length + 2 ≤ sizeLine
      · rw [if_pos hc] at e'
        cases e'
        refine ⟨⟨x.toArray⟩, ⟨y.toArray⟩, rep_le l2 (.str x) _ r1, by rw [show v2 = _ from r2], ?_, by rw [str_len]; exact hc.2, fun p hp => ?_⟩
        · rw [str_len]
          exact beq_eq_false_iff_ne.mpr hc.1
        · obtain ⟨R3, l3⟩ := R2.new hp (.lst ((Txt.split ⟨x.toArray⟩ ⟨y.toArray⟩).map V.str))
          exact hq _ _ e4 _ io2 _ _ ((l1.trans l2).trans l3) R3 ⟨p, _, rfl, upd_same, reps_strs _⟩
      · rw [if_neg hc] at e'
        cases e'
  | _ => cases e1⟩
end
section
variable {X : Cx} {W : WX} {pos : Pos} {e : Expr} {te : TE} {me : M D} {kws : List Keyword} {tk : TA} {mk : M (List D)}
theorem ke_isi (K : PySem.W.Frag) {x : Str} {T : String} {p p2 : Pos} (hg : Gl X "isinstance") (hm : X.mg "isinstance" = none) (hgT : Gl X x) (hmT : X.mg x = none) (hvT : bootBuiltins x = some (.type T)) (he : DE X W e te me) (hK : X.K = K := by rfl) (hv : bootBuiltins "isinstance" = some (.builtin "isinstance") := by decide +kernel) (hn : x ≠ "__name__" := by decide) (hd : (x == ("__debug__" : Str)) = false := by decide)
    (hs : starEach [e, .Name x p2] X.env = (false, eval e X.env) :: starEach [.Name x p2] X.env := by rfl) (hs2 : starEach [.Name x p2] X.env = (false, eval (.Name x p2) X.env) :: starEach [] X.env := by rfl) (hpl : (backTo pos (starEach [.Name x p2] X.env)).any (·.1) = false := by rfl) :
    DE X W (.Call (.Name "isinstance" p) [e, .Name x p2] [] pos) (tIsi K T te) (mUn (isiD T) me) := by subst hK; exact de_isi hg hm hgT hmT hvT he hv hn hd hs hs2 hpl
theorem kb_all (K : PySem.W.Frag) (hc : X.calm = true) (hK : X.K = K := by rfl) : CallOk X (.builtin "all") (rAll K) allF := by subst hK; exact b_all hc
theorem kb_any (K : PySem.W.Frag) (hc : X.calm = true) (hK : X.K = K := by rfl) : CallOk X (.builtin "any") (rAny K) anyF := by subst hK; exact b_any hc
theorem kb_sum (K : PySem.W.Frag) (hc : X.calm = true) (hK : X.K = K := by rfl) : CallOk X (.builtin "sum") (rSum K) sumF := by subst hK; exact b_sum hc
theorem kb_list (K : PySem.W.Frag) (hK : X.K = K := by rfl) : CallOk X (.type "list") (r_list K) listF := by subst hK; exact b_list
theorem ke_callK (K : PySem.W.Frag) (mg : Str → Option Value) {x qual : Str} {st : Stmt} {ps ks : List Str} {k np : Nat} {n : Fn} {p : Pos} (nk : Nat) (π : List Nat) (c : Cal X.prog X.w X.K X.mg X.base x qual st ps k np n) (hr : RoomG k X.A) (tk' : Takes X W) (hn : 0 < ps.length)
    (hbd : ∀ (kV doc pm : Value) (an : Option Addr) (cdv ct : Value) (ws : List Value), ws.length = nk → bindArgs (PySem.W.fnOf x qual (defArgs st) (defBody st) (defScope st) .none kV doc pm an cdv ct) ⟨[], ks.zip ws⟩ = pure (ps.zip (perm π ws)))
    (hkw : DK X W kws tk mk) (hK : X.K = K := by rfl) (hM : X.mg = mg := by rfl) (hg : Gl X x := by rfl) (hdb : (x == ("__debug__" : Str)) = false := by decide)
    (hall : (backToKw pos (keywordEach kws X.env)).all (·.1.isSome) = true := by rfl) (hks : (backToKw pos (keywordEach kws X.env)).filterMap (·.1) = ks := by rfl)
    (hpl : ((backTo pos (starEach [] X.env)).any (·.1) || (backToKw pos (keywordEach kws X.env)).any (·.1.isNone)) = false := by rfl) :
    DE X W (.Call (.Name x p) [] kws pos) (tCallKD (spD K mg np n) (gPerm nk π) (fun σ c d H => W c d σ H) tk) (mCall np n (mPerm nk π mk)) := by subst hK hM; exact de_callKC nk π c hr tk' hn hbd hkw hg hdb hall hks hpl
end
section
variable {X : Cx} {W : WX} {pos : Pos} {a b c e : Expr} {ta tb te : TE} {ma mb me : M D} {tl : TA} {ml : M (List D)}
/-- x, y, z = a, b, c -/
def mPar3 (i j k : Nat) (m : M (List D)) : M Fl := bnd m fun l => match l with
  | [d, e, f] => fun s => some (.ok .nx { s with sl := ((s.sl.set i (some (.val d))).set j (some (.val e))).set k (some (.val f)) })
  | _ => fun _ => none
theorem reps3 {K : PySem.W.Frag} {io : List Addr} {F : Hp} {d d' d2 : D} {vs : List V} (r : reps K io F [d, d', d2] vs) : ∃ x y z, vs = [x, y, z] ∧ rep K io F d x ∧ rep K io F d' y ∧ rep K io F d2 z := by
  obtain ⟨x, t, rfl, h, h2⟩ := r
  obtain ⟨y, z, rfl, h3, h4⟩ := reps2 h2
  exact ⟨x, y, z, rfl, h, h3, h4⟩
theorem ds_par3 (i j k : Nat) {x y z : Str} {px py pz pt : Pos} {kt k2 pt2} (hc : X.calm = true) (hN : X.N.Nodup) (ha : DA X W [a, b, c] tl ml) (hi : X.N[i]? = some x := by rfl) (hj : X.N[j]? = some y := by rfl) (hk : X.N[k]? = some z := by rfl) (hij : i ≠ j := by decide) (hik : i ≠ k := by decide) (hjk : j ≠ k := by decide)
    (hx : X.env.scope.names.lookup x = some .local := by rfl) (hy : X.env.scope.names.lookup y = some .local := by rfl) (hz : X.env.scope.names.lookup z = some .local := by rfl)
    (hw : swappedStores [.Tuple [.Name x px, .Name y py, .Name z pz] kt pt] (.Tuple [a, b, c] k2 pt2) X.env = pure (some [x, y, z]) := by rfl)
    (hs : swapsWithSole [.Tuple [.Name x px, .Name y py, .Name z pz] kt pt] (.Tuple [a, b, c] k2 pt2) pos.line X.env = pure false := by rfl) :
    DS X W (.Assign [.Tuple [.Name x px, .Name y py, .Name z pz] kt pt] (.Tuple [a, b, c] k2 pt2) pos) (tPar3 i j k tl) (mPar3 i j k ml) := ⟨ps_par3 hc hN hi hj hk hij hik hjk hx hy hz ha.p hw hs, by
  intro en io F H σ s o E R e hx hq
  refine ha.s.step R e hx fun d s1 v io1 F1 H1 l1 R1 r1 e1 hx1 => ?_
  match d, e1 with
  | [d, d2, d3], e1 =>
    cases e1
    obtain ⟨x1, x2, x3, rfl, r, r', r''⟩ := reps3 r1
    exact ⟨x1, x2, x3, rfl, hq _ _ rfl io1 F1 H1 _ l1 (((R1.setv r).setv r').setv r'')⟩⟩
/-- sep.join(xs), xs a list of the own heap -/
def mJoinH (ma mb : M D) : M D := bnd ma fun d => match d with
  | .str s => bnd mb fun o st => match getH st o with
    | some l => match joinD s (.lst l) with
      | some z => some (.ok z st)
      | none => none
    | none => none
  | _ => fun _ => none
theorem de_joinH {apos : Pos} (ho : DE X W a ta ma) (he : DE X W b tb mb) (hs : starEach [b] X.env = [(false, eval b X.env)] := by rfl) (hbase : attributeBase a "join" X.env (eval a X.env) = eval a X.env := by rfl) (hline : (apos.endLine == pos.line) = true := by rfl) :
    DE X W (.Call (.Attribute a "join" apos) [b] [] pos) (tM1 (r_join X.K) ta tb) (mJoinH ma mb) := ⟨pe_join ho.p he.p hs hbase hline, by
  intro en io F H σ s o Q R e hx hq
  refine ho.s.step R e hx fun d s1 v io1 F1 H1 l1 R1 r1 e1 hx1 => ?_
  cases d with
  | str sp =>
    refine ⟨⟨_, r1⟩, he.s.step R1 e1 hx1 fun d2 s2 v2 io2 F2 H2 l2 R2 r2 e2 hx2 => ?_⟩
    have e3 : (match getH s2 d2 with | some l => (match joinD sp (.lst l) with | some z => some (O.ok z s2) | none => none) | none => none) = some o := e2
    cases hg : getH s2 d2 with
    | none => rw [hg] at e3; cases e3
    | some l =>
      rw [hg] at e3
      cases hz : joinD sp (.lst l) with
      | none =>
        simp only [hz] at e3
        cases e3
      | some z =>
        simp only [hz] at e3
        cases e3
        obtain ⟨l', ys, hl, hys, hc, rfl⟩ := joinD_some hz
        cases hl
        obtain ⟨p, xs, rfl, hF, hH, rx, _⟩ := R2.getH hg r2
        have ex := strs_reps hys rx
        refine ⟨⟨sp.toArray⟩, p, ys.map fun y => (⟨y.toArray⟩ : Str), rep_le l2 (.str sp) _ r1, rfl, .inl (.of (by rw [← ex]; exact hH)), ?_, ?_⟩
        · rw [List.length_map, str_len, List.map_map]
          have : (fun x : Str => x.length) ∘ (fun y : List Nat => (⟨y.toArray⟩ : Str)) = fun y => y.length := by
            funext y
            exact str_len y
          rw [this]
          exact hc
        · have ej := SX.join_S sp ys
          rw [joinL_eq] at ej
          have ej' : Txt.join ⟨sp.toArray⟩ (ys.map fun y => (⟨y.toArray⟩ : Str)) = ⟨(joinL sp ys).toArray⟩ := ej
          rw [ej']
          exact hq _ _ rfl _ io2 F2 H2 (l1.trans l2) R2 rfl
  | _ => cases e1⟩
end
theorem ke_joinH {X : Cx} {W : WX} {pos : Pos} {a b : Expr} {ta tb : TE} {ma mb : M D} (K : PySem.W.Frag) {apos : Pos} (ho : DE X W a ta ma) (he : DE X W b tb mb) (hK : X.K = K := by rfl) (hs : starEach [b] X.env = [(false, eval b X.env)] := by rfl) (hbase : attributeBase a "join" X.env (eval a X.env) = eval a X.env := by rfl) (hline : (apos.endLine == pos.line) = true := by rfl) :
    DE X W (.Call (.Attribute a "join" apos) [b] [] pos) (tM1 (r_join K) ta tb) (mJoinH ma mb) := by subst hK; exact de_joinH ho he hs hbase hline
/-- a, b, .. = a list of that length -/
def gL (gs : List D → M Unit) (n : Nat) (d : D) : M Unit := match d with
  | .lst l => if l.length = n then gs l else fun _ => none
  | _ => fun _ => none
theorem kg_lst {X : Cx} {W : WX} {pos : Pos} (K : PySem.W.Frag) {es : List Expr} {k : Nat} {t : TGs} {gs : List D → M Unit} {n : Nat} (hc : X.calm = true) (h : DGs X W es t gs) (hK : X.K = K := by rfl)
    (hn : (assignEach es X.env).length = n := by rfl) (hst : (assignEach es X.env).findIdx? (·.1) = none := by rfl) : DG X W (.Tuple es k pos) (gUnl K n t) (gL gs n) := by
  subst hK
  refine ⟨pg_unl hc h.p hn hst, ?_⟩
  intro en io F H σ s d v o Q R r e hx hq
  match d, e with
  | .lst l, e =>
    obtain ⟨a, xs, rfl, h1, h2⟩ := r
    have e' : (if l.length = n then gs l else fun _ => none) s = some o := e
    by_cases hl : l.length = n
    · rw [if_pos hl] at e'
      exact ⟨a, xs, rfl, .of (R.h.ex a _ h1), by rw [reps_len h2]; exact hl, h.s en io F H σ s l xs o Q R h2 e' hx hq⟩
    · rw [if_neg hl] at e'
      cases e'
/-- a def that nothing is known of -/
theorem cal_none {P : Program} {w : World} {K : PySem.W.Frag} {mg : Str → Option Value} {base : Heap} {x qual : Str} {st : Stmt} {ps : List Str} {k np : Nat} {f : Addr} {fd : FuncData} (d : Dfn K mg x qual st ps f fd) : Cal P w K mg base x qual st ps k np (fun _ _ => none) :=
  ⟨f, fd, d, ⟨fun _ _ _ _ ⟨_, _, _, _, _, _, _, _, h, _⟩ => (by cases h), fun _ _ _ _ _ _ _ _ _ _ _ _ _ ⟨_, _, _, _, _, _, _, _, h, _⟩ => (by cases h)⟩⟩
end Z
/-! Z10: repr of lists -/
namespace Z
open PySem L2 PySem.Spec
open Classical
def reprF : List D → Option D
  | [.lst l] => match toP (.lst l) with
    | some p => if p.showable = true ∧ p.hasDict = false ∧ p.depth ≤ 60 ∧ p.shown.length ≤ sizeLine then some (.str p.shown.cps.toList) else none
    | none => none
  | _ => none
abbrev rRepr (K : PySem.W.Frag) : List V → Hp → VK → Prop := fun xs H Q => ∃ (a : Addr) (d : PyData), xs = [.ref a] ∧ Dp K H (.ref a) d ∧ d.showable = true ∧ d.hasDict = false ∧ d.depth ≤ 60 ∧ d.shown.length ≤ sizeLine ∧ Q (.str d.shown) H
section
variable {X : Cx}
theorem call_reprL {k : Nat} (hr : RoomG k X.A) : CallR X (.builtin "repr") (rRepr X.K) := by
  intro pins s σ H xs us Q I r h
  obtain ⟨a, d, rfl, hd, h1, h2, h3, h4, q⟩ := h
  rw [Vals.ref1 r]
  obtain ⟨as, r1⟩ := Dp.reads I d _ (.ref a) hd rfl
  have hu := hr.units
  exact repr_of_reads' (h₀ := s.heap) r1 h1 (fun z => by rw [h2] at z; cases z) hr.g (by omega) (fun _ _ e => e) (fun h' u tk hk => ⟨.str _, H, I.kept (t' := tk) hk, ⟨_, rfl⟩, q⟩) h4
theorem b_repr {k : Nat} (hr : RoomG k X.A) : CallOk X (.builtin "repr") (rRepr X.K) reprF := ⟨call_reprL hr, calld_val fun io F H vs ds d Q ex rx e k => by
  match ds, e with
  | [.lst l], e =>
    obtain ⟨v, rfl, r⟩ := reps1 rx
    have e' : (match toP (.lst l) with | some p => if p.showable = true ∧ p.hasDict = false ∧ p.depth ≤ 60 ∧ p.shown.length ≤ sizeLine then some (D.str p.shown.cps.toList) else none | none => none) = some d := e
    cases hp : toP (.lst l) with
    | none => rw [hp] at e'; cases e'
    | some p =>
      rw [hp] at e'
      by_cases hc : p.showable = true ∧ p.hasDict = false ∧ p.depth ≤ 60 ∧ p.shown.length ≤ sizeLine
      · simp only [if_pos hc] at e'
        cases e'
        have hd := rep_dp ex _ _ _ hp r
        obtain ⟨a, xs, rfl, _⟩ := r
        exact ⟨a, p, rfl, hd, hc.1, hc.2.1, hc.2.2.1, hc.2.2.2, k _ fun _ _ _ => rfl⟩
      · simp only [if_neg hc] at e'
        cases e'⟩
theorem kb_repr (K : PySem.W.Frag) {k : Nat} (hr : RoomG k X.A) (hK : X.K = K := by rfl) : CallOk X (.builtin "repr") (rRepr K) reprF := by subst hK; exact b_repr hr
end
end Z
/-! Z11: dicts of the own heap (keys: numbers and texts) -/
namespace Z
open PySem L2 PySem.Spec
open Classical
theorem kk_inj {a b : KK} : kk a = kk b ↔ a = b := by
  constructor
  · intro h
    cases a with
    | inl i =>
      cases b with
      | inl j => injection h with h; rw [h]
      | inr s => cases h
    | inr s =>
      cases b with
      | inl j => cases h
      | inr t =>
        injection h with h
        have := congrArg Str.cps h
        have : s = t := by simpa using congrArg Array.toList this
        rw [this]
  · rintro rfl
    rfl
def keyD : D → Option KK
  | .int i => some (.inl i)
  | .str s => some (.inr s)
  | _ => none
theorem keyD_rep {K : PySem.W.Frag} {io : List Addr} {F : Hp} {d : D} {k : KK} {v : V} (h : keyD d = some k) (r : rep K io F d v) : v = kV (kk k) := by
  cases d with
  | int i => cases h; exact r
  | str s => cases h; exact r
  | _ => cases h
noncomputable def getK (kvs : List (KK × D)) (k : KK) : Option D := (kvs.find? fun p => decide (p.1 = k)).map (·.2)
noncomputable def putKD (kvs : List (KK × D)) (k : KK) (d : D) : List (KK × D) := if (kvs.any fun p => decide (p.1 = k)) = true then kvs.map (fun p => if p.1 = k then (p.1, d) else p) else kvs ++ [(k, d)]
theorem kreps_cons {K : PySem.W.Frag} {io : List Addr} {F : Hp} {p : KK × D} {kvs : List (KK × D)} {ws : List (Key × V)} (h : KReps kk K io F (p :: kvs) ws) : ∃ v t, ws = (kk p.1, v) :: t ∧ rep K io F p.2 v ∧ KReps kk K io F kvs t := by
  obtain ⟨h1, h2⟩ := h
  cases ws with
  | nil => cases h1
  | cons w t =>
    obtain ⟨k, v⟩ := w
    rw [List.map_cons, List.map_cons] at h1
    injection h1 with h3 h4
    obtain ⟨x, r, e, r1, r2⟩ := h2
    rw [List.map_cons] at e
    injection e with e1 e2
    have h3' : k = kk p.1 := h3
    subst h3'
    exact ⟨v, t, rfl, by rw [show v = x from e1]; exact r1, h4, by rw [e2]; exact r2⟩
theorem kreps_mk {K : PySem.W.Frag} {io : List Addr} {F : Hp} {p : KK × D} {kvs : List (KK × D)} {v : V} {t : List (Key × V)} (r : rep K io F p.2 v) (h : KReps kk K io F kvs t) : KReps kk K io F (p :: kvs) ((kk p.1, v) :: t) :=
  ⟨by rw [List.map_cons, List.map_cons, h.1], ⟨v, t.map (·.2), rfl, r, h.2⟩⟩
theorem kreps_get {K : PySem.W.Frag} {io : List Addr} {F : Hp} (k : KK) : ∀ {kvs : List (KK × D)} {ws : List (Key × V)}, KReps kk K io F kvs ws → (∃ d v, getK kvs k = some d ∧ valV ws (kk k) = some v ∧ rep K io F d v) ∨ (getK kvs k = none ∧ valV ws (kk k) = none)
  | [], ws, h => by
    obtain ⟨h1, _⟩ := h
    cases ws with
    | nil => exact .inr ⟨rfl, rfl⟩
    | cons w t => cases h1
  | p :: kvs, ws, h => by
    obtain ⟨v, t, rfl, r, h'⟩ := kreps_cons h
    by_cases e : p.1 = k
    · refine .inl ⟨p.2, v, ?_, valV_pos (p := (kk p.1, v)) (by rw [e]), r⟩
      unfold getK
      rw [List.find?_cons, decide_eq_true e]
      rfl
    · have e2 : getK (p :: kvs) k = getK kvs k := by
        unfold getK
        rw [List.find?_cons, decide_eq_false e]
      rw [e2, valV_neg (p := (kk p.1, v)) (fun z => e (kk_inj.mp z))]
      exact kreps_get k h'
theorem kreps_any {K : PySem.W.Frag} {io : List Addr} {F : Hp} (k : KK) : ∀ {kvs : List (KK × D)} {ws : List (Key × V)}, KReps kk K io F kvs ws → (ws.any fun p => decide (p.1 = kk k)) = (kvs.any fun p => decide (p.1 = k))
  | [], ws, h => by
    obtain ⟨h1, _⟩ := h
    cases ws with
    | nil => rfl
    | cons w t => cases h1
  | p :: kvs, ws, h => by
    obtain ⟨v, t, rfl, r, h'⟩ := kreps_cons h
    rw [List.any_cons, List.any_cons, kreps_any k h']
    congr 1
    rw [decide_eq_decide]
    exact kk_inj
theorem kreps_map {K : PySem.W.Frag} {io : List Addr} {F : Hp} (k : KK) {d : D} {v : V} (rd : rep K io F d v) : ∀ {kvs : List (KK × D)} {ws : List (Key × V)}, KReps kk K io F kvs ws → KReps kk K io F (kvs.map fun p => if p.1 = k then (p.1, d) else p) (ws.map fun p => if p.1 = kk k then (p.1, v) else p)
  | [], ws, h => by
    obtain ⟨h1, _⟩ := h
    cases ws with
    | nil => exact ⟨rfl, rfl⟩
    | cons w t => cases h1
  | p :: kvs, ws, h => by
    obtain ⟨u, t, rfl, r, h'⟩ := kreps_cons h
    have ih := kreps_map k rd h'
    rw [List.map_cons, List.map_cons]
    by_cases e : p.1 = k
    · rw [if_pos e, if_pos (kk_inj.mpr e)]
      exact kreps_mk (p := (p.1, d)) rd ih
    · rw [if_neg e, if_neg (fun z => e (kk_inj.mp z))]
      exact kreps_mk r ih
theorem kreps_snoc {K : PySem.W.Frag} {io : List Addr} {F : Hp} {k : KK} {d : D} {v : V} (rd : rep K io F d v) : ∀ {kvs : List (KK × D)} {ws : List (Key × V)}, KReps kk K io F kvs ws → KReps kk K io F (kvs ++ [(k, d)]) (ws ++ [(kk k, v)])
  | [], ws, h => by
    obtain ⟨h1, _⟩ := h
    cases ws with
    | nil => exact kreps_mk (p := (k, d)) rd ⟨rfl, rfl⟩
    | cons w t => cases h1
  | p :: kvs, ws, h => by
    obtain ⟨u, t, rfl, r, h'⟩ := kreps_cons h
    exact kreps_mk r (kreps_snoc rd h')
theorem kreps_put {K : PySem.W.Frag} {io : List Addr} {F : Hp} {k : KK} {d : D} {v : V} (rd : rep K io F d v) {kvs : List (KK × D)} {ws : List (Key × V)} (h : KReps kk K io F kvs ws) : KReps kk K io F (putKD kvs k d) (putK ws (kk k) v) := by
  unfold putKD putK
  have e := kreps_any k h
  by_cases hc : (kvs.any fun p => decide (p.1 = k)) = true
  · rw [if_pos hc, if_pos (by rw [← hc, ← e])]
    have := kreps_map k rd h
    exact this
  · rw [if_neg hc, if_neg (by intro z; apply hc; rw [← e, ← z])]
    exact kreps_snoc rd h
section
variable {X : Cx} {W : WX} {pos : Pos} {K : PySem.W.Frag} {mg : Str → Option Value} {a b c e : Expr} {ta tb te : TE} {ma mb me : M D} {en : Ent} {io : List Addr} {F H : Hp} {σ : St} {s : A}
def getDk (s : A) (d : D) : Option (List (KK × D)) := match d with
  | .ref r => match s.hp[r]? with
    | some (.dk l) => some l
    | _ => none
  | _ => none
def setDk (s : A) (d : D) (l : List (KK × D)) : A := match d with
  | .ref r => { s with hp := s.hp.set r (.dk l) }
  | _ => s
theorem Rel.getDk (R : Rel K en io F H σ s) {d : D} {v : V} {l : List (KK × D)} (h : getDk s d = some l) (r : rep K io F d v) : ∃ p ws, v = .ref p ∧ F p = none ∧ H p = some (.dK ws) ∧ KReps kk K io F l ws ∧
    ∀ l' ws', KReps kk K io F l' ws' → Rel K en io F (upd H p (.dK ws')) σ (setDk s d l') := by
  match d, h with
  | .ref k, h =>
    unfold Z.getDk at h
    simp only at h
    split at h
    · rename_i l' h'
      cases h
      obtain ⟨p, rfl, hp⟩ := r
      obtain ⟨hF, ws, hH, rx⟩ := R.h.ids k p _ hp h'
      exact ⟨p, ws, rfl, hF, hH, rx, fun l' ws' ry => R.hput h' hp hF ⟨hF, ws', upd_same, ry⟩⟩
    · cases h
/-- to be read: locked or not -/
def getDr (s : A) (d : D) : Option (List (KK × D)) := match d with
  | .ref r => match s.hp[r]? with
    | some (.dk l) => some l
    | some (.dkL l) => some l
    | _ => none
  | _ => none
theorem Rel.getDr (R : Rel K en io F H σ s) {d : D} {v : V} {l : List (KK × D)} (h : getDr s d = some l) (r : rep K io F d v) : ∃ p ws, v = .ref p ∧ Rd H p (.dK ws) ∧ KReps kk K io F l ws := by
  match d, h with
  | .ref k, h =>
    unfold Z.getDr at h
    simp only at h
    obtain ⟨p, rfl, hp⟩ := r
    split at h
    · rename_i l' h'
      cases h
      obtain ⟨hF, ws, hH, rx⟩ := R.h.ids k p _ hp h'
      exact ⟨p, ws, rfl, .inl hH, rx⟩
    · rename_i l' h'
      cases h
      obtain ⟨ob, ws, _, hH, rx⟩ := R.h.ids k p _ hp h'
      exact ⟨p, ws, rfl, .inr ⟨ob, hH⟩, rx⟩
    · cases h
/-- {} -/
def mDNew : M D := fun s => some (.ok (.ref s.hp.length) { s with hp := s.hp ++ [.dk []] })
theorem de_dnew : DE X W (.Dict [] [] pos) tDNewK mDNew := ⟨pe_dnewK, by
  intro en io F H σ s o Q R e hx hq
  cases e
  intro p hp
  obtain ⟨R2, l2, r2⟩ := R.hnew (ho := .dK []) (o := .dk []) hp ⟨R.h.ex.none_of hp, [], upd_same, rfl, rfl⟩
  exact hq _ _ rfl _ _ _ _ l2 R2 r2⟩
/-- d[k] -/
noncomputable def mDGet (mo mk : M D) : M D := bnd mo fun o => bnd mk fun k s => match keyD k, getDr s o with
  | some k, some l => match getK l k with
    | some d => some (.ok d s)
    | none => none
  | _, _ => none
theorem de_dget (hu : X.A.units + 64 < cLine) (ho : DE X W a ta ma) (hi : DE X W b tb mb) (hs : NoSl b := by exact fun _ _ => rfl) : DE X W (.Subscript a b pos) (tDGet ta tb) (mDGet ma mb) := ⟨pe_dget (by omega) ho.p hi.p hs, by
  intro en io F H σ s o Q R e hx hq
  refine ho.s.step R e hx fun d s1 v io1 F1 H1 l1 R1 r1 e1 hx1 => ?_
  refine hi.s.step R1 e1 hx1 fun d2 s2 v2 io2 F2 H2 l2 R2 r2 e2 hx2 => ?_
  split at e2
  · rename_i k l hk hl
    split at e2
    · rename_i z hz
      cases e2
      obtain ⟨p, ws, rfl, hH, rx⟩ := R2.getDr hl (rep_le l2 _ _ r1)
      have ek := keyD_rep hk r2
      rcases kreps_get k rx with ⟨d, w, g1, g2, g3⟩ | ⟨g1, _⟩
      · rw [hz] at g1
        cases g1
        exact ⟨p, w, rfl, .inl ⟨ws, kk k, hH, ek, g2.symm⟩, hq _ _ rfl w io2 F2 H2 (l1.trans l2) R2 g3⟩
      · rw [hz] at g1
        cases g1
    · cases e2
  · cases e2⟩
/-- d[k] = v -/
noncomputable def mDPut (mv mo mk : M D) : M Fl := bnd mv fun v => bnd mo fun o => bnd mk fun k s => match keyD k, getDk s o with
  | some k, some l => if l.length < sizeLine then some (.ok .nx (setDk s o (putKD l k v))) else none
  | _, _ => none
theorem ds_dput {spos : Pos} (hu : X.A.units + 64 < cLine) (he : DE X W e te me) (ho : DE X W a ta ma) (hi : DE X W b tb mb) (hs : swapsWith e (some (.Subscript a b spos)) pos.line X.env = pure false := by rfl) :
    DS X W (.Assign [.Subscript a b spos] e pos) (sDPut ta tb te) (mDPut me ma mb) := ⟨ps_dput (by omega) ho.p hi.p he.p hs, by
  intro en io F H σ s o E R e' hx hq
  refine he.s.step R e' hx fun d s1 v io1 F1 H1 l1 R1 r1 e1 hx1 => ?_
  refine ho.s.step R1 e1 hx1 fun d2 s2 v2 io2 F2 H2 l2 R2 r2 e2 hx2 => ?_
  refine hi.s.step R2 e2 hx2 fun d3 s3 v3 io3 F3 H3 l3 R3 r3 e3 hx3 => ?_
  split at e3
  · rename_i k l hk hl
    by_cases hc : l.length < sizeLine
    · rw [if_pos hc] at e3
      cases e3
      obtain ⟨p, ws, rfl, hF, hH, rx, hput⟩ := R3.getDk hl (rep_le l3 _ _ r2)
      have ek := keyD_rep hk r3
      have hlen : ws.length = l.length := by
        have := congrArg List.length rx.1
        simpa using this
      exact ⟨p, _, rfl, .inl ⟨ws, kk k, hH, ek, by rw [hlen]; exact hc, rfl⟩, hq _ _ rfl io3 F3 _ σ ((l1.trans l2).trans l3) (hput _ _ (kreps_put (rep_le (l2.trans l3) _ _ r1) rx))⟩
    · rw [if_neg hc] at e3
      cases e3
  · cases e3⟩
/-- k in d, k not in d -/
noncomputable def mDIn (neg : Bool) (mk mo : M D) : M D := bnd mk fun k => bnd mo fun o s => match keyD k, getDr s o with
  | some k, some l => some (.ok (.bl (if neg then !(getK l k).isSome else (getK l k).isSome)) s)
  | _, _ => none
theorem kreps_some {ws : List (Key × V)} {l : List (KK × D)} (k : KK) (r : KReps kk K io F l ws) : (valV ws (kk k)).isSome = (getK l k).isSome := by
  rcases kreps_get k r with ⟨d, w, g1, g2, _⟩ | ⟨g1, g2⟩
  · rw [g1, g2]
    rfl
  · rw [g1, g2]
    rfl
theorem sem_din (neg : Bool) (hi : SemE K mg W ta ma) (ho : SemE K mg W tb mb) : SemE K mg W (if neg then tDNotIn ta tb else tDIn ta tb) (mDIn neg ma mb) := by
  intro en io F H σ s o Q R e hx hq
  have go : ∀ t : TE, t = (fun σ H Q => ta σ H fun y H1 => tb σ H1 fun x H2 => ∃ a r, x = .ref a ∧ DGet H2 a y r ∧ Q (.bl (if neg then !r.isSome else r.isSome)) H2) → t σ H Q := by
    rintro t rfl
    refine hi.step R e hx fun d s1 v io1 F1 H1 l1 R1 r1 e1 hx1 => ?_
    refine ho.step R1 e1 hx1 fun d2 s2 v2 io2 F2 H2 l2 R2 r2 e2 hx2 => ?_
    split at e2
    · rename_i k l hk hl
      cases e2
      obtain ⟨p, ws, rfl, hH, rx⟩ := R2.getDr hl r2
      have ek := keyD_rep hk (rep_le l2 _ _ r1)
      refine ⟨p, valV ws (kk k), rfl, .inl ⟨ws, kk k, hH, ek, rfl⟩, hq _ _ rfl _ io2 F2 H2 (l1.trans l2) R2 ?_⟩
      rw [kreps_some k rx]
      rfl
    · cases e2
  cases neg with
  | true => exact go _ rfl
  | false => exact go _ rfl
theorem dt_din (hu : X.A.units + 64 < cLine) (hi : DE X W a ta ma) (ho : DE X W b tb mb) (hm : behindInMarks .In b = false := by rfl) : DT X W (.Compare a [.In] [b] pos) (tB (tDIn ta tb)) (mTst (mDIn false ma mb)) :=
  ⟨pt_cmp (pc_din (by omega) hi.p ho.p) hm, by have := sem_tst (sem_din false hi.s ho.s); exact this⟩
theorem dt_dnotin (hu : X.A.units + 64 < cLine) (hi : DE X W a ta ma) (ho : DE X W b tb mb) (hm : behindInMarks .NotIn b = false := by rfl) : DT X W (.Compare a [.NotIn] [b] pos) (tB (tDNotIn ta tb)) (mTst (mDIn true ma mb)) :=
  ⟨pt_cmp (pc_dnotin (by omega) hi.p ho.p) hm, by have := sem_tst (sem_din true hi.s ho.s); exact this⟩
end
end Z
/-! Z12: a dict that is locked -/
namespace Z
open PySem L2 PySem.Spec
open Classical
/-- F without p -/
noncomputable def drp1 (F : Hp) (p : Addr) : Hp := fun b => if b = p then none else F b
theorem drp1_ne {F : Hp} {p b : Addr} (h : b ≠ p) : drp1 F p b = F b := if_neg h
theorem drp1_same {F : Hp} {p : Addr} : drp1 F p p = none := if_pos rfl
section
variable {K : PySem.W.Frag} {io : List Addr} {F : Hp} {p : Addr} {ob : Obj} {ws : List (Key × V)}
theorem drp1_sqL (hp : F p = some (.frz ob (.dK ws))) {a : Addr} {xs : List V} (h : SqL K F a xs) : SqL K (drp1 F p) a xs := by
  rcases h with h | h
  · rcases h with h | ⟨o, h⟩
    · exact .inl (.inl (by rw [drp1_ne (fun z => by subst z; rw [hp] at h; cases h)]; exact h))
    · exact .inl (.inr ⟨o, by rw [drp1_ne (fun z => by subst z; rw [hp] at h; cases h)]; exact h⟩)
  · exact .inr h
theorem drp1_sqT (hp : F p = some (.frz ob (.dK ws))) {a : Addr} {xs : List V} (h : SqT K F a xs) : SqT K (drp1 F p) a xs := by
  rcases h with h | h
  · rcases h with h | ⟨o, h⟩
    · exact .inl (.inl (by rw [drp1_ne (fun z => by subst z; rw [hp] at h; cases h)]; exact h))
    · exact .inl (.inr ⟨o, by rw [drp1_ne (fun z => by subst z; rw [hp] at h; cases h)]; exact h⟩)
  · exact .inr h
mutual
theorem rep_drp (hp : F p = some (.frz ob (.dK ws))) : ∀ (d : D) (v : V), rep K io F d v → rep K io (drp1 F p) d v
  | .non, v, r => r
  | .bl b, v, r => r
  | .int i, v, r => r
  | .str s, v, r => r
  | .lst l, v, r => by
    obtain ⟨a, xs, e, h, r⟩ := r
    exact ⟨a, xs, e, by rw [drp1_ne (fun z => by subst z; rw [hp] at h; cases h)]; exact h, reps_drp hp l xs r⟩
  | .tup l, v, r => by
    obtain ⟨a, xs, e, h, r⟩ := r
    exact ⟨a, xs, e, drp1_sqT hp h, reps_drp hp l xs r⟩
  | .fz l, v, r => by
    obtain ⟨a, xs, e, h, r⟩ := r
    exact ⟨a, xs, e, drp1_sqL hp h, reps_drp hp l xs r⟩
  | .ref i, v, r => r
  | .exc c d, v, r => by
    obtain ⟨a, C, dd, w, e, k, h1, h2, r⟩ := r
    exact ⟨a, C, dd, w, e, k, by rw [drp1_ne (fun z => by subst z; rw [hp] at h1; cases h1)]; exact h1, by rw [drp1_ne (fun z => by subst z; rw [hp] at h2; cases h2)]; exact h2, rep_drp hp d w r⟩
theorem reps_drp (hp : F p = some (.frz ob (.dK ws))) : ∀ (l : List D) (xs : List V), reps K io F l xs → reps K io (drp1 F p) l xs
  | [], xs, r => r
  | d :: l, xs, r => by
    obtain ⟨x, t, e, r1, r2⟩ := r
    exact ⟨x, t, e, rep_drp hp d x r1, reps_drp hp l t r2⟩
end
end
/-- the entry, p locked -/
noncomputable def enL (en : Ent) (p : Addr) (u : HO) : Ent := { H := en.H, F := fun b => if b = p ∧ en.H p ≠ none then some u else en.F b, io := en.io }
section
variable {K : PySem.W.Frag} {en : Ent} {io : List Addr} {F H : Hp} {σ : St} {s : A} {p : Addr} {i : Nat} {kvs : List (KK × D)} {ws : List (Key × V)}
theorem Rel.lock (R : Rel K en io F H σ s) (hs : s.hp[i]? = some (.dk kvs)) (hi : io[i]? = some p) (hH : H p = some (.dK ws)) (hF : F p = none) (rx : KReps kk K io F kvs ws) (ob : Obj) :
    Rel K (enL en p (.frz ob (.dK ws))) io (upd F p (.frz ob (.dK ws))) (upd H p (.frz ob (.dK ws))) σ { s with hp := s.hp.set i (.dkL kvs) } ∧ Le io F io (upd F p (.frz ob (.dK ws))) := by
  have l : Le io F io (upd F p (.frz ob (.dK ws))) := ⟨fun _ _ h => h, Ex.new hF⟩
  have pin : p ∈ io := List.mem_of_getElem? hi
  have hlt := (List.getElem?_eq_some_iff.mp hs).1
  refine ⟨⟨⟨R.h.ex.up, by rw [List.length_set]; exact R.h.len, R.h.nd, fun j b o e1 e2 => ?_⟩, ⟨R.k.pre, R.k.new, fun b o e hb => ?_, fun b hb => ?_, fun b hb => ?_, fun a o e => ?_⟩, R.len, fun j d e => ?_, fun j o e => ?_, R.sep⟩, l⟩
  · by_cases hj : j = i
    · subst hj
      rw [hi] at e1
      cases e1
      rw [List.getElem?_set_self hlt] at e2
      cases e2
      exact ⟨ob, ws, upd_same, upd_same, rx.1, reps_le l _ _ rx.2⟩
    · have hb : b ≠ p := fun z => hj (R.h.nd j i b e1 (by rw [z]; exact hi))
      rw [List.getElem?_set_ne (Ne.symm hj)] at e2
      exact (R.h.ids j b o e1 e2).le l (fun z => by rw [upd_ne hb]; exact z) (fun u hu => by rw [upd_ne hb]; exact hu)
  · have hb2 : b ≠ p := fun z => by
      subst z
      by_cases hl2 : en.io.length ≤ i
      · have := R.k.new i b hi hl2
        have e' : en.H b = some o := e
        rw [this] at e'
        cases e'
      · have hl' : i < en.io.length := by omega
        have e2 := R.k.pre i en.io[i] (List.getElem?_eq_getElem hl')
        rw [hi] at e2
        cases e2
        exact hb (List.getElem_mem hl')
    rw [upd_ne hb2]
    exact R.k.frm b o e hb
  · by_cases hb2 : b = p
    · subst hb2
      rw [upd_same]
      exact fun z => nomatch z
    · rw [upd_ne hb2]
      exact R.k.liv b hb
  · by_cases hb2 : b = p
    · subst hb2
      rw [upd_same]
      exact (if_pos ⟨rfl, hb⟩).symm
    · rw [upd_ne hb2]
      have : (enL en p (.frz ob (.dK ws))).F b = en.F b := if_neg fun z => hb2 z.1
      rw [this]
      exact R.k.grow b hb
  · by_cases hc : a = p ∧ en.H p ≠ none
    · have e' : some (HO.frz ob (.dK ws)) = some o := by rw [← e]; exact (if_pos hc).symm
      rw [hc.1, upd_same]
      exact e'
    · have e' : en.F a = some o := by rw [← e]; exact (if_neg hc).symm
      have e2 := R.k.ex a o e'
      rw [upd_ne (fun z => by subst z; rw [hF] at e2; cases e2)]
      exact e2
  · obtain ⟨v, e1, r⟩ := R.val j d e
    exact ⟨v, e1, rep_le l d v r⟩
  · obtain ⟨q, e1, c, hq, hn⟩ := R.own j o e
    have hqp : q ≠ p := fun z => hq (by rw [z]; exact pin)
    exact ⟨q, e1, c.le l (fun z => by rw [upd_ne hqp]; exact z) (fun u hu => by rw [upd_ne hqp]; exact hu), hq, hn⟩
theorem cont_drp {ob : Obj} {u : HO} (hp : F p = some (.frz ob (.dK ws))) {b : Addr} {o : AO} (hb : b ≠ p) (c : Cont K io F H b o) : Cont K io (drp1 F p) (upd H p u) b o := by
  cases o with
  | dead => exact fun z => c (by rw [← z, upd_ne hb])
  | lst l => obtain ⟨a, xs, e, r⟩ := c; exact ⟨by rw [drp1_ne hb]; exact a, xs, by rw [upd_ne hb]; exact e, reps_drp hp _ _ r⟩
  | dk l => obtain ⟨a, xs, e, r1, r⟩ := c; exact ⟨by rw [drp1_ne hb]; exact a, xs, by rw [upd_ne hb]; exact e, r1, reps_drp hp _ _ r⟩
  | dt l => obtain ⟨a, xs, e, r1, r⟩ := c; exact ⟨by rw [drp1_ne hb]; exact a, xs, by rw [upd_ne hb]; exact e, r1, reps_drp hp _ _ r⟩
  | dkL l => obtain ⟨ob', xs, f, e, r1, r⟩ := c; exact ⟨ob', xs, by rw [drp1_ne hb]; exact f, by rw [upd_ne hb]; exact e, r1, reps_drp hp _ _ r⟩
  | ins C l => obtain ⟨a, dx, xs, e, r1, r⟩ := c; exact ⟨by rw [drp1_ne hb]; exact a, dx, xs, by rw [upd_ne hb]; exact e, r1, reps_drp hp _ _ r⟩
theorem Rel.unlock {ob : Obj} (R : Rel K (enL en p (.frz ob (.dK ws))) io F H σ s) (hs : s.hp[i]? = some (.dkL kvs)) (hi : io[i]? = some p) (hp : F p = some (.frz ob (.dK ws))) (hen : en.F p = none) :
    Rel K en io (drp1 F p) (upd H p (.dK ws)) σ { s with hp := s.hp.set i (.dk kvs) } := by
  have pin : p ∈ io := List.mem_of_getElem? hi
  have hlt := (List.getElem?_eq_some_iff.mp hs).1
  refine ⟨⟨fun a o e => ?_, by rw [List.length_set]; exact R.h.len, R.h.nd, fun j b o e1 e2 => ?_⟩, ⟨R.k.pre, R.k.new, fun b o e hb => ?_, fun b hb => ?_, fun b hb => ?_, fun a o e => ?_⟩, R.len, fun j d e => ?_, fun j o e => ?_, R.sep⟩
  · have ha : a ≠ p := fun z => by
      subst z
      rw [drp1_same] at e
      cases e
    rw [drp1_ne ha] at e
    rw [upd_ne ha]
    exact R.h.ex a o e
  · by_cases hj : j = i
    · subst hj
      rw [hi] at e1
      cases e1
      rw [List.getElem?_set_self hlt] at e2
      cases e2
      obtain ⟨ob', ws', f, _, rx⟩ := R.h.ids j p _ hi hs
      rw [hp] at f
      cases f
      exact ⟨drp1_same, ws, upd_same, rx.1, reps_drp hp _ _ rx.2⟩
    · have hb : b ≠ p := fun z => hj (R.h.nd j i b e1 (by rw [z]; exact hi))
      rw [List.getElem?_set_ne (Ne.symm hj)] at e2
      exact cont_drp hp hb (R.h.ids j b o e1 e2)
  · have hb2 : b ≠ p := fun z => by
      subst z
      by_cases hl2 : en.io.length ≤ i
      · have := R.k.new i b hi hl2
        have e' : en.H b = some o := e
        have t' : en.H b = none := this
        rw [t'] at e'
        cases e'
      · have hl' : i < en.io.length := by omega
        have e2 := R.k.pre i en.io[i] (List.getElem?_eq_getElem hl')
        rw [hi] at e2
        cases e2
        exact hb (List.getElem_mem hl')
    rw [upd_ne hb2]
    exact R.k.frm b o e hb
  · by_cases hb2 : b = p
    · subst hb2
      rw [upd_same]
      exact fun z => nomatch z
    · rw [upd_ne hb2]
      exact R.k.liv b hb
  · by_cases hb2 : b = p
    · subst hb2
      rw [drp1_same]
      exact hen.symm
    · rw [drp1_ne hb2]
      have := R.k.grow b hb
      rw [this]
      exact if_neg fun z => hb2 z.1
  · have ha : a ≠ p := fun z => by
      subst z
      rw [hen] at e
      cases e
    have e2 : (enL en p (.frz ob (.dK ws))).F a = some o := by
      rw [← e]
      exact if_neg fun z => ha z.1
    rw [drp1_ne ha]
    exact R.k.ex a o e2
  · obtain ⟨v, e1, r⟩ := R.val j d e
    exact ⟨v, e1, rep_drp hp d v r⟩
  · obtain ⟨q, e1, c, hq, hn⟩ := R.own j o e
    have hqp : q ≠ p := fun z => hq (by rw [z]; exact pin)
    exact ⟨q, e1, cont_drp hp hqp c, hq, hn⟩
theorem le_drp {io' : List Addr} {F' : Hp} {u : HO} (h : F p = none) (l : Le io (upd F p u) io' F') : Le io F io' (drp1 F' p) := ⟨l.pre, fun a o e => by
  have ha : a ≠ p := fun z => by
    subst z
    rw [h] at e
    cases e
  rw [drp1_ne ha]
  exact l.ex a o (by rw [upd_ne ha]; exact e)⟩
end
section
variable {X : Cx} {W : WX} {pos : Pos} {K : PySem.W.Frag} {mg : Str → Option Value} {tg e : Expr} {g : TG} {gm : D → M Unit} {t : TS} {m : M Fl} {sts : List Stmt}
/-- the keys of the locked dict in slot j -/
def mKeysL (j : Nat) : M (List D) := fun s => match s.sl[j]? with
  | some (some (.val (.ref r))) => match s.hp[r]? with
    | some (.dkL kvs) => some (.ok (kvs.map fun p => kD p.1) s)
    | _ => none
  | _ => none
theorem kV_kD {io : List Addr} {F : Hp} (k : KK) : rep K io F (kD k) (kV (kk k)) := by
  cases k with
  | inl i => rfl
  | inr s => rfl
theorem sem_keysL (j : Nat) : SemI K mg W (iKeys (tVar j)) (mKeysL j) := by
  intro en io F H σ s o Q R e hx hq
  unfold mKeysL at e
  split at e
  · rename_i r h
    split at e
    · rename_i kvs hk
      cases e
      obtain ⟨v, e1, p, rfl, hp⟩ := R.val j _ h
      obtain ⟨ob, ws, f, hH, rx⟩ := R.h.ids r p _ hp hk
      refine ⟨_, e1, p, ob, rfl, .inl ⟨ws, hH, hq _ _ rfl _ io F H (Le.refl _ _) R fun i en2 io2 F2 H2 σ2 s2 l2 R2 => ?_⟩⟩
      have hH2 : H2 p = some (.frz ob (.dK ws)) := R2.h.ex p _ (l2.ex p _ f)
      have hlen : ws.length = kvs.length := by
        have := congrArg List.length rx.1
        simpa using this
      refine ⟨fun d hd => ?_, fun hi => ⟨hH2, by rw [List.length_map] at hi; omega⟩⟩
      rw [List.getElem?_map] at hd
      obtain ⟨q, hq1, rfl⟩ := Option.map_eq_some_iff.mp hd
      have hl := (List.getElem?_eq_some_iff.mp hq1).1
      refine ⟨⟨hH2, by omega⟩, fun y H3 hy => ?_⟩
      obtain ⟨rfl, k, v, hkv, rfl⟩ := hy
      have hk2 : k = kk q.1 := by
        have h1 : (ws.map (·.1))[i]? = some k := by rw [List.getElem?_map, hkv]; rfl
        rw [rx.1, List.getElem?_map, hq1] at h1
        injection h1 with h1
        exact h1.symm
      subst hk2
      exact ⟨F2, Le.refl _ _, R2, kV_kD q.1⟩
    · cases e
  · cases e
/-- for k in d, d a dict of the own heap in slot j -/
def mForK (j : Nat) (gm : D → M Unit) (m : M Fl) : M Fl := fun s => match s.sl[j]? with
  | some (some (.val (.ref r))) => match s.hp[r]? with
    | some (.dk kvs) => match mFor (mKeysL j) gm m { s with hp := s.hp.set r (.dkL kvs) } with
      | some (.ok f s') => match s'.hp[r]? with
        | some (.dkL kvs') => some (.ok f { s' with hp := s'.hp.set r (.dk kvs') })
        | _ => none
      | _ => none
    | _ => none
  | _ => none
theorem sem_forK (j : Nat) (hg : SemG K mg W g gm) (hb : SemS K mg W t m) : SemS K mg W (tLock (tFor (iKeys (tVar j)) g t)) (mForK j gm m) := by
  intro en io F H σ s o E R e hx hq
  unfold mForK at e
  split at e
  · rename_i r h
    split at e
    · rename_i kvs hk
      split at e
      · rename_i f s' hf
        split at e
        · rename_i kvs' hk'
          cases e
          obtain ⟨v, e1, p, rfl, hp⟩ := R.val j _ h
          obtain ⟨hF, ws, hH, rx⟩ := R.h.ids r p _ hp hk
          have hen : en.F p = none := by
            cases q : en.F p with
            | none => rfl
            | some u => rw [R.k.ex p u q] at hF; cases hF
          refine ⟨p, .dK ws, hH, trivial, fun od => ?_⟩
          obtain ⟨R1, l1⟩ := R.lock hk hp hH hF rx od
          refine sem_for (sem_keysL j) hg hb _ io _ _ σ _ _ _ R1 hf trivial fun f2 s2 e2 io2 F2 H2 σ2 l2 R2 => ?_
          cases e2
          have hp2 : F2 p = some (.frz od (.dK ws)) := l2.ex p _ upd_same
          have hio2 : io2[r]? = some p := l2.pre r p hp
          have R3 := R2.unlock hk' hio2 hp2 hen
          have l3 := le_drp hF l2
          have fin := hq _ _ rfl io2 _ _ σ2 l3 R3
          have hH2 : H2 p = some (.frz od (.dK ws)) := R2.h.ex p _ hp2
          cases f with
          | nx => exact ⟨hH2, fin⟩
          | bk => exact ⟨hH2, fin⟩
          | ct => exact ⟨hH2, fin⟩
          | rt d => exact fun v rv => ⟨hH2, fin v (rep_drp hp2 d v rv)⟩
        · cases e
      · cases e
    · cases e
  · cases e
theorem ds_forK (j : Nat) (hp : PassesOwn (model X.prog X.w) X.A X.env X.xe) (hc : X.calm = true) (he : DE X W e (tVar j) (mVar j)) (hg : DG X W tg g gm) (hb : DSs X W sts t m)
    (hs : ∀ x, foldedSetIterable e X.env x = pure x := by intro _; rfl) : DS X W (.For tg e sts [] pos) (tLock (tFor (iKeys (tVar j)) g t)) (mForK j gm m) := ⟨ps_lock (ps_for hp hc (pi_keys he.p) hg.p hb.p hs), sem_forK j hg.s hb.s⟩
end
end Z
/-! E1: what the mirrors come to -/
namespace Z
open PySem L2
open Classical
/-- a state -/
abbrev st (l : List (Option SV)) (h : List AO) : A := ⟨l, h⟩
abbrev vl (d : D) : Option SV := some (.val d)
abbrev ow (l : List D) : Option SV := some (.own (.lst l))
section
variable {α β : Type} {s s' : A} {h : List AO}
@[simp] theorem ret_e (a : α) : ret a s = some (.ok a s) := rfl
theorem bnd_e {m : M α} {k : α → M β} {a : α} (e : m s = some (.ok a s')) : bnd m k s = k a s' := by
  unfold bnd
  rw [e]
theorem bnd_x {m : M α} {k : α → M β} {a : Exn} (e : m s = some (.ex a s')) : bnd m k s = some (.ex a s') := by
  unfold bnd
  rw [e]
theorem lft_e {o : Option α} {a : α} (e : o = some a) : lft o s = some (.ok a s) := by
  rw [e]
  rfl
@[simp] theorem lft_some' (a : α) : lft (some a) s = some (.ok a s) := rfl
@[simp] theorem mC_e (d : D) : mC d s = some (.ok d s) := rfl
theorem mVar_e {i : Nat} {d : D} (e : s.sl[i]? = some (some (.val d))) : mVar i s = some (.ok d s) := by
  unfold mVar
  rw [e]
theorem mVar_o {i : Nat} {l : List D} (e : s.sl[i]? = some (some (.own (.lst l)))) : mVar i s = some (.ok (.lst l) { s with sl := s.sl.set i (some (.val (.lst l))) }) := by
  unfold mVar
  rw [e]
theorem mBin_e {f : D → D → Option D} {ma mb : M D} {s1 s2 : A} {x y z : D} (e1 : ma s = some (.ok x s1)) (e2 : mb s1 = some (.ok y s2)) (e3 : f x y = some z) : mBin f ma mb s = some (.ok z s2) := by
  unfold mBin
  rw [bnd_e e1, bnd_e e2, e3]
  rfl
theorem mTst_e {m : M D} {b : Bool} (e : m s = some (.ok (.bl b) s')) : mTst m s = some (.ok b s') := by
  unfold mTst
  rw [bnd_e e]
  rfl
theorem mIf_t {c : M Bool} {m n : M α} (e : c s = some (.ok true s')) : mIf c m n s = m s' := by
  unfold mIf
  rw [bnd_e e]
  rfl
theorem mIf_f {c : M Bool} {m n : M α} (e : c s = some (.ok false s')) : mIf c m n s = n s' := by
  unfold mIf
  rw [bnd_e e]
  rfl
theorem mSeq_e {m n : M Fl} (e : m s = some (.ok .nx s')) : mSeq m n s = n s' := by
  unfold mSeq
  rw [bnd_e e]
theorem mSeq_r {m n : M Fl} {d : D} (e : m s = some (.ok (.rt d) s')) : mSeq m n s = some (.ok (.rt d) s') := by
  unfold mSeq
  rw [bnd_e e]
  rfl
theorem mSeq_b {m n : M Fl} (e : m s = some (.ok .bk s')) : mSeq m n s = some (.ok .bk s') := by
  unfold mSeq
  rw [bnd_e e]
  rfl
theorem fnOf_rt {N : Nat} {m : M Fl} {ds : List D} {d : D} {s' : A} (e : m (entA N ds h) = some (.ok (.rt d) s')) : fnOf N m ds h = some (.ok d s'.hp) := by
  unfold fnOf
  rw [e]
theorem fnOf_nx {N : Nat} {m : M Fl} {ds : List D} {s' : A} (e : m (entA N ds h) = some (.ok .nx s')) : fnOf N m ds h = some (.ok .non s'.hp) := by
  unfold fnOf
  rw [e]
theorem fnOf_ex {N : Nat} {m : M Fl} {ds : List D} {x : Exn} {s' : A} (e : m (entA N ds h) = some (.ex x s')) : fnOf N m ds h = some (.ex x s'.hp) := by
  unfold fnOf
  rw [e]
end

/-! ### operations, where they fit -/
theorem SL : sizeLine = 16777216 := sizeLine_eq
theorem addS_e {x y : List Nat} (h : x.length + y.length ≤ 16777216) : addS (.str x) (.str y) = some (.str (x ++ y)) := if_pos (by rw [SL]; exact h)
theorem mulS_e {x : List Nat} {n : Int} (h0 : -1000000 ≤ n) (h1 : n ≤ 1000000) (h : x.length * n.toNat ≤ 16777216) : mulS (.str x) (.int n) = some (.str (repL x n.toNat)) := if_pos ⟨by omega, by omega, by rw [SL]; exact h⟩
theorem tupD_e {l : List D} (h : l.length ≤ 16777216) : tupD l = some (.tup l) := if_pos (by rw [SL]; exact h)
theorem lstD_e {l : List D} (h : l.length ≤ 16777216) : lstD l = some (.lst l) := if_pos (by rw [SL]; exact h)
theorem lenS_e {x : List Nat} (h : x.length ≤ 16777216) : lenF [.str x] = some (.int x.length) := if_pos (by rw [SL]; exact h)
theorem catL_e {l l' : List D} (h : l.length + l'.length ≤ 16777216) : catL (.lst l) (.lst l') = some (.lst (l ++ l')) := if_pos (by rw [SL]; exact h)
theorem slS_e {x : List Nat} {lo hi : Option Int} (h : x.length ≤ 16777216) : slS (.str x) lo hi = some (.str (cutL x lo hi)) := if_pos (by rw [SL]; exact h)
theorem revS_e {x : List Nat} (h : x.length ≤ 16777216) : revS (.str x) = some (.str x.reverse) := if_pos (by rw [SL]; exact h)
theorem ixS_e {x : List Nat} {i : Int} {c : Nat} (h : x.length ≤ 16777216) (e : atI x i = some c) : ixF (.str x) (.int i) = some (.str [c]) := by
  show (if x.length ≤ sizeLine then (atI x i).map fun c => D.str [c] else none) = _
  rw [if_pos (by rw [SL]; exact h), e]
  rfl
theorem modI_e {i j : Int} (h : 0 < j) : modI (.int i) (.int j) = some (.int (i % j)) := if_pos h
theorem divI_e {i j : Int} (h : 0 < j) (h2 : j < 2 ^ 100) : divI (.int i) (.int j) = some (.int (i / j)) := if_pos (wide_div (b := 100) h (by omega) (by decide) (by decide))
theorem mulI_e {i j : Int} (h1 : -(2 ^ 200) < i) (h2 : i < 2 ^ 200) (h3 : j.natAbs < 2 ^ 900) : mulI (.int i) (.int j) = some (.int (i * j)) := if_pos (wide_mul (a := 200) (b := 900) (by omega) h3 (by decide) (by decide) (by decide))
theorem log2_le {n k : Nat} (h : n < 2 ^ (k + 1)) : n.log2 ≤ k := by
  by_cases h0 : n = 0
  · subst h0
    simp
  · have := (Nat.log2_lt h0).mpr h
    omega
theorem powI_e {i j : Int} (h0 : 0 ≤ j) (h1 : j ≤ 100) (h : i.natAbs < 2 ^ 1000) : powI (.int i) (.int j) = some (.int (i ^ j.toNat)) := if_pos ⟨h0, by
  have h2 : i.natAbs.log2 ≤ 999 := log2_le h
  have h3 : ((i.natAbs.log2 : Int) + 1) * j ≤ 1000 * 100 := by
    refine Int.mul_le_mul (by omega) h1 h0 (by decide)
  refine Int.le_trans h3 (by decide)⟩

/-! ### equality -/
mutual
/-- plain data: no bools, no references, little depth -/
def pl : Nat → D → Bool
  | _, .non => true
  | _, .int _ => true
  | _, .str s => s.all (· < 1114112)
  | n + 1, .lst l => pls n l
  | n + 1, .tup l => pls n l
  | _, _ => false
def pls : Nat → List D → Bool
  | _, [] => true
  | n, d :: l => pl n d && pls n l
end
theorem strInj {x y : List Nat} : ((⟨x.toArray⟩ : Str) = ⟨y.toArray⟩) ↔ x = y := by
  constructor
  · intro h
    have := congrArg Str.cps h
    simpa using congrArg Array.toList this
  · rintro rfl
    rfl
theorem toP_lst (l : List D) : toP (.lst l) = (toPs l).map .list := by
  unfold toP
  rfl
theorem toP_tup (l : List D) : toP (.tup l) = (toPs l).map .tuple := by
  unfold toP
  rfl
theorem toPs_cons (d : D) (l : List D) : toPs (d :: l) = (match toP d, toPs l with | some p, some q => some (p :: q) | _, _ => none) := by
  rw [toPs] <;> rfl
mutual
theorem pl_toP : ∀ (n : Nat) (d : D), pl n d = true → ∃ p, toP d = some p ∧ p.canLay0 = true ∧ p.depth ≤ n
  | n, .non, h => ⟨_, rfl, rfl, Nat.zero_le _⟩
  | n, .int i, h => ⟨_, rfl, rfl, Nat.zero_le _⟩
  | n, .str s, h => by
    refine ⟨_, rfl, ?_, Nat.zero_le _⟩
    show PySem.PyData.strOk ⟨s.toArray⟩ = true
    unfold PySem.PyData.strOk
    rw [← Array.all_toList]
    have h' : s.all (· < 1114112) = true := by
      cases n <;> exact h
    exact h'
  | n + 1, .lst l, h => by
    obtain ⟨ps, e, h1, h2⟩ := pls_toP n l h
    refine ⟨.list ps, by rw [toP_lst, e]; rfl, h1, ?_⟩
    show PyData.depthAll ps + 1 ≤ n + 1
    omega
  | n + 1, .tup l, h => by
    obtain ⟨ps, e, h1, h2⟩ := pls_toP n l h
    refine ⟨.tuple ps, by rw [toP_tup, e]; rfl, h1, ?_⟩
    show PyData.depthAll ps + 1 ≤ n + 1
    omega
theorem pls_toP : ∀ (n : Nat) (l : List D), pls n l = true → ∃ p, toPs l = some p ∧ PyData.canLayAll0 p = true ∧ PyData.depthAll p ≤ n
  | n, [], h => ⟨[], rfl, rfl, Nat.zero_le _⟩
  | n, d :: l, h => by
    unfold pls at h
    rw [Bool.and_eq_true] at h
    obtain ⟨p, e1, c1, d1⟩ := pl_toP n d h.1
    obtain ⟨q, e2, c2, d2⟩ := pls_toP n l h.2
    refine ⟨p :: q, by rw [toPs_cons, e1, e2], ?_, ?_⟩
    · show (p.canLay0 && PyData.canLayAll0 q) = true
      rw [c1, c2]
      rfl
    · show max p.depth (PyData.depthAll q) ≤ n
      omega
end
end Z
/-! Ma: the mathematics of runs, sieves and sizes; plain lists -/
namespace Z
/-- the runs of a row: letters with their numbers -/
def runs : List Nat → List (Nat × Nat)
  | [] => []
  | c :: l => match runs l with
    | [] => [(c, 1)]
    | (d, n) :: r => if c = d then (d, n + 1) :: r else (c, 1) :: (d, n) :: r
def expand : List (Nat × Nat) → List Nat
  | [] => []
  | (c, n) :: r => List.replicate n c ++ expand r
/-- runs that may stand beside one another -/
def vld : List (Nat × Nat) → Prop
  | [] => True
  | [(_, n)] => 1 ≤ n
  | (c, n) :: (d, m) :: r => 1 ≤ n ∧ c ≠ d ∧ vld ((d, m) :: r)
theorem vld_tail {x : Nat × Nat} {r : List (Nat × Nat)} (h : vld (x :: r)) : vld r := by
  obtain ⟨c, n⟩ := x
  cases r with
  | nil => trivial
  | cons y r =>
    obtain ⟨d, m⟩ := y
    exact h.2.2
theorem vld_pos {c n : Nat} {r : List (Nat × Nat)} (h : vld ((c, n) :: r)) : 1 ≤ n := by
  cases r with
  | nil => exact h
  | cons y r =>
    obtain ⟨d, m⟩ := y
    exact h.1
theorem runs_vld : ∀ l : List Nat, vld (runs l)
  | [] => trivial
  | c :: l => by
    have ih := runs_vld l
    unfold runs
    split
    · exact Nat.le_refl 1
    · rename_i d n r e
      rw [e] at ih
      by_cases h : c = d
      · rw [if_pos h]
        cases r with
        | nil => exact Nat.le_add_left 1 n
        | cons y r =>
          obtain ⟨d', m⟩ := y
          exact ⟨Nat.le_add_left 1 n, ih.2.1, ih.2.2⟩
      · rw [if_neg h]
        exact ⟨Nat.le_refl 1, h, ih⟩
theorem expand_runs : ∀ l : List Nat, expand (runs l) = l
  | [] => rfl
  | c :: l => by
    have ih := expand_runs l
    unfold runs
    split
    · rename_i e
      rw [e] at ih
      rw [← ih]
      rfl
    · rename_i d n r e
      rw [e] at ih
      by_cases h : c = d
      · rw [if_pos h, ← ih, h]
        show List.replicate (n + 1) d ++ expand r = d :: (List.replicate n d ++ expand r)
        rw [List.replicate_succ]
        rfl
      · rw [if_neg h, ← ih]
        rfl
theorem runs_rep {c : Nat} {r : List (Nat × Nat)} : ∀ {n : Nat}, vld ((c, n + 1) :: r) → runs (expand r) = r → runs (List.replicate (n + 1) c ++ expand r) = (c, n + 1) :: r
  | 0, h, ih => by
    show runs (c :: expand r) = _
    unfold runs
    rw [ih]
    cases r with
    | nil => rfl
    | cons y r =>
      obtain ⟨d, m⟩ := y
      show (if c = d then _ else _) = _
      rw [if_neg h.2.1]
  | n + 1, h, ih => by
    have h' : vld ((c, n + 1) :: r) := by
      cases r with
      | nil => exact Nat.le_add_left 1 n
      | cons y r =>
        obtain ⟨d, m⟩ := y
        exact ⟨Nat.le_add_left 1 n, h.2.1, h.2.2⟩
    have e := runs_rep h' ih
    rw [List.replicate_succ, List.cons_append]
    unfold runs
    rw [e]
    show (if c = c then _ else _) = _
    rw [if_pos rfl]
theorem runs_expand : ∀ {r : List (Nat × Nat)}, vld r → runs (expand r) = r
  | [], _ => rfl
  | (c, n) :: r, h => by
    have hn := vld_pos h
    obtain ⟨m, rfl⟩ : ∃ m, n = m + 1 := ⟨n - 1, by omega⟩
    exact runs_rep h (runs_expand (vld_tail h))
/-- one letter more, behind -/
def pushR (f : List (Nat × Nat)) (c : Nat) : List (Nat × Nat) := match f.getLast? with
  | some (d, n) => if d = c then f.dropLast ++ [(c, n + 1)] else f ++ [(c, 1)]
  | none => [(c, 1)]
theorem pushR_cons (x y : Nat × Nat) (r : List (Nat × Nat)) (c : Nat) : pushR (x :: y :: r) c = x :: pushR (y :: r) c := by
  unfold pushR
  rw [List.getLast?_cons_cons]
  cases h : (y :: r).getLast? with
  | none => simp at h
  | some p =>
    obtain ⟨d, n⟩ := p
    by_cases e : d = c
    · simp only [if_pos e, List.dropLast_cons_cons, List.cons_append]
    · simp only [if_neg e, List.cons_append]
theorem runs_snoc (c : Nat) : ∀ l : List Nat, runs (l ++ [c]) = pushR (runs l) c
  | [] => rfl
  | d :: l => by
    have ih := runs_snoc c l
    rw [List.cons_append]
    unfold runs
    rw [ih]
    cases e : runs l with
    | nil =>
      show (if d = c then [(c, 2)] else [(d, 1), (c, 1)]) = (if d = c then [(c, 2)] else [(d, 1), (c, 1)])
      rfl
    | cons x r =>
      obtain ⟨d', n⟩ := x
      cases r with
      | nil =>
        by_cases h : d' = c
        · have e1 : pushR [(d', n)] c = [(c, n + 1)] := by
            show (if d' = c then _ else _) = _
            rw [if_pos h]
            rfl
          rw [e1]
          by_cases h2 : d = d'
          · show (if d = c then [(c, n + 1 + 1)] else _) = pushR (if d = d' then _ else _) c
            rw [if_pos h2, if_pos (h2.trans h)]
            show _ = (if d' = c then _ else _)
            rw [if_pos h]
            rfl
          · show (if d = c then _ else [(d, 1), (c, n + 1)]) = pushR (if d = d' then _ else _) c
            rw [if_neg h2, if_neg (fun z => h2 (z.trans h.symm)), pushR_cons, e1]
        · have e1 : pushR [(d', n)] c = [(d', n), (c, 1)] := by
            show (if d' = c then _ else _) = _
            rw [if_neg h]
            rfl
          rw [e1]
          by_cases h2 : d = d'
          · show (if d = d' then [(d', n + 1), (c, 1)] else _) = pushR (if d = d' then _ else _) c
            rw [if_pos h2, if_pos h2]
            show _ = (if d' = c then _ else _)
            rw [if_neg h]
            rfl
          · show (if d = d' then _ else [(d, 1), (d', n), (c, 1)]) = pushR (if d = d' then _ else _) c
            rw [if_neg h2, if_neg h2, pushR_cons, e1]
      | cons y r =>
        rw [pushR_cons]
        by_cases h2 : d = d'
        · show (if d = d' then (d', n + 1) :: pushR (y :: r) c else _) = pushR (if d = d' then _ else _) c
          rw [if_pos h2, if_pos h2, pushR_cons]
        · show (if d = d' then _ else (d, 1) :: (d', n) :: pushR (y :: r) c) = pushR (if d = d' then _ else _) c
          rw [if_neg h2, if_neg h2, pushR_cons, pushR_cons]

/-! ### pairs -/
/-- how many places have an equal next one -/
def eqs : List Nat → Nat
  | c :: d :: r => (if c = d then 1 else 0) + eqs (d :: r)
  | _ => 0
theorem runs_head (c : Nat) (l : List Nat) : ∃ n r, runs (c :: l) = (c, n) :: r := by
  unfold runs
  split
  · exact ⟨_, _, rfl⟩
  · rename_i d n r e
    by_cases h : c = d
    · rw [if_pos h, h]
      exact ⟨_, _, rfl⟩
    · rw [if_neg h]
      exact ⟨_, _, rfl⟩
theorem runs_eqs : ∀ l : List Nat, (runs l).length + eqs l = l.length
  | [] => rfl
  | [c] => rfl
  | c :: d :: l => by
    have ih := runs_eqs (d :: l)
    obtain ⟨n, r, e⟩ := runs_head d l
    have e2 : runs (c :: d :: l) = (if c = d then (d, n + 1) :: r else (c, 1) :: (d, n) :: r) := by
      rw [runs, e]
    rw [e2]
    rw [e] at ih
    show _ + ((if c = d then 1 else 0) + eqs (d :: l)) = _
    by_cases h : c = d
    · rw [if_pos h, if_pos h]
      simp only [List.length_cons] at ih ⊢
      omega
    · rw [if_neg h, if_neg h]
      simp only [List.length_cons] at ih ⊢
      omega
/-! ### the sieves -/
/-- what runs leave, by their number -/
def kp (k : Nat → Bool) (R : List (Nat × Nat)) : List Nat := R.filterMap fun p => if k p.2 then some p.1 else none
def isT (n : Nat) : Bool := !decide (n = 1)
def isS (n : Nat) : Bool := decide (n = 1)
/-- a row behind one sieve: T is 84 -/
def sv1 (l : List Nat) (c : Nat) : List Nat := kp (fun n => decide (decide (n = 1) = decide (c = 83))) (runs l)
/-- behind several -/
def sv (l : List Nat) (p : List Nat) : List Nat := p.foldl sv1 l
theorem sv_nil (l : List Nat) : sv l [] = l := rfl
theorem sv_cons (l : List Nat) (c : Nat) (p : List Nat) : sv l (c :: p) = sv (sv1 l c) p := rfl
theorem sv_app (l : List Nat) (p q : List Nat) : sv l (p ++ q) = sv (sv l p) q := List.foldl_append
def drp (k : Nat → Bool) : List (Nat × Nat) → Nat
  | [] => 0
  | (_, n) :: r => (if k n then 0 else 1) + drp k r
def dropFirst (k : Nat → Bool) : List (Nat × Nat) → Bool
  | [] => false
  | (_, n) :: _ => !k n
theorem kp_cons (k : Nat → Bool) (c n : Nat) (r : List (Nat × Nat)) : kp k ((c, n) :: r) = if k n then c :: kp k r else kp k r := by
  unfold kp
  rw [List.filterMap_cons]
  by_cases h : k n = true
  · simp [h]
  · simp [h]
theorem eqs_kp (k : Nat → Bool) : ∀ R : List (Nat × Nat), vld R → eqs (kp k R) + (if dropFirst k R = true ∧ kp k R ≠ [] then 1 else 0) ≤ drp k R
  | [], _ => Nat.le_refl 0
  | (c, n) :: r, h => by
    have ih := eqs_kp k r (vld_tail h)
    rw [kp_cons]
    by_cases hk : k n = true
    · rw [if_pos hk]
      have e1 : dropFirst k ((c, n) :: r) = false := by
        show (!k n) = false
        rw [hk]
        rfl
      rw [e1]
      rw [if_neg (by intro z; exact absurd z.1 (by decide))]
      show _ + 0 ≤ (if k n then 0 else 1) + drp k r
      rw [if_pos hk]
      cases hr : kp k r with
      | nil => exact Nat.zero_le _
      | cons d l =>
        rw [hr] at ih
        show (if c = d then 1 else 0) + eqs (d :: l) + 0 ≤ _
        by_cases hd : c = d
        · rw [if_pos hd]
          have hf : dropFirst k r = true := by
            cases r with
            | nil => cases hr
            | cons y r =>
              obtain ⟨d', m⟩ := y
              show (!k m) = true
              by_cases hm : k m = true
              · rw [kp_cons, if_pos hm] at hr
                injection hr with h1 h2
                exact absurd (hd.trans h1.symm) h.2.1
              · simp [hm]
          rw [if_pos ⟨hf, by simp⟩] at ih
          omega
        · rw [if_neg hd]
          omega
    · rw [if_neg hk]
      show _ ≤ (if k n then 0 else 1) + drp k r
      rw [if_neg hk]
      split <;> omega
def lenR : List (Nat × Nat) → Nat
  | [] => 0
  | (_, n) :: r => n + lenR r
theorem len_expand : ∀ R : List (Nat × Nat), (expand R).length = lenR R
  | [] => rfl
  | (c, n) :: r => by
    show (List.replicate n c ++ expand r).length = n + lenR r
    rw [List.length_append, List.length_replicate, len_expand r]
theorem sizeT : ∀ R : List (Nat × Nat), vld R → ∃ x, lenR R = 2 * (kp isT R).length + drp isT R + x ∧ lenR R = R.length + ((kp isT R).length + x)
  | [], _ => ⟨0, rfl, rfl⟩
  | (c, n) :: r, h => by
    obtain ⟨x, h1, h2⟩ := sizeT r (vld_tail h)
    have hn := vld_pos h
    rw [kp_cons]
    show ∃ x, n + lenR r = _ + ((if isT n then 0 else 1) + drp isT r) + x ∧ n + lenR r = (r.length + 1) + _
    by_cases hk : n = 1
    · have e : isT n = false := by simp [isT, hk]
      simp only [e]
      refine ⟨x, ?_, ?_⟩
      · simp; omega
      · simp; omega
    · have e : isT n = true := by simp [isT, hk]
      simp only [e, if_true, List.length_cons]
      exact ⟨x + (n - 2), by omega, by omega⟩
theorem sizeS : ∀ R : List (Nat × Nat), vld R → ∃ x, lenR R = (kp isS R).length + 2 * drp isS R + x ∧ lenR R = R.length + (drp isS R + x)
  | [], _ => ⟨0, rfl, rfl⟩
  | (c, n) :: r, h => by
    obtain ⟨x, h1, h2⟩ := sizeS r (vld_tail h)
    have hn := vld_pos h
    rw [kp_cons]
    show ∃ x, n + lenR r = _ + 2 * ((if isS n then 0 else 1) + drp isS r) + x ∧ n + lenR r = (r.length + 1) + (((if isS n then 0 else 1) + drp isS r) + x)
    by_cases hk : n = 1
    · have e : isS n = true := by simp [isS, hk]
      simp only [e, if_true, List.length_cons]
      exact ⟨x, by omega, by omega⟩
    · have e : isS n = false := by simp [isS, hk]
      simp only [e]
      refine ⟨x + (n - 2), ?_, ?_⟩
      · simp; omega
      · simp; omega
theorem sv1_T (l : List Nat) : sv1 l 84 = kp isT (runs l) := by
  unfold sv1
  congr 1
  funext n
  by_cases h : n = 1 <;> simp [isT, h]
theorem sv1_S (l : List Nat) : sv1 l 83 = kp isS (runs l) := by
  unfold sv1
  congr 1
  funext n
  by_cases h : n = 1 <;> simp [isS, h]
/-- one sieve and the sizes -/
theorem size_T (l : List Nat) : ∃ x y, l.length = 2 * (sv1 l 84).length + eqs (sv1 l 84) + x + y ∧ eqs l = (sv1 l 84).length + x := by
  rw [sv1_T]
  obtain ⟨x, h1, h2⟩ := sizeT (runs l) (runs_vld l)
  have h3 := eqs_kp isT (runs l) (runs_vld l)
  have h4 := len_expand (runs l)
  rw [expand_runs] at h4
  have h5 := runs_eqs l
  exact ⟨x, drp isT (runs l) - eqs (kp isT (runs l)), by omega, by omega⟩
theorem size_S (l : List Nat) : ∃ x y, l.length = (sv1 l 83).length + 2 * (eqs (sv1 l 83) + y) + x ∧ eqs l = (eqs (sv1 l 83) + y) + x := by
  rw [sv1_S]
  obtain ⟨x, h1, h2⟩ := sizeS (runs l) (runs_vld l)
  have h3 := eqs_kp isS (runs l) (runs_vld l)
  have h4 := len_expand (runs l)
  rw [expand_runs] at h4
  have h5 := runs_eqs l
  exact ⟨x, drp isS (runs l) - eqs (kp isS (runs l)), by omega, by omega⟩
/-! ### least sizes -/
def stepZ (c : Nat) (z : Nat × Nat) : Nat × Nat := if c = 84 then (2 * z.1 + z.2, z.1) else (z.1 + 2 * z.2, z.2)
def least (p : List Nat) (z : Nat × Nat) : Nat × Nat := p.foldr stepZ z
def TSs (p : List Nat) : Prop := ∀ c ∈ p, c = 84 ∨ c = 83
def sizeL (l : List Nat) : Nat × Nat := (l.length, eqs l)
theorem least_le : ∀ (p : List Nat) (l : List Nat), TSs p → (least p (sizeL (sv l p))).1 ≤ l.length ∧ (least p (sizeL (sv l p))).2 ≤ eqs l ∧ ((least p (sizeL (sv l p))).1 = l.length → (least p (sizeL (sv l p))).2 = eqs l)
  | [], l, _ => ⟨Nat.le_refl _, Nat.le_refl _, fun _ => rfl⟩
  | c :: p, l, h => by
    obtain ⟨h1, h2, h3⟩ := least_le p (sv1 l c) (fun d hd => h d (List.mem_cons_of_mem _ hd))
    have e : least (c :: p) (sizeL (sv l (c :: p))) = stepZ c (least p (sizeL (sv (sv1 l c) p))) := rfl
    rw [e]
    generalize least p (sizeL (sv (sv1 l c) p)) = z at h1 h2 h3 ⊢
    rcases h c (List.mem_cons_self) with rfl | rfl
    · obtain ⟨x, y, g1, g2⟩ := size_T l
      show 2 * z.1 + z.2 ≤ _ ∧ z.1 ≤ _ ∧ (2 * z.1 + z.2 = _ → z.1 = _)
      refine ⟨by omega, by omega, fun g => by omega⟩
    · obtain ⟨x, y, g1, g2⟩ := size_S l
      show z.1 + 2 * z.2 ≤ _ ∧ z.2 ≤ _ ∧ (z.1 + 2 * z.2 = _ → z.2 = _)
      refine ⟨by omega, by omega, fun g => by omega⟩
/-! ### a shortest row -/
/-- the runs ahead of a sieve: each letter, and separators between equal ones -/
def rb (o : Nat → Nat) (k j : Nat) : List Nat → List (Nat × Nat)
  | [] => []
  | [c] => [(c, k)]
  | c :: d :: r => if c = d then (c, k) :: (o c, j) :: rb o k j (d :: r) else (c, k) :: rb o k j (d :: r)
theorem rb_head (o : Nat → Nat) (k j c : Nat) (r : List Nat) : ∃ t, rb o k j (c :: r) = (c, k) :: t := by
  cases r with
  | nil => exact ⟨_, rfl⟩
  | cons d r =>
    unfold rb
    split <;> exact ⟨_, rfl⟩
theorem rb_vld {o : Nat → Nat} {k j : Nat} (ho : ∀ c, o c ≠ c) (hk : 1 ≤ k) (hj : 1 ≤ j) : ∀ l : List Nat, vld (rb o k j l)
  | [] => trivial
  | [c] => hk
  | c :: d :: r => by
    have ih := rb_vld ho hk hj (d :: r)
    obtain ⟨t, e⟩ := rb_head o k j d r
    unfold rb
    rw [e] at ih ⊢
    by_cases h : c = d
    · rw [if_pos h]
      exact ⟨hk, (ho c).symm, hj, by rw [← h]; exact ho c, ih⟩
    · rw [if_neg h]
      exact ⟨hk, h, ih⟩
theorem rb_kp {o : Nat → Nat} {k j : Nat} (f : Nat → Bool) (h1 : f k = true) (h2 : f j = false) : ∀ l : List Nat, kp f (rb o k j l) = l
  | [] => rfl
  | [c] => by
    show kp f [(c, k)] = [c]
    rw [kp_cons, if_pos h1]
    rfl
  | c :: d :: r => by
    have ih := rb_kp f h1 h2 (o := o) (d :: r)
    unfold rb
    split
    · rw [kp_cons, if_pos h1, kp_cons, if_neg (by rw [h2]; decide), ih]
    · rw [kp_cons, if_pos h1, ih]
theorem rb_len {o : Nat → Nat} {k j : Nat} : ∀ l : List Nat, lenR (rb o k j l) = k * l.length + j * eqs l
  | [] => by simp [rb, lenR, eqs]
  | [c] => by simp [rb, lenR, eqs]
  | c :: d :: r => by
    have ih := rb_len (o := o) (k := k) (j := j) (d :: r)
    unfold rb
    show _ = k * (d :: r).length.succ + j * ((if c = d then 1 else 0) + eqs (d :: r))
    rw [Nat.mul_succ, Nat.mul_add]
    split
    · show k + (j + lenR (rb o k j (d :: r))) = _
      omega
    · show k + lenR (rb o k j (d :: r)) = _
      omega
theorem rb_num {o : Nat → Nat} {k j : Nat} : ∀ l : List Nat, (rb o k j l).length = l.length + eqs l
  | [] => rfl
  | [c] => rfl
  | c :: d :: r => by
    have ih := rb_num (o := o) (k := k) (j := j) (d :: r)
    unfold rb
    show _ = (d :: r).length + 1 + ((if c = d then 1 else 0) + eqs (d :: r))
    split
    · simp only [List.length_cons] at ih ⊢
      omega
    · simp only [List.length_cons] at ih ⊢
      omega
def before (o : Nat → Nat) (c : Nat) (l : List Nat) : List Nat := if c = 84 then expand (rb o 2 1 l) else expand (rb o 1 2 l)
theorem before_sv {o : Nat → Nat} (ho : ∀ c, o c ≠ c) {c : Nat} (hc : c = 84 ∨ c = 83) (l : List Nat) : sv1 (before o c l) c = l := by
  rcases hc with rfl | rfl
  · rw [sv1_T]
    show kp isT (runs (expand (rb o 2 1 l))) = l
    rw [runs_expand (rb_vld ho (by decide) (by decide) l)]
    exact rb_kp isT rfl rfl l
  · rw [sv1_S]
    show kp isS (runs (expand (rb o 1 2 l))) = l
    rw [runs_expand (rb_vld ho (by decide) (by decide) l)]
    exact rb_kp isS rfl rfl l
theorem before_size {o : Nat → Nat} (ho : ∀ c, o c ≠ c) {c : Nat} (hc : c = 84 ∨ c = 83) (l : List Nat) : sizeL (before o c l) = stepZ c (sizeL l) := by
  rcases hc with rfl | rfl
  · show sizeL (expand (rb o 2 1 l)) = (2 * l.length + eqs l, l.length)
    have h1 := len_expand (rb o 2 1 l)
    rw [rb_len] at h1
    have h2 := runs_eqs (expand (rb o 2 1 l))
    rw [runs_expand (rb_vld ho (by decide) (by decide) l), rb_num] at h2
    unfold sizeL
    refine Prod.ext ?_ ?_ <;> show _ = _ <;> omega
  · show sizeL (expand (rb o 1 2 l)) = (l.length + 2 * eqs l, eqs l)
    have h1 := len_expand (rb o 1 2 l)
    rw [rb_len] at h1
    have h2 := runs_eqs (expand (rb o 1 2 l))
    rw [runs_expand (rb_vld ho (by decide) (by decide) l), rb_num] at h2
    unfold sizeL
    refine Prod.ext ?_ ?_ <;> show _ = _ <;> omega
/-- a shortest row for a pipeline -/
def sf (o : Nat → Nat) (p : List Nat) (l : List Nat) : List Nat := p.foldr (before o) l
theorem sf_sv {o : Nat → Nat} (ho : ∀ c, o c ≠ c) : ∀ (p l : List Nat), TSs p → sv (sf o p l) p = l
  | [], l, _ => rfl
  | c :: p, l, h => by
    show sv (sv1 (before o c (sf o p l)) c) p = l
    rw [before_sv ho (h c List.mem_cons_self)]
    exact sf_sv ho p l fun d hd => h d (List.mem_cons_of_mem _ hd)
theorem sf_size {o : Nat → Nat} (ho : ∀ c, o c ≠ c) : ∀ (p l : List Nat), TSs p → sizeL (sf o p l) = least p (sizeL l)
  | [], l, _ => rfl
  | c :: p, l, h => by
    show sizeL (before o c (sf o p l)) = stepZ c (least p (sizeL l))
    rw [before_size ho (h c List.mem_cons_self), sf_size ho p l fun d hd => h d (List.mem_cons_of_mem _ hd)]
/-! ### the pipeline is read back from the size -/
theorem least_pos : ∀ (p : List Nat) (z : Nat × Nat), 0 < z.2 → z.2 < z.1 → 0 < (least p z).2 ∧ (least p z).2 < (least p z).1 ∧ z.1 ≤ (least p z).1
  | [], z, h1, h2 => ⟨h1, h2, Nat.le_refl _⟩
  | c :: p, z, h1, h2 => by
    obtain ⟨g1, g2, g3⟩ := least_pos p z h1 h2
    show 0 < (stepZ c (least p z)).2 ∧ (stepZ c (least p z)).2 < (stepZ c (least p z)).1 ∧ z.1 ≤ (stepZ c (least p z)).1
    unfold stepZ
    split
    · refine ⟨?_, ?_, ?_⟩ <;> show _ <;> simp only <;> omega
    · refine ⟨?_, ?_, ?_⟩ <;> show _ <;> simp only <;> omega
theorem least_inj : ∀ (p q : List Nat) (z : Nat × Nat), 0 < z.2 → z.2 < z.1 → TSs p → TSs q → least p z = least q z → p = q
  | [], [], z, _, _, _, _, _ => rfl
  | [], c :: q, z, h1, h2, hp, hq, e => by
    obtain ⟨g1, g2, g3⟩ := least_pos q z h1 h2
    have e' : z = stepZ c (least q z) := e
    unfold stepZ at e'
    split at e'
    · have := congrArg Prod.fst e'
      simp only at this
      omega
    · have := congrArg Prod.fst e'
      simp only at this
      omega
  | c :: p, [], z, h1, h2, hp, hq, e => by
    obtain ⟨g1, g2, g3⟩ := least_pos p z h1 h2
    have e' : stepZ c (least p z) = z := e
    unfold stepZ at e'
    split at e'
    · have := congrArg Prod.fst e'
      simp only at this
      omega
    · have := congrArg Prod.fst e'
      simp only at this
      omega
  | c :: p, d :: q, z, h1, h2, hp, hq, e => by
    obtain ⟨a1, a2, a3⟩ := least_pos p z h1 h2
    obtain ⟨b1, b2, b3⟩ := least_pos q z h1 h2
    have e' : stepZ c (least p z) = stepZ d (least q z) := e
    have hp' : TSs p := fun x hx => hp x (List.mem_cons_of_mem _ hx)
    have hq' : TSs q := fun x hx => hq x (List.mem_cons_of_mem _ hx)
    have fin : least p z = least q z → p = q := least_inj p q z h1 h2 hp' hq'
    have f1 := congrArg Prod.fst e'
    have f2 := congrArg Prod.snd e'
    rcases hp c List.mem_cons_self with rfl | rfl
    · rcases hq d List.mem_cons_self with rfl | rfl
      · have f1' : 2 * (least p z).1 + (least p z).2 = 2 * (least q z).1 + (least q z).2 := f1
        have f2' : (least p z).1 = (least q z).1 := f2
        rw [fin (Prod.ext f2' (by omega))]
      · have f1' : 2 * (least p z).1 + (least p z).2 = (least q z).1 + 2 * (least q z).2 := f1
        have f2' : (least p z).1 = (least q z).2 := f2
        omega
    · rcases hq d List.mem_cons_self with rfl | rfl
      · have f1' : (least p z).1 + 2 * (least p z).2 = 2 * (least q z).1 + (least q z).2 := f1
        have f2' : (least p z).2 = (least q z).1 := f2
        omega
      · have f1' : (least p z).1 + 2 * (least p z).2 = (least q z).1 + 2 * (least q z).2 := f1
        have f2' : (least p z).2 = (least q z).2 := f2
        rw [fin (Prod.ext (by omega) f2')]
/-- of two pipelines, the shortest row of one parts them -/
theorem parts {o : Nat → Nat} (ho : ∀ c, o c ≠ c) {p q l : List Nat} (hp : TSs p) (hq : TSs q) (hl : 0 < eqs l) (hl2 : eqs l < l.length) (h : sv (sf o p l) p = sv (sf o p l) q) (h2 : sv (sf o q l) p = sv (sf o q l) q) : p = q := by
  rw [sf_sv ho p l hp] at h
  rw [sf_sv ho q l hq] at h2
  obtain ⟨a1, a2, a3⟩ := least_le q (sf o p l) hq
  obtain ⟨b1, b2, b3⟩ := least_le p (sf o q l) hp
  rw [← h] at a1 a2 a3
  rw [h2] at b1 b2 b3
  have e1 := sf_size ho p l hp
  have e2 := sf_size ho q l hq
  have f1 : (sf o p l).length = (least p (sizeL l)).1 := congrArg Prod.fst e1
  have f2 : eqs (sf o p l) = (least p (sizeL l)).2 := congrArg Prod.snd e1
  have f3 : (sf o q l).length = (least q (sizeL l)).1 := congrArg Prod.fst e2
  have f4 : eqs (sf o q l) = (least q (sizeL l)).2 := congrArg Prod.snd e2
  exact least_inj p q (sizeL l) hl hl2 hp hq (Prod.ext (by omega) (by omega))
end Z
/-! E2: loops of the mirrors -/
namespace Z
open PySem L2
open Classical
/-- a for over xs: P holds of what is walked so far and the state -/
theorem forL_pre {α : Type} {g : D → M Unit} {b : M Fl} (e : α → D) (P : List α → A → Prop) : ∀ (xs pre : List α) (s : A), P pre s →
    (∀ pre' a post s, pre ++ xs = pre' ++ a :: post → P pre' s → ∃ s1 s2 f, g (e a) s = some (.ok () s1) ∧ b s1 = some (.ok f s2) ∧ (f = .nx ∨ f = .ct) ∧ P (pre' ++ [a]) s2) →
    ∃ s', mForL g b (xs.map e) s = some (.ok .nx s') ∧ P (pre ++ xs) s'
  | [], pre, s, h0, _ => ⟨s, rfl, by rw [List.append_nil]; exact h0⟩
  | a :: xs, pre, s, h0, hs => by
    obtain ⟨s1, s2, f, e1, e2, hf, p⟩ := hs pre a xs s rfl h0
    obtain ⟨s', h1, h2⟩ := forL_pre e P xs (pre ++ [a]) s2 p fun pre' a' post s3 e3 p3 => hs pre' a' post s3 (by rw [← e3]; simp) p3
    refine ⟨s', ?_, by simpa using h2⟩
    rw [List.map_cons, mForL, bnd_e e1, bnd_e e2]
    rcases hf with rfl | rfl
    · exact h1
    · exact h1
/-- .. that may return -/
theorem forL_ret {α : Type} {g : D → M Unit} {b : M Fl} (e : α → D) (P : List α → A → Prop) (R : D → A → Prop) : ∀ (xs pre : List α) (s : A), P pre s →
    (∀ pre' a post s, pre ++ xs = pre' ++ a :: post → P pre' s → ∃ s1, g (e a) s = some (.ok () s1) ∧ ((∃ s2 f, b s1 = some (.ok f s2) ∧ (f = .nx ∨ f = .ct) ∧ P (pre' ++ [a]) s2) ∨ ∃ s2 d, b s1 = some (.ok (.rt d) s2) ∧ R d s2)) →
    (∃ s', mForL g b (xs.map e) s = some (.ok .nx s') ∧ P (pre ++ xs) s') ∨ ∃ s' d, mForL g b (xs.map e) s = some (.ok (.rt d) s') ∧ R d s'
  | [], pre, s, h0, _ => .inl ⟨s, rfl, by rw [List.append_nil]; exact h0⟩
  | a :: xs, pre, s, h0, hs => by
    obtain ⟨s1, e1, h⟩ := hs pre a xs s rfl h0
    rcases h with ⟨s2, f, e2, hf, p⟩ | ⟨s2, d, e2, r⟩
    · have ih := forL_ret e P R xs (pre ++ [a]) s2 p fun pre' a' post s3 e3 p3 => hs pre' a' post s3 (by rw [← e3]; simp) p3
      rw [List.map_cons, mForL, bnd_e e1, bnd_e e2]
      rcases hf with rfl | rfl
      · simpa using ih
      · simpa using ih
    · refine .inr ⟨s2, d, ?_, r⟩
      rw [List.map_cons, mForL, bnd_e e1, bnd_e e2]
      rfl
theorem mFor_e {mi : M (List D)} {g : D → M Unit} {b : M Fl} {s s' : A} {l : List D} (e : mi s = some (.ok l s')) : mFor mi g b s = mForL g b l s' := bnd_e e
/-- a comprehension -/
theorem lcL_pre {α : Type} {g : D → M Unit} {tt : M Bool} {me : M D} {vs : List Nat} (e : α → D) (P : List α → A → Prop) (f : α → Option D) : ∀ (xs pre : List α) (acc : List D) (s : A), P pre s → acc.length + xs.length ≤ 16777216 →
    (∀ pre' a post s, pre ++ xs = pre' ++ a :: post → P pre' s → ∃ s1 s2 k, g (e a) s = some (.ok () s1) ∧ tt s1 = some (.ok k s2) ∧
      ((k = true ∧ ∃ y s3, me s2 = some (.ok y s3) ∧ f a = some y ∧ P (pre' ++ [a]) (wipeA s3 vs)) ∨ (k = false ∧ f a = none ∧ P (pre' ++ [a]) (wipeA s2 vs)))) →
    ∃ s', mLcL g tt me vs (xs.map e) acc s = some (.ok (.lst (acc ++ xs.filterMap f)) s') ∧ P (pre ++ xs) s'
  | [], pre, acc, s, h0, _, _ => ⟨s, by simp [mLcL], by rw [List.append_nil]; exact h0⟩
  | a :: xs, pre, acc, s, h0, hl, hs => by
    obtain ⟨s1, s2, k, e1, e2, h⟩ := hs pre a xs s rfl h0
    have hl2 : acc.length + (xs.length + 1) ≤ 16777216 := hl
    rcases h with ⟨rfl, y, s3, e3, ef, p⟩ | ⟨rfl, ef, p⟩
    · obtain ⟨s', h1, h2⟩ := lcL_pre (g := g) (tt := tt) (me := me) (vs := vs) e P f xs (pre ++ [a]) (acc ++ [y]) _ p (by simp; omega) fun pre' a' post s3 e3 p3 => hs pre' a' post s3 (by rw [← e3]; simp) p3
      refine ⟨s', ?_, by simpa using h2⟩
      rw [List.map_cons, mLcL]
      unfold bndN
      rw [e1]
      simp only [e2, if_true, e3]
      rw [if_pos (by rw [SL]; omega), h1, List.filterMap_cons, ef]
      simp
    · obtain ⟨s', h1, h2⟩ := lcL_pre (g := g) (tt := tt) (me := me) (vs := vs) e P f xs (pre ++ [a]) acc _ p (by omega) fun pre' a' post s3 e3 p3 => hs pre' a' post s3 (by rw [← e3]; simp) p3
      refine ⟨s', ?_, by simpa using h2⟩
      rw [List.map_cons, mLcL]
      unfold bndN
      rw [e1]
      simp only [e2]
      rw [List.filterMap_cons, ef]
      simpa using h1
theorem mLc_e {mi : M (List D)} {g : D → M Unit} {tt : M Bool} {me : M D} {vs : List Nat} {s s' : A} {l : List D} (e : mi s = some (.ok l s')) : mLc mi g tt me vs s = mLcL g tt me vs l [] (wipeA s' vs) := bnd_e e
/-- a while: P with a measure -/
theorem while_P {c : M Bool} {b : M Fl} (P : Nat → A → Prop) (Q : A → Prop) (hs : ∀ n s, P n s → ∃ k s1, c s = some (.ok k s1) ∧ ((k = false ∧ Q s1) ∨ (k = true ∧ ∃ f s2, b s1 = some (.ok f s2) ∧ (((f = .nx ∨ f = .ct) ∧ ∃ m, m < n ∧ P m s2) ∨ (f = .bk ∧ Q s2))))) :
    ∀ n s, P n s → ∃ s', mWhile c b s = some (.ok .nx s') ∧ Q s' := by
  have key : ∀ n s, P n s → ∃ m s', whileN c b m s = some (.ok .nx s') ∧ Q s' := by
    intro n
    induction n using Nat.strongRecOn with
    | _ n ih =>
      intro s p
      obtain ⟨k, s1, e1, h⟩ := hs n s p
      rcases h with ⟨rfl, q⟩ | ⟨rfl, f, s2, e2, h⟩
      · refine ⟨1, s1, ?_, q⟩
        rw [whileN, bnd_e e1]
        rfl
      · rcases h with ⟨hf, m, hm, p2⟩ | ⟨rfl, q⟩
        · obtain ⟨j, s', h1, h2⟩ := ih m hm s2 p2
          refine ⟨j + 1, s', ?_, h2⟩
          rw [whileN, bnd_e e1]
          show bnd b _ s1 = _
          rw [bnd_e e2]
          rcases hf with rfl | rfl
          · exact h1
          · exact h1
        · refine ⟨1, s2, ?_, q⟩
          rw [whileN, bnd_e e1]
          show bnd b _ s1 = _
          rw [bnd_e e2]
          rfl
  intro n s p
  obtain ⟨m, s', h1, h2⟩ := key n s p
  exact ⟨s', while_of h1, h2⟩
end Z
/-! E3: what a mirror comes to, backwards -/
namespace Z
open PySem L2
open Classical
/-- m goes through from s, and then Q -/
def Wp {α : Type} (m : M α) (s : A) (Q : α → A → Prop) : Prop := ∃ a s', m s = some (.ok a s') ∧ Q a s'
def FnWp (n : Fn) (ds : List D) (hp : List AO) (Q : D → List AO → Prop) : Prop := ∃ d hp', n ds hp = some (.ok d hp') ∧ Q d hp'
section
variable {α β : Type} {s : A} {hp : List AO}
theorem Wp.mono {m : M α} {Q R : α → A → Prop} (h : Wp m s Q) (hq : ∀ a s', Q a s' → R a s') : Wp m s R := by
  obtain ⟨a, s', e, q⟩ := h
  exact ⟨a, s', e, hq _ _ q⟩
theorem FnWp.mono {n : Fn} {ds : List D} {Q R : D → List AO → Prop} (h : FnWp n ds hp Q) (hq : ∀ a s', Q a s' → R a s') : FnWp n ds hp R := by
  obtain ⟨a, s', e, q⟩ := h
  exact ⟨a, s', e, hq _ _ q⟩
theorem w_eq {n : Fn} {ds : List D} {d : D} {hp' : List AO} {Q : D → List AO → Prop} (e : n ds hp = some (.ok d hp')) (q : Q d hp') : FnWp n ds hp Q := ⟨_, _, e, q⟩
theorem w_ret {a : α} {Q : α → A → Prop} (h : Q a s) : Wp (ret a) s Q := ⟨a, s, rfl, h⟩
theorem w_bnd {m : M α} {k : α → M β} {Q : β → A → Prop} (h : Wp m s fun a s' => Wp (k a) s' Q) : Wp (bnd m k) s Q := by
  obtain ⟨a, s', e, b, s2, e2, q⟩ := h
  exact ⟨b, s2, by rw [bnd_e e, e2], q⟩
theorem w_lft {o : Option α} {Q : α → A → Prop} (h : ∃ a, o = some a ∧ Q a s) : Wp (lft o) s Q := by
  obtain ⟨a, rfl, q⟩ := h
  exact ⟨a, s, rfl, q⟩
theorem w_C {d : D} {Q : D → A → Prop} (h : Q d s) : Wp (mC d) s Q := ⟨d, s, rfl, h⟩
theorem w_V {i : Nat} {d : D} {Q : D → A → Prop} (e : s.sl[i]? = some (some (.val d))) (h : Q d s) : Wp (mVar i) s Q := ⟨d, s, mVar_e e, h⟩
theorem w_VO {i : Nat} {l : List D} {Q : D → A → Prop} (e : s.sl[i]? = some (some (.own (.lst l)))) (h : Q (.lst l) { s with sl := s.sl.set i (some (.val (.lst l))) }) : Wp (mVar i) s Q := ⟨_, _, mVar_o e, h⟩
theorem w_bin {f : D → D → Option D} {ma mb : M D} {Q : D → A → Prop} (h : Wp ma s fun x s1 => Wp mb s1 fun y s2 => ∃ z, f x y = some z ∧ Q z s2) : Wp (mBin f ma mb) s Q :=
  w_bnd (h.mono fun x s1 h1 => w_bnd (h1.mono fun y s2 h2 => w_lft h2))
theorem w_un {f : D → Option D} {m : M D} {Q : D → A → Prop} (h : Wp m s fun x s1 => ∃ z, f x = some z ∧ Q z s1) : Wp (mUn f m) s Q := w_bnd (h.mono fun x s1 h1 => w_lft h1)
theorem w_fn {f : List D → Option D} {m : M (List D)} {Q : D → A → Prop} (h : Wp m s fun x s1 => ∃ z, f x = some z ∧ Q z s1) : Wp (mFn f m) s Q := w_bnd (h.mono fun x s1 h1 => w_lft h1)
theorem w_it {f : D → Option (List D)} {m : M D} {Q : List D → A → Prop} (h : Wp m s fun x s1 => ∃ z, f x = some z ∧ Q z s1) : Wp (mIt f m) s Q := w_bnd (h.mono fun x s1 h1 => w_lft h1)
theorem w_itA {f : List D → Option (List D)} {m : M (List D)} {Q : List D → A → Prop} (h : Wp m s fun x s1 => ∃ z, f x = some z ∧ Q z s1) : Wp (mItA f m) s Q := w_bnd (h.mono fun x s1 h1 => w_lft h1)
theorem w_tup {m : M (List D)} {Q : D → A → Prop} (h : Wp m s fun x s1 => Nat.ble x.length 16777216 = true ∧ Q (.tup x) s1) : Wp (mTup m) s Q := w_bnd (h.mono fun x s1 h1 => w_lft ⟨_, tupD_e (Nat.le_of_ble_eq_true h1.1), h1.2⟩)
theorem w_lst {m : M (List D)} {Q : D → A → Prop} (h : Wp m s fun x s1 => Nat.ble x.length 16777216 = true ∧ Q (.lst x) s1) : Wp (mLst m) s Q := w_bnd (h.mono fun x s1 h1 => w_lft ⟨_, lstD_e (Nat.le_of_ble_eq_true h1.1), h1.2⟩)
theorem w_lstH {m : M (List D)} {Q : D → A → Prop} (h : Wp m s fun x s1 => Nat.ble x.length 16777216 = true ∧ Q (.ref s1.hp.length) { s1 with hp := s1.hp ++ [.lst x] }) : Wp (mLstH m) s Q :=
  w_bnd (h.mono fun x s1 h1 => ⟨_, _, if_pos (by rw [SL]; exact Nat.le_of_ble_eq_true h1.1), h1.2⟩)
theorem w_nil {Q : List D → A → Prop} (h : Q [] s) : Wp mNil s Q := ⟨_, _, rfl, h⟩
theorem w_cons {m : M D} {n : M (List D)} {Q : List D → A → Prop} (h : Wp m s fun x s1 => Wp n s1 fun l s2 => Q (x :: l) s2) : Wp (mCons m n) s Q :=
  w_bnd (h.mono fun x s1 h1 => w_bnd (h1.mono fun l s2 h2 => w_ret h2))
theorem w_tst {m : M D} {Q : Bool → A → Prop} (h : Wp m s fun d s1 => ∃ b, d = .bl b ∧ Q b s1) : Wp (mTst m) s Q :=
  w_bnd (h.mono fun x s1 ⟨b, e, q⟩ => by subst e; exact w_ret q)
theorem w_and {m n : M Bool} {Q : Bool → A → Prop} (h : Wp m s fun b s1 => (b = true → Wp n s1 Q) ∧ (b = false → Q false s1)) : Wp (mAnd m n) s Q :=
  w_bnd (h.mono fun b s1 ⟨h1, h2⟩ => by
    cases b
    · exact w_ret (h2 rfl)
    · exact h1 rfl)
theorem w_or {m n : M Bool} {Q : Bool → A → Prop} (h : Wp m s fun b s1 => (b = true → Q true s1) ∧ (b = false → Wp n s1 Q)) : Wp (mOr m n) s Q :=
  w_bnd (h.mono fun b s1 ⟨h1, h2⟩ => by
    cases b
    · exact h2 rfl
    · exact w_ret (h1 rfl))
theorem w_not {m : M Bool} {Q : Bool → A → Prop} (h : Wp m s fun b s1 => Q (!b) s1) : Wp (mNot m) s Q := w_bnd (h.mono fun b s1 h1 => w_ret h1)
theorem w_andV {m n : M D} {Q : D → A → Prop} (h : Wp m s fun d s1 => ∃ b, d = .bl b ∧ (b = true → Wp n s1 Q) ∧ (b = false → Q (.bl false) s1)) : Wp (mAndV m n) s Q :=
  w_bnd (h.mono fun d s1 ⟨b, e, h1, h2⟩ => by
    subst e
    cases b
    · exact w_ret (h2 rfl)
    · exact h1 rfl)
theorem w_orV {m n : M D} {Q : D → A → Prop} (h : Wp m s fun d s1 => ∃ b, d = .bl b ∧ (b = true → Q (.bl true) s1) ∧ (b = false → Wp n s1 Q)) : Wp (mOrV m n) s Q :=
  w_bnd (h.mono fun d s1 ⟨b, e, h1, h2⟩ => by
    subst e
    cases b
    · exact h2 rfl
    · exact w_ret (h1 rfl))
theorem w_if {c : M Bool} {m n : M α} {Q : α → A → Prop} (h : Wp c s fun b s1 => (b = true → Wp m s1 Q) ∧ (b = false → Wp n s1 Q)) : Wp (mIf c m n) s Q :=
  w_bnd (h.mono fun b s1 ⟨h1, h2⟩ => by
    cases b
    · exact h2 rfl
    · exact h1 rfl)
theorem w_so {m : M D} {Q : Option Int → A → Prop} (h : Wp m s fun d s1 => ∃ i, d = .int i ∧ Q (some i) s1) : Wp (mSo m) s Q :=
  w_bnd (h.mono fun d s1 ⟨i, e, q⟩ => by subst e; exact w_ret q)
theorem w_no {Q : Option Int → A → Prop} (h : Q none s) : Wp mNo s Q := ⟨_, _, rfl, h⟩
theorem w_sl {g : D → Option Int → Option Int → Option D} {m : M D} {ml mh : M (Option Int)} {Q : D → A → Prop} (h : Wp m s fun d s1 => Wp ml s1 fun lo s2 => Wp mh s2 fun hi s3 => ∃ z, g d lo hi = some z ∧ Q z s3) : Wp (mSl g m ml mh) s Q :=
  w_bnd (h.mono fun d s1 h1 => w_bnd (h1.mono fun lo s2 h2 => w_bnd (h2.mono fun hi s3 h3 => w_lft h3)))
theorem w_call {np : Nat} {n : Fn} {m : M (List D)} {Q : D → A → Prop} (h : Wp m s fun ds s1 => ds.length = np ∧ FnWp n ds s1.hp fun d hp' => Q d { s1 with hp := hp' }) : Wp (mCall np n m) s Q := by
  obtain ⟨ds, s1, e, hl, d, hp', e2, q⟩ := h
  refine ⟨d, { s1 with hp := hp' }, ?_, q⟩
  unfold mCall
  rw [bnd_e e, if_pos hl, e2]
  rfl
theorem w_join {x : List Nat} {mb : M D} {Q : D → A → Prop} (h : Wp mb s fun e s2 => ∃ z, joinD x e = some z ∧ Q z s2) : Wp (mJoin (mC (.str x)) mb) s Q :=
  w_bnd (w_C (w_bnd (h.mono fun e s2 h2 => w_lft h2)))
/-! statements -/
theorem w_nx {Q : Fl → A → Prop} (h : Q .nx s) : Wp mNx s Q := ⟨_, _, rfl, h⟩
theorem w_seq {m n : M Fl} {Q : Fl → A → Prop} (h : Wp m s fun f s1 => match f with | .nx => Wp n s1 Q | f => Q f s1) : Wp (mSeq m n) s Q :=
  w_bnd (h.mono fun f s1 h1 => by
    cases f
    · exact h1
    · exact w_ret h1
    · exact w_ret h1
    · exact w_ret h1)
theorem w_asg {m : M D} {g : D → M Unit} {Q : Fl → A → Prop} (h : Wp m s fun d s1 => Wp (g d) s1 fun _ s2 => Q .nx s2) : Wp (mAsg m g) s Q := w_bnd (h.mono fun d s1 h1 => w_bnd (h1.mono fun _ s2 h2 => w_ret h2))
theorem w_gV {i : Nat} {d : D} {Q : Unit → A → Prop} (h : Q () { s with sl := s.sl.set i (some (.val d)) }) : Wp (gV i d) s Q := ⟨_, _, rfl, h⟩
theorem w_set {i : Nat} {m : M D} {Q : Fl → A → Prop} (h : Wp m s fun d s1 => Q .nx { s1 with sl := s1.sl.set i (some (.val d)) }) : Wp (mAsg m (gV i)) s Q := w_asg (h.mono fun d s1 h1 => w_gV h1)
theorem w_gT2 {i j : Nat} {d e : D} {Q : Unit → A → Prop} (h : Q () { s with sl := (s.sl.set i (some (.val d))).set j (some (.val e)) }) : Wp (gT (gC (gV i) (gC (gV j) gN)) 2 (.tup [d, e])) s Q := ⟨_, _, rfl, h⟩
theorem w_gL2 {i j : Nat} {d e : D} {Q : Unit → A → Prop} (h : Q () { s with sl := (s.sl.set i (some (.val d))).set j (some (.val e)) }) : Wp (gL (gC (gV i) (gC (gV j) gN)) 2 (.lst [d, e])) s Q := ⟨_, _, rfl, h⟩
theorem w_drop {m : M D} {Q : Fl → A → Prop} (h : Wp m s fun _ s1 => Q .nx s1) : Wp (mDrop m) s Q := w_bnd (h.mono fun d s1 h1 => w_ret h1)
theorem w_rt {m : M D} {Q : Fl → A → Prop} (h : Wp m s fun d s1 => Q (.rt d) s1) : Wp (mRet m) s Q := w_bnd (h.mono fun d s1 h1 => w_ret h1)
theorem w_par {i j : Nat} {m n : M D} {Q : Fl → A → Prop} (h : Wp m s fun d s1 => Wp n s1 fun e s2 => Q .nx { s2 with sl := (s2.sl.set i (some (.val d))).set j (some (.val e)) }) : Wp (mPar i j (mCons m (mCons n mNil))) s Q :=
  w_bnd (w_cons (h.mono fun d s1 h1 => w_cons (h1.mono fun e s2 h2 => w_nil ⟨_, _, rfl, h2⟩)))
theorem w_aug {i : Nat} {f : D → D → Option D} {x : D} {m : M D} {Q : Fl → A → Prop} (e : s.sl[i]? = some (some (.val x))) (h : Wp m s fun y s1 => ∃ z, f x y = some z ∧ Q .nx { s1 with sl := s1.sl.set i (some (.val z)) }) : Wp (mAug i f m) s Q := by
  obtain ⟨y, s1, e1, z, e2, q⟩ := h
  refine ⟨.nx, { s1 with sl := s1.sl.set i (some (.val z)) }, ?_, q⟩
  unfold mAug
  rw [e]
  show bnd m _ s = _
  rw [bnd_e e1, e2]
  rfl
theorem w_setO {i : Nat} {m : M (List D)} {Q : Fl → A → Prop} (h : Wp m s fun l s1 => Nat.ble l.length 16777216 = true ∧ Q .nx (setO s1 i l)) : Wp (mSetO i m) s Q :=
  w_bnd (h.mono fun l s1 h1 => ⟨_, _, if_pos (by rw [SL]; exact Nat.le_of_ble_eq_true h1.1), h1.2⟩)
theorem w_appO {i : Nat} {m : M D} {l : List D} {Q : D → A → Prop} (e : getO s i = some l) (h : Wp m s fun d s1 => ∃ l', getO s1 i = some l' ∧ l'.length < 16777216 ∧ Q .non (setO s1 i (l' ++ [d]))) : Wp (mAppO i m) s Q := by
  obtain ⟨d, s1, e1, l', e2, hl, q⟩ := h
  refine ⟨_, _, ?_, q⟩
  unfold mAppO
  rw [e]
  show bnd m _ s = _
  rw [bnd_e e1]
  show (match getO s1 i with | some l => _ | none => none) = _
  rw [e2]
  exact if_pos (by rw [SL]; exact hl)
theorem w_extO {i : Nat} {m : M D} {l : List D} {Q : D → A → Prop} (e : getO s i = some l) (h : Wp m s fun d s1 => ∃ x l', d = .lst x ∧ getO s1 i = some l' ∧ l'.length + x.length ≤ 16777216 ∧ Q .non (setO s1 i (l' ++ x))) : Wp (mExtO i m) s Q := by
  obtain ⟨d, s1, e1, x, l', rfl, e2, hl, q⟩ := h
  refine ⟨_, _, ?_, q⟩
  unfold mExtO
  rw [e]
  show bnd m _ s = _
  rw [bnd_e e1]
  show (match D.lst x, getO s1 i with | .lst l', some l => _ | _, _ => none) = _
  rw [e2]
  exact if_pos (by rw [SL]; exact hl)
theorem w_own {i : Nat} {f : List D → D → Option D} {m : M D} {l : List D} {Q : D → A → Prop} (e : getO s i = some l) (h : Wp m s fun d s1 => ∃ l' z, getO s1 i = some l' ∧ f l' d = some z ∧ Q z s1) : Wp (mOwn i f m) s Q := by
  obtain ⟨d, s1, e1, l', z, e2, e3, q⟩ := h
  refine ⟨z, s1, ?_, q⟩
  unfold mOwn
  rw [e]
  show bnd m _ s = _
  rw [bnd_e e1]
  show (match getO s1 i with | some l => _ | none => none) = _
  rw [e2]
  show (match f l' d with | some z => _ | none => none) = _
  rw [e3]
theorem w_ixH {ma mb : M D} {Q : D → A → Prop} (h : Wp ma s fun o s1 => Wp mb s1 fun k s2 => ∃ i l d, k = .int i ∧ getH s2 o = some l ∧ atI l i = some d ∧ Q d s2) : Wp (mIxH ma mb) s Q :=
  w_bnd (h.mono fun o s1 h1 => w_bnd (h1.mono fun k s2 ⟨i, l, d, e1, e2, e3, q⟩ => by
    subst e1
    refine ⟨d, s2, ?_, q⟩
    show (match D.int i, getH s2 o with | .int i, some l => _ | _, _ => none) = _
    rw [e2]
    show (match atI l i with | some d => _ | none => none) = _
    rw [e3]))
theorem w_setIxH {mv mo mk : M D} {Q : Fl → A → Prop} (h : Wp mv s fun d s1 => Wp mo s1 fun o s2 => Wp mk s2 fun k s3 => ∃ i l j, k = .int i ∧ getH s3 o = some l ∧ ixN l.length i = some j ∧ Q .nx (setH s3 o (l.set j d))) : Wp (mSetIxH mv mo mk) s Q :=
  w_bnd (h.mono fun d s1 h1 => w_bnd (h1.mono fun o s2 h2 => w_bnd (h2.mono fun k s3 ⟨i, l, j, e1, e2, e3, q⟩ => by
    subst e1
    refine ⟨.nx, _, ?_, q⟩
    show (match D.int i, getH s3 o with | .int i, some l => _ | _, _ => none) = _
    rw [e2]
    show (match ixN l.length i with | some d => _ | none => none) = _
    rw [e3])))
theorem w_cmpH {neg : Bool} {ma mb : M D} {Q : D → A → Prop} (h : Wp ma s fun o s1 => Wp mb s1 fun d s2 => ∃ l b, getH s2 o = some l ∧ eqd (.lst l) d = some b ∧ Q (.bl (if neg then !b else b)) s2) : Wp (mCmpH neg ma mb) s Q :=
  w_bnd (h.mono fun o s1 h1 => w_bnd (h1.mono fun d s2 ⟨l, b, e1, e2, q⟩ => by
    refine ⟨_, s2, ?_, q⟩
    show (match getH s2 o with | some l => _ | none => none) = _
    rw [e1]
    show (match eqd (.lst l) d with | some k => _ | none => none) = _
    rw [e2]))
theorem w_pop0H {mo mk : M D} {Q : D → A → Prop} (h : Wp mo s fun o s1 => (∃ l, getH s1 o = some l) ∧ Wp mk s1 fun k s2 => ∃ d l, k = .int 0 ∧ getH s2 o = some (d :: l) ∧ Q d (setH s2 o l)) : Wp (mPop0H mo mk) s Q :=
  w_bnd (h.mono fun o s1 ⟨⟨l0, e0⟩, k, s2, ek, d, l, ek0, e1, q⟩ => by
    subst ek0
    refine ⟨d, setH s2 o l, ?_, q⟩
    show (match getH s1 o with | some _ => _ | none => none) = _
    rw [e0]
    show bnd mk _ s1 = _
    rw [bnd_e ek]
    show (match D.int 0, getH s2 o with | .int 0, some (d :: l) => _ | _, _ => none) = _
    rw [e1]
    rfl)
theorem w_appH {mo me : M D} {Q : D → A → Prop} (h : Wp mo s fun o s1 => (∃ l, getH s1 o = some l) ∧ Wp me s1 fun d s2 => ∃ l, getH s2 o = some l ∧ l.length < 16777216 ∧ Q .non (setH s2 o (l ++ [d]))) : Wp (mAppH mo me) s Q :=
  w_bnd (h.mono fun o s1 ⟨⟨l0, e0⟩, d, s2, ed, l, e1, hl, q⟩ => by
    refine ⟨.non, _, ?_, q⟩
    show (match getH s1 o with | some _ => _ | none => none) = _
    rw [e0]
    show bnd me _ s1 = _
    rw [bnd_e ed]
    show (match getH s2 o with | some l => _ | none => none) = _
    rw [e1]
    exact if_pos (by rw [SL]; exact hl))
theorem w_par3 {i j k : Nat} {m n u : M D} {Q : Fl → A → Prop} (h : Wp m s fun d s1 => Wp n s1 fun e s2 => Wp u s2 fun f s3 => Q .nx { s3 with sl := ((s3.sl.set i (some (.val d))).set j (some (.val e))).set k (some (.val f)) }) : Wp (mPar3 i j k (mCons m (mCons n (mCons u mNil)))) s Q :=
  w_bnd (w_cons (h.mono fun d s1 h1 => w_cons (h1.mono fun e s2 h2 => w_cons (h2.mono fun f s3 h3 => w_nil ⟨_, _, rfl, h3⟩))))
theorem w_joinH {x : List Nat} {mb : M D} {Q : D → A → Prop} (h : Wp mb s fun o s2 => ∃ l z, getH s2 o = some l ∧ joinD x (.lst l) = some z ∧ Q z s2) : Wp (mJoinH (mC (.str x)) mb) s Q :=
  w_bnd (w_C (w_bnd (h.mono fun o s2 ⟨l, z, e1, e2, q⟩ => by
    refine ⟨z, s2, ?_, q⟩
    show (match getH s2 o with | some l => _ | none => none) = _
    rw [e1]
    show (match joinD x (.lst l) with | some z => _ | none => none) = _
    rw [e2])))
theorem w_perm {n : Nat} {π : List Nat} {m : M (List D)} {Q : List D → A → Prop} (h : Wp m s fun l s1 => l.length = n ∧ Q (perm π l) s1) : Wp (mPerm n π m) s Q :=
  w_bnd (h.mono fun l s1 ⟨h1, h2⟩ => by
    show Wp (if l.length = n then ret (perm π l) else fun _ => none) s1 Q
    rw [if_pos h1]
    exact w_ret h2)
theorem w_split {ma mb : M D} {Q : D → A → Prop} (h : Wp ma s fun d s1 => ∃ x, d = .str x ∧ Wp mb s1 fun e s2 => ∃ z, splitD x e = some z ∧ Q z s2) : Wp (mSplit ma mb) s Q :=
  w_bnd (h.mono fun d s1 ⟨x, e, h1⟩ => by
    subst e
    exact w_bnd (h1.mono fun e s2 h2 => w_lft h2))
theorem w_notV {m : M D} {Q : D → A → Prop} (h : Wp m s fun d s1 => ∃ b, d = .bl b ∧ Q (.bl (!b)) s1) : Wp (mNotV m) s Q :=
  w_bnd (h.mono fun d s1 ⟨b, e, q⟩ => by
    subst e
    exact w_ret q)
/-- what a turn of a loop leaves -/
def LoopQ (P : A → Prop) (Q : Fl → A → Prop) (f : Fl) (s : A) : Prop := match f with
  | .nx => P s
  | .ct => P s
  | .bk => Q .nx s
  | .rt d => Q (.rt d) s
theorem w_forL {ξ : Type} {g : D → M Unit} {b : M Fl} {e : ξ → D} (P : List ξ → A → Prop) {Q : Fl → A → Prop} : ∀ (xs pre : List ξ) (s : A), P pre s →
    (∀ pre' a post s, pre ++ xs = pre' ++ a :: post → P pre' s → Wp (g (e a)) s fun _ s1 => Wp b s1 fun f s2 => LoopQ (P (pre' ++ [a])) Q f s2) →
    (∀ s', P (pre ++ xs) s' → Q .nx s') → Wp (mForL g b (xs.map e)) s Q
  | [], pre, s, h0, _, hf => ⟨_, _, rfl, hf s (by rw [List.append_nil]; exact h0)⟩
  | a :: xs, pre, s, h0, hs, hf => by
    have h := hs pre a xs s rfl h0
    refine w_bnd (h.mono fun _ s1 h1 => w_bnd (h1.mono fun f s2 h2 => ?_))
    have next : P (pre ++ [a]) s2 → Wp (mForL g b (xs.map e)) s2 Q := fun p => w_forL P xs (pre ++ [a]) s2 p (fun pre' a' post s3 e3 p3 => hs pre' a' post s3 (by rw [← e3]; simp) p3) (fun s' h' => hf s' (by simpa using h'))
    cases f
    · exact next h2
    · exact w_ret h2
    · exact w_ret h2
    · exact next h2
theorem w_for {ξ : Type} {mi : M (List D)} {g : D → M Unit} {b : M Fl} {Q : Fl → A → Prop} (e : ξ → D) (xs : List ξ) (P : List ξ → A → Prop) (h : Wp mi s fun l s0 => l = xs.map e ∧ P [] s0)
    (hs : ∀ pre a post s, xs = pre ++ a :: post → P pre s → Wp (g (e a)) s fun _ s1 => Wp b s1 fun f s2 => LoopQ (P (pre ++ [a])) Q f s2)
    (hf : ∀ s', P xs s' → Q .nx s') : Wp (mFor mi g b) s Q :=
  w_bnd (h.mono fun l s0 ⟨e1, h0⟩ => by
    subst e1
    exact w_forL P xs [] s0 h0 hs hf)
theorem w_lcL {ξ : Type} {g : D → M Unit} {tt : M Bool} {me : M D} {vs : List Nat} {e : ξ → D} (P : List ξ → A → Prop) (f : ξ → Option D) {Q : D → A → Prop} : ∀ (xs pre : List ξ) (acc : List D) (s : A), P pre s → acc.length + xs.length ≤ 16777216 →
    (∀ pre' a post s, pre ++ xs = pre' ++ a :: post → P pre' s → Wp (g (e a)) s fun _ s1 => Wp tt s1 fun k s2 => (k = true → Wp me s2 fun y s3 => f a = some y ∧ P (pre' ++ [a]) (wipeA s3 vs)) ∧ (k = false → f a = none ∧ P (pre' ++ [a]) (wipeA s2 vs))) →
    (∀ s', P (pre ++ xs) s' → Q (.lst (acc ++ xs.filterMap f)) s') → Wp (mLcL g tt me vs (xs.map e) acc) s Q
  | [], pre, acc, s, h0, _, _, hf => ⟨.lst acc, s, rfl, by have := hf s (by rw [List.append_nil]; exact h0); simpa using this⟩
  | a :: xs, pre, acc, s, h0, hl, hs, hf => by
    obtain ⟨u, s1, e1, k, s2, e2, ht, hn⟩ := hs pre a xs s rfl h0
    have hl2 : acc.length + (xs.length + 1) ≤ 16777216 := hl
    unfold Wp
    rw [List.map_cons, mLcL]
    unfold bndN
    rw [e1]
    simp only [e2]
    cases k with
    | true =>
      obtain ⟨y, s3, e3, ef, p⟩ := ht rfl
      simp only [if_true, e3]
      rw [if_pos (by rw [SL]; omega)]
      refine w_lcL P f xs (pre ++ [a]) (acc ++ [y]) _ p (by simp; omega) (fun pre' a' post s3 e3 p3 => hs pre' a' post s3 (by rw [← e3]; simp) p3) fun s' h' => ?_
      have := hf s' (by simpa using h')
      rw [List.filterMap_cons, ef] at this
      simpa using this
    | false =>
      obtain ⟨ef, p⟩ := hn rfl
      refine w_lcL P f xs (pre ++ [a]) acc _ p (by omega) (fun pre' a' post s3 e3 p3 => hs pre' a' post s3 (by rw [← e3]; simp) p3) fun s' h' => ?_
      have := hf s' (by simpa using h')
      rw [List.filterMap_cons, ef] at this
      exact this
theorem w_lc {ξ : Type} {mi : M (List D)} {g : D → M Unit} {tt : M Bool} {me : M D} {vs : List Nat} {Q : D → A → Prop} (e : ξ → D) (xs : List ξ) (P : List ξ → A → Prop) (f : ξ → Option D) (hl : xs.length ≤ 16777216) (h : Wp mi s fun l s0 => l = xs.map e ∧ P [] (wipeA s0 vs))
    (hs : ∀ pre a post s, xs = pre ++ a :: post → P pre s → Wp (g (e a)) s fun _ s1 => Wp tt s1 fun k s2 => (k = true → Wp me s2 fun y s3 => f a = some y ∧ P (pre ++ [a]) (wipeA s3 vs)) ∧ (k = false → f a = none ∧ P (pre ++ [a]) (wipeA s2 vs)))
    (hf : ∀ s', P xs s' → Q (.lst (xs.filterMap f)) s') : Wp (mLc mi g tt me vs) s Q :=
  w_bnd (h.mono fun l s0 ⟨e1, h0⟩ => by
    subst e1
    exact w_lcL P f xs [] [] _ h0 (by simpa using hl) hs fun s' h' => hf s' h')
/-- a comprehension whose values may hang on the state: V tells of them -/
theorem w_lcL' {ξ : Type} {g : D → M Unit} {tt : M Bool} {me : M D} {vs : List Nat} {e : ξ → D} (P : List ξ → List D → A → Prop) {Q : D → A → Prop} : ∀ (xs pre : List ξ) (acc : List D) (s : A), P pre acc s → acc.length + xs.length ≤ 16777216 →
    (∀ pre' a post acc s, pre ++ xs = pre' ++ a :: post → P pre' acc s → Wp (g (e a)) s fun _ s1 => Wp tt s1 fun k s2 => (k = true → Wp me s2 fun y s3 => P (pre' ++ [a]) (acc ++ [y]) (wipeA s3 vs)) ∧ (k = false → P (pre' ++ [a]) acc (wipeA s2 vs))) →
    (∀ acc s', P (pre ++ xs) acc s' → Q (.lst acc) s') → Wp (mLcL g tt me vs (xs.map e) acc) s Q
  | [], pre, acc, s, h0, _, _, hf => ⟨.lst acc, s, rfl, hf acc s (by rw [List.append_nil]; exact h0)⟩
  | a :: xs, pre, acc, s, h0, hl, hs, hf => by
    obtain ⟨u, s1, e1, k, s2, e2, ht, hn⟩ := hs pre a xs acc s rfl h0
    have hl2 : acc.length + (xs.length + 1) ≤ 16777216 := hl
    unfold Wp
    rw [List.map_cons, mLcL]
    unfold bndN
    rw [e1]
    simp only [e2]
    cases k with
    | true =>
      obtain ⟨y, s3, e3, p⟩ := ht rfl
      simp only [if_true, e3]
      rw [if_pos (by rw [SL]; omega)]
      exact w_lcL' P xs (pre ++ [a]) (acc ++ [y]) _ p (by simp; omega) (fun pre' a' post acc s3 e3 p3 => hs pre' a' post acc s3 (by rw [← e3]; simp) p3) fun acc s' h' => hf acc s' (by simpa using h')
    | false =>
      exact w_lcL' P xs (pre ++ [a]) acc _ (hn rfl) (by omega) (fun pre' a' post acc s3 e3 p3 => hs pre' a' post acc s3 (by rw [← e3]; simp) p3) fun acc s' h' => hf acc s' (by simpa using h')
theorem w_lc' {ξ : Type} {mi : M (List D)} {g : D → M Unit} {tt : M Bool} {me : M D} {vs : List Nat} {Q : D → A → Prop} (e : ξ → D) (xs : List ξ) (P : List ξ → List D → A → Prop) (hl : xs.length ≤ 16777216) (h : Wp mi s fun l s0 => l = xs.map e ∧ P [] [] (wipeA s0 vs))
    (hs : ∀ pre a post acc s, xs = pre ++ a :: post → P pre acc s → Wp (g (e a)) s fun _ s1 => Wp tt s1 fun k s2 => (k = true → Wp me s2 fun y s3 => P (pre ++ [a]) (acc ++ [y]) (wipeA s3 vs)) ∧ (k = false → P (pre ++ [a]) acc (wipeA s2 vs)))
    (hf : ∀ acc s', P xs acc s' → Q (.lst acc) s') : Wp (mLc mi g tt me vs) s Q :=
  w_bnd (h.mono fun l s0 ⟨e1, h0⟩ => by
    subst e1
    exact w_lcL' P xs [] [] _ h0 (by simpa using hl) hs fun acc s' h' => hf acc s' h')
theorem w_while {c : M Bool} {b : M Fl} {Q : Fl → A → Prop} (P : Nat → A → Prop) (n : Nat) (h0 : P n s) (hs : ∀ n s, P n s → Wp c s fun k s1 => (k = true → Wp b s1 fun f s2 => LoopQ (fun s' => ∃ m, m < n ∧ P m s') Q f s2) ∧ (k = false → Q .nx s1)) : Wp (mWhile c b) s Q := by
  have key : ∀ n s, P n s → ∃ m f s', whileN c b m s = some (.ok f s') ∧ Q f s' := by
    intro n
    induction n using Nat.strongRecOn with
    | _ n ih =>
      intro s p
      obtain ⟨k, s1, e1, ht, hn⟩ := hs n s p
      cases k with
      | false =>
        refine ⟨1, .nx, s1, ?_, hn rfl⟩
        rw [whileN, bnd_e e1]
        rfl
      | true =>
        obtain ⟨f, s2, e2, q⟩ := ht rfl
        have go : (∃ m, m < n ∧ P m s2) → (f = .nx ∨ f = .ct) → ∃ m f s', whileN c b m s = some (.ok f s') ∧ Q f s' := fun ⟨m, hm, p2⟩ hf => by
          obtain ⟨j, f', s', h1, h2⟩ := ih m hm s2 p2
          refine ⟨j + 1, f', s', ?_, h2⟩
          rw [whileN, bnd_e e1]
          show bnd b _ s1 = _
          rw [bnd_e e2]
          rcases hf with rfl | rfl
          · exact h1
          · exact h1
        cases f with
        | nx => exact go q (.inl rfl)
        | ct => exact go q (.inr rfl)
        | bk =>
          refine ⟨1, .nx, s2, ?_, q⟩
          rw [whileN, bnd_e e1]
          show bnd b _ s1 = _
          rw [bnd_e e2]
          rfl
        | rt d =>
          refine ⟨1, .rt d, s2, ?_, q⟩
          rw [whileN, bnd_e e1]
          show bnd b _ s1 = _
          rw [bnd_e e2]
          rfl
  obtain ⟨m, f, s', h1, h2⟩ := key n s h0
  exact ⟨f, s', while_of h1, h2⟩
/-- what a def comes to -/
def EndQ (Q : D → List AO → Prop) (f : Fl) (s : A) : Prop := match f with
  | .nx => Q .non s.hp
  | .rt d => Q d s.hp
  | _ => False
theorem w_fnOf {N : Nat} {m : M Fl} {ds : List D} {Q : D → List AO → Prop} (h : Wp m (entA N ds hp) (EndQ Q)) : FnWp (fnOf N m) ds hp Q := by
  obtain ⟨f, s', e, q⟩ := h
  cases f with
  | nx => exact ⟨_, _, fnOf_nx e, q⟩
  | rt d => exact ⟨_, _, fnOf_rt e, q⟩
  | bk => exact q.elim
  | ct => exact q.elim
end
/-! ### texts -/
theorem strsD_map : ∀ l : List Nat, strsD (l.map fun c => D.str [c]) = some (l.map fun c => [c])
  | [] => rfl
  | c :: l => by
    show (strsD (l.map fun c => D.str [c])).map _ = _
    rw [strsD_map l]
    rfl
theorem joinL_nil : ∀ l : List Nat, joinL [] (l.map fun c => [c]) = l
  | [] => rfl
  | [c] => rfl
  | c :: d :: l => by
    show [c] ++ ([] ++ joinL [] ((d :: l).map fun c => [c])) = _
    rw [joinL_nil (d :: l)]
    rfl
theorem sum_ones : ∀ l : List Nat, ((l.map fun c => [c]).map (·.length)).sum = l.length
  | [] => rfl
  | c :: l => by
    simp only [List.map_cons, List.sum_cons, List.length_cons]
    have := sum_ones l
    simp only [List.map_map] at this ⊢
    simp
    omega
theorem joinD_map {l : List Nat} (h : l.length ≤ 16777216) : joinD [] (.lst (l.map fun c => .str [c])) = some (.str l) := by
  unfold joinD
  show (match strsD (l.map fun c => D.str [c]) with | some ys => _ | none => none) = _
  rw [strsD_map]
  show (if _ then some (D.str (joinL [] (l.map fun c => [c]))) else none) = _
  rw [sum_ones, if_pos (by simpa using h), joinL_nil]
theorem rng1_e {j : Int} (h0 : -(2 ^ 62) ≤ j) (h1 : j < 2 ^ 62) : rng1 [.int j] = some ((List.range j.toNat).map fun i : Nat => .int (0 + (i : Nat))) := if_pos ⟨h0, h1⟩
theorem rng1_n {n : Nat} (h : n < 2 ^ 62) : rng1 [.int (n : Nat)] = some ((List.range n).map fun i : Nat => .int (0 + (i : Nat))) := by
  rw [rng1_e (by omega) (by omega), Int.toNat_natCast]
/-- the cut of one sign -/
theorem cut1 (x : List Nat) (i : Nat) : cutL x (some ((i : Int) + 1)) (some ((i : Int) + 2)) = (x.drop (i + 1)).take 1 := by
  unfold cutL
  have h1 : HT.sIx x.length 0 (some ((i : Int) + 1)) = min (i + 1) x.length := HT.sIx_nat _ _ (i + 1)
  have h2 : HT.sIx x.length x.length (some ((i : Int) + 2)) = min (i + 2) x.length := HT.sIx_nat _ _ (i + 2)
  rw [h1, h2]
  by_cases h : i + 1 < x.length
  · rw [show min (i + 1) x.length = i + 1 by omega, show min (i + 2) x.length - (i + 1) = 1 by omega]
  · rw [show min (i + 1) x.length = x.length by omega, List.drop_eq_nil_of_le (Nat.le_refl _), List.drop_eq_nil_of_le (by omega), List.take_nil, List.take_nil]
theorem getH_e {s : A} {r : Nat} {l : List D} (h : s.hp[r]? = some (.lst l)) : getH s (.ref r) = some l := by
  show (match s.hp[r]? with | some (AO.lst l) => some l | _ => none) = _
  rw [h]
/-! ### == of plain data -/
theorem pl_shape {n : Nat} {d : D} (h : pl n d = true) : d = .non ∨ (∃ i, d = .int i) ∨ (∃ s, d = .str s) ∨ (∃ l m, d = .lst l ∧ n = m + 1 ∧ pls m l = true) ∨ ∃ l m, d = .tup l ∧ n = m + 1 ∧ pls m l = true := by
  cases d with
  | non => exact .inl rfl
  | int i => exact .inr (.inl ⟨i, rfl⟩)
  | str s => exact .inr (.inr (.inl ⟨s, rfl⟩))
  | lst l =>
    cases n with
    | zero => cases h
    | succ n => exact .inr (.inr (.inr (.inl ⟨l, n, rfl, rfl, h⟩)))
  | tup l =>
    cases n with
    | zero => cases h
    | succ n => exact .inr (.inr (.inr (.inr ⟨l, n, rfl, rfl, h⟩)))
  | bl b => cases n <;> cases h
  | fz l => cases n <;> cases h
  | ref l => cases n <;> cases h
  | exc c l => cases n <;> cases h
mutual
theorem eqv_pl : ∀ (n : Nat) (x : D) (m : Nat) (y : D) (p q : PyData), pl n x = true → pl m y = true → toP x = some p → toP y = some q → PyData.eqv p q = decide (x = y)
  | 0, x, m, y, p, q, h, g, e, f => by
    rcases pl_shape h with rfl | ⟨i, rfl⟩ | ⟨s, rfl⟩ | ⟨l, k, rfl, hk, _⟩ | ⟨l, k, rfl, hk, _⟩
    · cases e
      rcases pl_shape g with rfl | ⟨i, rfl⟩ | ⟨s, rfl⟩ | ⟨l, k, rfl, hk, _⟩ | ⟨l, k, rfl, hk, _⟩
      · cases f; simp [PyData.eqv]
      · cases f; simp [PyData.eqv]
      · cases f; simp [PyData.eqv]
      · rw [toP_lst] at f; obtain ⟨r, _, rfl⟩ := Option.map_eq_some_iff.mp f; simp [PyData.eqv]
      · rw [toP_tup] at f; obtain ⟨r, _, rfl⟩ := Option.map_eq_some_iff.mp f; simp [PyData.eqv]
    · cases e
      rcases pl_shape g with rfl | ⟨j, rfl⟩ | ⟨s, rfl⟩ | ⟨l, k, rfl, hk, _⟩ | ⟨l, k, rfl, hk, _⟩
      · cases f; simp [PyData.eqv]
      · cases f
        simp only [PyData.eqv]
        by_cases hij : i = j
        · simp [hij]
        · simp [hij]
      · cases f; simp [PyData.eqv]
      · rw [toP_lst] at f; obtain ⟨r, _, rfl⟩ := Option.map_eq_some_iff.mp f; simp [PyData.eqv]
      · rw [toP_tup] at f; obtain ⟨r, _, rfl⟩ := Option.map_eq_some_iff.mp f; simp [PyData.eqv]
    · cases e
      rcases pl_shape g with rfl | ⟨j, rfl⟩ | ⟨s', rfl⟩ | ⟨l, k, rfl, hk, _⟩ | ⟨l, k, rfl, hk, _⟩
      · cases f; simp [PyData.eqv]
      · cases f; simp [PyData.eqv]
      · cases f
        simp only [PyData.eqv]
        by_cases hij : s = s'
        · simp [hij]
        · have : ¬ ((⟨s.toArray⟩ : Str) = ⟨s'.toArray⟩) := fun z => hij (strInj.mp z)
          rw [beq_eq_false_iff_ne.mpr this]
          simp [hij]
      · rw [toP_lst] at f; obtain ⟨r, _, rfl⟩ := Option.map_eq_some_iff.mp f; simp [PyData.eqv]
      · rw [toP_tup] at f; obtain ⟨r, _, rfl⟩ := Option.map_eq_some_iff.mp f; simp [PyData.eqv]
    · cases hk
    · cases hk
  | n + 1, .lst l, m, y, p, q, h, g, e, f => by
    rw [toP_lst] at e
    obtain ⟨ps, e1, rfl⟩ := Option.map_eq_some_iff.mp e
    rcases pl_shape g with rfl | ⟨j, rfl⟩ | ⟨s', rfl⟩ | ⟨l', k, rfl, hk, g'⟩ | ⟨l', k, rfl, hk, g'⟩
    · cases f; simp [PyData.eqv]
    · cases f; simp [PyData.eqv]
    · cases f; simp [PyData.eqv]
    · rw [toP_lst] at f
      obtain ⟨qs, f1, rfl⟩ := Option.map_eq_some_iff.mp f
      rw [PyData.eqv, eqv_pls n l k l' ps qs h g' e1 f1]
      by_cases hij : l = l' <;> simp [hij]
    · rw [toP_tup] at f; obtain ⟨r, _, rfl⟩ := Option.map_eq_some_iff.mp f; simp [PyData.eqv]
  | n + 1, .tup l, m, y, p, q, h, g, e, f => by
    rw [toP_tup] at e
    obtain ⟨ps, e1, rfl⟩ := Option.map_eq_some_iff.mp e
    rcases pl_shape g with rfl | ⟨j, rfl⟩ | ⟨s', rfl⟩ | ⟨l', k, rfl, hk, g'⟩ | ⟨l', k, rfl, hk, g'⟩
    · cases f; simp [PyData.eqv]
    · cases f; simp [PyData.eqv]
    · cases f; simp [PyData.eqv]
    · rw [toP_lst] at f; obtain ⟨r, _, rfl⟩ := Option.map_eq_some_iff.mp f; simp [PyData.eqv]
    · rw [toP_tup] at f
      obtain ⟨qs, f1, rfl⟩ := Option.map_eq_some_iff.mp f
      rw [PyData.eqv, eqv_pls n l k l' ps qs h g' e1 f1]
      by_cases hij : l = l' <;> simp [hij]
  | n + 1, .non, m, y, p, q, h, g, e, f => eqv_pl 0 .non m y p q rfl g e f
  | n + 1, .int i, m, y, p, q, h, g, e, f => eqv_pl 0 (.int i) m y p q rfl g e f
  | n + 1, .str s, m, y, p, q, h, g, e, f => eqv_pl 0 (.str s) m y p q h g e f
  | n + 1, .bl b, m, y, p, q, h, g, e, f => by cases h
  | n + 1, .fz b, m, y, p, q, h, g, e, f => by cases h
  | n + 1, .ref b, m, y, p, q, h, g, e, f => by cases h
  | n + 1, .exc c b, m, y, p, q, h, g, e, f => by cases h
termination_by n x => (n, 0)
theorem eqv_pls : ∀ (n : Nat) (x : List D) (m : Nat) (y : List D) (p q : List PyData), pls n x = true → pls m y = true → toPs x = some p → toPs y = some q → PyData.eqvAll p q = decide (x = y)
  | n, [], m, [], p, q, h, g, e, f => by cases e; cases f; simp [PyData.eqvAll]
  | n, [], m, y :: ys, p, q, h, g, e, f => by
    cases e
    rw [toPs_cons] at f
    split at f
    · cases f; simp [PyData.eqvAll]
    · cases f
  | n, x :: xs, m, [], p, q, h, g, e, f => by
    cases f
    rw [toPs_cons] at e
    split at e
    · cases e; simp [PyData.eqvAll]
    · cases e
  | n, x :: xs, m, y :: ys, p, q, h, g, e, f => by
    rw [toPs_cons] at e f
    rw [pls, Bool.and_eq_true] at h g
    cases e1 : toP x with
    | none => rw [e1] at e; cases e
    | some a =>
      cases e2 : toPs xs with
      | none => rw [e1, e2] at e; cases e
      | some b =>
        cases f1 : toP y with
        | none => rw [f1] at f; cases f
        | some c =>
          cases f2 : toPs ys with
          | none => rw [f1, f2] at f; cases f
          | some d =>
            rw [e1, e2] at e
            rw [f1, f2] at f
            cases e
            cases f
            rw [PyData.eqvAll, eqv_pl n x m y _ _ h.1 g.1 e1 f1, eqv_pls n xs m ys _ _ h.2 g.2 e2 f2]
            by_cases h1 : x = y <;> by_cases h2 : xs = ys <;> simp [h1, h2]
termination_by n x => (n, x.length + 1)
end
/-- == of plain data -/
theorem eqd_pl {x y : D} (h : pl 60 x = true) (g : pl 60 y = true) : eqd x y = some (decide (x = y)) := by
  obtain ⟨p, e, c, d⟩ := pl_toP 60 x h
  obtain ⟨q, f, c', d'⟩ := pl_toP 60 y g
  unfold eqd
  rw [e, f]
  show (if SeqAt.shaped p = true ∧ SeqAt.shaped q = true then some (PyData.eqv p q) else none) = _
  have hs : SeqAt.shaped p = true ∧ SeqAt.shaped q = true := by
    unfold SeqAt.shaped
    rw [c, c', decide_eq_true (by omega), decide_eq_true (by omega)]
    exact ⟨rfl, rfl⟩
  rw [if_pos hs, eqv_pl 60 x 60 y p q h g e f]
theorem eqD_pl {x y : D} (h : pl 60 x = true) (g : pl 60 y = true) : eqD x y = some (.bl (decide (x = y))) := by
  unfold eqD
  rw [eqd_pl h g]
  rfl
theorem neD_pl {x y : D} (h : pl 60 x = true) (g : pl 60 y = true) : neD x y = some (.bl (!decide (x = y))) := by
  unfold neD
  rw [eqd_pl h g]
  rfl
/-! ### sizes of numbers -/
theorem mulI_w {i j : Int} {a b : Nat} (ha : i.natAbs < 2 ^ a) (hb : j.natAbs < 2 ^ b) (h0 : 0 < a) (h1 : 0 < b) (h : a + b ≤ 1000000) : mulI (.int i) (.int j) = some (.int (i * j)) := if_pos (wide_mul ha hb h0 h1 h)
end Z
/-! E4: texts: numbers written, parts joined and split -/
namespace Z
open PySem L2
open Classical
theorem dig_range {ch : Char} (h : ch.isDigit = true) : 48 ≤ ch.toNat ∧ ch.toNat ≤ 57 := by
  simp only [Char.isDigit, Bool.and_eq_true, decide_eq_true_eq] at h
  exact ⟨h.1, h.2⟩
theorem decS_dig (n : Nat) : ∀ c ∈ decS (n : Nat), 48 ≤ c ∧ c ≤ 57 := by
  intro c hc
  unfold decS at hc
  rw [PySem.W.KIN.signs_num] at hc
  obtain ⟨ch, hch, e⟩ := List.mem_map.mp hc
  have r := dig_range (Nat.isDigit_of_mem_toDigits (by decide) (by decide) hch)
  rw [← e]
  exact r
theorem decS_len {n : Nat} (h : n ≤ 1000000) : (decS (n : Nat)).length ≤ 10 := by
  have := PySem.W.KT.len_num (n := (n : Int)) (by omega) (by omega)
  unfold decS
  rw [Array.length_toList]
  exact this
theorem decS_eq (i : Int) : (⟨(decS i).toArray⟩ : Str) = Str.ofString (toString i) := by
  unfold decS
  rfl
theorem intSF_dec {n : Nat} (h : n ≤ 1000000) : intSF [.str (decS (n : Nat))] = some (.int (n : Nat)) := by
  have hl := decS_len h
  show (if (decS (n : Nat)).length ≤ 640 then (PySem.intText? ⟨(decS (n : Nat)).toArray⟩).map D.int else none) = _
  rw [if_pos (by omega), decS_eq, PySem.W.KIN.num_reads (by omega) (by omega)]
  rfl
theorem strF_e {n : Nat} (h : n ≤ 1000000) : strF [.int (n : Nat)] = some (.str (decS (n : Nat))) := if_pos (by
  have h1 : ((n : Nat) : Int).natAbs.log2 ≤ 999 := log2_le (by rw [Int.natAbs_natCast]; exact Nat.lt_of_le_of_lt h (Nat.lt_of_lt_of_le (by decide : 1000000 < 2 ^ 20) (Nat.pow_le_pow_right (by decide) (by decide))))
  omega)
theorem strsD_str : ∀ ws : List (List Nat), strsD (ws.map D.str) = some ws
  | [] => rfl
  | w :: ws => by
    show (strsD (ws.map D.str)).map _ = _
    rw [strsD_str ws]
    rfl
theorem sum_le {k : Nat} : ∀ ws : List (List Nat), (∀ w ∈ ws, w.length ≤ k) → (ws.map (·.length)).sum ≤ k * ws.length
  | [], _ => Nat.zero_le _
  | w :: ws, h => by
    have h1 := sum_le ws fun x hx => h x (List.mem_cons_of_mem _ hx)
    have h2 := h w List.mem_cons_self
    rw [List.map_cons, List.sum_cons, List.length_cons, Nat.mul_succ]
    omega
theorem joinD_str {s : List Nat} {ws : List (List Nat)} {k : Nat} (hs : s.length ≤ 10) (hk : ∀ w ∈ ws, w.length ≤ k) (hk2 : k ≤ 1000) (hw : ws.length ≤ 10000) : joinD s (.lst (ws.map D.str)) = some (.str (joinL s ws)) := by
  unfold joinD
  show (match strsD (ws.map D.str) with | some ys => _ | none => none) = _
  rw [strsD_str]
  have h1 := sum_le ws hk
  have h2 : k * ws.length ≤ 1000 * 10000 := Nat.mul_le_mul hk2 hw
  have h3 : ws.length * s.length ≤ 10000 * 10 := Nat.mul_le_mul hw hs
  exact if_pos (by omega)
theorem joinL_len (s : List Nat) : ∀ ws : List (List Nat), (joinL s ws).length ≤ (ws.map (·.length)).sum + ws.length * s.length
  | [] => Nat.zero_le _
  | [p] => by
    show p.length ≤ ([p].map (·.length)).sum + _
    simp
  | p :: q :: r => by
    have ih := joinL_len s (q :: r)
    show (p ++ (s ++ joinL s (q :: r))).length ≤ _
    rw [List.length_append, List.length_append, List.map_cons, List.sum_cons, List.length_cons, Nat.add_mul, Nat.one_mul]
    omega
/-- the way back: joined with blanks, split at them -/
theorem splitD_join {ws : List (List Nat)} (hne : ws ≠ []) (hb : ∀ w ∈ ws, 32 ∉ w) (hl : (joinL [32] ws).length + 2 ≤ 16777216) : splitD (joinL [32] ws) (.str [32]) = some (.lst (ws.map D.str)) := by
  have e : Txt.split ⟨(joinL [32] ws).toArray⟩ ⟨([32] : List Nat).toArray⟩ = ws.map SX.S := by
    have ej := SX.join_S [32] ws
    rw [joinL_eq] at ej
    have ej' : Txt.join ⟨([32] : List Nat).toArray⟩ (ws.map SX.S) = ⟨(joinL [32] ws).toArray⟩ := ej
    rw [← ej']
    refine TL.split_join (s := 32) (S := []) rfl (by decide +kernel) (fun z => hne (List.map_eq_nil_iff.mp z)) fun p hp => ?_
    obtain ⟨w, hw, rfl⟩ := List.mem_map.mp hp
    exact hb w hw
  show (if _ then some (D.lst ((Txt.split ⟨(joinL [32] ws).toArray⟩ ⟨([32] : List Nat).toArray⟩).map fun y : Str => .str y.cps.toList)) else none) = _
  rw [e, if_pos ⟨by decide, by rw [SL]; exact hl⟩, List.map_map]
  congr 2
end Z
/-! E5: dicts, backwards -/
namespace Z
open PySem L2
open Classical
section
variable {s : A}
theorem w_dnew {Q : D → A → Prop} (h : Q (.ref s.hp.length) { s with hp := s.hp ++ [.dk []] }) : Wp mDNew s Q := ⟨_, _, rfl, h⟩
theorem w_dget {mo mk : M D} {Q : D → A → Prop} (h : Wp mo s fun o s1 => Wp mk s1 fun k s2 => ∃ kk l d, keyD k = some kk ∧ getDr s2 o = some l ∧ getK l kk = some d ∧ Q d s2) : Wp (mDGet mo mk) s Q :=
  w_bnd (h.mono fun o s1 h1 => w_bnd (h1.mono fun k s2 ⟨kk, l, d, e1, e2, e3, q⟩ => by
    refine ⟨d, s2, ?_, q⟩
    show (match keyD k, getDr s2 o with | some k, some l => _ | _, _ => none) = _
    rw [e1, e2]
    show (match getK l kk with | some d => _ | none => none) = _
    rw [e3]))
theorem w_din {neg : Bool} {mk mo : M D} {Q : D → A → Prop} (h : Wp mk s fun k s1 => Wp mo s1 fun o s2 => ∃ kk l, keyD k = some kk ∧ getDr s2 o = some l ∧ Q (.bl (if neg then !(getK l kk).isSome else (getK l kk).isSome)) s2) : Wp (mDIn neg mk mo) s Q :=
  w_bnd (h.mono fun k s1 h1 => w_bnd (h1.mono fun o s2 ⟨kk, l, e1, e2, q⟩ => by
    refine ⟨_, s2, ?_, q⟩
    show (match keyD k, getDr s2 o with | some k, some l => _ | _, _ => none) = _
    rw [e1, e2]))
theorem w_dput {mv mo mk : M D} {Q : Fl → A → Prop} (h : Wp mv s fun d s1 => Wp mo s1 fun o s2 => Wp mk s2 fun k s3 => ∃ kk l, keyD k = some kk ∧ getDk s3 o = some l ∧ l.length < 16777216 ∧ Q .nx (setDk s3 o (putKD l kk d))) : Wp (mDPut mv mo mk) s Q :=
  w_bnd (h.mono fun d s1 h1 => w_bnd (h1.mono fun o s2 h2 => w_bnd (h2.mono fun k s3 ⟨kk, l, e1, e2, hl, q⟩ => by
    refine ⟨.nx, _, ?_, q⟩
    show (match keyD k, getDk s3 o with | some k, some l => _ | _, _ => none) = _
    rw [e1, e2]
    exact if_pos (by rw [SL]; exact hl))))
theorem w_forK {j r : Nat} {g : D → M Unit} {b : M Fl} {kvs : List (KK × D)} {Q : Fl → A → Prop} (hs : s.sl[j]? = some (some (.val (.ref r)))) (hk : s.hp[r]? = some (.dk kvs))
    (h : Wp (mFor (mKeysL j) g b) { s with hp := s.hp.set r (.dkL kvs) } fun f s' => ∃ kvs', s'.hp[r]? = some (.dkL kvs') ∧ Q f { s' with hp := s'.hp.set r (.dk kvs') }) : Wp (mForK j g b) s Q := by
  obtain ⟨f, s', e, kvs', e2, q⟩ := h
  refine ⟨f, _, ?_, q⟩
  unfold mForK
  rw [hs]
  show (match s.hp[r]? with | some (.dk kvs) => _ | _ => none) = _
  rw [hk]
  show (match mFor (mKeysL j) g b { s with hp := s.hp.set r (.dkL kvs) } with | some (.ok f s') => _ | _ => none) = _
  rw [e]
  show (match s'.hp[r]? with | some (.dkL kvs') => _ | _ => none) = _
  rw [e2]
end
end Z
namespace Z
open PySem L2
open Classical
/-- a pool of draws: the rest, the seed, the count at most n -/
def PoolAt (hp : List AO) (r : Nat) (n : Int) : Prop := ∃ d s c : Int, hp[r]? = some (.lst [.int d, .int s, .int c]) ∧ 0 ≤ d ∧ 0 ≤ s ∧ s < 2 ^ 100 ∧ 0 ≤ c ∧ c ≤ n
theorem PoolAt.le {hp : List AO} {r : Nat} {n m : Int} (h : PoolAt hp r n) (hm : n ≤ m) : PoolAt hp r m := by
  obtain ⟨d, s, c, h1, h2, h3, h4, h5, h6⟩ := h
  exact ⟨d, s, c, h1, h2, h3, h4, h5, by omega⟩
/-- no other object is touched -/
def Only (r : Nat) (hp hp' : List AO) : Prop := hp'.length = hp.length ∧ ∀ k, k ≠ r → hp'[k]? = hp[k]?
theorem Only.refl (r : Nat) (hp : List AO) : Only r hp hp := ⟨rfl, fun _ _ => rfl⟩
theorem Only.trans {r : Nat} {a b c : List AO} (h : Only r a b) (g : Only r b c) : Only r a c := ⟨g.1.trans h.1, fun k hk => (g.2 k hk).trans (h.2 k hk)⟩
theorem only_set {r : Nat} {hp : List AO} (o : AO) : Only r hp (hp.set r o) := ⟨List.length_set, fun k hk => by
  rw [List.getElem?_set]
  simp [Ne.symm hk]⟩

-- uses: POOL
/-- a source of draws: its list, the rest, the mix, the count at most n -/
def SrcAt (hp : List AO) (r r0 : Nat) (n : Int) : Prop := ∃ (ds : List Int) (cur mix c : Int), hp[r]? = some (.lst [.ref r0, .int cur, .int mix, .int c]) ∧ hp[r0]? = some (.lst (ds.map D.int)) ∧ r0 ≠ r ∧ (∀ d ∈ ds, 0 ≤ d) ∧ 0 ≤ cur ∧ 0 ≤ mix ∧ mix < 2 ^ 61 ∧ 0 ≤ c ∧ c ≤ n
theorem SrcAt.le {hp : List AO} {r r0 : Nat} {n m : Int} (h : SrcAt hp r r0 n) (hm : n ≤ m) : SrcAt hp r r0 m := by
  obtain ⟨ds, cur, mix, c, h1, h2, h3, h4, h5, h6, h7, h8, h9⟩ := h
  exact ⟨ds, cur, mix, c, h1, h2, h3, h4, h5, h6, h7, h8, by omega⟩
/-- no object but these two is touched -/
def Only2 (r r0 : Nat) (hp hp' : List AO) : Prop := ∀ k, k ≠ r → k ≠ r0 → hp'[k]? = hp[k]?
theorem Only2.refl (r r0 : Nat) (hp : List AO) : Only2 r r0 hp hp := fun _ _ _ => rfl
theorem Only2.trans {r r0 : Nat} {a b c : List AO} (h : Only2 r r0 a b) (g : Only2 r r0 b c) : Only2 r r0 a c := fun k h1 h2 => (g k h1 h2).trans (h k h1 h2)
theorem only2_set {r r0 : Nat} {hp : List AO} (o : AO) : Only2 r r0 hp (hp.set r o) := fun k h1 _ => by
  rw [List.getElem?_set]
  simp [Ne.symm h1]
theorem only2_set0 {r r0 : Nat} {hp : List AO} (o : AO) : Only2 r r0 hp (hp.set r0 o) := fun k _ h2 => by
  rw [List.getElem?_set]
  simp [Ne.symm h2]
theorem set_get {hp : List AO} {r : Nat} {o : AO} (h : hp[r]? = some o) (o' : AO) : (hp.set r o')[r]? = some o' := by
  obtain ⟨hlt, _⟩ := List.getElem?_eq_some_iff.mp h
  rw [List.getElem?_set]
  simp [hlt]
theorem set_ne {hp : List AO} {r k : Nat} (h : k ≠ r) (o : AO) : (hp.set r o)[k]? = hp[k]? := by
  rw [List.getElem?_set]
  simp [Ne.symm h]
theorem pls_ints : ∀ ds : List Int, pls 59 (ds.map D.int) = true
  | [] => rfl
  | d :: ds => by
    rw [List.map_cons, pls, pls_ints ds]
    rfl
theorem eqd_ints (ds : List Int) : eqd (.lst (ds.map D.int)) (.lst []) = some (decide (ds = [])) := by
  rw [eqd_pl (show pl 60 (.lst (ds.map D.int)) = true from pls_ints ds) rfl]
  cases ds <;> simp

/-- _law_source(script): slots 0:script 1:mix 2:digits 3:cell 4:span -/
noncomputable def b_law_source : M Fl :=
    (mSeq (mAsg (mC (.int 271828182845904)) (gV 1))
    (mSeq (mAsg (mLstH mNil) (gV 2))
    (mSeq (mFor (mIt itL (mVar 0)) (gV 3) (mSeq (mAsg (mBin modI (mBin addI (mBin mulI (mVar 1) (mC (.int 1000033))) (mVar 3)) (mBin subI (mBin powI (mC (.int 2)) (mC (.int 61))) (mC (.int 1)))) (gV 1))
    (mSeq (mAsg (mFn maxF (mCons (mVar 3) (mCons (mBin subI (mC (.int 0)) (mVar 3)) mNil))) (gV 4))
    (mIf (mTst (mBin geI (mVar 4) (mBin powI (mC (.int 10)) (mC (.int 18))))) (mDrop (mAppH (mVar 2) (mBin subI (mVar 4) (mBin powI (mC (.int 10)) (mC (.int 18)))))) mNx))))
    (mRet (mLstH (mCons (mVar 2) (mCons (mC (.int 0)) (mCons (mVar 1) (mCons (mC (.int 0)) mNil)))))))))
noncomputable abbrev n_law_source : Fn := fnOf 5 b_law_source
-- uses: SRC
theorem w_law_source {ns : List Int} {hp : List AO} {Q : D → List AO → Prop} (hl : ns.length ≤ 63) (q : ∀ a b, SrcAt (hp ++ [.lst a, .lst b]) (hp.length + 1) hp.length 0 → Q (.ref (hp.length + 1)) (hp ++ [.lst a, .lst b])) : FnWp n_law_source [.fz (ns.map D.int)] hp Q := by
  apply w_fnOf
  unfold b_law_source
  refine w_seq (w_set (w_C ?_))
  refine w_seq (w_set (w_lstH (w_nil ⟨rfl, ?_⟩)))
  have get : ∀ ds : List Int, (hp ++ [AO.lst (ds.map D.int)])[hp.length]? = some (.lst (ds.map D.int)) := fun ds => by rw [List.getElem?_append_right (Nat.le_refl _), Nat.sub_self]; rfl
  have put : ∀ (ds : List Int) (l : List D), (hp ++ [AO.lst (ds.map D.int)]).set hp.length (.lst l) = hp ++ [.lst l] := fun ds l => by
    rw [List.set_append_right _ _ (Nat.le_refl _), Nat.sub_self]
    rfl
  refine w_seq (w_for D.int ns (fun pre s' => ∃ (m : Int) (ds : List Int) (x y : Option SV), s' = st [vl (.fz (ns.map D.int)), vl (.int m), vl (.ref hp.length), x, y] (hp ++ [.lst (ds.map D.int)]) ∧ 0 ≤ m ∧ m < 2 ^ 61 ∧ (∀ d ∈ ds, 0 ≤ d) ∧ ds.length ≤ pre.length) ?_ ?_ ?_)
  · exact w_it (w_V rfl ⟨_, rfl, rfl, _, [], none, none, rfl, by decide, by decide, fun _ h => (by cases h), Nat.le_refl 0⟩)
  · rintro pre c post s1 hE ⟨m, ds, x, y, rfl, m0, m1, hd, hdl⟩
    have hpl : pre.length < 63 := by
      have := congrArg List.length hE
      rw [List.length_append, List.length_cons] at this
      omega
    refine w_gV (w_seq (w_set ?_))
    (repeat (first | refine w_seq ?_ | refine w_set ?_ | refine w_asg ?_ | refine w_gV ?_ | refine w_gT2 ?_ | refine w_gL2 ?_ | refine w_rt ?_ | refine w_drop ?_ | refine w_par ?_ | refine w_aug rfl ?_ | refine w_nx ?_ | refine w_and ?_ | refine w_or ?_ | refine w_not ?_ | refine w_tst ?_ | refine w_if ?_ | refine w_andV ?_ | refine w_orV ?_ | refine w_tup ?_ | refine w_lst ?_ | refine w_lstH ?_ | refine w_bin ?_ | refine w_un ?_ | refine w_fn ?_ | refine w_it ?_ | refine w_itA ?_ | refine w_cons ?_ | refine w_nil ?_ | refine w_V rfl ?_ | refine w_VO rfl ?_ | refine w_C ?_ | refine w_sl ?_ | refine w_so ?_ | refine w_no ?_ | refine w_call ?_ | refine w_join ?_ | refine w_setO ?_ | refine w_ixH ?_ | refine w_setIxH ?_ | refine w_cmpH ?_ | refine w_pop0H ?_ | refine w_appH ?_ | refine w_par3 ?_ | refine w_joinH ?_ | refine w_perm ?_ | refine w_split ?_ | refine w_notV ?_ | refine w_ret ?_ | refine And.intro rfl ?_ | refine Exists.intro _ (And.intro rfl ?_)))
    refine ⟨_, mulI_e (by omega) (by omega) (by decide), ?_⟩
    (repeat (first | refine w_seq ?_ | refine w_set ?_ | refine w_asg ?_ | refine w_gV ?_ | refine w_gT2 ?_ | refine w_gL2 ?_ | refine w_rt ?_ | refine w_drop ?_ | refine w_par ?_ | refine w_aug rfl ?_ | refine w_nx ?_ | refine w_and ?_ | refine w_or ?_ | refine w_not ?_ | refine w_tst ?_ | refine w_if ?_ | refine w_andV ?_ | refine w_orV ?_ | refine w_tup ?_ | refine w_lst ?_ | refine w_lstH ?_ | refine w_bin ?_ | refine w_un ?_ | refine w_fn ?_ | refine w_it ?_ | refine w_itA ?_ | refine w_cons ?_ | refine w_nil ?_ | refine w_V rfl ?_ | refine w_VO rfl ?_ | refine w_C ?_ | refine w_sl ?_ | refine w_so ?_ | refine w_no ?_ | refine w_call ?_ | refine w_join ?_ | refine w_setO ?_ | refine w_ixH ?_ | refine w_setIxH ?_ | refine w_cmpH ?_ | refine w_pop0H ?_ | refine w_appH ?_ | refine w_par3 ?_ | refine w_joinH ?_ | refine w_perm ?_ | refine w_split ?_ | refine w_notV ?_ | refine w_ret ?_ | refine And.intro rfl ?_ | refine Exists.intro _ (And.intro rfl ?_)))
    refine ⟨_, powI_e (by decide) (by decide) (by decide), ?_⟩
    (repeat (first | refine w_seq ?_ | refine w_set ?_ | refine w_asg ?_ | refine w_gV ?_ | refine w_gT2 ?_ | refine w_gL2 ?_ | refine w_rt ?_ | refine w_drop ?_ | refine w_par ?_ | refine w_aug rfl ?_ | refine w_nx ?_ | refine w_and ?_ | refine w_or ?_ | refine w_not ?_ | refine w_tst ?_ | refine w_if ?_ | refine w_andV ?_ | refine w_orV ?_ | refine w_tup ?_ | refine w_lst ?_ | refine w_lstH ?_ | refine w_bin ?_ | refine w_un ?_ | refine w_fn ?_ | refine w_it ?_ | refine w_itA ?_ | refine w_cons ?_ | refine w_nil ?_ | refine w_V rfl ?_ | refine w_VO rfl ?_ | refine w_C ?_ | refine w_sl ?_ | refine w_so ?_ | refine w_no ?_ | refine w_call ?_ | refine w_join ?_ | refine w_setO ?_ | refine w_ixH ?_ | refine w_setIxH ?_ | refine w_cmpH ?_ | refine w_pop0H ?_ | refine w_appH ?_ | refine w_par3 ?_ | refine w_joinH ?_ | refine w_perm ?_ | refine w_split ?_ | refine w_notV ?_ | refine w_ret ?_ | refine And.intro rfl ?_ | refine Exists.intro _ (And.intro rfl ?_)))
    refine ⟨_, modI_e (by decide), ?_⟩
    generalize hx : (m * 1000033 + c) % (2 ^ Int.toNat 61 - 1) = m'
    have x0 : 0 ≤ m' := by rw [← hx]; exact Int.emod_nonneg _ (by decide)
    have x1 : m' < 2 ^ 61 := by rw [← hx]; exact Int.lt_of_lt_of_le (Int.emod_lt_of_pos _ (by decide)) (by decide)
    refine w_seq (w_set (w_fn (w_cons (w_V rfl (w_cons (w_bin (w_C (w_V rfl ⟨_, rfl, w_nil ⟨_, rfl, ?_⟩⟩))))))))
    generalize (if 0 - c > c then 0 - c else c) = sp
    refine w_if (w_tst (w_bin (w_V rfl (w_bin (w_C (w_C ⟨_, powI_e (by decide) (by decide) (by decide), _, rfl, _, rfl, fun hb => ?_, fun hb => ?_⟩))))))
    · have hsp : (10 : Int) ^ Int.toNat 18 ≤ sp := by simpa using hb
      refine w_drop (w_appH (w_V rfl ⟨⟨_, getH_e (get ds)⟩, w_bin (w_V rfl (w_bin (w_C (w_C ⟨_, powI_e (by decide) (by decide) (by decide), _, rfl, _, getH_e (get ds), ?_, ?_⟩))))⟩))
      · rw [List.length_map]
        omega
      · refine ⟨m', ds ++ [sp - 10 ^ Int.toNat 18], vl (.int c), vl (.int sp), ?_, x0, x1, ?_, ?_⟩
        · show st _ ((hp ++ [AO.lst (ds.map D.int)]).set hp.length (.lst (ds.map D.int ++ [.int (sp - 10 ^ Int.toNat 18)]))) = _
          rw [put, List.map_append]
          rfl
        · intro d hd'
          rcases List.mem_append.mp hd' with hd' | hd'
          · exact hd d hd'
          · rw [List.mem_singleton.mp hd']
            omega
        · rw [List.length_append, List.length_append, List.length_singleton, List.length_singleton]
          omega
    · refine w_nx ⟨m', ds, vl (.int c), vl (.int sp), rfl, x0, x1, hd, ?_⟩
      rw [List.length_append]
      omega
  · rintro s1 ⟨m, ds, x, y, rfl, m0, m1, hd, hdl⟩
    (repeat (first | refine w_seq ?_ | refine w_set ?_ | refine w_asg ?_ | refine w_gV ?_ | refine w_gT2 ?_ | refine w_gL2 ?_ | refine w_rt ?_ | refine w_drop ?_ | refine w_par ?_ | refine w_aug rfl ?_ | refine w_nx ?_ | refine w_and ?_ | refine w_or ?_ | refine w_not ?_ | refine w_tst ?_ | refine w_if ?_ | refine w_andV ?_ | refine w_orV ?_ | refine w_tup ?_ | refine w_lst ?_ | refine w_lstH ?_ | refine w_bin ?_ | refine w_un ?_ | refine w_fn ?_ | refine w_it ?_ | refine w_itA ?_ | refine w_cons ?_ | refine w_nil ?_ | refine w_V rfl ?_ | refine w_VO rfl ?_ | refine w_C ?_ | refine w_sl ?_ | refine w_so ?_ | refine w_no ?_ | refine w_call ?_ | refine w_join ?_ | refine w_setO ?_ | refine w_ixH ?_ | refine w_setIxH ?_ | refine w_cmpH ?_ | refine w_pop0H ?_ | refine w_appH ?_ | refine w_par3 ?_ | refine w_joinH ?_ | refine w_perm ?_ | refine w_split ?_ | refine w_notV ?_ | refine w_ret ?_ | refine And.intro rfl ?_ | refine Exists.intro _ (And.intro rfl ?_)))
    have e1 : (hp ++ [AO.lst (ds.map D.int)]).length = hp.length + 1 := by rw [List.length_append, List.length_singleton]
    show Q (.ref (hp ++ [AO.lst (ds.map D.int)]).length) (hp ++ [AO.lst (ds.map D.int)] ++ [.lst [.ref hp.length, .int 0, .int m, .int 0]])
    rw [e1, List.append_assoc]
    refine q _ _ ⟨ds, 0, m, 0, ?_, ?_, by omega, hd, by decide, m0, m1, by decide, by decide⟩
    · rw [List.getElem?_append_right (by omega), Nat.add_sub_cancel_left]
      rfl
    · rw [List.getElem?_append_right (Nat.le_refl _), Nat.sub_self]
      rfl
theorem sp_law_source : ∀ ds hp r, ds.length = 1 → n_law_source ds hp = some r → fnOf 5 b_law_source ds hp = some r := fun _ _ _ _ h => h

/-- lower-case letters -/
def low (s : List Nat) : Prop := ∀ c ∈ s, 97 ≤ c ∧ c ≤ 122
theorem mem_abc (c : Nat) : (c ∈ [97, 98, 99, 100, 101, 102, 103, 104, 105, 106, 107, 108, 109, 110, 111, 112, 113, 114, 115, 116, 117, 118, 119, 120, 121, 122]) ↔ 97 ≤ c ∧ c ≤ 122 := by
  simp only [List.mem_cons, List.not_mem_nil, or_false]
  omega
theorem enumD_map {α : Type} (e : α → D) (l : List α) : enumD (l.map e) = l.zipIdx.map fun p => .tup [.int (p.2 : Nat), e p.1] := by
  unfold enumD
  rw [List.zipIdx_map, List.map_map]
  rfl
theorem zipIdx_at {α : Type} {l : List α} {pre post : List (α × Nat)} {a : α × Nat} (h : l.zipIdx = pre ++ a :: post) : a.1 ∈ l ∧ a.2 = pre.length ∧ l[pre.length]? = some a.1 := by
  have h1 : l.zipIdx[pre.length]? = some a := by
    rw [h]
    simp
  rw [List.getElem?_zipIdx] at h1
  obtain ⟨x, hx, e⟩ := Option.map_eq_some_iff.mp h1
  subst e
  exact ⟨List.mem_of_getElem? hx, by simp, hx⟩
instance decTSs (p : List Nat) : Decidable (TSs p) := by unfold TSs; exact inferInstance

/-- _law_rows(letters, most): slots 0:letters 1:most 2:found 3:last 4:time 5:longer 6:row 7:letter -/
noncomputable def b_law_rows : M Fl :=
    (mSeq (mPar 2 3 (mCons (mLst (mCons (mC (.str [])) mNil)) (mCons (mLst (mCons (mC (.str [])) mNil)) mNil)))
    (mSeq (mFor (mItA rng1 (mCons (mVar 1) mNil)) (gV 4) (mSeq (mSetO 5 mNil)
    (mSeq (mFor (mIt itL (mVar 3)) (gV 6) (mDrop (mExtO 5 (mLc (mIt itS (mVar 0)) (gV 7) (ret true) (mBin addS (mVar 6) (mVar 7)) [7]))))
    (mPar 2 3 (mCons (mBin catL (mVar 2) (mVar 5)) (mCons (mVar 5) mNil))))))
    (mRet (mVar 2))))
noncomputable abbrev n_law_rows : Fn := fnOf 8 b_law_rows
-- uses: BASE
/-- all rows over some letters up to a length, the shorter ones first -/
structure AllRows (ls : List Nat) (most : Nat) (rs : List (List Nat)) : Prop where
  mem : ∀ r, r ∈ rs ↔ (∀ c ∈ r, c ∈ ls) ∧ r.length ≤ most
  ord : rs.Pairwise fun a b => a.length ≤ b.length
theorem AllRows.before {ls : List Nat} {most : Nat} {rs : List (List Nat)} (h : AllRows ls most rs) {pre post : List (List Nat)} {a r : List Nat} (e : rs = pre ++ a :: post) (hr : r ∈ rs) (hl : r.length < a.length) : r ∈ pre := by
  rw [e] at hr
  rcases List.mem_append.mp hr with hr | hr
  · exact hr
  · have ho := h.ord
    rw [e] at ho
    have h2 := (List.pairwise_append.mp ho).2.1
    rcases List.mem_cons.mp hr with hr | hr
    · subst hr
      omega
    · have := (List.pairwise_cons.mp h2).1 r hr
      omega
def pw3 : Nat → Nat
  | 0 => 1
  | n + 1 => 3 * pw3 n
theorem pw3_le {n : Nat} (h : n ≤ 9) : pw3 n ≤ 19683 := by
  have : n = 0 ∨ n = 1 ∨ n = 2 ∨ n = 3 ∨ n = 4 ∨ n = 5 ∨ n = 6 ∨ n = 7 ∨ n = 8 ∨ n = 9 := by omega
  rcases this with h | h | h | h | h | h | h | h | h | h <;> subst h <;> decide
/-- the rows of one letter more -/
def longer (ls : List Nat) (gs : List (List Nat)) : List (List Nat) := gs.flatMap fun r => ls.map fun c => r ++ [c]
theorem mem_longer {ls : List Nat} {gs : List (List Nat)} {r : List Nat} : r ∈ longer ls gs ↔ ∃ g ∈ gs, ∃ c ∈ ls, r = g ++ [c] := by
  unfold longer
  simp only [List.mem_flatMap, List.mem_map]
  constructor
  · rintro ⟨g, hg, c, hc, rfl⟩
    exact ⟨g, hg, c, hc, rfl⟩
  · rintro ⟨g, hg, c, hc, rfl⟩
    exact ⟨g, hg, c, hc, rfl⟩
theorem len_longer (ls : List Nat) : ∀ gs : List (List Nat), (longer ls gs).length = ls.length * gs.length
  | [] => rfl
  | g :: gs => by
    have ih := len_longer ls gs
    unfold longer at ih ⊢
    rw [List.flatMap_cons, List.length_append, List.length_map, ih, List.length_cons, Nat.mul_succ]
    omega
def Lv (ls : List Nat) (k : Nat) (gs : List (List Nat)) : Prop := ∀ r, r ∈ gs ↔ (∀ c ∈ r, c ∈ ls) ∧ r.length = k
theorem lv_longer {ls : List Nat} {k : Nat} {gs : List (List Nat)} (h : Lv ls k gs) : Lv ls (k + 1) (longer ls gs) := by
  intro r
  rw [mem_longer]
  constructor
  · rintro ⟨g, hg, c, hc, rfl⟩
    obtain ⟨h1, h2⟩ := (h g).mp hg
    refine ⟨fun d hd => ?_, by rw [List.length_append, List.length_singleton, h2]⟩
    rcases List.mem_append.mp hd with hd | hd
    · exact h1 d hd
    · rw [List.mem_singleton.mp hd]
      exact hc
  · rintro ⟨h1, h2⟩
    have hne : r ≠ [] := fun z => by rw [z] at h2; cases h2
    refine ⟨r.dropLast, (h _).mpr ⟨fun c hc => h1 c (List.dropLast_subset r hc), by rw [List.length_dropLast, h2]; rfl⟩, r.getLast hne, h1 _ (List.getLast_mem hne), (List.dropLast_concat_getLast hne).symm⟩
theorem all_longer {ls : List Nat} {k : Nat} {fs gs : List (List Nat)} (h : AllRows ls k fs) (g : Lv ls k gs) : AllRows ls (k + 1) (fs ++ longer ls gs) := by
  have g' := lv_longer g
  refine ⟨fun r => ?_, List.pairwise_append.mpr ⟨h.ord, ?_, fun a ha b hb => ?_⟩⟩
  · rw [List.mem_append, h.mem, g' r]
    constructor
    · rintro (⟨h1, h2⟩ | ⟨h1, h2⟩)
      · exact ⟨h1, by omega⟩
      · exact ⟨h1, by omega⟩
    · rintro ⟨h1, h2⟩
      by_cases e : r.length ≤ k
      · exact .inl ⟨h1, e⟩
      · exact .inr ⟨h1, by omega⟩
  · have key : ∀ l : List (List Nat), (∀ r ∈ l, r.length = k + 1) → l.Pairwise fun a b => a.length ≤ b.length := fun l => by
      induction l with
      | nil => intro _; exact .nil
      | cons x l ih =>
        intro hl
        refine .cons (fun y hy => ?_) (ih fun r hr => hl r (List.mem_cons_of_mem _ hr))
        rw [hl x List.mem_cons_self, hl y (List.mem_cons_of_mem _ hy)]
        exact Nat.le_refl _
    exact key _ fun r hr => ((g' r).mp hr).2
  · have h1 := ((h.mem a).mp ha).2
    have h2 := ((g' b).mp hb).2
    omega
theorem w_law_rows {ls : List Nat} {most : Nat} {hp : List AO} {Q : D → List AO → Prop} (hls : ls.length ≤ 3) (h : most ≤ 9) (q : ∀ rs : List (List Nat), AllRows ls most rs → rs.length ≤ 200000 → Q (.lst (rs.map D.str)) hp) : FnWp n_law_rows [.str ls, .int (most : Nat)] hp Q := by
  apply w_fnOf
  unfold b_law_rows
  refine w_seq (w_par (w_lst (w_cons (w_C (w_nil ⟨rfl, w_lst (w_cons (w_C (w_nil ⟨rfl, ?_⟩)))⟩)))))
  refine w_seq (w_for (fun i : Nat => D.int (0 + (i : Nat))) (List.range most) (fun pre s' => ∃ (fs gs : List (List Nat)) (x y z w : Option SV), s' = st [vl (.str ls), vl (.int (most : Nat)), vl (.lst (fs.map D.str)), vl (.lst (gs.map D.str)), x, y, z, w] hp ∧
      AllRows ls pre.length fs ∧ Lv ls pre.length gs ∧ gs.length ≤ pw3 pre.length ∧ fs.length ≤ 1 + 20000 * pre.length) ?_ ?_ ?_)
  · refine w_itA (w_cons (w_V rfl (w_nil ⟨_, rng1_n (by omega), ?_⟩)))
    refine ⟨rfl, [[]], [[]], none, none, none, none, rfl, ⟨fun r => ?_, List.pairwise_singleton _ _⟩, fun r => ?_, by decide, by decide⟩
    · rw [List.mem_singleton]
      constructor
      · rintro rfl
        exact ⟨fun c hc => (by cases hc), Nat.le_refl 0⟩
      · rintro ⟨_, h2⟩
        exact List.eq_nil_of_length_eq_zero (Nat.le_zero.mp h2)
    · rw [List.mem_singleton]
      constructor
      · rintro rfl
        exact ⟨fun c hc => (by cases hc), rfl⟩
      · rintro ⟨_, h2⟩
        exact List.eq_nil_of_length_eq_zero h2
  · rintro pre a post s1 hE ⟨fs, gs, x, y, z, w, rfl, hf, hg, gl, fl⟩
    have hlt : pre.length < most := by
      have := congrArg List.length hE
      rw [List.length_range, List.length_append, List.length_cons] at this
      omega
    have g1 := pw3_le (n := pre.length) (by omega)
    have g2 := pw3_le (n := pre.length + 1) (by omega)
    have glen : (longer ls gs).length ≤ pw3 (pre.length + 1) := by
      rw [len_longer]
      show _ ≤ 3 * pw3 pre.length
      exact Nat.mul_le_mul hls gl
    refine w_gV (w_seq (w_setO (w_nil ⟨rfl, ?_⟩)))
    refine w_seq (w_for D.str gs (fun pre2 s' => ∃ (z w : Option SV), s' = st [vl (.str ls), vl (.int (most : Nat)), vl (.lst (fs.map D.str)), vl (.lst (gs.map D.str)), vl (.int (0 + (a : Nat))), ow ((longer ls pre2).map D.str), z, w] hp) ?_ ?_ ?_)
    · exact w_it (w_V rfl ⟨_, rfl, rfl, z, w, rfl⟩)
    · rintro pre2 p post2 s2 hE2 ⟨z, w, rfl⟩
      have hp2 : p ∈ gs := by
        rw [hE2]
        exact List.mem_append_right _ List.mem_cons_self
      obtain ⟨t1, t2⟩ := (hg p).mp hp2
      have hl1 : (longer ls pre2).length + ls.length ≤ (longer ls gs).length := by
        rw [len_longer, len_longer, hE2, List.length_append, List.length_cons, Nat.mul_add, Nat.mul_succ]
        omega
      refine w_gV (w_drop (w_extO (l := (longer ls pre2).map D.str) rfl ?_))
      refine w_lc (fun c : Nat => D.str [c]) ls (fun _ s' => s' = st [vl (.str ls), vl (.int (most : Nat)), vl (.lst (fs.map D.str)), vl (.lst (gs.map D.str)), vl (.int (0 + (a : Nat))), ow ((longer ls pre2).map D.str), vl (.str p), none] hp) (fun c => some (.str (p ++ [c]))) (by omega) ?_ ?_ ?_
      · exact w_it (w_V rfl ⟨_, rfl, rfl, rfl⟩)
      · rintro pre3 c post3 s3 hE3 rfl
        refine w_gV (w_ret ⟨fun _ => ?_, fun z => by cases z⟩)
        exact w_bin (w_V rfl (w_V rfl ⟨_, addS_e (by show p.length + 1 ≤ _; omega), rfl, rfl⟩))
      · rintro s3 rfl
        refine ⟨_, (longer ls pre2).map D.str, rfl, rfl, ?_, vl (.str p), none, ?_⟩
        · rw [List.length_map]
          have : (ls.filterMap fun c => some (D.str (p ++ [c]))).length ≤ ls.length := List.length_filterMap_le _ _
          omega
        · have e : longer ls (pre2 ++ [p]) = longer ls pre2 ++ ls.map fun c => p ++ [c] := by
            unfold longer
            rw [List.flatMap_append]
            simp
          rw [e, List.map_append, List.map_map, List.filterMap_eq_map']
          rfl
    · rintro s2 ⟨z, w, rfl⟩
      refine w_par (w_bin (w_V rfl (w_VO rfl ⟨_, catL_e (by rw [List.length_map, List.length_map]; omega), w_V rfl ?_⟩)))
      refine ⟨fs ++ longer ls gs, longer ls gs, vl (.int (0 + (a : Nat))), vl (.lst ((longer ls gs).map D.str)), z, w, by rw [List.map_append]; rfl, ?_, ?_, ?_, ?_⟩
      · rw [List.length_append, List.length_singleton]
        exact all_longer hf hg
      · rw [List.length_append, List.length_singleton]
        exact lv_longer hg
      · rw [List.length_append, List.length_singleton]
        exact glen
      · rw [List.length_append, List.length_append, List.length_singleton]
        omega
  · rintro s' ⟨fs, gs, x, y, z, w, rfl, hf, hg, gl, fl⟩
    rw [List.length_range] at hf fl
    exact w_rt (w_V rfl (q fs hf (by omega)))
theorem sp_law_rows : ∀ ds hp r, ds.length = 2 → n_law_rows ds hp = some r → fnOf 8 b_law_rows ds hp = some r := fun _ _ _ _ h => h

/-- check_pipeline(pipeline): slots 0:pipeline 1:index 2:letter -/
noncomputable def b_check_pipeline : M Fl :=
    (mFor (mItA enSF (mCons (mVar 0) mNil)) (gT (gC (gV 1) (gC (gV 2) gN)) 2) (mIf (mTst (mBin notInL (mVar 2) (mTup (mCons (mC (.str [84])) (mCons (mC (.str [83])) mNil))))) mNo' mNx))
-- uses: BASE
noncomputable def n_check_pipeline : Fn := fun ds hp => match ds with
  | [.str s] => if TSs s then some (.ok .non hp) else none
  | _ => none
theorem sp_check_pipeline : ∀ ds hp r, ds.length = 1 → n_check_pipeline ds hp = some r → fnOf 3 b_check_pipeline ds hp = some r := by
  intro ds hp r _ h
  match ds, h with
  | [.str s], h =>
    have h' : (if TSs s then some (FR.ok .non hp) else none) = some r := h
    by_cases hl : TSs s
    · rw [if_pos hl] at h'
      cases h'
      obtain ⟨s', e1, e2⟩ := forL_pre (g := gT (gC (gV 1) (gC (gV 2) gN)) 2) (b := mIf (mTst (mBin notInL (mVar 2) (mTup (mCons (mC (.str [84])) (mCons (mC (.str [83])) mNil))))) mNo' mNx)
        (fun p : Nat × Nat => D.tup [.int (p.2 : Nat), .str [p.1]]) (fun _ s' => s'.hp = hp ∧ ∃ x y, s'.sl = [vl (.str s), x, y]) s.zipIdx [] (st [vl (.str s), none, none] hp) ⟨rfl, none, none, rfl⟩
        (fun pre' a post s1 e p => by
          obtain ⟨sl, h1⟩ := s1
          obtain ⟨rfl, x, y, rfl⟩ := p
          have ha := hl a.1 (zipIdx_at e).1
          have e1 : notInL (.str [a.1]) (.tup [.str [84], .str [83]]) = some (.bl false) := by
            show some (D.bl (!(([84] == [a.1]) || (([83] == [a.1]) || false)))) = _
            rcases ha with ha | ha <;> rw [ha] <;> rfl
          have e0 : mTup (mCons (mC (.str [84])) (mCons (mC (.str [83])) mNil)) (st [vl (.str s), vl (.int (a.2 : Nat)), vl (.str [a.1])] h1) = some (.ok (.tup [.str [84], .str [83]]) (st [vl (.str s), vl (.int (a.2 : Nat)), vl (.str [a.1])] h1)) := by
            show lft (tupD [.str [84], .str [83]]) _ = _
            rw [tupD_e (by decide)]
            rfl
          exact ⟨st [vl (.str s), vl (.int (a.2 : Nat)), vl (.str [a.1])] h1, st [vl (.str s), vl (.int (a.2 : Nat)), vl (.str [a.1])] h1, .nx, rfl, mIf_f (mTst_e (mBin_e (mVar_e rfl) e0 e1)), .inl rfl, rfl, _, _, rfl⟩)
      have e3 : b_check_pipeline (entA 3 [.str s] hp) = some (.ok .nx s') := by
        unfold b_check_pipeline
        rw [mFor_e (l := (enumD (s.map fun c => .str [c]))) (s' := st [vl (.str s), none, none] hp) rfl, enumD_map]
        exact e1
      rw [fnOf_nx e3, e2.1]
    · rw [if_neg hl] at h'
      cases h'

/-- check_row(row): slots 0:row 1:index 2:letter -/
noncomputable def b_check_row : M Fl :=
    (mFor (mItA enSF (mCons (mVar 0) mNil)) (gT (gC (gV 1) (gC (gV 2) gN)) 2) (mIf (mTst (mBin notInS (mVar 2) (mC (.str [97, 98, 99, 100, 101, 102, 103, 104, 105, 106, 107, 108, 109, 110, 111, 112, 113, 114, 115, 116, 117, 118, 119, 120, 121, 122])))) mNo' mNx))
-- uses: BASE
noncomputable def n_check_row : Fn := fun ds hp => match ds with
  | [.str s] => if low s then some (.ok .non hp) else none
  | _ => none
theorem sp_check_row : ∀ ds hp r, ds.length = 1 → n_check_row ds hp = some r → fnOf 3 b_check_row ds hp = some r := by
  intro ds hp r _ h
  match ds, h with
  | [.str s], h =>
    have h' : (if low s then some (FR.ok .non hp) else none) = some r := h
    by_cases hl : low s
    · rw [if_pos hl] at h'
      cases h'
      obtain ⟨s', e1, e2⟩ := forL_pre (g := gT (gC (gV 1) (gC (gV 2) gN)) 2) (b := mIf (mTst (mBin notInS (mVar 2) (mC (.str [97, 98, 99, 100, 101, 102, 103, 104, 105, 106, 107, 108, 109, 110, 111, 112, 113, 114, 115, 116, 117, 118, 119, 120, 121, 122])))) mNo' mNx)
        (fun p : Nat × Nat => D.tup [.int (p.2 : Nat), .str [p.1]]) (fun _ s' => s'.hp = hp ∧ ∃ x y, s'.sl = [vl (.str s), x, y]) s.zipIdx [] (st [vl (.str s), none, none] hp) ⟨rfl, none, none, rfl⟩
        (fun pre' a post s1 e p => by
          obtain ⟨sl, h1⟩ := s1
          obtain ⟨rfl, x, y, rfl⟩ := p
          have ha := hl a.1 (zipIdx_at e).1
          have e1 : notInS (.str [a.1]) (.str [97, 98, 99, 100, 101, 102, 103, 104, 105, 106, 107, 108, 109, 110, 111, 112, 113, 114, 115, 116, 117, 118, 119, 120, 121, 122]) = some (.bl false) := by
            show some (D.bl (!decide _)) = _
            rw [decide_eq_true ((mem_abc a.1).mpr ha)]
            rfl
          exact ⟨st [vl (.str s), vl (.int (a.2 : Nat)), vl (.str [a.1])] h1, st [vl (.str s), vl (.int (a.2 : Nat)), vl (.str [a.1])] h1, .nx, rfl, mIf_f (mTst_e (mBin_e (mVar_e rfl) (mC_e _) e1)), .inl rfl, rfl, _, _, rfl⟩)
      have e3 : b_check_row (entA 3 [.str s] hp) = some (.ok .nx s') := by
        unfold b_check_row
        rw [mFor_e (l := (enumD (s.map fun c => .str [c]))) (s' := st [vl (.str s), none, none] hp) rfl, enumD_map]
        exact e1
      rw [fnOf_nx e3, e2.1]
    · rw [if_neg hl] at h'
      cases h'

/-- runs_of(row): slots 0:row 1:found 2:letter -/
noncomputable def b_runs_of : M Fl :=
    (mSeq (mSetO 1 mNil)
    (mSeq (mFor (mIt itS (mVar 0)) (gV 2) (mIf (mAnd (mTst (mOwn 1 neO (mLst mNil))) (mTst (mBin eqSc (mBin ixF (mOwn 1 ixO (mUn negI (mC (.int 1)))) (mC (.int 0))) (mVar 2)))) (mSetIxO 1 (mTup (mCons (mVar 2) (mCons (mBin addI (mBin ixF (mOwn 1 ixO (mUn negI (mC (.int 1)))) (mC (.int 1))) (mC (.int 1))) mNil))) (mUn negI (mC (.int 1)))) (mDrop (mAppO 1 (mTup (mCons (mVar 2) (mCons (mC (.int 1)) mNil)))))))
    (mRet (mVar 1))))
/-- a text that fits -/
def rok (s : List Nat) : Prop := s.length ≤ 1000000 ∧ ∀ c ∈ s, c < 1114112
def encR (p : Nat × Nat) : D := .tup [.str [p.1], .int (p.2 : Nat)]
noncomputable def n_runs_of : Fn := fun ds hp => match ds with
  | [.str s] => if rok s then some (.ok (.lst ((runs s).map encR)) hp) else none
  | _ => none
theorem eqd_nil_r (l : List D) (h : pls 1 l = true) : eqd (.lst l) (.lst []) = some (decide (l = [])) := by
  obtain ⟨p, e, c, d⟩ := pls_toP 1 l h
  unfold eqd
  rw [toP_lst, e]
  show (if SeqAt.shaped (.list p) = true ∧ SeqAt.shaped (.list []) = true then some (PyData.eqv (.list p) (.list [])) else none) = _
  rw [if_pos]
  · cases l with
    | nil => cases e; rfl
    | cons x l =>
      rw [toPs_cons] at e
      split at e
      · cases e
        rfl
      · cases e
  · constructor
    · show (PyData.canLayAll0 p && decide (PyData.depthAll p + 1 ≤ 64)) = true
      rw [c, decide_eq_true (by omega)]
      rfl
    · rfl
theorem runs_len (l : List Nat) : (runs l).length ≤ l.length := by
  have := runs_eqs l
  omega
theorem pls_runs : ∀ r : List (Nat × Nat), (∀ p ∈ r, p.1 < 1114112) → pls 1 (r.map encR) = true
  | [], _ => rfl
  | p :: r, h => by
    rw [List.map_cons, pls, pls_runs r fun q hq => h q (List.mem_cons_of_mem _ hq), Bool.and_true]
    show pls 0 [.str [p.1], .int (p.2 : Nat)] = true
    rw [pls, pls, pls]
    show (decide (p.1 < 1114112) && true && (true && true)) = true
    rw [decide_eq_true (h p List.mem_cons_self)]
    rfl
theorem runs_mem : ∀ (l : List Nat) (p : Nat × Nat), p ∈ runs l → p.1 ∈ l
  | [], p, h => by cases h
  | c :: l, p, h => by
    have ih := runs_mem l
    unfold runs at h
    split at h
    · rw [List.mem_singleton] at h
      rw [h]
      exact List.mem_cons_self
    · rename_i d n r e
      rw [e] at ih
      split at h
      · rcases List.mem_cons.mp h with h | h
        · rw [h]
          exact List.mem_cons_of_mem _ (ih (d, n) List.mem_cons_self)
        · exact List.mem_cons_of_mem _ (ih p (List.mem_cons_of_mem _ h))
      · rcases List.mem_cons.mp h with h | h
        · rw [h]
          exact List.mem_cons_self
        · exact List.mem_cons_of_mem _ (ih p h)
theorem ixN_last {α : Type} (xs : List α) (v : α) : ixN (xs ++ [v]).length (-1) = some xs.length := by
  unfold ixN
  rw [if_neg (by decide), if_pos (by rw [List.length_append, List.length_singleton]; omega)]
  congr 1
  rw [List.length_append, List.length_singleton]
  omega
theorem snoc_or {α : Type} (l : List α) : l = [] ∨ ∃ a b, l = a ++ [b] := by
  rcases List.eq_nil_or_concat l with h | ⟨a, b, h⟩
  · exact .inl h
  · exact .inr ⟨a, b, by rw [h, List.concat_eq_append]⟩
def runs_body : M Fl := mIf (mAnd (mTst (mOwn 1 neO (mLst mNil))) (mTst (mBin eqSc (mBin ixF (mOwn 1 ixO (mUn negI (mC (.int 1)))) (mC (.int 0))) (mVar 2)))) (mSetIxO 1 (mTup (mCons (mVar 2) (mCons (mBin addI (mBin ixF (mOwn 1 ixO (mUn negI (mC (.int 1)))) (mC (.int 1))) (mC (.int 1))) mNil))) (mUn negI (mC (.int 1)))) (mDrop (mAppO 1 (mTup (mCons (mVar 2) (mCons (mC (.int 1)) mNil)))))
theorem tup2_e {a b : M D} {x y : D} {s s1 s2 : A} (e1 : a s = some (.ok x s1)) (e2 : b s1 = some (.ok y s2)) : mTup (mCons a (mCons b mNil)) s = some (.ok (.tup [x, y]) s2) := by
  unfold mTup mCons mNil
  rw [bnd_e (a := [x, y]) (s' := s2) (by rw [bnd_e e1]; rw [bnd_e (a := [y]) (s' := s2) (by rw [bnd_e e2]; rfl)]; rfl), tupD_e (by show 2 ≤ _; decide)]
  rfl
theorem mOwn_e {i : Nat} {f : List D → D → Option D} {m : M D} {s s' : A} {l l' : List D} {d z : D} (h1 : getO s i = some l) (h2 : m s = some (.ok d s')) (h3 : getO s' i = some l') (h4 : f l' d = some z) : mOwn i f m s = some (.ok z s') := by
  unfold mOwn
  rw [h1]
  show bnd m _ s = _
  rw [bnd_e h2]
  show (match getO s' i with | some l => _ | none => none) = _
  rw [h3]
  show (match f l' d with | some z => _ | none => none) = _
  rw [h4]
theorem mAppO_e {i : Nat} {m : M D} {s s' : A} {l l' : List D} {d : D} (h1 : getO s i = some l) (h2 : m s = some (.ok d s')) (h3 : getO s' i = some l') (h4 : l'.length < 16777216) : mAppO i m s = some (.ok .non (setO s' i (l' ++ [d]))) := by
  unfold mAppO
  rw [h1]
  show bnd m _ s = _
  rw [bnd_e h2]
  show (match getO s' i with | some l => _ | none => none) = _
  rw [h3]
  exact if_pos (by rw [SL]; exact h4)
theorem mExtO_e {i : Nat} {m : M D} {s s' : A} {l l' x : List D} (h1 : getO s i = some l) (h2 : m s = some (.ok (.lst x) s')) (h3 : getO s' i = some l') (h4 : l'.length + x.length ≤ 16777216) : mExtO i m s = some (.ok .non (setO s' i (l' ++ x))) := by
  unfold mExtO
  rw [h1]
  show bnd m _ s = _
  rw [bnd_e h2]
  show (match D.lst x, getO s' i with | .lst l', some l => _ | _, _ => none) = _
  rw [h3]
  exact if_pos (by rw [SL]; exact h4)
theorem mSetIxO_e {i j : Nat} {mv mk : M D} {s s1 s2 : A} {l l' : List D} {d : D} {k : Int} (h0 : mv s = some (.ok d s1)) (h1 : getO s1 i = some l) (h2 : mk s1 = some (.ok (.int k) s2)) (h3 : getO s2 i = some l') (h4 : ixN l'.length k = some j) :
    mSetIxO i mv mk s = some (.ok .nx (setO s2 i (l'.set j d))) := by
  unfold mSetIxO
  rw [bnd_e h0]
  show (match getO s1 i with | some _ => _ | none => none) = _
  rw [h1]
  show bnd mk _ s1 = _
  rw [bnd_e h2]
  show (match D.int k, getO s2 i with | .int k, some l => _ | _, _ => none) = _
  rw [h3]
  show (match ixN l'.length k with | some j => _ | none => none) = _
  rw [h4]
theorem runs_step (a : D) (R : List (Nat × Nat)) (c : Nat) (hp : List AO) (hR : ∀ p ∈ R, p.1 < 1114112) (hl : R.length ≤ 1000000) :
    runs_body (st [vl a, ow (R.map encR), vl (.str [c])] hp) = some (.ok .nx (st [vl a, ow ((pushR R c).map encR), vl (.str [c])] hp)) := by
  have app : mDrop (mAppO 1 (mTup (mCons (mVar 2) (mCons (mC (.int 1)) mNil)))) (st [vl a, ow (R.map encR), vl (.str [c])] hp) = some (.ok .nx (st [vl a, ow ((R ++ [(c, 1)]).map encR), vl (.str [c])] hp)) := by
    unfold mDrop
    rw [bnd_e (mAppO_e (l := R.map encR) (l' := R.map encR) rfl (tup2_e (mVar_e rfl) (mC_e _)) rfl (by rw [List.length_map]; omega)), List.map_append]
    rfl
  have ne0 : mTst (mOwn 1 neO (mLst mNil)) (st [vl a, ow (R.map encR), vl (.str [c])] hp) = some (.ok (!decide (R = [])) (st [vl a, ow (R.map encR), vl (.str [c])] hp)) := by
    refine mTst_e (mOwn_e (l := R.map encR) (l' := R.map encR) (d := .lst []) rfl ?_ rfl ?_)
    · show lft (lstD []) _ = _
      rw [lstD_e (by decide)]
      rfl
    · show (eqd (.lst (R.map encR)) (.lst [])).map _ = _
      rw [eqd_nil_r _ (pls_runs R hR)]
      cases R <;> rfl
  unfold runs_body
  rcases snoc_or R with rfl | ⟨R', ⟨d, n⟩, rfl⟩
  · rw [mIf_f (s' := st [vl a, ow [], vl (.str [c])] hp)]
    · exact app
    · unfold mAnd
      rw [bnd_e ne0]
      rfl
  · have ix : mOwn 1 ixO (mUn negI (mC (.int 1))) (st [vl a, ow ((R' ++ [(d, n)]).map encR), vl (.str [c])] hp) = some (.ok (encR (d, n)) (st [vl a, ow ((R' ++ [(d, n)]).map encR), vl (.str [c])] hp)) := by
      refine mOwn_e (l := (R' ++ [(d, n)]).map encR) (l' := (R' ++ [(d, n)]).map encR) (d := .int (-1)) rfl rfl rfl ?_
      show atI ((R' ++ [(d, n)]).map encR) (-1) = _
      rw [List.map_append]
      exact atI_last _ _
    have cond : mAnd (mTst (mOwn 1 neO (mLst mNil))) (mTst (mBin eqSc (mBin ixF (mOwn 1 ixO (mUn negI (mC (.int 1)))) (mC (.int 0))) (mVar 2))) (st [vl a, ow ((R' ++ [(d, n)]).map encR), vl (.str [c])] hp) = some (.ok (decide ([d] = [c])) (st [vl a, ow ((R' ++ [(d, n)]).map encR), vl (.str [c])] hp)) := by
      unfold mAnd
      rw [bnd_e ne0]
      have : (!decide (R' ++ [(d, n)] = [])) = true := by simp
      rw [this, if_pos rfl]
      exact mTst_e (mBin_e (mBin_e ix (mC_e _) rfl) (mVar_e rfl) rfl)
    by_cases h : d = c
    · subst h
      rw [mIf_t (s' := st [vl a, ow ((R' ++ [(d, n)]).map encR), vl (.str [d])] hp) (by rw [cond]; simp)]
      rw [mSetIxO_e (l := (R' ++ [(d, n)]).map encR) (l' := (R' ++ [(d, n)]).map encR) (k := -1) (j := R'.length) (tup2_e (mVar_e rfl) (mBin_e (mBin_e ix (mC_e _) rfl) (mC_e _) rfl)) rfl rfl rfl
        (by rw [List.map_append]; have := ixN_last (R'.map encR) (encR (d, n)); rw [List.length_map] at this; exact this)]
      have e1 : pushR (R' ++ [(d, n)]) d = R' ++ [(d, n + 1)] := by
        unfold pushR
        rw [List.getLast?_append]
        simp
      rw [e1]
      congr 2
      show st [vl a, ow (((R' ++ [(d, n)]).map encR).set R'.length _), vl (.str [d])] hp = _
      rw [List.map_append, List.map_append, List.set_append_right _ _ (by rw [List.length_map]; exact Nat.le_refl _), List.length_map, Nat.sub_self]
      rfl
    · rw [mIf_f (s' := st [vl a, ow ((R' ++ [(d, n)]).map encR), vl (.str [c])] hp) (by rw [cond]; simp [h])]
      rw [app]
      have e1 : pushR (R' ++ [(d, n)]) c = R' ++ [(d, n)] ++ [(c, 1)] := by
        unfold pushR
        rw [List.getLast?_append]
        simp [h]
      rw [e1]
theorem sp_runs_of : ∀ ds hp r, ds.length = 1 → n_runs_of ds hp = some r → fnOf 3 b_runs_of ds hp = some r := by
  intro ds hp r _ h
  match ds, h with
  | [.str s], h =>
    have h' : (if rok s then some (FR.ok (.lst ((runs s).map encR)) hp) else none) = some r := h
    by_cases hl : rok s
    · rw [if_pos hl] at h'
      cases h'
      obtain ⟨s', e1, e2⟩ := forL_pre (g := gV 2) (b := runs_body) (fun c : Nat => D.str [c]) (fun pre s' => ∃ x, s' = st [vl (.str s), ow ((runs pre).map encR), x] hp) s [] (st [vl (.str s), ow [], none] hp) ⟨none, rfl⟩
        (fun pre' a post s1 e p => by
          obtain ⟨x, rfl⟩ := p
          have e' : s = pre' ++ a :: post := e
          have hlen : pre'.length ≤ s.length := by rw [e', List.length_append]; omega
          exact ⟨st [vl (.str s), ow ((runs pre').map encR), vl (.str [a])] hp, st [vl (.str s), ow ((pushR (runs pre') a).map encR), vl (.str [a])] hp, .nx, rfl,
            runs_step _ _ _ _ (fun p hp => hl.2 _ (by rw [e']; exact List.mem_append_left _ (runs_mem _ _ hp))) (by have := runs_len pre'; have := hl.1; omega), .inl rfl, _, by rw [runs_snoc]⟩)
      obtain ⟨x, rfl⟩ := e2
      have e3 : b_runs_of (entA 3 [.str s] hp) = some (.ok (.rt (.lst ((runs s).map encR))) (st [vl (.str s), vl (.lst ((runs s).map encR)), x] hp)) := by
        unfold b_runs_of
        rw [mSeq_e (s' := st [vl (.str s), ow [], none] hp) (by show (if ([] : List D).length ≤ sizeLine then _ else none) = _; rw [if_pos (by rw [SL]; decide)]; rfl)]
        rw [mSeq_e (s' := st [vl (.str s), ow ((runs s).map encR), x] hp) (by rw [mFor_e (l := s.map fun c => .str [c]) (s' := st [vl (.str s), ow [], none] hp) rfl]; exact e1)]
        rfl
      rw [fnOf_rt e3]
    · rw [if_neg hl] at h'
      cases h'
theorem runs_of_e {s : List Nat} {hp : List AO} (h : rok s) : n_runs_of [.str s] hp = some (.ok (.lst ((runs s).map encR)) hp) := if_pos h

/-- size_of(row): slots 0:row -/
noncomputable def b_size_of : M Fl :=
    (mRet (mTup (mCons (mFn lenF (mCons (mVar 0) mNil)) (mCons (mBin subI (mFn lenF (mCons (mVar 0) mNil)) (mFn lenF (mCons (mCall 1 n_runs_of (mCons (mVar 0) mNil)) mNil))) mNil))))
noncomputable abbrev n_size_of : Fn := fnOf 1 b_size_of
-- uses: runs_of
def encZ (z : Nat × Nat) : D := .tup [.int (z.1 : Nat), .int (z.2 : Nat)]
theorem encZ_pl (n : Nat) (z : Nat × Nat) : pl (n + 1) (encZ z) = true := by
  show pls n [.int (z.1 : Nat), .int (z.2 : Nat)] = true
  rw [pls, pls, pls]
  cases n <;> rfl
theorem w_size_of {s : List Nat} {hp : List AO} {Q : D → List AO → Prop} (h : rok s) (q : Q (encZ (sizeL s)) hp) : FnWp n_size_of [.str s] hp Q := by
  have hl := h.1
  apply w_fnOf
  unfold b_size_of
  (repeat (first | refine w_seq ?_ | refine w_set ?_ | refine w_asg ?_ | refine w_gV ?_ | refine w_gT2 ?_ | refine w_gL2 ?_ | refine w_rt ?_ | refine w_drop ?_ | refine w_par ?_ | refine w_aug rfl ?_ | refine w_nx ?_ | refine w_and ?_ | refine w_or ?_ | refine w_not ?_ | refine w_tst ?_ | refine w_if ?_ | refine w_andV ?_ | refine w_orV ?_ | refine w_tup ?_ | refine w_lst ?_ | refine w_lstH ?_ | refine w_bin ?_ | refine w_un ?_ | refine w_fn ?_ | refine w_it ?_ | refine w_itA ?_ | refine w_cons ?_ | refine w_nil ?_ | refine w_V rfl ?_ | refine w_VO rfl ?_ | refine w_C ?_ | refine w_sl ?_ | refine w_so ?_ | refine w_no ?_ | refine w_call ?_ | refine w_join ?_ | refine w_setO ?_ | refine w_ixH ?_ | refine w_setIxH ?_ | refine w_cmpH ?_ | refine w_pop0H ?_ | refine w_appH ?_ | refine w_par3 ?_ | refine w_joinH ?_ | refine w_perm ?_ | refine w_split ?_ | refine w_notV ?_ | refine w_ret ?_ | refine And.intro rfl ?_ | refine Exists.intro _ (And.intro rfl ?_)))
  refine ⟨_, lenS_e (by omega), ?_⟩
  (repeat (first | refine w_seq ?_ | refine w_set ?_ | refine w_asg ?_ | refine w_gV ?_ | refine w_gT2 ?_ | refine w_gL2 ?_ | refine w_rt ?_ | refine w_drop ?_ | refine w_par ?_ | refine w_aug rfl ?_ | refine w_nx ?_ | refine w_and ?_ | refine w_or ?_ | refine w_not ?_ | refine w_tst ?_ | refine w_if ?_ | refine w_andV ?_ | refine w_orV ?_ | refine w_tup ?_ | refine w_lst ?_ | refine w_lstH ?_ | refine w_bin ?_ | refine w_un ?_ | refine w_fn ?_ | refine w_it ?_ | refine w_itA ?_ | refine w_cons ?_ | refine w_nil ?_ | refine w_V rfl ?_ | refine w_VO rfl ?_ | refine w_C ?_ | refine w_sl ?_ | refine w_so ?_ | refine w_no ?_ | refine w_call ?_ | refine w_join ?_ | refine w_setO ?_ | refine w_ixH ?_ | refine w_setIxH ?_ | refine w_cmpH ?_ | refine w_pop0H ?_ | refine w_appH ?_ | refine w_par3 ?_ | refine w_joinH ?_ | refine w_perm ?_ | refine w_split ?_ | refine w_notV ?_ | refine w_ret ?_ | refine And.intro rfl ?_ | refine Exists.intro _ (And.intro rfl ?_)))
  refine ⟨_, lenS_e (by omega), ?_⟩
  (repeat (first | refine w_seq ?_ | refine w_set ?_ | refine w_asg ?_ | refine w_gV ?_ | refine w_gT2 ?_ | refine w_gL2 ?_ | refine w_rt ?_ | refine w_drop ?_ | refine w_par ?_ | refine w_aug rfl ?_ | refine w_nx ?_ | refine w_and ?_ | refine w_or ?_ | refine w_not ?_ | refine w_tst ?_ | refine w_if ?_ | refine w_andV ?_ | refine w_orV ?_ | refine w_tup ?_ | refine w_lst ?_ | refine w_lstH ?_ | refine w_bin ?_ | refine w_un ?_ | refine w_fn ?_ | refine w_it ?_ | refine w_itA ?_ | refine w_cons ?_ | refine w_nil ?_ | refine w_V rfl ?_ | refine w_VO rfl ?_ | refine w_C ?_ | refine w_sl ?_ | refine w_so ?_ | refine w_no ?_ | refine w_call ?_ | refine w_join ?_ | refine w_setO ?_ | refine w_ixH ?_ | refine w_setIxH ?_ | refine w_cmpH ?_ | refine w_pop0H ?_ | refine w_appH ?_ | refine w_par3 ?_ | refine w_joinH ?_ | refine w_perm ?_ | refine w_split ?_ | refine w_notV ?_ | refine w_ret ?_ | refine And.intro rfl ?_ | refine Exists.intro _ (And.intro rfl ?_)))
  refine w_eq (runs_of_e h) ?_
  (repeat (first | refine w_seq ?_ | refine w_set ?_ | refine w_asg ?_ | refine w_gV ?_ | refine w_gT2 ?_ | refine w_gL2 ?_ | refine w_rt ?_ | refine w_drop ?_ | refine w_par ?_ | refine w_aug rfl ?_ | refine w_nx ?_ | refine w_and ?_ | refine w_or ?_ | refine w_not ?_ | refine w_tst ?_ | refine w_if ?_ | refine w_andV ?_ | refine w_orV ?_ | refine w_tup ?_ | refine w_lst ?_ | refine w_lstH ?_ | refine w_bin ?_ | refine w_un ?_ | refine w_fn ?_ | refine w_it ?_ | refine w_itA ?_ | refine w_cons ?_ | refine w_nil ?_ | refine w_V rfl ?_ | refine w_VO rfl ?_ | refine w_C ?_ | refine w_sl ?_ | refine w_so ?_ | refine w_no ?_ | refine w_call ?_ | refine w_join ?_ | refine w_setO ?_ | refine w_ixH ?_ | refine w_setIxH ?_ | refine w_cmpH ?_ | refine w_pop0H ?_ | refine w_appH ?_ | refine w_par3 ?_ | refine w_joinH ?_ | refine w_perm ?_ | refine w_split ?_ | refine w_notV ?_ | refine w_ret ?_ | refine And.intro rfl ?_ | refine Exists.intro _ (And.intro rfl ?_)))
  have e : ((s.length : Nat) : Int) - (((runs s).map encR).length : Nat) = ((eqs s : Nat) : Int) := by
    have := runs_eqs s
    rw [List.length_map]
    omega
  show EndQ Q (.rt (.tup [.int _, .int (((s.length : Nat) : Int) - (((runs s).map encR).length : Nat))])) _
  rw [e]
  exact q
theorem sp_size_of : ∀ ds hp r, ds.length = 1 → n_size_of ds hp = some r → fnOf 1 b_size_of ds hp = some r := fun _ _ _ _ h => h

/-- size_before(size, sieve): slots 0:size 1:sieve 2:length 3:pairs -/
noncomputable def b_size_before_2 : M Fl :=
    (mSeq (mAsg (mVar 0) (gT (gC (gV 2) (gC (gV 3) gN)) 2))
    (mRet (mIf (mTst (mBin eqSc (mVar 1) (mC (.str [84])))) (mTup (mCons (mBin addI (mBin mulI (mC (.int 2)) (mVar 2)) (mVar 3)) (mCons (mVar 2) mNil))) (mTup (mCons (mBin addI (mVar 2) (mBin mulI (mC (.int 2)) (mVar 3))) (mCons (mVar 3) mNil))))))
noncomputable abbrev n_size_before_2 : Fn := fnOf 4 b_size_before_2
-- uses: size_of
theorem nat_abs_lt {z b : Nat} (h : z < 2 ^ b) : ((z : Nat) : Int).natAbs < 2 ^ b := by rw [Int.natAbs_natCast]; exact h
theorem mul2_e {z : Nat} (h : z < 2 ^ 9000) : mulI (.int 2) (.int (z : Nat)) = some (.int (2 * (z : Nat))) := mulI_w (a := 2) (b := 9000) (by decide) (nat_abs_lt h) (by decide) (by decide) (by decide)
theorem w_size_before_2 {z : Nat × Nat} {c : Nat} {hp : List AO} {Q : D → List AO → Prop} (h1 : z.1 < 2 ^ 9000) (h2 : z.2 < 2 ^ 9000) (q : Q (encZ (stepZ c z)) hp) : FnWp n_size_before_2 [encZ z, .str [c]] hp Q := by
  obtain ⟨a, b⟩ := z
  simp only at h1 h2
  apply w_fnOf
  unfold b_size_before_2
  refine w_seq (w_asg (w_V rfl (w_gT2 ?_)))
  refine w_rt (w_if (w_tst (w_bin (w_V rfl (w_C ⟨_, rfl, _, rfl, fun hb => ?_, fun hb => ?_⟩)))))
  · have hc : c = 84 := by simpa using hb
    unfold stepZ at q
    rw [if_pos hc] at q
    refine w_tup (w_cons (w_bin (w_bin (w_C (w_V rfl ⟨_, mul2_e h1, w_V rfl ⟨_, rfl, w_cons (w_V rfl (w_nil ⟨rfl, ?_⟩))⟩⟩)))))
    exact q
  · have hc : ¬ c = 84 := by simpa using hb
    unfold stepZ at q
    rw [if_neg hc] at q
    refine w_tup (w_cons (w_bin (w_V rfl (w_bin (w_C (w_V rfl ⟨_, mul2_e h2, _, rfl, w_cons (w_V rfl (w_nil ⟨rfl, ?_⟩))⟩))))))
    exact q
theorem sp_size_before_2 : ∀ ds hp r, ds.length = 2 → n_size_before_2 ds hp = some r → fnOf 4 b_size_before_2 ds hp = some r := fun _ _ _ _ h => h

/-- least_size_from(pipeline, size): slots 0:pipeline 1:size 2:sieve -/
noncomputable def b_least_size_from_2 : M Fl :=
    (mSeq (mFor (mIt itS (mUn revS (mVar 0))) (gV 2) (mAsg (mCall 2 n_size_before_2 (mCons (mVar 1) (mCons (mVar 2) mNil))) (gV 1)))
    (mRet (mVar 1)))
noncomputable abbrev n_least_size_from_2 : Fn := fnOf 3 b_least_size_from_2
-- uses: size_before_2
theorem least_bd {a : Nat} : ∀ (p : List Nat) (z : Nat × Nat), z.1 < 2 ^ a → z.2 < 2 ^ a → (least p z).1 < 2 ^ (a + 2 * p.length) ∧ (least p z).2 < 2 ^ (a + 2 * p.length)
  | [], z, h1, h2 => ⟨h1, h2⟩
  | c :: p, z, h1, h2 => by
    obtain ⟨g1, g2⟩ := least_bd p z h1 h2
    have e : 2 ^ (a + 2 * (c :: p).length) = 4 * 2 ^ (a + 2 * p.length) := by
      rw [List.length_cons, show a + 2 * (p.length + 1) = (a + 2 * p.length) + 2 by omega, Nat.pow_add]
      omega
    rw [e]
    show (stepZ c (least p z)).1 < _ ∧ (stepZ c (least p z)).2 < _
    generalize 2 ^ (a + 2 * p.length) = m at g1 g2
    unfold stepZ
    split
    · exact ⟨by show 2 * _ + _ < _; omega, by show (least p z).1 < _; omega⟩
    · exact ⟨by show _ + 2 * _ < _; omega, by show (least p z).2 < _; omega⟩
theorem least_bd' {p : List Nat} {z : Nat × Nat} (hp : p.length ≤ 1000) (h1 : z.1 < 2 ^ 6000) (h2 : z.2 < 2 ^ 6000) : (least p z).1 < 2 ^ 9000 ∧ (least p z).2 < 2 ^ 9000 := by
  obtain ⟨g1, g2⟩ := least_bd p z h1 h2
  have : 2 ^ (6000 + 2 * p.length) ≤ 2 ^ 9000 := Nat.pow_le_pow_right (by decide) (by omega)
  exact ⟨Nat.lt_of_lt_of_le g1 this, Nat.lt_of_lt_of_le g2 this⟩
theorem least_fold (p : List Nat) (z : Nat × Nat) : least p z = p.reverse.foldl (fun z c => stepZ c z) z := by
  unfold least
  rw [List.foldl_reverse]
theorem w_least_size_from_2 {p : List Nat} {z : Nat × Nat} {hp : List AO} {Q : D → List AO → Prop} (h : p.length ≤ 1000) (h1 : z.1 < 2 ^ 6000) (h2 : z.2 < 2 ^ 6000) (q : Q (encZ (least p z)) hp) : FnWp n_least_size_from_2 [.str p, encZ z] hp Q := by
  apply w_fnOf
  unfold b_least_size_from_2
  refine w_seq (w_for (fun c : Nat => D.str [c]) p.reverse (fun pre s' => ∃ x, s' = st [vl (.str p), vl (encZ (pre.foldl (fun z c => stepZ c z) z)), x] hp) ?_ ?_ ?_)
  · exact w_it (w_un (w_V rfl ⟨_, revS_e (by omega), _, rfl, rfl, none, rfl⟩))
  · rintro pre a post s1 hE ⟨x, rfl⟩
    have hl : pre.length ≤ 1000 := by
      have := congrArg List.length hE
      simp only [List.length_reverse, List.length_append, List.length_cons] at this
      omega
    obtain ⟨g1, g2⟩ := least_bd' (p := pre.reverse) (by rw [List.length_reverse]; exact hl) h1 h2
    rw [least_fold, List.reverse_reverse] at g1 g2
    refine w_gV (w_set (w_call (w_cons (w_V rfl (w_cons (w_V rfl (w_nil ⟨rfl, w_size_before_2 g1 g2 ?_⟩)))))))
    refine ⟨vl (.str [a]), ?_⟩
    rw [List.foldl_append]
    rfl
  · rintro s' ⟨x, rfl⟩
    refine w_rt (w_V rfl ?_)
    rw [← least_fold]
    exact q
theorem sp_least_size_from_2 : ∀ ds hp r, ds.length = 2 → n_least_size_from_2 ds hp = some r → fnOf 3 b_least_size_from_2 ds hp = some r := fun _ _ _ _ h => h

/-- least_size(pipeline, output): slots 0:pipeline 1:output -/
noncomputable def b_least_size_2 : M Fl :=
    (mSeq (mDrop (mCall 1 n_check_pipeline (mCons (mVar 0) mNil)))
    (mSeq (mDrop (mCall 1 n_check_row (mCons (mVar 1) mNil)))
    (mRet (mCall 2 n_least_size_from_2 (mCons (mVar 0) (mCons (mCall 1 n_size_of (mCons (mVar 1) mNil)) mNil))))))
noncomputable abbrev n_least_size_2 : Fn := fnOf 2 b_least_size_2
-- uses: check_pipeline check_row
theorem small_pow {n : Nat} (h : n ≤ 1000000) : n < 2 ^ 6000 := Nat.lt_of_le_of_lt h (Nat.lt_of_lt_of_le (by decide : 1000000 < 2 ^ 20) (Nat.pow_le_pow_right (by decide) (by decide)))
theorem sizeL_bd {s : List Nat} (h : s.length ≤ 1000000) : (sizeL s).1 < 2 ^ 6000 ∧ (sizeL s).2 < 2 ^ 6000 := by
  have := runs_eqs s
  exact ⟨small_pow h, small_pow (show eqs s ≤ 1000000 by omega)⟩
theorem w_least_size_2 {p s : List Nat} {hp : List AO} {Q : D → List AO → Prop} (h1 : TSs p) (hp1 : p.length ≤ 1000) (h2 : low s) (h3 : rok s) (q : Q (encZ (least p (sizeL s))) hp) : FnWp n_least_size_2 [.str p, .str s] hp Q := by
  obtain ⟨b1, b2⟩ := sizeL_bd h3.1
  apply w_fnOf
  unfold b_least_size_2
  refine w_seq (w_drop (w_call (w_cons (w_V rfl (w_nil ⟨rfl, w_eq (if_pos h1) ?_⟩)))))
  refine w_seq (w_drop (w_call (w_cons (w_V rfl (w_nil ⟨rfl, w_eq (if_pos h2) ?_⟩)))))
  exact w_rt (w_call (w_cons (w_V rfl (w_cons (w_call (w_cons (w_V rfl (w_nil ⟨rfl, w_size_of h3 (w_nil ⟨rfl, w_least_size_from_2 hp1 b1 b2 q⟩)⟩))))))))
theorem sp_least_size_2 : ∀ ds hp r, ds.length = 2 → n_least_size_2 ds hp = some r → fnOf 2 b_least_size_2 ds hp = some r := fun _ _ _ _ h => h

/-- _law_draw(source, many): slots 0:source 1:many 2:drawn 3:mixed -/
noncomputable def b_law_draw_2 : M Fl :=
    (mSeq (mWhile (mAnd (mTst (mBin ltI (mIxH (mVar 0) (mC (.int 1))) (mC (.int 2)))) (mTst (mCmpH true (mIxH (mVar 0) (mC (.int 0))) (mLst mNil)))) (mSetIxH (mPop0H (mIxH (mVar 0) (mC (.int 0))) (mC (.int 0))) (mVar 0) (mC (.int 1))))
    (mSeq (mIf (mTst (mBin geI (mIxH (mVar 0) (mC (.int 1))) (mC (.int 2)))) (mSeq (mAsg (mBin modI (mIxH (mVar 0) (mC (.int 1))) (mVar 1)) (gV 2))
    (mSeq (mSetIxH (mBin divI (mIxH (mVar 0) (mC (.int 1))) (mVar 1)) (mVar 0) (mC (.int 1)))
    (mRet (mVar 2)))) mNx)
    (mSeq (mSetIxH (mBin addI (mIxH (mVar 0) (mC (.int 3))) (mC (.int 1))) (mVar 0) (mC (.int 3)))
    (mSeq (mAsg (mBin mulI (mBin addI (mIxH (mVar 0) (mC (.int 2))) (mC (.int 7))) (mBin powI (mBin addI (mIxH (mVar 0) (mC (.int 3))) (mC (.int 3))) (mC (.int 3)))) (gV 3))
    (mSeq (mAsg (mBin modI (mBin addI (mVar 3) (mBin mulI (mC (.int 1000081)) (mIxH (mVar 0) (mC (.int 3))))) (mBin subI (mBin powI (mC (.int 2)) (mC (.int 61))) (mC (.int 1)))) (gV 3))
    (mRet (mBin modI (mBin divI (mBin modI (mBin powI (mVar 3) (mC (.int 5))) (mBin addI (mBin powI (mC (.int 10)) (mC (.int 18))) (mC (.int 9)))) (mC (.int 128))) (mVar 1))))))))
noncomputable abbrev n_law_draw_2 : Fn := fnOf 4 b_law_draw_2
-- uses: SRC
theorem w_law_draw_2 {r r0 : Nat} {many n : Int} {hp : List AO} {Q : D → List AO → Prop} (hm : 0 < many) (hm2 : many < 2 ^ 60) (hn : n ≤ 1000000) (h : SrcAt hp r r0 n)
    (q : ∀ (x : Int) hp', 0 ≤ x → x < many → Only2 r r0 hp hp' → SrcAt hp' r r0 (n + 1) → Q (.int x) hp') : FnWp n_law_draw_2 [.ref r, .int many] hp Q := by
  apply w_fnOf
  unfold b_law_draw_2
  have key : Wp (mWhile (mAnd (mTst (mBin ltI (mIxH (mVar 0) (mC (.int 1))) (mC (.int 2)))) (mTst (mCmpH true (mIxH (mVar 0) (mC (.int 0))) (mLst mNil)))) (mSetIxH (mPop0H (mIxH (mVar 0) (mC (.int 0))) (mC (.int 0))) (mVar 0) (mC (.int 1)))) (st [vl (.ref r), vl (.int many), none, none] hp)
      (fun f s' => f = .nx ∧ ∃ hp', s' = st [vl (.ref r), vl (.int many), none, none] hp' ∧ Only2 r r0 hp hp' ∧ SrcAt hp' r r0 n) := by
    obtain ⟨ds, cur, mix, c, h1, h2, h3, h4, h5, h6, h7, h8, h9⟩ := h
    refine w_while (fun m s' => ∃ hp' ds cur, s' = st [vl (.ref r), vl (.int many), none, none] hp' ∧ ds.length = m ∧ Only2 r r0 hp hp' ∧ hp'[r]? = some (.lst [.ref r0, .int cur, .int mix, .int c]) ∧ hp'[r0]? = some (.lst (ds.map D.int)) ∧ (∀ d ∈ ds, 0 ≤ d) ∧ 0 ≤ cur) ds.length ⟨hp, ds, cur, rfl, rfl, Only2.refl _ _ _, h1, h2, h4, h5⟩ ?_
    rintro m s1 ⟨hp', ds, cur, rfl, rfl, o, g1, g2, g4, g5⟩
    have g1' : ∀ {sl}, getH (st sl hp') (.ref r) = some [.ref r0, .int cur, .int mix, .int c] := fun {sl} => getH_e g1
    have g2' : ∀ {sl}, getH (st sl hp') (.ref r0) = some (ds.map D.int) := fun {sl} => getH_e g2
    have fin : (Fl.nx = Fl.nx ∧ ∃ hp'_1, st [vl (.ref r), vl (.int many), none, none] hp' = st [vl (.ref r), vl (.int many), none, none] hp'_1 ∧ Only2 r r0 hp hp'_1 ∧ SrcAt hp'_1 r r0 n) :=
      ⟨rfl, hp', rfl, o, ds, cur, mix, c, g1, g2, h3, g4, g5, h6, h7, h8, h9⟩
    (repeat (first | refine w_seq ?_ | refine w_set ?_ | refine w_asg ?_ | refine w_gV ?_ | refine w_gT2 ?_ | refine w_gL2 ?_ | refine w_rt ?_ | refine w_drop ?_ | refine w_par ?_ | refine w_aug rfl ?_ | refine w_nx ?_ | refine w_and ?_ | refine w_or ?_ | refine w_not ?_ | refine w_tst ?_ | refine w_if ?_ | refine w_andV ?_ | refine w_orV ?_ | refine w_tup ?_ | refine w_lst ?_ | refine w_lstH ?_ | refine w_bin ?_ | refine w_un ?_ | refine w_fn ?_ | refine w_it ?_ | refine w_itA ?_ | refine w_cons ?_ | refine w_nil ?_ | refine w_V rfl ?_ | refine w_VO rfl ?_ | refine w_C ?_ | refine w_sl ?_ | refine w_so ?_ | refine w_no ?_ | refine w_call ?_ | refine w_join ?_ | refine w_setO ?_ | refine w_ixH ?_ | refine w_setIxH ?_ | refine w_cmpH ?_ | refine w_pop0H ?_ | refine w_appH ?_ | refine w_par3 ?_ | refine w_joinH ?_ | refine w_perm ?_ | refine w_split ?_ | refine w_notV ?_ | refine w_ret ?_ | refine And.intro rfl ?_ | refine Exists.intro _ (And.intro rfl ?_)))
    refine ⟨_, _, _, rfl, g1', rfl, ?_⟩
    (repeat (first | refine w_seq ?_ | refine w_set ?_ | refine w_asg ?_ | refine w_gV ?_ | refine w_gT2 ?_ | refine w_gL2 ?_ | refine w_rt ?_ | refine w_drop ?_ | refine w_par ?_ | refine w_aug rfl ?_ | refine w_nx ?_ | refine w_and ?_ | refine w_or ?_ | refine w_not ?_ | refine w_tst ?_ | refine w_if ?_ | refine w_andV ?_ | refine w_orV ?_ | refine w_tup ?_ | refine w_lst ?_ | refine w_lstH ?_ | refine w_bin ?_ | refine w_un ?_ | refine w_fn ?_ | refine w_it ?_ | refine w_itA ?_ | refine w_cons ?_ | refine w_nil ?_ | refine w_V rfl ?_ | refine w_VO rfl ?_ | refine w_C ?_ | refine w_sl ?_ | refine w_so ?_ | refine w_no ?_ | refine w_call ?_ | refine w_join ?_ | refine w_setO ?_ | refine w_ixH ?_ | refine w_setIxH ?_ | refine w_cmpH ?_ | refine w_pop0H ?_ | refine w_appH ?_ | refine w_par3 ?_ | refine w_joinH ?_ | refine w_perm ?_ | refine w_split ?_ | refine w_notV ?_ | refine w_ret ?_ | refine And.intro rfl ?_ | refine Exists.intro _ (And.intro rfl ?_)))
    refine ⟨fun hb => ?_, fun hb => ⟨fun z => absurd z (by decide), fun _ => fin⟩⟩
    (repeat (first | refine w_seq ?_ | refine w_set ?_ | refine w_asg ?_ | refine w_gV ?_ | refine w_gT2 ?_ | refine w_gL2 ?_ | refine w_rt ?_ | refine w_drop ?_ | refine w_par ?_ | refine w_aug rfl ?_ | refine w_nx ?_ | refine w_and ?_ | refine w_or ?_ | refine w_not ?_ | refine w_tst ?_ | refine w_if ?_ | refine w_andV ?_ | refine w_orV ?_ | refine w_tup ?_ | refine w_lst ?_ | refine w_lstH ?_ | refine w_bin ?_ | refine w_un ?_ | refine w_fn ?_ | refine w_it ?_ | refine w_itA ?_ | refine w_cons ?_ | refine w_nil ?_ | refine w_V rfl ?_ | refine w_VO rfl ?_ | refine w_C ?_ | refine w_sl ?_ | refine w_so ?_ | refine w_no ?_ | refine w_call ?_ | refine w_join ?_ | refine w_setO ?_ | refine w_ixH ?_ | refine w_setIxH ?_ | refine w_cmpH ?_ | refine w_pop0H ?_ | refine w_appH ?_ | refine w_par3 ?_ | refine w_joinH ?_ | refine w_perm ?_ | refine w_split ?_ | refine w_notV ?_ | refine w_ret ?_ | refine And.intro rfl ?_ | refine Exists.intro _ (And.intro rfl ?_)))
    refine ⟨_, _, _, rfl, g1', rfl, ?_⟩
    (repeat (first | refine w_seq ?_ | refine w_set ?_ | refine w_asg ?_ | refine w_gV ?_ | refine w_gT2 ?_ | refine w_gL2 ?_ | refine w_rt ?_ | refine w_drop ?_ | refine w_par ?_ | refine w_aug rfl ?_ | refine w_nx ?_ | refine w_and ?_ | refine w_or ?_ | refine w_not ?_ | refine w_tst ?_ | refine w_if ?_ | refine w_andV ?_ | refine w_orV ?_ | refine w_tup ?_ | refine w_lst ?_ | refine w_lstH ?_ | refine w_bin ?_ | refine w_un ?_ | refine w_fn ?_ | refine w_it ?_ | refine w_itA ?_ | refine w_cons ?_ | refine w_nil ?_ | refine w_V rfl ?_ | refine w_VO rfl ?_ | refine w_C ?_ | refine w_sl ?_ | refine w_so ?_ | refine w_no ?_ | refine w_call ?_ | refine w_join ?_ | refine w_setO ?_ | refine w_ixH ?_ | refine w_setIxH ?_ | refine w_cmpH ?_ | refine w_pop0H ?_ | refine w_appH ?_ | refine w_par3 ?_ | refine w_joinH ?_ | refine w_perm ?_ | refine w_split ?_ | refine w_notV ?_ | refine w_ret ?_ | refine And.intro rfl ?_ | refine Exists.intro _ (And.intro rfl ?_)))
    refine ⟨_, _, g2', eqd_ints ds, ?_⟩
    refine ⟨_, rfl, fun hb2 => ?_, fun _ => fin⟩
    cases ds with
    | nil => simp at hb2
    | cons d ds =>
      have g3' : ∀ {sl}, getH (st sl (hp'.set r0 (.lst (ds.map D.int)))) (.ref r) = some [.ref r0, .int cur, .int mix, .int c] := fun {sl} => getH_e (by rw [set_ne (Ne.symm h3)]; exact g1)
      (repeat (first | refine w_seq ?_ | refine w_set ?_ | refine w_asg ?_ | refine w_gV ?_ | refine w_gT2 ?_ | refine w_gL2 ?_ | refine w_rt ?_ | refine w_drop ?_ | refine w_par ?_ | refine w_aug rfl ?_ | refine w_nx ?_ | refine w_and ?_ | refine w_or ?_ | refine w_not ?_ | refine w_tst ?_ | refine w_if ?_ | refine w_andV ?_ | refine w_orV ?_ | refine w_tup ?_ | refine w_lst ?_ | refine w_lstH ?_ | refine w_bin ?_ | refine w_un ?_ | refine w_fn ?_ | refine w_it ?_ | refine w_itA ?_ | refine w_cons ?_ | refine w_nil ?_ | refine w_V rfl ?_ | refine w_VO rfl ?_ | refine w_C ?_ | refine w_sl ?_ | refine w_so ?_ | refine w_no ?_ | refine w_call ?_ | refine w_join ?_ | refine w_setO ?_ | refine w_ixH ?_ | refine w_setIxH ?_ | refine w_cmpH ?_ | refine w_pop0H ?_ | refine w_appH ?_ | refine w_par3 ?_ | refine w_joinH ?_ | refine w_perm ?_ | refine w_split ?_ | refine w_notV ?_ | refine w_ret ?_ | refine And.intro rfl ?_ | refine Exists.intro _ (And.intro rfl ?_)))
      refine ⟨_, _, _, rfl, g1', rfl, ?_⟩
      refine ⟨⟨_, g2'⟩, w_C ⟨.int d, ds.map D.int, rfl, g2', ?_⟩⟩
      (repeat (first | refine w_seq ?_ | refine w_set ?_ | refine w_asg ?_ | refine w_gV ?_ | refine w_gT2 ?_ | refine w_gL2 ?_ | refine w_rt ?_ | refine w_drop ?_ | refine w_par ?_ | refine w_aug rfl ?_ | refine w_nx ?_ | refine w_and ?_ | refine w_or ?_ | refine w_not ?_ | refine w_tst ?_ | refine w_if ?_ | refine w_andV ?_ | refine w_orV ?_ | refine w_tup ?_ | refine w_lst ?_ | refine w_lstH ?_ | refine w_bin ?_ | refine w_un ?_ | refine w_fn ?_ | refine w_it ?_ | refine w_itA ?_ | refine w_cons ?_ | refine w_nil ?_ | refine w_V rfl ?_ | refine w_VO rfl ?_ | refine w_C ?_ | refine w_sl ?_ | refine w_so ?_ | refine w_no ?_ | refine w_call ?_ | refine w_join ?_ | refine w_setO ?_ | refine w_ixH ?_ | refine w_setIxH ?_ | refine w_cmpH ?_ | refine w_pop0H ?_ | refine w_appH ?_ | refine w_par3 ?_ | refine w_joinH ?_ | refine w_perm ?_ | refine w_split ?_ | refine w_notV ?_ | refine w_ret ?_ | refine And.intro rfl ?_ | refine Exists.intro _ (And.intro rfl ?_)))
      refine ⟨_, _, 1, rfl, g3', rfl, ?_⟩
      refine ⟨ds.length, Nat.lt_succ_self _, (hp'.set r0 (.lst (ds.map D.int))).set r (.lst [.ref r0, .int d, .int mix, .int c]), ds, d, rfl, rfl, (o.trans (only2_set0 _)).trans (only2_set _), ?_, ?_, fun x hx => g4 x (List.mem_cons_of_mem _ hx), g4 d List.mem_cons_self⟩
      · exact set_get (by rw [set_ne (Ne.symm h3)]; exact g1) _
      · rw [set_ne h3]
        exact set_get g2 _
  refine w_seq (key.mono ?_)
  rintro f s1 ⟨rfl, hp', rfl, o, ds, cur, mix, c, h1, h2, h3, h4, h5, h6, h7, h8, h9⟩
  have g1 : ∀ {sl}, getH (st sl hp') (.ref r) = some [.ref r0, .int cur, .int mix, .int c] := fun {sl} => getH_e h1
  have g3 : ∀ {sl}, getH (st sl (hp'.set r (.lst [.ref r0, .int cur, .int mix, .int (c + 1)]))) (.ref r) = some [.ref r0, .int cur, .int mix, .int (c + 1)] := fun {sl} => getH_e (set_get h1 _)
  (repeat (first | refine w_seq ?_ | refine w_set ?_ | refine w_asg ?_ | refine w_gV ?_ | refine w_gT2 ?_ | refine w_gL2 ?_ | refine w_rt ?_ | refine w_drop ?_ | refine w_par ?_ | refine w_aug rfl ?_ | refine w_nx ?_ | refine w_and ?_ | refine w_or ?_ | refine w_not ?_ | refine w_tst ?_ | refine w_if ?_ | refine w_andV ?_ | refine w_orV ?_ | refine w_tup ?_ | refine w_lst ?_ | refine w_lstH ?_ | refine w_bin ?_ | refine w_un ?_ | refine w_fn ?_ | refine w_it ?_ | refine w_itA ?_ | refine w_cons ?_ | refine w_nil ?_ | refine w_V rfl ?_ | refine w_VO rfl ?_ | refine w_C ?_ | refine w_sl ?_ | refine w_so ?_ | refine w_no ?_ | refine w_call ?_ | refine w_join ?_ | refine w_setO ?_ | refine w_ixH ?_ | refine w_setIxH ?_ | refine w_cmpH ?_ | refine w_pop0H ?_ | refine w_appH ?_ | refine w_par3 ?_ | refine w_joinH ?_ | refine w_perm ?_ | refine w_split ?_ | refine w_notV ?_ | refine w_ret ?_ | refine And.intro rfl ?_ | refine Exists.intro _ (And.intro rfl ?_)))
  refine ⟨_, _, _, rfl, g1, rfl, ?_⟩
  (repeat (first | refine w_seq ?_ | refine w_set ?_ | refine w_asg ?_ | refine w_gV ?_ | refine w_gT2 ?_ | refine w_gL2 ?_ | refine w_rt ?_ | refine w_drop ?_ | refine w_par ?_ | refine w_aug rfl ?_ | refine w_nx ?_ | refine w_and ?_ | refine w_or ?_ | refine w_not ?_ | refine w_tst ?_ | refine w_if ?_ | refine w_andV ?_ | refine w_orV ?_ | refine w_tup ?_ | refine w_lst ?_ | refine w_lstH ?_ | refine w_bin ?_ | refine w_un ?_ | refine w_fn ?_ | refine w_it ?_ | refine w_itA ?_ | refine w_cons ?_ | refine w_nil ?_ | refine w_V rfl ?_ | refine w_VO rfl ?_ | refine w_C ?_ | refine w_sl ?_ | refine w_so ?_ | refine w_no ?_ | refine w_call ?_ | refine w_join ?_ | refine w_setO ?_ | refine w_ixH ?_ | refine w_setIxH ?_ | refine w_cmpH ?_ | refine w_pop0H ?_ | refine w_appH ?_ | refine w_par3 ?_ | refine w_joinH ?_ | refine w_perm ?_ | refine w_split ?_ | refine w_notV ?_ | refine w_ret ?_ | refine And.intro rfl ?_ | refine Exists.intro _ (And.intro rfl ?_)))
  refine ⟨fun hb => ?_, fun hb => ?_⟩
  · (repeat (first | refine w_seq ?_ | refine w_set ?_ | refine w_asg ?_ | refine w_gV ?_ | refine w_gT2 ?_ | refine w_gL2 ?_ | refine w_rt ?_ | refine w_drop ?_ | refine w_par ?_ | refine w_aug rfl ?_ | refine w_nx ?_ | refine w_and ?_ | refine w_or ?_ | refine w_not ?_ | refine w_tst ?_ | refine w_if ?_ | refine w_andV ?_ | refine w_orV ?_ | refine w_tup ?_ | refine w_lst ?_ | refine w_lstH ?_ | refine w_bin ?_ | refine w_un ?_ | refine w_fn ?_ | refine w_it ?_ | refine w_itA ?_ | refine w_cons ?_ | refine w_nil ?_ | refine w_V rfl ?_ | refine w_VO rfl ?_ | refine w_C ?_ | refine w_sl ?_ | refine w_so ?_ | refine w_no ?_ | refine w_call ?_ | refine w_join ?_ | refine w_setO ?_ | refine w_ixH ?_ | refine w_setIxH ?_ | refine w_cmpH ?_ | refine w_pop0H ?_ | refine w_appH ?_ | refine w_par3 ?_ | refine w_joinH ?_ | refine w_perm ?_ | refine w_split ?_ | refine w_notV ?_ | refine w_ret ?_ | refine And.intro rfl ?_ | refine Exists.intro _ (And.intro rfl ?_)))
    refine ⟨_, _, _, rfl, g1, rfl, ?_⟩
    (repeat (first | refine w_seq ?_ | refine w_set ?_ | refine w_asg ?_ | refine w_gV ?_ | refine w_gT2 ?_ | refine w_gL2 ?_ | refine w_rt ?_ | refine w_drop ?_ | refine w_par ?_ | refine w_aug rfl ?_ | refine w_nx ?_ | refine w_and ?_ | refine w_or ?_ | refine w_not ?_ | refine w_tst ?_ | refine w_if ?_ | refine w_andV ?_ | refine w_orV ?_ | refine w_tup ?_ | refine w_lst ?_ | refine w_lstH ?_ | refine w_bin ?_ | refine w_un ?_ | refine w_fn ?_ | refine w_it ?_ | refine w_itA ?_ | refine w_cons ?_ | refine w_nil ?_ | refine w_V rfl ?_ | refine w_VO rfl ?_ | refine w_C ?_ | refine w_sl ?_ | refine w_so ?_ | refine w_no ?_ | refine w_call ?_ | refine w_join ?_ | refine w_setO ?_ | refine w_ixH ?_ | refine w_setIxH ?_ | refine w_cmpH ?_ | refine w_pop0H ?_ | refine w_appH ?_ | refine w_par3 ?_ | refine w_joinH ?_ | refine w_perm ?_ | refine w_split ?_ | refine w_notV ?_ | refine w_ret ?_ | refine And.intro rfl ?_ | refine Exists.intro _ (And.intro rfl ?_)))
    refine ⟨_, modI_e hm, ?_⟩
    (repeat (first | refine w_seq ?_ | refine w_set ?_ | refine w_asg ?_ | refine w_gV ?_ | refine w_gT2 ?_ | refine w_gL2 ?_ | refine w_rt ?_ | refine w_drop ?_ | refine w_par ?_ | refine w_aug rfl ?_ | refine w_nx ?_ | refine w_and ?_ | refine w_or ?_ | refine w_not ?_ | refine w_tst ?_ | refine w_if ?_ | refine w_andV ?_ | refine w_orV ?_ | refine w_tup ?_ | refine w_lst ?_ | refine w_lstH ?_ | refine w_bin ?_ | refine w_un ?_ | refine w_fn ?_ | refine w_it ?_ | refine w_itA ?_ | refine w_cons ?_ | refine w_nil ?_ | refine w_V rfl ?_ | refine w_VO rfl ?_ | refine w_C ?_ | refine w_sl ?_ | refine w_so ?_ | refine w_no ?_ | refine w_call ?_ | refine w_join ?_ | refine w_setO ?_ | refine w_ixH ?_ | refine w_setIxH ?_ | refine w_cmpH ?_ | refine w_pop0H ?_ | refine w_appH ?_ | refine w_par3 ?_ | refine w_joinH ?_ | refine w_perm ?_ | refine w_split ?_ | refine w_notV ?_ | refine w_ret ?_ | refine And.intro rfl ?_ | refine Exists.intro _ (And.intro rfl ?_)))
    refine ⟨_, _, _, rfl, g1, rfl, ?_⟩
    (repeat (first | refine w_seq ?_ | refine w_set ?_ | refine w_asg ?_ | refine w_gV ?_ | refine w_gT2 ?_ | refine w_gL2 ?_ | refine w_rt ?_ | refine w_drop ?_ | refine w_par ?_ | refine w_aug rfl ?_ | refine w_nx ?_ | refine w_and ?_ | refine w_or ?_ | refine w_not ?_ | refine w_tst ?_ | refine w_if ?_ | refine w_andV ?_ | refine w_orV ?_ | refine w_tup ?_ | refine w_lst ?_ | refine w_lstH ?_ | refine w_bin ?_ | refine w_un ?_ | refine w_fn ?_ | refine w_it ?_ | refine w_itA ?_ | refine w_cons ?_ | refine w_nil ?_ | refine w_V rfl ?_ | refine w_VO rfl ?_ | refine w_C ?_ | refine w_sl ?_ | refine w_so ?_ | refine w_no ?_ | refine w_call ?_ | refine w_join ?_ | refine w_setO ?_ | refine w_ixH ?_ | refine w_setIxH ?_ | refine w_cmpH ?_ | refine w_pop0H ?_ | refine w_appH ?_ | refine w_par3 ?_ | refine w_joinH ?_ | refine w_perm ?_ | refine w_split ?_ | refine w_notV ?_ | refine w_ret ?_ | refine And.intro rfl ?_ | refine Exists.intro _ (And.intro rfl ?_)))
    refine ⟨_, divI_e hm (by omega), ?_⟩
    (repeat (first | refine w_seq ?_ | refine w_set ?_ | refine w_asg ?_ | refine w_gV ?_ | refine w_gT2 ?_ | refine w_gL2 ?_ | refine w_rt ?_ | refine w_drop ?_ | refine w_par ?_ | refine w_aug rfl ?_ | refine w_nx ?_ | refine w_and ?_ | refine w_or ?_ | refine w_not ?_ | refine w_tst ?_ | refine w_if ?_ | refine w_andV ?_ | refine w_orV ?_ | refine w_tup ?_ | refine w_lst ?_ | refine w_lstH ?_ | refine w_bin ?_ | refine w_un ?_ | refine w_fn ?_ | refine w_it ?_ | refine w_itA ?_ | refine w_cons ?_ | refine w_nil ?_ | refine w_V rfl ?_ | refine w_VO rfl ?_ | refine w_C ?_ | refine w_sl ?_ | refine w_so ?_ | refine w_no ?_ | refine w_call ?_ | refine w_join ?_ | refine w_setO ?_ | refine w_ixH ?_ | refine w_setIxH ?_ | refine w_cmpH ?_ | refine w_pop0H ?_ | refine w_appH ?_ | refine w_par3 ?_ | refine w_joinH ?_ | refine w_perm ?_ | refine w_split ?_ | refine w_notV ?_ | refine w_ret ?_ | refine And.intro rfl ?_ | refine Exists.intro _ (And.intro rfl ?_)))
    refine ⟨_, _, 1, rfl, g1, rfl, ?_⟩
    (repeat (first | refine w_seq ?_ | refine w_set ?_ | refine w_asg ?_ | refine w_gV ?_ | refine w_gT2 ?_ | refine w_gL2 ?_ | refine w_rt ?_ | refine w_drop ?_ | refine w_par ?_ | refine w_aug rfl ?_ | refine w_nx ?_ | refine w_and ?_ | refine w_or ?_ | refine w_not ?_ | refine w_tst ?_ | refine w_if ?_ | refine w_andV ?_ | refine w_orV ?_ | refine w_tup ?_ | refine w_lst ?_ | refine w_lstH ?_ | refine w_bin ?_ | refine w_un ?_ | refine w_fn ?_ | refine w_it ?_ | refine w_itA ?_ | refine w_cons ?_ | refine w_nil ?_ | refine w_V rfl ?_ | refine w_VO rfl ?_ | refine w_C ?_ | refine w_sl ?_ | refine w_so ?_ | refine w_no ?_ | refine w_call ?_ | refine w_join ?_ | refine w_setO ?_ | refine w_ixH ?_ | refine w_setIxH ?_ | refine w_cmpH ?_ | refine w_pop0H ?_ | refine w_appH ?_ | refine w_par3 ?_ | refine w_joinH ?_ | refine w_perm ?_ | refine w_split ?_ | refine w_notV ?_ | refine w_ret ?_ | refine And.intro rfl ?_ | refine Exists.intro _ (And.intro rfl ?_)))
    refine q _ _ (Int.emod_nonneg _ (by omega)) (Int.emod_lt_of_pos _ hm) (o.trans (only2_set _)) ⟨ds, cur / many, mix, c, set_get h1 _, (set_ne h3 _).trans h2, h3, h4, Int.ediv_nonneg h5 (by omega), h6, h7, h8, by omega⟩
  · (repeat (first | refine w_seq ?_ | refine w_set ?_ | refine w_asg ?_ | refine w_gV ?_ | refine w_gT2 ?_ | refine w_gL2 ?_ | refine w_rt ?_ | refine w_drop ?_ | refine w_par ?_ | refine w_aug rfl ?_ | refine w_nx ?_ | refine w_and ?_ | refine w_or ?_ | refine w_not ?_ | refine w_tst ?_ | refine w_if ?_ | refine w_andV ?_ | refine w_orV ?_ | refine w_tup ?_ | refine w_lst ?_ | refine w_lstH ?_ | refine w_bin ?_ | refine w_un ?_ | refine w_fn ?_ | refine w_it ?_ | refine w_itA ?_ | refine w_cons ?_ | refine w_nil ?_ | refine w_V rfl ?_ | refine w_VO rfl ?_ | refine w_C ?_ | refine w_sl ?_ | refine w_so ?_ | refine w_no ?_ | refine w_call ?_ | refine w_join ?_ | refine w_setO ?_ | refine w_ixH ?_ | refine w_setIxH ?_ | refine w_cmpH ?_ | refine w_pop0H ?_ | refine w_appH ?_ | refine w_par3 ?_ | refine w_joinH ?_ | refine w_perm ?_ | refine w_split ?_ | refine w_notV ?_ | refine w_ret ?_ | refine And.intro rfl ?_ | refine Exists.intro _ (And.intro rfl ?_)))
    refine ⟨_, _, _, rfl, g1, rfl, ?_⟩
    (repeat (first | refine w_seq ?_ | refine w_set ?_ | refine w_asg ?_ | refine w_gV ?_ | refine w_gT2 ?_ | refine w_gL2 ?_ | refine w_rt ?_ | refine w_drop ?_ | refine w_par ?_ | refine w_aug rfl ?_ | refine w_nx ?_ | refine w_and ?_ | refine w_or ?_ | refine w_not ?_ | refine w_tst ?_ | refine w_if ?_ | refine w_andV ?_ | refine w_orV ?_ | refine w_tup ?_ | refine w_lst ?_ | refine w_lstH ?_ | refine w_bin ?_ | refine w_un ?_ | refine w_fn ?_ | refine w_it ?_ | refine w_itA ?_ | refine w_cons ?_ | refine w_nil ?_ | refine w_V rfl ?_ | refine w_VO rfl ?_ | refine w_C ?_ | refine w_sl ?_ | refine w_so ?_ | refine w_no ?_ | refine w_call ?_ | refine w_join ?_ | refine w_setO ?_ | refine w_ixH ?_ | refine w_setIxH ?_ | refine w_cmpH ?_ | refine w_pop0H ?_ | refine w_appH ?_ | refine w_par3 ?_ | refine w_joinH ?_ | refine w_perm ?_ | refine w_split ?_ | refine w_notV ?_ | refine w_ret ?_ | refine And.intro rfl ?_ | refine Exists.intro _ (And.intro rfl ?_)))
    refine ⟨_, _, 3, rfl, g1, rfl, ?_⟩
    (repeat (first | refine w_seq ?_ | refine w_set ?_ | refine w_asg ?_ | refine w_gV ?_ | refine w_gT2 ?_ | refine w_gL2 ?_ | refine w_rt ?_ | refine w_drop ?_ | refine w_par ?_ | refine w_aug rfl ?_ | refine w_nx ?_ | refine w_and ?_ | refine w_or ?_ | refine w_not ?_ | refine w_tst ?_ | refine w_if ?_ | refine w_andV ?_ | refine w_orV ?_ | refine w_tup ?_ | refine w_lst ?_ | refine w_lstH ?_ | refine w_bin ?_ | refine w_un ?_ | refine w_fn ?_ | refine w_it ?_ | refine w_itA ?_ | refine w_cons ?_ | refine w_nil ?_ | refine w_V rfl ?_ | refine w_VO rfl ?_ | refine w_C ?_ | refine w_sl ?_ | refine w_so ?_ | refine w_no ?_ | refine w_call ?_ | refine w_join ?_ | refine w_setO ?_ | refine w_ixH ?_ | refine w_setIxH ?_ | refine w_cmpH ?_ | refine w_pop0H ?_ | refine w_appH ?_ | refine w_par3 ?_ | refine w_joinH ?_ | refine w_perm ?_ | refine w_split ?_ | refine w_notV ?_ | refine w_ret ?_ | refine And.intro rfl ?_ | refine Exists.intro _ (And.intro rfl ?_)))
    refine ⟨_, _, _, rfl, g3, rfl, ?_⟩
    (repeat (first | refine w_seq ?_ | refine w_set ?_ | refine w_asg ?_ | refine w_gV ?_ | refine w_gT2 ?_ | refine w_gL2 ?_ | refine w_rt ?_ | refine w_drop ?_ | refine w_par ?_ | refine w_aug rfl ?_ | refine w_nx ?_ | refine w_and ?_ | refine w_or ?_ | refine w_not ?_ | refine w_tst ?_ | refine w_if ?_ | refine w_andV ?_ | refine w_orV ?_ | refine w_tup ?_ | refine w_lst ?_ | refine w_lstH ?_ | refine w_bin ?_ | refine w_un ?_ | refine w_fn ?_ | refine w_it ?_ | refine w_itA ?_ | refine w_cons ?_ | refine w_nil ?_ | refine w_V rfl ?_ | refine w_VO rfl ?_ | refine w_C ?_ | refine w_sl ?_ | refine w_so ?_ | refine w_no ?_ | refine w_call ?_ | refine w_join ?_ | refine w_setO ?_ | refine w_ixH ?_ | refine w_setIxH ?_ | refine w_cmpH ?_ | refine w_pop0H ?_ | refine w_appH ?_ | refine w_par3 ?_ | refine w_joinH ?_ | refine w_perm ?_ | refine w_split ?_ | refine w_notV ?_ | refine w_ret ?_ | refine And.intro rfl ?_ | refine Exists.intro _ (And.intro rfl ?_)))
    refine ⟨_, _, _, rfl, g3, rfl, ?_⟩
    refine w_C ⟨_, rfl, w_C ⟨_, powI_e (by decide) (by decide) (by omega), ?_⟩⟩
    have p1 : (c + 1 + 3) ^ Int.toNat 3 = (c + 1 + 3) * (c + 1 + 3) * (c + 1 + 3) := by
      show (c + 1 + 3) ^ 3 = _
      rw [Int.pow_succ, Int.pow_succ, Int.pow_succ, Int.pow_zero, Int.one_mul]
    have p2 : (c + 1 + 3) ^ Int.toNat 3 ≤ 1000004 * 1000004 * 1000004 := by
      rw [p1]
      exact Int.mul_le_mul (Int.mul_le_mul (by omega) (by omega) (by omega) (by decide)) (by omega) (by omega) (by decide)
    have p3 : (0 : Int) ≤ (c + 1 + 3) ^ Int.toNat 3 := by
      rw [p1]
      exact Int.mul_nonneg (Int.mul_nonneg (by omega) (by omega)) (by omega)
    generalize (c + 1 + 3) ^ Int.toNat 3 = y at p2 p3
    refine ⟨_, mulI_e (by omega) (by omega) (by omega), ?_⟩
    have p4 : (0 : Int) ≤ (mix + 7) * y := Int.mul_nonneg (by omega) p3
    generalize (mix + 7) * y = z at p4
    (repeat (first | refine w_seq ?_ | refine w_set ?_ | refine w_asg ?_ | refine w_gV ?_ | refine w_gT2 ?_ | refine w_gL2 ?_ | refine w_rt ?_ | refine w_drop ?_ | refine w_par ?_ | refine w_aug rfl ?_ | refine w_nx ?_ | refine w_and ?_ | refine w_or ?_ | refine w_not ?_ | refine w_tst ?_ | refine w_if ?_ | refine w_andV ?_ | refine w_orV ?_ | refine w_tup ?_ | refine w_lst ?_ | refine w_lstH ?_ | refine w_bin ?_ | refine w_un ?_ | refine w_fn ?_ | refine w_it ?_ | refine w_itA ?_ | refine w_cons ?_ | refine w_nil ?_ | refine w_V rfl ?_ | refine w_VO rfl ?_ | refine w_C ?_ | refine w_sl ?_ | refine w_so ?_ | refine w_no ?_ | refine w_call ?_ | refine w_join ?_ | refine w_setO ?_ | refine w_ixH ?_ | refine w_setIxH ?_ | refine w_cmpH ?_ | refine w_pop0H ?_ | refine w_appH ?_ | refine w_par3 ?_ | refine w_joinH ?_ | refine w_perm ?_ | refine w_split ?_ | refine w_notV ?_ | refine w_ret ?_ | refine And.intro rfl ?_ | refine Exists.intro _ (And.intro rfl ?_)))
    refine ⟨_, _, _, rfl, g3, rfl, ?_⟩
    refine ⟨_, mulI_e (by decide) (by decide) (by omega), ?_⟩
    refine ⟨_, rfl, ?_⟩
    refine w_bin (w_bin (w_C (w_C ⟨_, powI_e (by decide) (by decide) (by decide), w_C ⟨_, rfl, _, modI_e (by decide), ?_⟩⟩)))
    generalize hx : (z + 1000081 * (c + 1)) % (2 ^ Int.toNat 61 - 1) = x
    have x0 : 0 ≤ x := by rw [← hx]; exact Int.emod_nonneg _ (by decide)
    have x1 : x < 2 ^ 61 := by rw [← hx]; exact Int.lt_of_lt_of_le (Int.emod_lt_of_pos _ (by decide)) (by decide)
    (repeat (first | refine w_seq ?_ | refine w_set ?_ | refine w_asg ?_ | refine w_gV ?_ | refine w_gT2 ?_ | refine w_gL2 ?_ | refine w_rt ?_ | refine w_drop ?_ | refine w_par ?_ | refine w_aug rfl ?_ | refine w_nx ?_ | refine w_and ?_ | refine w_or ?_ | refine w_not ?_ | refine w_tst ?_ | refine w_if ?_ | refine w_andV ?_ | refine w_orV ?_ | refine w_tup ?_ | refine w_lst ?_ | refine w_lstH ?_ | refine w_bin ?_ | refine w_un ?_ | refine w_fn ?_ | refine w_it ?_ | refine w_itA ?_ | refine w_cons ?_ | refine w_nil ?_ | refine w_V rfl ?_ | refine w_VO rfl ?_ | refine w_C ?_ | refine w_sl ?_ | refine w_so ?_ | refine w_no ?_ | refine w_call ?_ | refine w_join ?_ | refine w_setO ?_ | refine w_ixH ?_ | refine w_setIxH ?_ | refine w_cmpH ?_ | refine w_pop0H ?_ | refine w_appH ?_ | refine w_par3 ?_ | refine w_joinH ?_ | refine w_perm ?_ | refine w_split ?_ | refine w_notV ?_ | refine w_ret ?_ | refine And.intro rfl ?_ | refine Exists.intro _ (And.intro rfl ?_)))
    refine ⟨_, powI_e (by decide) (by decide) (by omega), ?_⟩
    (repeat (first | refine w_seq ?_ | refine w_set ?_ | refine w_asg ?_ | refine w_gV ?_ | refine w_gT2 ?_ | refine w_gL2 ?_ | refine w_rt ?_ | refine w_drop ?_ | refine w_par ?_ | refine w_aug rfl ?_ | refine w_nx ?_ | refine w_and ?_ | refine w_or ?_ | refine w_not ?_ | refine w_tst ?_ | refine w_if ?_ | refine w_andV ?_ | refine w_orV ?_ | refine w_tup ?_ | refine w_lst ?_ | refine w_lstH ?_ | refine w_bin ?_ | refine w_un ?_ | refine w_fn ?_ | refine w_it ?_ | refine w_itA ?_ | refine w_cons ?_ | refine w_nil ?_ | refine w_V rfl ?_ | refine w_VO rfl ?_ | refine w_C ?_ | refine w_sl ?_ | refine w_so ?_ | refine w_no ?_ | refine w_call ?_ | refine w_join ?_ | refine w_setO ?_ | refine w_ixH ?_ | refine w_setIxH ?_ | refine w_cmpH ?_ | refine w_pop0H ?_ | refine w_appH ?_ | refine w_par3 ?_ | refine w_joinH ?_ | refine w_perm ?_ | refine w_split ?_ | refine w_notV ?_ | refine w_ret ?_ | refine And.intro rfl ?_ | refine Exists.intro _ (And.intro rfl ?_)))
    refine ⟨_, powI_e (by decide) (by decide) (by decide), ?_⟩
    (repeat (first | refine w_seq ?_ | refine w_set ?_ | refine w_asg ?_ | refine w_gV ?_ | refine w_gT2 ?_ | refine w_gL2 ?_ | refine w_rt ?_ | refine w_drop ?_ | refine w_par ?_ | refine w_aug rfl ?_ | refine w_nx ?_ | refine w_and ?_ | refine w_or ?_ | refine w_not ?_ | refine w_tst ?_ | refine w_if ?_ | refine w_andV ?_ | refine w_orV ?_ | refine w_tup ?_ | refine w_lst ?_ | refine w_lstH ?_ | refine w_bin ?_ | refine w_un ?_ | refine w_fn ?_ | refine w_it ?_ | refine w_itA ?_ | refine w_cons ?_ | refine w_nil ?_ | refine w_V rfl ?_ | refine w_VO rfl ?_ | refine w_C ?_ | refine w_sl ?_ | refine w_so ?_ | refine w_no ?_ | refine w_call ?_ | refine w_join ?_ | refine w_setO ?_ | refine w_ixH ?_ | refine w_setIxH ?_ | refine w_cmpH ?_ | refine w_pop0H ?_ | refine w_appH ?_ | refine w_par3 ?_ | refine w_joinH ?_ | refine w_perm ?_ | refine w_split ?_ | refine w_notV ?_ | refine w_ret ?_ | refine And.intro rfl ?_ | refine Exists.intro _ (And.intro rfl ?_)))
    refine ⟨_, modI_e (by decide), ?_⟩
    (repeat (first | refine w_seq ?_ | refine w_set ?_ | refine w_asg ?_ | refine w_gV ?_ | refine w_gT2 ?_ | refine w_gL2 ?_ | refine w_rt ?_ | refine w_drop ?_ | refine w_par ?_ | refine w_aug rfl ?_ | refine w_nx ?_ | refine w_and ?_ | refine w_or ?_ | refine w_not ?_ | refine w_tst ?_ | refine w_if ?_ | refine w_andV ?_ | refine w_orV ?_ | refine w_tup ?_ | refine w_lst ?_ | refine w_lstH ?_ | refine w_bin ?_ | refine w_un ?_ | refine w_fn ?_ | refine w_it ?_ | refine w_itA ?_ | refine w_cons ?_ | refine w_nil ?_ | refine w_V rfl ?_ | refine w_VO rfl ?_ | refine w_C ?_ | refine w_sl ?_ | refine w_so ?_ | refine w_no ?_ | refine w_call ?_ | refine w_join ?_ | refine w_setO ?_ | refine w_ixH ?_ | refine w_setIxH ?_ | refine w_cmpH ?_ | refine w_pop0H ?_ | refine w_appH ?_ | refine w_par3 ?_ | refine w_joinH ?_ | refine w_perm ?_ | refine w_split ?_ | refine w_notV ?_ | refine w_ret ?_ | refine And.intro rfl ?_ | refine Exists.intro _ (And.intro rfl ?_)))
    refine ⟨_, divI_e (by decide) (by decide), ?_⟩
    (repeat (first | refine w_seq ?_ | refine w_set ?_ | refine w_asg ?_ | refine w_gV ?_ | refine w_gT2 ?_ | refine w_gL2 ?_ | refine w_rt ?_ | refine w_drop ?_ | refine w_par ?_ | refine w_aug rfl ?_ | refine w_nx ?_ | refine w_and ?_ | refine w_or ?_ | refine w_not ?_ | refine w_tst ?_ | refine w_if ?_ | refine w_andV ?_ | refine w_orV ?_ | refine w_tup ?_ | refine w_lst ?_ | refine w_lstH ?_ | refine w_bin ?_ | refine w_un ?_ | refine w_fn ?_ | refine w_it ?_ | refine w_itA ?_ | refine w_cons ?_ | refine w_nil ?_ | refine w_V rfl ?_ | refine w_VO rfl ?_ | refine w_C ?_ | refine w_sl ?_ | refine w_so ?_ | refine w_no ?_ | refine w_call ?_ | refine w_join ?_ | refine w_setO ?_ | refine w_ixH ?_ | refine w_setIxH ?_ | refine w_cmpH ?_ | refine w_pop0H ?_ | refine w_appH ?_ | refine w_par3 ?_ | refine w_joinH ?_ | refine w_perm ?_ | refine w_split ?_ | refine w_notV ?_ | refine w_ret ?_ | refine And.intro rfl ?_ | refine Exists.intro _ (And.intro rfl ?_)))
    refine ⟨_, modI_e hm, ?_⟩
    exact q _ _ (Int.emod_nonneg _ (by omega)) (Int.emod_lt_of_pos _ hm) (o.trans (only2_set _)) ⟨ds, cur, mix, c + 1, set_get h1 _, (set_ne h3 _).trans h2, h3, h4, h5, h6, h7, by omega, by omega⟩
theorem sp_law_draw_2 : ∀ ds hp r, ds.length = 2 → n_law_draw_2 ds hp = some r → fnOf 4 b_law_draw_2 ds hp = some r := fun _ _ _ _ h => h

/-- _law_sieves(source, most): slots 0:source 1:most 2:way 3:found 4:time 5:some -/
noncomputable def b_law_sieves : M Fl :=
    (mSeq (mAsg (mCall 2 n_law_draw_2 (mCons (mVar 0) (mCons (mC (.int 4)) mNil))) (gV 2))
    (mSeq (mAsg (mC (.str [])) (gV 3))
    (mSeq (mFor (mItA rng1 (mCons (mCall 2 n_law_draw_2 (mCons (mVar 0) (mCons (mBin addI (mVar 1) (mC (.int 1))) mNil))) mNil)) (gV 4) (mSeq (mAsg (mLst (mCons (mBin ixF (mC (.str [84, 83])) (mCall 2 n_law_draw_2 (mCons (mVar 0) (mCons (mC (.int 2)) mNil)))) (mCons (mBin ixF (mC (.str [84, 84, 84, 83])) (mCall 2 n_law_draw_2 (mCons (mVar 0) (mCons (mC (.int 4)) mNil)))) (mCons (mBin ixF (mC (.str [83, 83, 83, 84])) (mCall 2 n_law_draw_2 (mCons (mVar 0) (mCons (mC (.int 4)) mNil)))) (mCons (mBin ixF (mC (.str [84, 83])) (mBin modI (mVar 4) (mC (.int 2)))) mNil))))) (gV 5))
    (mAsg (mBin addS (mVar 3) (mBin ixF (mVar 5) (mVar 2))) (gV 3))))
    (mRet (mVar 3)))))
noncomputable abbrev n_law_sieves : Fn := fnOf 6 b_law_sieves
-- uses: SRC
theorem ix_text {x : List Nat} {i : Int} (h0 : 0 ≤ i) (h1 : i < x.length) (hl : x.length ≤ 16777216) : ∃ c ∈ x, ixF (.str x) (.int i) = some (.str [c]) := by
  have hi : i.toNat < x.length := by omega
  refine ⟨x[i.toNat], List.getElem_mem hi, ixS_e hl ?_⟩
  unfold atI ixN
  rw [if_pos h0, if_pos h1]
  show x[i.toNat]? = _
  exact List.getElem?_eq_getElem hi
theorem ix_list {l : List D} {i : Int} (h0 : 0 ≤ i) (h1 : i < l.length) : ∃ d ∈ l, ixF (.lst l) (.int i) = some d := by
  have hi : i.toNat < l.length := by omega
  refine ⟨l[i.toNat], List.getElem_mem hi, ?_⟩
  show atI l i = _
  unfold atI ixN
  rw [if_pos h0, if_pos h1]
  show l[i.toNat]? = _
  exact List.getElem?_eq_getElem hi
theorem w_law_sieves {r r0 : Nat} {most n : Int} {hp : List AO} {Q : D → List AO → Prop} (h0 : 0 ≤ most) (h1 : most ≤ 1000) (hn : n ≤ 900000) (h : SrcAt hp r r0 n)
    (q : ∀ (p : List Nat) hp', TSs p → (p.length : Int) ≤ most → Only2 r r0 hp hp' → SrcAt hp' r r0 (n + 3 * most + 2) → Q (.str p) hp') : FnWp n_law_sieves [.ref r, .int most] hp Q := by
  apply w_fnOf
  unfold b_law_sieves
  (repeat (first | refine w_seq ?_ | refine w_set ?_ | refine w_asg ?_ | refine w_gV ?_ | refine w_gT2 ?_ | refine w_gL2 ?_ | refine w_rt ?_ | refine w_drop ?_ | refine w_par ?_ | refine w_aug rfl ?_ | refine w_nx ?_ | refine w_and ?_ | refine w_or ?_ | refine w_not ?_ | refine w_tst ?_ | refine w_if ?_ | refine w_andV ?_ | refine w_orV ?_ | refine w_tup ?_ | refine w_lst ?_ | refine w_lstH ?_ | refine w_bin ?_ | refine w_un ?_ | refine w_fn ?_ | refine w_it ?_ | refine w_itA ?_ | refine w_cons ?_ | refine w_nil ?_ | refine w_V rfl ?_ | refine w_VO rfl ?_ | refine w_C ?_ | refine w_sl ?_ | refine w_so ?_ | refine w_no ?_ | refine w_call ?_ | refine w_join ?_ | refine w_setO ?_ | refine w_ixH ?_ | refine w_setIxH ?_ | refine w_cmpH ?_ | refine w_pop0H ?_ | refine w_appH ?_ | refine w_par3 ?_ | refine w_joinH ?_ | refine w_perm ?_ | refine w_split ?_ | refine w_notV ?_ | refine w_ret ?_ | refine And.intro rfl ?_ | refine Exists.intro _ (And.intro rfl ?_)))
  refine w_law_draw_2 (by decide) (by decide) (by omega) h fun way hp1 y0 y1 o1 a1 => ?_
  refine w_seq (w_set (w_C ?_))
  refine w_seq (w_bnd ?_)
  (repeat (first | refine w_seq ?_ | refine w_set ?_ | refine w_asg ?_ | refine w_gV ?_ | refine w_gT2 ?_ | refine w_gL2 ?_ | refine w_rt ?_ | refine w_drop ?_ | refine w_par ?_ | refine w_aug rfl ?_ | refine w_nx ?_ | refine w_and ?_ | refine w_or ?_ | refine w_not ?_ | refine w_tst ?_ | refine w_if ?_ | refine w_andV ?_ | refine w_orV ?_ | refine w_tup ?_ | refine w_lst ?_ | refine w_lstH ?_ | refine w_bin ?_ | refine w_un ?_ | refine w_fn ?_ | refine w_it ?_ | refine w_itA ?_ | refine w_cons ?_ | refine w_nil ?_ | refine w_V rfl ?_ | refine w_VO rfl ?_ | refine w_C ?_ | refine w_sl ?_ | refine w_so ?_ | refine w_no ?_ | refine w_call ?_ | refine w_join ?_ | refine w_setO ?_ | refine w_ixH ?_ | refine w_setIxH ?_ | refine w_cmpH ?_ | refine w_pop0H ?_ | refine w_appH ?_ | refine w_par3 ?_ | refine w_joinH ?_ | refine w_perm ?_ | refine w_split ?_ | refine w_notV ?_ | refine w_ret ?_ | refine And.intro rfl ?_ | refine Exists.intro _ (And.intro rfl ?_)))
  refine w_law_draw_2 (by omega) (by omega) (by omega) a1 fun k hp2 k0 k1 o2 a2 => ?_
  (repeat (first | refine w_seq ?_ | refine w_set ?_ | refine w_asg ?_ | refine w_gV ?_ | refine w_gT2 ?_ | refine w_gL2 ?_ | refine w_rt ?_ | refine w_drop ?_ | refine w_par ?_ | refine w_aug rfl ?_ | refine w_nx ?_ | refine w_and ?_ | refine w_or ?_ | refine w_not ?_ | refine w_tst ?_ | refine w_if ?_ | refine w_andV ?_ | refine w_orV ?_ | refine w_tup ?_ | refine w_lst ?_ | refine w_lstH ?_ | refine w_bin ?_ | refine w_un ?_ | refine w_fn ?_ | refine w_it ?_ | refine w_itA ?_ | refine w_cons ?_ | refine w_nil ?_ | refine w_V rfl ?_ | refine w_VO rfl ?_ | refine w_C ?_ | refine w_sl ?_ | refine w_so ?_ | refine w_no ?_ | refine w_call ?_ | refine w_join ?_ | refine w_setO ?_ | refine w_ixH ?_ | refine w_setIxH ?_ | refine w_cmpH ?_ | refine w_pop0H ?_ | refine w_appH ?_ | refine w_par3 ?_ | refine w_joinH ?_ | refine w_perm ?_ | refine w_split ?_ | refine w_notV ?_ | refine w_ret ?_ | refine And.intro rfl ?_ | refine Exists.intro _ (And.intro rfl ?_)))
  refine ⟨_, rng1_e (by omega) (by omega), ?_⟩
  refine w_forL (e := fun i : Nat => D.int (0 + (i : Nat))) (fun pre s' => ∃ (f : List Nat) (x y : Option SV) (hp3 : List AO), s' = st [vl (.ref r), vl (.int most), vl (.int way), vl (.str f), x, y] hp3 ∧ TSs f ∧ f.length = pre.length ∧ Only2 r r0 hp hp3 ∧ SrcAt hp3 r r0 (n + 2 + 3 * pre.length)) (List.range k.toNat) [] _ ⟨[], none, none, hp2, rfl, fun _ h => (by cases h), rfl, o1.trans o2, a2.le (by simp; omega)⟩ ?_ ?_
  · rintro pre i post s1 hE ⟨f, x, y, hp3, rfl, tf, lf, o3, a3⟩
    have hlt : pre.length < k.toNat := by
      have := congrArg List.length hE
      rw [List.nil_append, List.length_range, List.length_append, List.length_cons] at this
      omega
    (repeat (first | refine w_seq ?_ | refine w_set ?_ | refine w_asg ?_ | refine w_gV ?_ | refine w_gT2 ?_ | refine w_gL2 ?_ | refine w_rt ?_ | refine w_drop ?_ | refine w_par ?_ | refine w_aug rfl ?_ | refine w_nx ?_ | refine w_and ?_ | refine w_or ?_ | refine w_not ?_ | refine w_tst ?_ | refine w_if ?_ | refine w_andV ?_ | refine w_orV ?_ | refine w_tup ?_ | refine w_lst ?_ | refine w_lstH ?_ | refine w_bin ?_ | refine w_un ?_ | refine w_fn ?_ | refine w_it ?_ | refine w_itA ?_ | refine w_cons ?_ | refine w_nil ?_ | refine w_V rfl ?_ | refine w_VO rfl ?_ | refine w_C ?_ | refine w_sl ?_ | refine w_so ?_ | refine w_no ?_ | refine w_call ?_ | refine w_join ?_ | refine w_setO ?_ | refine w_ixH ?_ | refine w_setIxH ?_ | refine w_cmpH ?_ | refine w_pop0H ?_ | refine w_appH ?_ | refine w_par3 ?_ | refine w_joinH ?_ | refine w_perm ?_ | refine w_split ?_ | refine w_notV ?_ | refine w_ret ?_ | refine And.intro rfl ?_ | refine Exists.intro _ (And.intro rfl ?_)))
    refine w_law_draw_2 (by decide) (by decide) (by omega) a3 fun u hp4 u0 u1 o4 a4 => ?_
    obtain ⟨c1, m1, e1⟩ := ix_text (x := [84, 83]) u0 u1 (by decide)
    refine ⟨_, e1, ?_⟩
    (repeat (first | refine w_seq ?_ | refine w_set ?_ | refine w_asg ?_ | refine w_gV ?_ | refine w_gT2 ?_ | refine w_gL2 ?_ | refine w_rt ?_ | refine w_drop ?_ | refine w_par ?_ | refine w_aug rfl ?_ | refine w_nx ?_ | refine w_and ?_ | refine w_or ?_ | refine w_not ?_ | refine w_tst ?_ | refine w_if ?_ | refine w_andV ?_ | refine w_orV ?_ | refine w_tup ?_ | refine w_lst ?_ | refine w_lstH ?_ | refine w_bin ?_ | refine w_un ?_ | refine w_fn ?_ | refine w_it ?_ | refine w_itA ?_ | refine w_cons ?_ | refine w_nil ?_ | refine w_V rfl ?_ | refine w_VO rfl ?_ | refine w_C ?_ | refine w_sl ?_ | refine w_so ?_ | refine w_no ?_ | refine w_call ?_ | refine w_join ?_ | refine w_setO ?_ | refine w_ixH ?_ | refine w_setIxH ?_ | refine w_cmpH ?_ | refine w_pop0H ?_ | refine w_appH ?_ | refine w_par3 ?_ | refine w_joinH ?_ | refine w_perm ?_ | refine w_split ?_ | refine w_notV ?_ | refine w_ret ?_ | refine And.intro rfl ?_ | refine Exists.intro _ (And.intro rfl ?_)))
    refine w_law_draw_2 (by decide) (by decide) (by omega) a4 fun v hp5 v0 v1 o5 a5 => ?_
    obtain ⟨c2, m2, e2⟩ := ix_text (x := [84, 84, 84, 83]) v0 v1 (by decide)
    refine ⟨_, e2, ?_⟩
    (repeat (first | refine w_seq ?_ | refine w_set ?_ | refine w_asg ?_ | refine w_gV ?_ | refine w_gT2 ?_ | refine w_gL2 ?_ | refine w_rt ?_ | refine w_drop ?_ | refine w_par ?_ | refine w_aug rfl ?_ | refine w_nx ?_ | refine w_and ?_ | refine w_or ?_ | refine w_not ?_ | refine w_tst ?_ | refine w_if ?_ | refine w_andV ?_ | refine w_orV ?_ | refine w_tup ?_ | refine w_lst ?_ | refine w_lstH ?_ | refine w_bin ?_ | refine w_un ?_ | refine w_fn ?_ | refine w_it ?_ | refine w_itA ?_ | refine w_cons ?_ | refine w_nil ?_ | refine w_V rfl ?_ | refine w_VO rfl ?_ | refine w_C ?_ | refine w_sl ?_ | refine w_so ?_ | refine w_no ?_ | refine w_call ?_ | refine w_join ?_ | refine w_setO ?_ | refine w_ixH ?_ | refine w_setIxH ?_ | refine w_cmpH ?_ | refine w_pop0H ?_ | refine w_appH ?_ | refine w_par3 ?_ | refine w_joinH ?_ | refine w_perm ?_ | refine w_split ?_ | refine w_notV ?_ | refine w_ret ?_ | refine And.intro rfl ?_ | refine Exists.intro _ (And.intro rfl ?_)))
    refine w_law_draw_2 (by decide) (by decide) (by omega) a5 fun t hp6 t0 t1 o6 a6 => ?_
    obtain ⟨c3, m3, e3⟩ := ix_text (x := [83, 83, 83, 84]) t0 t1 (by decide)
    refine ⟨_, e3, ?_⟩
    (repeat (first | refine w_seq ?_ | refine w_set ?_ | refine w_asg ?_ | refine w_gV ?_ | refine w_gT2 ?_ | refine w_gL2 ?_ | refine w_rt ?_ | refine w_drop ?_ | refine w_par ?_ | refine w_aug rfl ?_ | refine w_nx ?_ | refine w_and ?_ | refine w_or ?_ | refine w_not ?_ | refine w_tst ?_ | refine w_if ?_ | refine w_andV ?_ | refine w_orV ?_ | refine w_tup ?_ | refine w_lst ?_ | refine w_lstH ?_ | refine w_bin ?_ | refine w_un ?_ | refine w_fn ?_ | refine w_it ?_ | refine w_itA ?_ | refine w_cons ?_ | refine w_nil ?_ | refine w_V rfl ?_ | refine w_VO rfl ?_ | refine w_C ?_ | refine w_sl ?_ | refine w_so ?_ | refine w_no ?_ | refine w_call ?_ | refine w_join ?_ | refine w_setO ?_ | refine w_ixH ?_ | refine w_setIxH ?_ | refine w_cmpH ?_ | refine w_pop0H ?_ | refine w_appH ?_ | refine w_par3 ?_ | refine w_joinH ?_ | refine w_perm ?_ | refine w_split ?_ | refine w_notV ?_ | refine w_ret ?_ | refine And.intro rfl ?_ | refine Exists.intro _ (And.intro rfl ?_)))
    refine ⟨_, modI_e (by decide), ?_⟩
    obtain ⟨c4, m4, e4⟩ := ix_text (x := [84, 83]) (i := (0 + (i : Int)) % 2) (Int.emod_nonneg _ (by decide)) (Int.emod_lt_of_pos _ (by decide)) (by decide)
    refine ⟨_, e4, ?_⟩
    (repeat (first | refine w_seq ?_ | refine w_set ?_ | refine w_asg ?_ | refine w_gV ?_ | refine w_gT2 ?_ | refine w_gL2 ?_ | refine w_rt ?_ | refine w_drop ?_ | refine w_par ?_ | refine w_aug rfl ?_ | refine w_nx ?_ | refine w_and ?_ | refine w_or ?_ | refine w_not ?_ | refine w_tst ?_ | refine w_if ?_ | refine w_andV ?_ | refine w_orV ?_ | refine w_tup ?_ | refine w_lst ?_ | refine w_lstH ?_ | refine w_bin ?_ | refine w_un ?_ | refine w_fn ?_ | refine w_it ?_ | refine w_itA ?_ | refine w_cons ?_ | refine w_nil ?_ | refine w_V rfl ?_ | refine w_VO rfl ?_ | refine w_C ?_ | refine w_sl ?_ | refine w_so ?_ | refine w_no ?_ | refine w_call ?_ | refine w_join ?_ | refine w_setO ?_ | refine w_ixH ?_ | refine w_setIxH ?_ | refine w_cmpH ?_ | refine w_pop0H ?_ | refine w_appH ?_ | refine w_par3 ?_ | refine w_joinH ?_ | refine w_perm ?_ | refine w_split ?_ | refine w_notV ?_ | refine w_ret ?_ | refine And.intro rfl ?_ | refine Exists.intro _ (And.intro rfl ?_)))
    obtain ⟨d, hd, e5⟩ := ix_list (l := [D.str [c1], .str [c2], .str [c3], .str [c4]]) y0 y1
    have hc : ∃ c, d = .str [c] ∧ (c = 84 ∨ c = 83) := by
      have d1 : d = .str [c1] ∨ d = .str [c2] ∨ d = .str [c3] ∨ d = .str [c4] := by simpa using hd
      rcases d1 with rfl | rfl | rfl | rfl
      · exact ⟨c1, rfl, by simpa using m1⟩
      · exact ⟨c2, rfl, by simp at m2; omega⟩
      · exact ⟨c3, rfl, by simp at m3; omega⟩
      · exact ⟨c4, rfl, by simpa using m4⟩
    obtain ⟨c, rfl, hc⟩ := hc
    refine ⟨_, e5, _, addS_e (by show f.length + 1 ≤ _; omega), ?_⟩
    refine ⟨f ++ [c], vl (.int (0 + (i : Nat))), vl (.lst [.str [c1], .str [c2], .str [c3], .str [c4]]), hp6, rfl, ?_, by simp [lf], ((o3.trans o4).trans o5).trans o6, a6.le ?_⟩
    · intro z hz
      rcases List.mem_append.mp hz with hz | hz
      · exact tf z hz
      · rw [List.mem_singleton.mp hz]
        exact hc
    · rw [List.length_append, List.length_singleton]
      omega
  · rintro s1 ⟨f, x, y, hp3, rfl, tf, lf, o3, a3⟩
    rw [List.nil_append, List.length_range] at lf a3
    exact w_rt (w_V rfl (q f hp3 tf (by omega) o3 (a3.le (by omega))))
theorem sp_law_sieves : ∀ ds hp r, ds.length = 2 → n_law_sieves ds hp = some r → fnOf 6 b_law_sieves ds hp = some r := fun _ _ _ _ h => h

/-- _law_runs(row): slots 0:row 1:found 2:letter -/
noncomputable def b_law_runs : M Fl :=
    (mSeq (mSetO 1 mNil)
    (mSeq (mFor (mIt itS (mVar 0)) (gV 2) (mIf (mAnd (mTst (mOwn 1 neO (mLst mNil))) (mTst (mBin eqSc (mBin ixF (mOwn 1 ixO (mUn negI (mC (.int 1)))) (mC (.int 0))) (mVar 2)))) (mSetIxO 1 (mTup (mCons (mVar 2) (mCons (mBin addI (mBin ixF (mOwn 1 ixO (mUn negI (mC (.int 1)))) (mC (.int 1))) (mC (.int 1))) mNil))) (mUn negI (mC (.int 1)))) (mDrop (mAppO 1 (mTup (mCons (mVar 2) (mCons (mC (.int 1)) mNil)))))))
    (mRet (mVar 1))))
noncomputable abbrev n_law_runs : Fn := fnOf 3 b_law_runs
-- uses: runs_of
theorem law_runs_e {s : List Nat} {hp : List AO} (h : rok s) : n_law_runs [.str s] hp = some (.ok (.lst ((runs s).map encR)) hp) := sp_runs_of [.str s] hp _ rfl (runs_of_e h)
theorem sp_law_runs : ∀ ds hp r, ds.length = 1 → n_law_runs ds hp = some r → fnOf 3 b_law_runs ds hp = some r := fun _ _ _ _ h => h

-- uses: runs_of
theorem kp_mem {k : Nat → Bool} {R : List (Nat × Nat)} {c : Nat} (h : c ∈ kp k R) : ∃ p ∈ R, p.1 = c := by
  obtain ⟨p, hp, e⟩ := List.mem_filterMap.mp h
  refine ⟨p, hp, ?_⟩
  split at e
  · injection e
  · cases e
theorem sv1_mem {l : List Nat} {x c : Nat} (h : c ∈ sv1 l x) : c ∈ l := by
  obtain ⟨p, hp, rfl⟩ := kp_mem h
  exact runs_mem l p hp
theorem sv1_len (l : List Nat) (x : Nat) : (sv1 l x).length ≤ l.length := Nat.le_trans (List.length_filterMap_le _ _) (runs_len l)
theorem rok_sv1 {l : List Nat} {x : Nat} (h : rok l) : rok (sv1 l x) := ⟨Nat.le_trans (sv1_len l x) h.1, fun c hc => h.2 c (sv1_mem hc)⟩
theorem rok_sv {l : List Nat} (h : rok l) : ∀ p : List Nat, rok (sv l p)
  | [] => h
  | c :: p => rok_sv (rok_sv1 h) p
theorem sv1_fm (s : List Nat) (c : Nat) : (runs s).filterMap (fun p => if decide (decide (p.2 = 1) = decide (c = 83)) = true then some (D.str [p.1]) else none) = (sv1 s c).map fun c => D.str [c] := by
  unfold sv1 kp
  rw [List.map_filterMap]
  congr 1
  funext p
  split <;> rfl

/-- _law_sieved(row, sieves): slots 0:row 1:sieves 2:one 3:letter 4:span -/
noncomputable def b_law_sieved : M Fl :=
    (mSeq (mFor (mIt itS (mVar 1)) (gV 2) (mAsg (mJoin (mC (.str [])) (mLc (mIt itL (mCall 1 n_law_runs (mCons (mVar 0) mNil))) (gT (gC (gV 3) (gC (gV 4) gN)) 2) (mTst (mBin eqSc (mBin gtI (mVar 4) (mC (.int 1))) (mBin eqSc (mVar 2) (mC (.str [84]))))) (mVar 3) [3, 4])) (gV 0)))
    (mRet (mVar 0)))
noncomputable abbrev n_law_sieved : Fn := fnOf 5 b_law_sieved
-- uses: runs_of SV1
theorem fm_congr {α β : Type} {f g : α → Option β} : ∀ {l : List α}, (∀ a ∈ l, f a = g a) → l.filterMap f = l.filterMap g
  | [], _ => rfl
  | a :: l, h => by
    rw [List.filterMap_cons, List.filterMap_cons, h a List.mem_cons_self, fm_congr fun b hb => h b (List.mem_cons_of_mem _ hb)]
theorem sv1_fm2 (s : List Nat) (c : Nat) (hc : c = 84 ∨ c = 83) : (runs s).filterMap (fun p => if decide (decide ((p.2 : Int) > 1) = decide (c = 84)) = true then some (D.str [p.1]) else none) = (sv1 s c).map fun c => D.str [c] := by
  rw [← sv1_fm]
  have hn : ∀ p ∈ runs s, 1 ≤ p.2 := by
    have key : ∀ R : List (Nat × Nat), vld R → ∀ p ∈ R, 1 ≤ p.2 := by
      intro R
      induction R with
      | nil => intro _ p hp; cases hp
      | cons x R ih =>
        intro h p hp
        obtain ⟨a, n⟩ := x
        rcases List.mem_cons.mp hp with hp | hp
        · rw [hp]
          exact vld_pos h
        · exact ih (vld_tail h) p hp
    exact key _ (runs_vld s)
  refine fm_congr fun p hp => ?_
  have h1 := hn p hp
  have : (decide (decide ((p.2 : Int) > 1) = decide (c = 84))) = decide (decide (p.2 = 1) = decide (c = 83)) := by
    rcases hc with rfl | rfl
    · by_cases h : p.2 = 1
      · have h2 : ¬ (p.2 : Int) > 1 := by omega
        simp [h, h2]
      · have h2 : (p.2 : Int) > 1 := by omega
        simp [h, h2]
    · by_cases h : p.2 = 1
      · have h2 : ¬ (p.2 : Int) > 1 := by omega
        simp [h, h2]
      · have h2 : (p.2 : Int) > 1 := by omega
        simp [h, h2]
  rw [this]
theorem w_law_sieved {s p : List Nat} {hp : List AO} {Q : D → List AO → Prop} (h : rok s) (ht : TSs p) (q : Q (.str (sv s p)) hp) : FnWp n_law_sieved [.str s, .str p] hp Q := by
  apply w_fnOf
  unfold b_law_sieved
  refine w_seq (w_for (fun c : Nat => D.str [c]) p (fun pre s' => ∃ x, s' = st [vl (.str (sv s pre)), vl (.str p), x, none, none] hp) ?_ ?_ ?_)
  · exact w_it (w_V rfl ⟨_, rfl, rfl, none, rfl⟩)
  · rintro pre a post s1 hE ⟨x, rfl⟩
    have hta : a = 84 ∨ a = 83 := ht a (by rw [hE]; exact List.mem_append_right _ List.mem_cons_self)
    have hr := rok_sv h pre
    have e0 : sv s (pre ++ [a]) = sv1 (sv s pre) a := by rw [sv_app]; rfl
    rw [e0]
    generalize sv s pre = l at hr
    have hrl := runs_len l
    have hl := hr.1
    refine w_gV (w_set (w_join (w_lc encR (runs l) (fun _ s' => s' = st [vl (.str l), vl (.str p), vl (.str [a]), none, none] hp) (fun p => if decide (decide ((p.2 : Int) > 1) = decide (a = 84)) = true then some (D.str [p.1]) else none) (by omega) ?_ ?_ ?_)))
    · exact w_it (w_call (w_cons (w_V rfl (w_nil ⟨rfl, w_eq (law_runs_e hr) ⟨_, rfl, rfl, rfl⟩⟩))))
    · rintro pre2 ⟨d, n⟩ post2 s2 hE2 rfl
      refine w_gT2 (w_tst (w_bin (w_bin (w_V rfl (w_C ⟨_, rfl, w_bin (w_V rfl (w_C ⟨_, rfl, _, rfl, _, rfl, ?_, ?_⟩))⟩)))))
      · intro hb
        refine w_V rfl ⟨if_pos ?_, rfl⟩
        simpa using hb
      · intro hb
        refine ⟨if_neg ?_, rfl⟩
        simpa using hb
    · rintro s2 rfl
      rw [sv1_fm2 l a hta]
      refine ⟨_, joinD_map (by have := sv1_len l a; omega), vl (.str [a]), rfl⟩
  · rintro s' ⟨x, rfl⟩
    exact w_rt (w_V rfl q)
theorem sp_law_sieved : ∀ ds hp r, ds.length = 2 → n_law_sieved ds hp = some r → fnOf 5 b_law_sieved ds hp = some r := fun _ _ _ _ h => h

/-- _law_size(row): slots 0:row -/
noncomputable def b_law_size : M Fl :=
    (mRet (mTup (mCons (mFn lenF (mCons (mVar 0) mNil)) (mCons (mBin subI (mFn lenF (mCons (mVar 0) mNil)) (mFn lenF (mCons (mCall 1 n_law_runs (mCons (mVar 0) mNil)) mNil))) mNil))))
noncomputable abbrev n_law_size : Fn := fnOf 1 b_law_size
-- uses: size_of
theorem w_law_size {s : List Nat} {hp : List AO} {Q : D → List AO → Prop} (h : rok s) (q : Q (encZ (sizeL s)) hp) : FnWp n_law_size [.str s] hp Q := by
  have hl := h.1
  apply w_fnOf
  unfold b_law_size
  (repeat (first | refine w_seq ?_ | refine w_set ?_ | refine w_asg ?_ | refine w_gV ?_ | refine w_gT2 ?_ | refine w_gL2 ?_ | refine w_rt ?_ | refine w_drop ?_ | refine w_par ?_ | refine w_aug rfl ?_ | refine w_nx ?_ | refine w_and ?_ | refine w_or ?_ | refine w_not ?_ | refine w_tst ?_ | refine w_if ?_ | refine w_andV ?_ | refine w_orV ?_ | refine w_tup ?_ | refine w_lst ?_ | refine w_lstH ?_ | refine w_bin ?_ | refine w_un ?_ | refine w_fn ?_ | refine w_it ?_ | refine w_itA ?_ | refine w_cons ?_ | refine w_nil ?_ | refine w_V rfl ?_ | refine w_VO rfl ?_ | refine w_C ?_ | refine w_sl ?_ | refine w_so ?_ | refine w_no ?_ | refine w_call ?_ | refine w_join ?_ | refine w_setO ?_ | refine w_ixH ?_ | refine w_setIxH ?_ | refine w_cmpH ?_ | refine w_pop0H ?_ | refine w_appH ?_ | refine w_par3 ?_ | refine w_joinH ?_ | refine w_perm ?_ | refine w_split ?_ | refine w_notV ?_ | refine w_ret ?_ | refine And.intro rfl ?_ | refine Exists.intro _ (And.intro rfl ?_)))
  refine ⟨_, lenS_e (by omega), ?_⟩
  (repeat (first | refine w_seq ?_ | refine w_set ?_ | refine w_asg ?_ | refine w_gV ?_ | refine w_gT2 ?_ | refine w_gL2 ?_ | refine w_rt ?_ | refine w_drop ?_ | refine w_par ?_ | refine w_aug rfl ?_ | refine w_nx ?_ | refine w_and ?_ | refine w_or ?_ | refine w_not ?_ | refine w_tst ?_ | refine w_if ?_ | refine w_andV ?_ | refine w_orV ?_ | refine w_tup ?_ | refine w_lst ?_ | refine w_lstH ?_ | refine w_bin ?_ | refine w_un ?_ | refine w_fn ?_ | refine w_it ?_ | refine w_itA ?_ | refine w_cons ?_ | refine w_nil ?_ | refine w_V rfl ?_ | refine w_VO rfl ?_ | refine w_C ?_ | refine w_sl ?_ | refine w_so ?_ | refine w_no ?_ | refine w_call ?_ | refine w_join ?_ | refine w_setO ?_ | refine w_ixH ?_ | refine w_setIxH ?_ | refine w_cmpH ?_ | refine w_pop0H ?_ | refine w_appH ?_ | refine w_par3 ?_ | refine w_joinH ?_ | refine w_perm ?_ | refine w_split ?_ | refine w_notV ?_ | refine w_ret ?_ | refine And.intro rfl ?_ | refine Exists.intro _ (And.intro rfl ?_)))
  refine ⟨_, lenS_e (by omega), ?_⟩
  (repeat (first | refine w_seq ?_ | refine w_set ?_ | refine w_asg ?_ | refine w_gV ?_ | refine w_gT2 ?_ | refine w_gL2 ?_ | refine w_rt ?_ | refine w_drop ?_ | refine w_par ?_ | refine w_aug rfl ?_ | refine w_nx ?_ | refine w_and ?_ | refine w_or ?_ | refine w_not ?_ | refine w_tst ?_ | refine w_if ?_ | refine w_andV ?_ | refine w_orV ?_ | refine w_tup ?_ | refine w_lst ?_ | refine w_lstH ?_ | refine w_bin ?_ | refine w_un ?_ | refine w_fn ?_ | refine w_it ?_ | refine w_itA ?_ | refine w_cons ?_ | refine w_nil ?_ | refine w_V rfl ?_ | refine w_VO rfl ?_ | refine w_C ?_ | refine w_sl ?_ | refine w_so ?_ | refine w_no ?_ | refine w_call ?_ | refine w_join ?_ | refine w_setO ?_ | refine w_ixH ?_ | refine w_setIxH ?_ | refine w_cmpH ?_ | refine w_pop0H ?_ | refine w_appH ?_ | refine w_par3 ?_ | refine w_joinH ?_ | refine w_perm ?_ | refine w_split ?_ | refine w_notV ?_ | refine w_ret ?_ | refine And.intro rfl ?_ | refine Exists.intro _ (And.intro rfl ?_)))
  refine w_eq (law_runs_e h) ?_
  (repeat (first | refine w_seq ?_ | refine w_set ?_ | refine w_asg ?_ | refine w_gV ?_ | refine w_gT2 ?_ | refine w_gL2 ?_ | refine w_rt ?_ | refine w_drop ?_ | refine w_par ?_ | refine w_aug rfl ?_ | refine w_nx ?_ | refine w_and ?_ | refine w_or ?_ | refine w_not ?_ | refine w_tst ?_ | refine w_if ?_ | refine w_andV ?_ | refine w_orV ?_ | refine w_tup ?_ | refine w_lst ?_ | refine w_lstH ?_ | refine w_bin ?_ | refine w_un ?_ | refine w_fn ?_ | refine w_it ?_ | refine w_itA ?_ | refine w_cons ?_ | refine w_nil ?_ | refine w_V rfl ?_ | refine w_VO rfl ?_ | refine w_C ?_ | refine w_sl ?_ | refine w_so ?_ | refine w_no ?_ | refine w_call ?_ | refine w_join ?_ | refine w_setO ?_ | refine w_ixH ?_ | refine w_setIxH ?_ | refine w_cmpH ?_ | refine w_pop0H ?_ | refine w_appH ?_ | refine w_par3 ?_ | refine w_joinH ?_ | refine w_perm ?_ | refine w_split ?_ | refine w_notV ?_ | refine w_ret ?_ | refine And.intro rfl ?_ | refine Exists.intro _ (And.intro rfl ?_)))
  have e : ((s.length : Nat) : Int) - (((runs s).map encR).length : Nat) = ((eqs s : Nat) : Int) := by
    have := runs_eqs s
    rw [List.length_map]
    omega
  show EndQ Q (.rt (.tup [.int _, .int (((s.length : Nat) : Int) - (((runs s).map encR).length : Nat))])) _
  rw [e]
  exact q
theorem sp_law_size : ∀ ds hp r, ds.length = 1 → n_law_size ds hp = some r → fnOf 1 b_law_size ds hp = some r := fun _ _ _ _ h => h

/-- _law_same(found, wanted): slots 0:found 1:wanted 2:k -/
noncomputable def b_law_same (n_law_same : Fn) : M Fl :=
    (mSeq (mIf (mTst (mBin isN (mVar 1) (mC .non))) (mRet (mBin isN (mVar 0) (mC .non))) mNx)
    (mSeq (mIf (mTst (mUn (isiD "bool") (mVar 1))) (mRet (mAndV (mUn (isiD "bool") (mVar 0)) (mBin eqD (mVar 0) (mVar 1)))) mNx)
    (mSeq (mIf (mTst (mUn (isiD "int") (mVar 1))) (mRet (mAndV (mUn (isiD "int") (mVar 0)) (mAndV (mNotV (mUn (isiD "bool") (mVar 0))) (mBin eqD (mVar 0) (mVar 1))))) mNx)
    (mSeq (mIf (mTst (mUn (isiD "str") (mVar 1))) (mRet (mAndV (mUn (isiD "str") (mVar 0)) (mBin eqD (mVar 0) (mVar 1)))) mNx)
    (mSeq (mIf (mTst (mBin neSc (mUn (isiD "list") (mVar 0)) (mUn (isiD "list") (mVar 1)))) (mRet (mC (.bl false))) mNx)
    (mSeq (mIf (mOr (mTst (mBin neSc (mUn (isiD "tuple") (mVar 0)) (mUn (isiD "tuple") (mVar 1)))) (mTst (mBin neSc (mFn lenF (mCons (mVar 0) mNil)) (mFn lenF (mCons (mVar 1) mNil))))) (mRet (mC (.bl false))) mNx)
    (mRet (mBin eqD (mLc (mItA rng1 (mCons (mFn lenF (mCons (mVar 1) mNil)) mNil)) (gV 2) (mNot (mTst (mCall 2 n_law_same (mCons (mBin ixF (mVar 0) (mVar 2)) (mCons (mBin ixF (mVar 1) (mVar 2)) mNil))))) (mVar 2) [2]) (mLst mNil)))))))))
noncomputable def r_law_same : Nat → Fn
  | 0 => fun _ _ => none
  | k + 1 => fnOf 3 (b_law_same (r_law_same k))
noncomputable abbrev n_law_same : Fn := r_law_same 4
theorem k_ib : kitB "int" "bool" = some false := by decide +kernel
theorem k_ii : kitB "int" "int" = some true := by decide +kernel
theorem k_sb : kitB "str" "bool" = some false := by decide +kernel
theorem k_si : kitB "str" "int" = some false := by decide +kernel
theorem k_ss : kitB "str" "str" = some true := by decide +kernel
theorem k_lb : kitB "list" "bool" = some false := by decide +kernel
theorem k_li : kitB "list" "int" = some false := by decide +kernel
theorem k_ls : kitB "list" "str" = some false := by decide +kernel
theorem k_ll : kitB "list" "list" = some true := by decide +kernel
theorem k_lt : kitB "list" "tuple" = some false := by decide +kernel
theorem k_tb : kitB "tuple" "bool" = some false := by decide +kernel
theorem k_ti : kitB "tuple" "int" = some false := by decide +kernel
theorem k_ts : kitB "tuple" "str" = some false := by decide +kernel
theorem k_tl : kitB "tuple" "list" = some false := by decide +kernel
theorem k_tt : kitB "tuple" "tuple" = some true := by decide +kernel
theorem k_bb : kitB "bool" "bool" = some true := by decide +kernel
theorem isi_e {T t : String} {d : D} {b : Bool} (h : tyD d = some t) (k : kitB t T = some b) : isiD T d = some (.bl b) := by
  unfold isiD
  rw [h]
  show (kitB t T).map D.bl = _
  rw [k]
  rfl
/-- data that _law_same goes through: no truth values, short lists, little depth -/
def sm : Nat → D → Prop
  | _, .non => True
  | _, .int _ => True
  | _, .str s => ∀ c ∈ s, c < 1114112
  | n + 1, .lst l => l.length ≤ 1000000 ∧ ∀ x ∈ l, sm n x
  | n + 1, .tup l => l.length ≤ 1000000 ∧ ∀ x ∈ l, sm n x
  | _, _ => False
theorem pl_sc {n : Nat} {d : D} (h : match d with | .int _ => True | .str s => ∀ c ∈ s, c < 1114112 | _ => False) : pl n d = true := by
  cases d with
  | int i => cases n <;> rfl
  | str s =>
    have : s.all (· < 1114112) = true := by
      rw [List.all_eq_true]
      intro c hc
      exact decide_eq_true (h c hc)
    cases n <;> exact this
  | _ => cases h
theorem atI_nat {α : Type} {l : List α} {i : Nat} {x : α} (h : l[i]? = some x) : atI l (0 + (i : Nat)) = some x := by
  obtain ⟨hlt, _⟩ := List.getElem?_eq_some_iff.mp h
  unfold atI ixN
  rw [if_pos (by omega), if_pos (by omega)]
  show l[((0 : Int) + (i : Nat)).toNat]? = _
  rw [show ((0 : Int) + (i : Nat)).toNat = i by omega, h]
theorem w_same : ∀ (k : Nat) (x : D) (hp : List AO) (Q : D → List AO → Prop), sm k x → Q (.bl true) hp → FnWp (r_law_same (k + 1)) [x, x] hp Q := by
  intro k
  induction k with
  | zero =>
    intro x hp Q h q
    apply w_fnOf
    unfold b_law_same
    cases x with
    | non =>
      refine w_seq (w_if (w_tst (w_bin (w_V rfl (w_C ⟨_, rfl, _, rfl, fun _ => ?_, fun z => absurd z (by decide)⟩)))))
      exact w_rt (w_bin (w_V rfl (w_C ⟨_, rfl, q⟩)))
    | int i =>
      refine w_seq (w_if (w_tst (w_bin (w_V rfl (w_C ⟨_, rfl, _, rfl, fun z => Bool.noConfusion (show false = true from z), fun _ => w_nx ?_⟩)))))
      refine w_seq (w_if (w_tst (w_un (w_V rfl ⟨_, isi_e rfl k_ib, _, rfl, fun z => absurd z (by decide), fun _ => w_nx ?_⟩))))
      refine w_seq (w_if (w_tst (w_un (w_V rfl ⟨_, isi_e rfl k_ii, _, rfl, fun _ => ?_, fun z => absurd z (by decide)⟩))))
      refine w_rt (w_andV (w_un (w_V rfl ⟨_, isi_e rfl k_ii, _, rfl, fun _ => ?_, fun z => absurd z (by decide)⟩)))
      refine w_andV (w_notV (w_un (w_V rfl ⟨_, isi_e rfl k_ib, _, rfl, _, rfl, fun _ => ?_, fun z => absurd z (by decide)⟩)))
      refine w_bin (w_V rfl (w_V rfl ⟨_, eqD_pl (pl_sc trivial) (pl_sc trivial), ?_⟩))
      rw [decide_eq_true rfl]
      exact q
    | str s =>
      refine w_seq (w_if (w_tst (w_bin (w_V rfl (w_C ⟨_, rfl, _, rfl, fun z => Bool.noConfusion (show false = true from z), fun _ => w_nx ?_⟩)))))
      refine w_seq (w_if (w_tst (w_un (w_V rfl ⟨_, isi_e rfl k_sb, _, rfl, fun z => absurd z (by decide), fun _ => w_nx ?_⟩))))
      refine w_seq (w_if (w_tst (w_un (w_V rfl ⟨_, isi_e rfl k_si, _, rfl, fun z => absurd z (by decide), fun _ => w_nx ?_⟩))))
      refine w_seq (w_if (w_tst (w_un (w_V rfl ⟨_, isi_e rfl k_ss, _, rfl, fun _ => ?_, fun z => absurd z (by decide)⟩))))
      refine w_rt (w_andV (w_un (w_V rfl ⟨_, isi_e rfl k_ss, _, rfl, fun _ => ?_, fun z => absurd z (by decide)⟩)))
      refine w_bin (w_V rfl (w_V rfl ⟨_, eqD_pl (pl_sc h) (pl_sc h), ?_⟩))
      rw [decide_eq_true rfl]
      exact q
    | _ => cases h
  | succ k ih =>
    intro x hp Q h q
    have seq : ∀ (l : List D) (hl : l.length ≤ 1000000) (hx : ∀ y ∈ l, sm k y), (∀ i, lenF [x] = some (.int i) → i = l.length) → (lenF [x] = some (.int l.length)) → (∀ (i : Nat) y, l[i]? = some y → ixF x (.int (0 + (i : Nat))) = some y) → isNon x = false → isiD "bool" x = some (.bl false) → isiD "int" x = some (.bl false) → isiD "str" x = some (.bl false) → (∃ a, isiD "list" x = some (.bl a)) → (∃ a, isiD "tuple" x = some (.bl a)) → FnWp (r_law_same (k + 1 + 1)) [x, x] hp Q := by
      intro l hl hx _ hlen hix hnon hb hi hs ⟨a, ha⟩ ⟨b, hbt⟩
      apply w_fnOf
      unfold b_law_same
      refine w_seq (w_if (w_tst (w_bin (w_V rfl (w_C ⟨_, rfl, _, rfl, fun z => (by rw [hnon] at z; cases z), fun _ => w_nx ?_⟩)))))
      refine w_seq (w_if (w_tst (w_un (w_V rfl ⟨_, hb, _, rfl, fun z => absurd z (by decide), fun _ => w_nx ?_⟩))))
      refine w_seq (w_if (w_tst (w_un (w_V rfl ⟨_, hi, _, rfl, fun z => absurd z (by decide), fun _ => w_nx ?_⟩))))
      refine w_seq (w_if (w_tst (w_un (w_V rfl ⟨_, hs, _, rfl, fun z => absurd z (by decide), fun _ => w_nx ?_⟩))))
      refine w_seq (w_if (w_tst (w_bin (w_un (w_V rfl ⟨_, ha, w_un (w_V rfl ⟨_, ha, _, rfl, _, rfl, fun z => ?_, fun _ => w_nx ?_⟩)⟩)))))
      · exact absurd z (by simp)
      refine w_seq (w_if (w_or (w_tst (w_bin (w_un (w_V rfl ⟨_, hbt, w_un (w_V rfl ⟨_, hbt, _, rfl, _, rfl, fun z => ?_, fun _ => ?_⟩)⟩))))))
      · exact absurd z (by simp)
      refine w_tst (w_bin (w_fn (w_cons (w_V rfl (w_nil ⟨_, hlen, w_fn (w_cons (w_V rfl (w_nil ⟨_, hlen, _, rfl, _, rfl, fun z => ?_, fun _ => w_nx ?_⟩)))⟩)))))
      · exact absurd z (by simp)
      refine w_rt (w_bin (w_lc (fun i : Nat => D.int (0 + (i : Nat))) (List.range l.length) (fun _ s' => s' = st [vl x, vl x, none] hp) (fun _ => none) (by rw [List.length_range]; omega) ?_ ?_ ?_))
      · exact w_itA (w_cons (w_fn (w_cons (w_V rfl (w_nil ⟨_, hlen, w_nil ⟨_, rng1_n (by omega), rfl, rfl⟩⟩)))))
      · rintro pre i post s1 hE rfl
        have hi : i < l.length := by
          have : i ∈ List.range l.length := by rw [hE]; exact List.mem_append_right _ List.mem_cons_self
          exact List.mem_range.mp this
        have hy := List.getElem?_eq_getElem hi
        refine w_gV (w_not (w_tst (w_call (w_cons (w_bin (w_V rfl (w_V rfl ⟨_, hix i _ hy, w_cons (w_bin (w_V rfl (w_V rfl ⟨_, hix i _ hy, w_nil ⟨rfl, ih _ _ _ (hx _ (List.getElem_mem hi)) ?_⟩⟩)))⟩)))))))
        exact ⟨true, rfl, fun z => absurd z (by decide), fun _ => ⟨rfl, rfl⟩⟩
      · rintro s1 rfl
        rw [List.filterMap_eq_nil_iff.mpr fun _ _ => rfl]
        refine w_lst (w_nil ⟨rfl, _, eqD_pl (by rfl) (by rfl), ?_⟩)
        rw [decide_eq_true rfl]
        exact q
    cases x with
    | non => exact (by
        apply w_fnOf
        unfold b_law_same
        refine w_seq (w_if (w_tst (w_bin (w_V rfl (w_C ⟨_, rfl, _, rfl, fun _ => ?_, fun z => absurd z (by decide)⟩)))))
        exact w_rt (w_bin (w_V rfl (w_C ⟨_, rfl, q⟩))))
    | int i =>
      apply w_fnOf
      unfold b_law_same
      refine w_seq (w_if (w_tst (w_bin (w_V rfl (w_C ⟨_, rfl, _, rfl, fun z => Bool.noConfusion (show false = true from z), fun _ => w_nx ?_⟩)))))
      refine w_seq (w_if (w_tst (w_un (w_V rfl ⟨_, isi_e rfl k_ib, _, rfl, fun z => absurd z (by decide), fun _ => w_nx ?_⟩))))
      refine w_seq (w_if (w_tst (w_un (w_V rfl ⟨_, isi_e rfl k_ii, _, rfl, fun _ => ?_, fun z => absurd z (by decide)⟩))))
      refine w_rt (w_andV (w_un (w_V rfl ⟨_, isi_e rfl k_ii, _, rfl, fun _ => ?_, fun z => absurd z (by decide)⟩)))
      refine w_andV (w_notV (w_un (w_V rfl ⟨_, isi_e rfl k_ib, _, rfl, _, rfl, fun _ => ?_, fun z => absurd z (by decide)⟩)))
      refine w_bin (w_V rfl (w_V rfl ⟨_, eqD_pl (pl_sc trivial) (pl_sc trivial), ?_⟩))
      rw [decide_eq_true rfl]
      exact q
    | str s =>
      apply w_fnOf
      unfold b_law_same
      refine w_seq (w_if (w_tst (w_bin (w_V rfl (w_C ⟨_, rfl, _, rfl, fun z => Bool.noConfusion (show false = true from z), fun _ => w_nx ?_⟩)))))
      refine w_seq (w_if (w_tst (w_un (w_V rfl ⟨_, isi_e rfl k_sb, _, rfl, fun z => absurd z (by decide), fun _ => w_nx ?_⟩))))
      refine w_seq (w_if (w_tst (w_un (w_V rfl ⟨_, isi_e rfl k_si, _, rfl, fun z => absurd z (by decide), fun _ => w_nx ?_⟩))))
      refine w_seq (w_if (w_tst (w_un (w_V rfl ⟨_, isi_e rfl k_ss, _, rfl, fun _ => ?_, fun z => absurd z (by decide)⟩))))
      refine w_rt (w_andV (w_un (w_V rfl ⟨_, isi_e rfl k_ss, _, rfl, fun _ => ?_, fun z => absurd z (by decide)⟩)))
      refine w_bin (w_V rfl (w_V rfl ⟨_, eqD_pl (pl_sc h) (pl_sc h), ?_⟩))
      rw [decide_eq_true rfl]
      exact q
    | lst l => exact seq l h.1 h.2 (fun i e => by cases e; rfl) rfl (fun i y hy => atI_nat hy) rfl (isi_e rfl k_lb) (isi_e rfl k_li) (isi_e rfl k_ls) ⟨_, isi_e rfl k_ll⟩ ⟨_, isi_e rfl k_lt⟩
    | tup l => exact seq l h.1 h.2 (fun i e => by cases e; rfl) rfl (fun i y hy => atI_nat hy) rfl (isi_e rfl k_tb) (isi_e rfl k_ti) (isi_e rfl k_ts) ⟨_, isi_e rfl k_tl⟩ ⟨_, isi_e rfl k_tt⟩
    | _ => cases h
theorem w_law_same {x : D} {hp : List AO} {Q : D → List AO → Prop} (h : sm 3 x) (q : Q (.bl true) hp) : FnWp n_law_same [x, x] hp Q := w_same 3 x hp Q h q
theorem sp_law_same : ∀ ds hp r, ds.length = 2 → n_law_same ds hp = some r → r_law_same 4 ds hp = some r := fun _ _ _ _ h => h

-- uses: SV1 BASE
theorem mem_expand {c : Nat} : ∀ {R : List (Nat × Nat)}, c ∈ expand R → ∃ n, (c, n) ∈ R
  | [], h => by cases h
  | (d, m) :: R, h => by
    have h' : c ∈ List.replicate m d ++ expand R := h
    rcases List.mem_append.mp h' with h | h
    · exact ⟨m, by rw [List.eq_of_mem_replicate h]; exact List.mem_cons_self⟩
    · obtain ⟨n, hn⟩ := mem_expand h
      exact ⟨n, List.mem_cons_of_mem _ hn⟩
theorem mem_rb {o : Nat → Nat} {k j : Nat} {p : Nat × Nat} : ∀ {l : List Nat}, p ∈ rb o k j l → p.1 ∈ l ∨ ∃ d ∈ l, p.1 = o d
  | [], h => by cases h
  | [c], h => by
    have h' : p ∈ [(c, k)] := h
    rw [List.mem_singleton.mp h']
    exact .inl List.mem_cons_self
  | c :: d :: l, h => by
    have h' : p ∈ (c, k) :: ((if c = d then [(o c, j)] else []) ++ rb o k j (d :: l)) := by
      unfold rb at h
      split at h <;> simpa [*] using h
    rcases List.mem_cons.mp h' with h | h
    · rw [h]
      exact .inl List.mem_cons_self
    · rcases List.mem_append.mp h with h | h
      · split at h
        · rw [List.mem_singleton.mp h]
          exact .inr ⟨c, List.mem_cons_self, rfl⟩
        · cases h
      · rcases mem_rb h with h | ⟨e, he, h⟩
        · exact .inl (List.mem_cons_of_mem _ h)
        · exact .inr ⟨e, List.mem_cons_of_mem _ he, h⟩
theorem before_mem {o : Nat → Nat} {ls : List Nat} (ho : ∀ c, o c ∈ ls) (x : Nat) {l : List Nat} (h : ∀ c ∈ l, c ∈ ls) : ∀ c ∈ before o x l, c ∈ ls := fun c hc => by
  have key : ∀ k j, c ∈ expand (rb o k j l) → c ∈ ls := fun k j hc => by
    obtain ⟨n, hn⟩ := mem_expand hc
    rcases mem_rb hn with h1 | ⟨d, _, h1⟩
    · exact h c h1
    · have : c = o d := h1
      rw [this]
      exact ho d
  unfold before at hc
  split at hc
  · exact key _ _ hc
  · exact key _ _ hc
theorem sf_mem {o : Nat → Nat} {ls : List Nat} (ho : ∀ c, o c ∈ ls) {l : List Nat} (h : ∀ c ∈ l, c ∈ ls) : ∀ p : List Nat, ∀ c ∈ sf o p l, c ∈ ls
  | [] => h
  | x :: p => before_mem ho x (sf_mem ho h p)
theorem sv_mem {c : Nat} : ∀ {p s : List Nat}, c ∈ sv s p → c ∈ s
  | [], _, h => h
  | x :: p, s, h => sv1_mem (sv_mem (p := p) (s := sv1 s x) h)
/-- the least row stands among all rows, if it is short enough -/
theorem sf_in {ls : List Nat} {o : Nat → Nat} (h1 : ∀ c, o c ∈ ls) (h2 : ∀ c, o c ≠ c) {p out : List Nat} (hp : TSs p) (ho : ∀ c ∈ out, c ∈ ls) :
    (∀ c ∈ sf o p out, c ∈ ls) ∧ (sf o p out).length = (least p (sizeL out)).1 ∧ sv (sf o p out) p = out :=
  ⟨sf_mem h1 ho p, by rw [← sf_size h2 p out hp]; rfl, sf_sv h2 p out hp⟩
/-! ### what a dict gives -/
theorem getK_cons (k k' : KK) (d : D) (l : List (KK × D)) : getK ((k, d) :: l) k' = if k = k' then some d else getK l k' := by
  unfold getK
  rw [List.find?_cons]
  by_cases h : k = k'
  · rw [if_pos h]
    simp [h]
  · rw [if_neg h]
    simp [h]
theorem getK_any (k : KK) : ∀ l : List (KK × D), (l.any fun p => decide (p.1 = k)) = (getK l k).isSome
  | [] => rfl
  | (k', d) :: l => by
    rw [List.any_cons, getK_cons, getK_any k l]
    by_cases h : k' = k
    · simp [h]
    · simp [h]
theorem getK_map (k k' : KK) (d : D) : ∀ l : List (KK × D), getK (l.map fun p => if p.1 = k then (p.1, d) else p) k' = if k' = k then (getK l k).map (fun _ => d) else getK l k'
  | [] => by
    show none = _
    by_cases h : k' = k
    · rw [if_pos h]; rfl
    · rw [if_neg h]; rfl
  | (k2, d2) :: l => by
    rw [List.map_cons]
    have ih := getK_map k k' d l
    by_cases h2 : k2 = k
    · rw [if_pos h2, getK_cons, ih, getK_cons, getK_cons, if_pos h2]
      by_cases h : k' = k
      · rw [if_pos h, if_pos h, if_pos (h2.trans h.symm)]
        rfl
      · have hk : ¬ k2 = k' := fun z => h (z.symm.trans h2)
        simp only [if_neg h, if_neg hk]
    · rw [if_neg h2, getK_cons, ih, getK_cons, getK_cons, if_neg h2]
      by_cases h : k' = k
      · rw [if_pos h, if_pos h, if_neg (fun z => h2 (z.trans h))]
      · rw [if_neg h, if_neg h]
theorem getK_snoc (k k' : KK) (d : D) : ∀ l : List (KK × D), getK l k = none → getK (l ++ [(k, d)]) k' = if k' = k then some d else getK l k'
  | [], _ => by
    rw [List.nil_append, getK_cons]
    by_cases h : k' = k
    · rw [if_pos h, if_pos h.symm]
    · rw [if_neg h, if_neg (fun z => h z.symm)]
  | (k2, d2) :: l, hn => by
    rw [getK_cons] at hn
    by_cases h2 : k2 = k
    · rw [if_pos h2] at hn
      cases hn
    · rw [if_neg h2] at hn
      rw [List.cons_append, getK_cons, getK_snoc k k' d l hn, getK_cons]
      by_cases h : k' = k
      · rw [if_pos h, if_pos h, if_neg (fun z => h2 (z.trans h))]
      · rw [if_neg h, if_neg h]
theorem getK_put (l : List (KK × D)) (k k' : KK) (d : D) : getK (putKD l k d) k' = if k' = k then some d else getK l k' := by
  unfold putKD
  rw [getK_any]
  cases h : getK l k with
  | some x =>
    rw [if_pos (show (some x).isSome = true from rfl), getK_map, h]
    rfl
  | none => exact getK_snoc k k' d l h
theorem len_put (l : List (KK × D)) (k : KK) (d : D) : (putKD l k d).length ≤ l.length + 1 := by
  unfold putKD
  split
  · rw [List.length_map]
    omega
  · rw [List.length_append]
    exact Nat.le_refl _
theorem getK_mem {l : List (KK × D)} {p : KK × D} (h : p ∈ l) : ∃ d, getK l p.1 = some d := by
  have : (l.any fun q => decide (q.1 = p.1)) = true := List.any_eq_true.mpr ⟨p, h, by simp⟩
  rw [getK_any] at this
  exact Option.isSome_iff_exists.mp this
theorem put_keys {l : List (KK × D)} {k : KK} {d : D} {p : KK × D} (h : p ∈ putKD l k d) : p.1 = k ∨ ∃ q ∈ l, q.1 = p.1 := by
  unfold putKD at h
  split at h
  · obtain ⟨q, hq, e⟩ := List.mem_map.mp h
    refine .inr ⟨q, hq, ?_⟩
    split at e
    · rw [← e]
    · rw [e]
  · rcases List.mem_append.mp h with h | h
    · exact .inr ⟨p, h, rfl⟩
    · rw [List.mem_singleton.mp h]
      exact .inl rfl
/-! ### an object at the heap's end -/
theorem end_get (hp : List AO) (o : AO) : (hp ++ [o])[hp.length]? = some o := by
  rw [List.getElem?_append_right (Nat.le_refl _), Nat.sub_self]
  rfl
theorem end_set (hp : List AO) (o o' : AO) : (hp ++ [o]).set hp.length o' = hp ++ [o'] := by
  rw [List.set_append_right _ _ (Nat.le_refl _), Nat.sub_self]
  rfl

/-- law(script): slots 0:script 1:source 2:k 3:letters 4:most 5:rows 6:turn 7:sieves 8:best 9:row 10:output 11:span -/
noncomputable def b_law_5 : M Fl :=
    (mSeq (mAsg (mCall 1 n_law_source (mCons (mVar 0) mNil)) (gV 1))
    (mSeq (mFor (mItA rng1 (mCons (mBin addI (mC (.int 1)) (mFn minF (mCons (mC (.int 3)) (mCons (mFn lenF (mCons (mVar 0) mNil)) mNil)))) mNil)) (gV 2) (mSeq (mAsg (mBin ixF (mLst (mCons (mTup (mCons (mC (.str [97, 98])) (mCons (mC (.int 9)) mNil))) (mCons (mTup (mCons (mC (.str [97, 98, 99])) (mCons (mC (.int 6)) mNil))) (mCons (mTup (mCons (mC (.str [120, 121])) (mCons (mC (.int 8)) mNil))) mNil)))) (mCall 2 n_law_draw_2 (mCons (mVar 1) (mCons (mC (.int 3)) mNil)))) (gT (gC (gV 3) (gC (gV 4) gN)) 2))
    (mSeq (mAsg (mCall 2 n_law_rows (mCons (mVar 3) (mCons (mVar 4) mNil))) (gV 5))
    (mFor (mItA rng1 (mCons (mC (.int 2)) mNil)) (gV 6) (mSeq (mAsg (mCall 2 n_law_sieves (mCons (mVar 1) (mCons (mC (.int 4)) mNil))) (gV 7))
    (mSeq (mAsg mDNew (gV 8))
    (mSeq (mFor (mIt itL (mVar 5)) (gV 9) (mSeq (mAsg (mCall 2 n_law_sieved (mCons (mVar 9) (mCons (mVar 7) mNil))) (gV 10))
    (mSeq (mAsg (mCall 1 n_law_size (mCons (mVar 9) mNil)) (gV 11))
    (mIf (mOr (mTst (mDIn true (mVar 10) (mVar 8))) (mTst (mBin ltI (mBin ixF (mVar 11) (mC (.int 0))) (mBin ixF (mDGet (mVar 8) (mVar 10)) (mC (.int 0)))))) (mDPut (mVar 11) (mVar 8) (mVar 10)) (mIf (mAnd (mTst (mBin eqSc (mBin ixF (mVar 11) (mC (.int 0))) (mBin ixF (mDGet (mVar 8) (mVar 10)) (mC (.int 0))))) (mTst (mBin neD (mVar 11) (mDGet (mVar 8) (mVar 10))))) (mRet (mC (.bl false))) mNx)))))
    (mSeq (mForK 8 (gV 10) (mIf (mNot (mTst (mCall 2 n_law_same (mCons (mCall 2 n_least_size_2 (mCons (mVar 7) (mCons (mVar 10) mNil))) (mCons (mDGet (mVar 8) (mVar 10)) mNil))))) (mRet (mC (.bl false))) mNx))
    (mFor (mIt itL (mCall 2 n_law_rows (mCons (mVar 3) (mCons (mC (.int 3)) mNil)))) (gV 10) (mIf (mAnd (mTst (mDIn true (mVar 10) (mVar 8))) (mTst (mBin leI (mBin ixF (mCall 2 n_least_size_2 (mCons (mVar 7) (mCons (mVar 10) mNil))) (mC (.int 0))) (mVar 4)))) (mRet (mC (.bl false))) mNx))))))))))
    (mRet (mBin eqD (mCall 2 n_least_size_2 (mCons (mC (.str [83])) (mCons (mC (.str [97, 97])) mNil))) (mTup (mCons (mC (.int 4)) (mCons (mC (.int 1)) mNil)))))))
noncomputable abbrev n_law_5 : Fn := fnOf 12 b_law_5
-- uses: SRC law_sieves MINR
theorem rows_ne {hp : List AO} {r r0 : Nat} {n : Int} (h : SrcAt hp r r0 n) (o : AO) : SrcAt (hp ++ [o]) r r0 n := by
  obtain ⟨ds, cur, mix, c, h1, h2, h3⟩ := h
  refine ⟨ds, cur, mix, c, ?_, ?_, h3⟩
  · rw [List.getElem?_append_left (List.getElem?_eq_some_iff.mp h1).1]
    exact h1
  · rw [List.getElem?_append_left (List.getElem?_eq_some_iff.mp h2).1]
    exact h2
/-- what best holds behind some rows -/
structure Bst (p : List Nat) (pre : List (List Nat)) (kvs : List (KK × D)) : Prop where
  val : ∀ o d, getK kvs (.inr o) = some d → d = encZ (least p (sizeL o)) ∧ ∃ r ∈ pre, sv r p = o
  has : ∀ r ∈ pre, ∃ d, getK kvs (.inr (sv r p)) = some d
  key : ∀ x ∈ kvs, ∃ o, x.1 = .inr o
  len : kvs.length ≤ pre.length
theorem low_rok5 {s : List Nat} (h : low s) (hl : s.length ≤ 1000) : rok s := ⟨by omega, fun c hc => by have := h c hc; omega⟩
theorem eqs_le5 (l : List Nat) : eqs l ≤ l.length := by have := runs_eqs l; omega
theorem setDk_e (sl : List (Option SV)) (hp : List AO) (o : AO) (l : List (KK × D)) : setDk (st sl (hp ++ [o])) (.ref hp.length) l = st sl (hp ++ [.dk l]) := by
  show (⟨sl, (hp ++ [o]).set hp.length (.dk l)⟩ : A) = _
  rw [end_set]
theorem getDk_e (sl : List (Option SV)) (hp : List AO) (l : List (KK × D)) : getDk (st sl (hp ++ [.dk l])) (.ref hp.length) = some l := by
  show (match (hp ++ [AO.dk l])[hp.length]? with | some (.dk l) => some l | _ => none) = _
  rw [end_get]
theorem getDr_e (sl : List (Option SV)) (hp : List AO) (l : List (KK × D)) : getDr (st sl (hp ++ [.dk l])) (.ref hp.length) = some l := by
  show (match (hp ++ [AO.dk l])[hp.length]? with | some (.dk l) => some l | some (.dkL l) => some l | _ => none) = _
  rw [end_get]
theorem getDr_eL (sl : List (Option SV)) (hp : List AO) (l : List (KK × D)) : getDr (st sl (hp ++ [.dkL l])) (.ref hp.length) = some l := by
  show (match (hp ++ [AO.dkL l])[hp.length]? with | some (.dk l) => some l | some (.dkL l) => some l | _ => none) = _
  rw [end_get]
theorem ix0_Z (z : Nat × Nat) : ixF (encZ z) (.int 0) = some (.int (z.1 : Nat)) := rfl
theorem w_law_same_Z {z : Nat × Nat} {hp : List AO} {Q : D → List AO → Prop} (q : Q (.bl true) hp) : FnWp n_law_same [encZ z, encZ z] hp Q := by
  refine w_law_same (x := encZ z) ⟨by show 2 ≤ 1000000; decide, fun x hx => ?_⟩ q
  have : x = .int (z.1 : Nat) ∨ x = .int (z.2 : Nat) := by simpa [encZ] using hx
  rcases this with rfl | rfl <;> trivial
theorem law_law_5 (ns : List Int) (h : ns.length ≤ 63) : ∃ hp, n_law_5 [.fz (ns.map D.int)] [] = some (.ok (.bl true) hp) := by
  suffices hw : FnWp n_law_5 [.fz (ns.map D.int)] [] (fun d _ => d = .bl true) by
    obtain ⟨d, hp', e, rfl⟩ := hw
    exact ⟨hp', e⟩
  apply w_fnOf
  unfold b_law_5
  refine w_seq (w_set (w_call (w_cons (w_V rfl (w_nil ⟨rfl, w_law_source h fun a b hs => ?_⟩)))))
  have hlen : lenF [.fz (ns.map D.int)] = some (.int (ns.length : Nat)) := by
    show some (D.int ((ns.map D.int).length : Nat)) = _
    rw [List.length_map]
  have hm : ∃ m : Nat, (1 : Int) + (if ((ns.length : Nat) : Int) < 3 then ((ns.length : Nat) : Int) else 3) = (m : Int) ∧ m ≤ 4 := by
    split
    · exact ⟨1 + ns.length, by omega, by omega⟩
    · exact ⟨4, rfl, Nat.le_refl _⟩
  obtain ⟨m, hm, hm4⟩ := hm
  refine w_seq (w_for (fun i : Nat => D.int (0 + (i : Nat))) (List.range m) (fun pre s' => ∃ x2 x3 x4 x5 x6 x7 x8 x9 x10 x11 hp, s' = st [vl (.fz (ns.map D.int)), vl (.ref 1), x2, x3, x4, x5, x6, x7, x8, x9, x10, x11] hp ∧ SrcAt hp 1 0 (100 * pre.length)) ?_ ?_ ?_)
  · refine w_itA ?_
    refine w_cons ?_
    refine w_bin ?_
    refine w_C ?_
    refine w_fn ?_
    refine w_cons ?_
    refine w_C ?_
    refine w_cons ?_
    refine w_fn ?_
    refine w_cons ?_
    refine w_V rfl ?_
    refine w_nil ?_
    refine ⟨_, hlen, ?_⟩
    refine w_nil ?_
    refine ⟨_, rfl, ?_⟩
    refine ⟨_, rfl, ?_⟩
    refine w_nil ?_
    show ∃ z, rng1 [.int ((1 : Int) + (if ((ns.length : Nat) : Int) < 3 then ((ns.length : Nat) : Int) else 3))] = some z ∧ _
    rw [hm]
    exact ⟨_, rng1_n (by omega), rfl, _, _, _, _, _, _, _, _, _, _, _, rfl, hs⟩
  · rintro pre a' post s1 hE ⟨x2, x3, x4, x5, x6, x7, x8, x9, x10, x11, hp, rfl, hsrc⟩
    have hpl : pre.length < m := by
      have := congrArg List.length hE
      rw [List.length_range, List.length_append, List.length_cons] at this
      omega
    refine w_gV (w_seq (w_asg (w_bin (w_lst (w_cons (w_tup (w_cons (w_C (w_cons (w_C (w_nil ⟨rfl, w_cons (w_tup (w_cons (w_C (w_cons (w_C (w_nil ⟨rfl, w_cons (w_tup (w_cons (w_C (w_cons (w_C (w_nil ⟨rfl, w_nil ⟨rfl, ?_⟩⟩))))))⟩))))))⟩)))))))))))
    refine w_call (w_cons (w_V rfl (w_cons (w_C (w_nil ⟨rfl, w_law_draw_2 (by decide) (by decide) (by omega) hsrc fun u hp1 u0 u1 o1 a1 => ?_⟩)))))
    have e1 : ∃ (ls : List Nat) (most : Nat), ixF (.lst [.tup [.str [97, 98], .int 9], .tup [.str [97, 98, 99], .int 6], .tup [.str [120, 121], .int 8]]) (.int u) = some (.tup [.str ls, .int (most : Nat)]) ∧ ls.length ≤ 3 ∧ most ≤ 9 ∧ 3 ≤ most ∧ low ls ∧ ∃ o : Nat → Nat, (∀ c, o c ∈ ls) ∧ ∀ c, o c ≠ c := by
      obtain ⟨d, hd, e⟩ := ix_list (l := [D.tup [.str [97, 98], .int 9], .tup [.str [97, 98, 99], .int 6], .tup [.str [120, 121], .int 8]]) u0 u1
      have oth : ∀ a b : Nat, a ≠ b → ∀ ls : List Nat, a ∈ ls → b ∈ ls → ∃ o : Nat → Nat, (∀ c, o c ∈ ls) ∧ ∀ c, o c ≠ c := fun a b hab ls ha hb => ⟨fun c => if c = a then b else a, fun c => by
        show (if c = a then b else a) ∈ ls
        split
        · exact hb
        · exact ha, fun c => by
        show (if c = a then b else a) ≠ c
        split
        · rename_i e
          rw [e]
          exact Ne.symm hab
        · rename_i e
          exact fun z => e z.symm⟩
      have : d = .tup [.str [97, 98], .int 9] ∨ d = .tup [.str [97, 98, 99], .int 6] ∨ d = .tup [.str [120, 121], .int 8] := by simpa using hd
      rcases this with rfl | rfl | rfl
      · exact ⟨[97, 98], 9, e, by decide, by decide, by decide, by intro c hc; simp at hc; omega, oth 97 98 (by decide) _ (by decide) (by decide)⟩
      · exact ⟨[97, 98, 99], 6, e, by decide, by decide, by decide, by intro c hc; simp at hc; omega, oth 97 98 (by decide) _ (by decide) (by decide)⟩
      · exact ⟨[120, 121], 8, e, by decide, by decide, by decide, by intro c hc; simp at hc; omega, oth 120 121 (by decide) _ (by decide) (by decide)⟩
    obtain ⟨ls, most, e1, hl3, hm9, hm3, hlow, o, ho1, ho2⟩ := e1
    refine ⟨_, e1, w_gT2 ?_⟩
    refine w_seq (w_set (w_call (w_cons (w_V rfl (w_cons (w_V rfl (w_nil ⟨rfl, w_law_rows hl3 hm9 fun rs hall hrl => ?_⟩)))))))
    have lowr : ∀ r : List Nat, (∀ c ∈ r, c ∈ ls) → low r := fun r h c hc => hlow c (h c hc)
    refine w_for (fun i : Nat => D.int (0 + (i : Nat))) (List.range 2) (fun pre2 s' => ∃ x6 x7 x8 x9 x10 x11 hp, s' = st [vl (.fz (ns.map D.int)), vl (.ref 1), vl (.int (0 + (a' : Nat))), vl (.str ls), vl (.int (most : Nat)), vl (.lst (rs.map D.str)), x6, x7, x8, x9, x10, x11] hp ∧ SrcAt hp 1 0 (100 * pre.length + 20 + 20 * pre2.length)) ?_ ?_ ?_
    · exact w_itA (w_cons (w_C (w_nil ⟨_, rng1_n (n := 2) (by decide), rfl, _, _, _, _, _, _, _, rfl, a1.le (by simp)⟩)))
    · rintro pre2 b' post2 s2 hE2 ⟨x6, x7, x8, x9, x10, x11, hp2, rfl, h2⟩
      have hlt : pre2.length < 2 := by
        have := congrArg List.length hE2
        rw [List.length_range, List.length_append, List.length_cons] at this
        omega
      refine w_gV (w_seq (w_set (w_call (w_cons (w_V rfl (w_cons (w_C (w_nil ⟨rfl, w_law_sieves (by decide) (by decide) (by omega) h2 fun p hp3 tp lp o3 a3 => ?_⟩))))))))
      have hpl4 : p.length ≤ 4 := by omega
      refine w_seq (w_set (w_dnew ?_))
      have a4 : SrcAt (hp3 ++ [.dk []]) 1 0 (100 * pre.length + 20 + 20 * pre2.length + 14) := (rows_ne a3 _).le (by omega)
      -- the rows
      refine w_seq (w_for D.str rs (fun pre3 s' => ∃ x9 x10 x11 kvs, s' = st [vl (.fz (ns.map D.int)), vl (.ref 1), vl (.int (0 + (a' : Nat))), vl (.str ls), vl (.int (most : Nat)), vl (.lst (rs.map D.str)), vl (.int (0 + (b' : Nat))), vl (.str p), vl (.ref hp3.length), x9, x10, x11] (hp3 ++ [.dk kvs]) ∧ Bst p pre3 kvs) ?_ ?_ ?_)
      · refine w_it (w_V rfl ⟨_, rfl, rfl, x9, x10, x11, [], rfl, ⟨fun o d e => (by cases e), fun r hr => (by cases hr), fun x hx => (by cases hx), Nat.le_refl 0⟩⟩)
      · rintro pre3 row post3 s3 hE3 ⟨x9, x10, x11, kvs, rfl, B⟩
        have hrow : row ∈ rs := by
          rw [hE3]
          exact List.mem_append_right _ List.mem_cons_self
        obtain ⟨rl, rm⟩ := (hall.mem row).mp hrow
        have rlow := lowr row rl
        have hrok : rok row := low_rok5 rlow (by omega)
        have pre_rs : ∀ r ∈ pre3, r ∈ rs := fun r hr => by
          rw [hE3]
          exact List.mem_append_left _ hr
        have pl3 : pre3.length ≤ 200000 := by
          have := congrArg List.length hE3
          rw [List.length_append] at this
          omega
        obtain ⟨l1, l2, l3⟩ := least_le p row tp
        have outm : ∀ c ∈ sv row p, c ∈ ls := fun c hc => rl c (sv_mem hc)
        refine w_gV (w_seq (w_set (w_call (w_cons (w_V rfl (w_cons (w_V rfl (w_nil ⟨rfl, w_law_sieved hrok tp ?_⟩))))))))
        refine w_seq (w_set (w_call (w_cons (w_V rfl (w_nil ⟨rfl, w_law_size hrok ?_⟩)))))
        cases hg : getK kvs (.inr (sv row p)) with
        | none =>
          refine w_if (w_or (w_tst (w_din (w_V rfl (w_V rfl ⟨_, kvs, rfl, getDr_e _ _ _, ?_⟩)))))
          rw [hg]
          refine ⟨_, rfl, fun _ => ⟨fun _ => ?_, fun z => absurd z (by decide)⟩, fun z => absurd z (by decide)⟩
          refine w_dput (w_V rfl (w_V rfl (w_V rfl ⟨_, kvs, rfl, getDk_e _ _ _, by have := B.len; omega, ?_⟩)))
          rw [setDk_e]
          refine ⟨_, _, _, _, rfl, ?_⟩
          -- the first row of its output is a least one
          have hlst : (least p (sizeL (sv row p))).1 = row.length := by
            obtain ⟨s1, s2, s3⟩ := sf_in ho1 ho2 tp outm
            by_cases hlt : (least p (sizeL (sv row p))).1 < row.length
            · have hin : sf o p (sv row p) ∈ rs := (hall.mem _).mpr ⟨s1, by omega⟩
              have := hall.before hE3 hin (by omega)
              obtain ⟨d, hd⟩ := B.has _ this
              rw [s3, hg] at hd
              cases hd
            · omega
          have hz : sizeL row = least p (sizeL (sv row p)) := Prod.ext hlst.symm (l3 hlst).symm
          refine ⟨fun o' d' e' => ?_, fun r hr => ?_, fun x hx => ?_, ?_⟩
          · rw [getK_put] at e'
            by_cases he : (Sum.inr o' : KK) = .inr (sv row p)
            · rw [if_pos he] at e'
              cases e'
              injection he with he
              subst he
              exact ⟨by rw [hz], row, List.mem_append_right _ List.mem_cons_self, rfl⟩
            · rw [if_neg he] at e'
              obtain ⟨v1, r, hr, v2⟩ := B.val o' d' e'
              exact ⟨v1, r, List.mem_append_left _ hr, v2⟩
          · rw [getK_put]
            by_cases he : (Sum.inr (sv r p) : KK) = .inr (sv row p)
            · rw [if_pos he]
              exact ⟨_, rfl⟩
            · rw [if_neg he]
              rcases List.mem_append.mp hr with hr | hr
              · exact B.has r hr
              · rw [List.mem_singleton.mp hr] at he
                exact absurd rfl he
          · rcases put_keys hx with h | ⟨q, hq, h⟩
            · exact ⟨_, h⟩
            · obtain ⟨o', ho'⟩ := B.key q hq
              exact ⟨o', h.symm.trans ho'⟩
          · have := len_put kvs (.inr (sv row p)) (encZ (sizeL row))
            have := B.len
            rw [List.length_append, List.length_singleton]
            omega
        | some d =>
          obtain ⟨rfl, r0, hr0, er0⟩ := B.val _ _ hg
          have Bn : Bst p (pre3 ++ [row]) kvs := ⟨fun o' d' e' => by
            obtain ⟨v1, r, hr, v2⟩ := B.val o' d' e'
            exact ⟨v1, r, List.mem_append_left _ hr, v2⟩, fun r hr => by
            rcases List.mem_append.mp hr with hr | hr
            · exact B.has r hr
            · rw [List.mem_singleton.mp hr]
              exact ⟨_, hg⟩, B.key, by have := B.len; rw [List.length_append]; omega⟩
          refine w_if (w_or (w_tst (w_din (w_V rfl (w_V rfl ⟨_, kvs, rfl, getDr_e _ _ _, ?_⟩)))))
          rw [hg]
          refine ⟨_, rfl, fun z => absurd z (by simp), fun _ => ?_⟩
          refine w_tst (w_bin (w_bin (w_V rfl (w_C ⟨_, ix0_Z _, w_bin (w_dget (w_V rfl (w_V rfl ⟨_, kvs, _, rfl, getDr_e _ _ _, hg, w_C ⟨_, ix0_Z _, _, rfl, _, rfl, fun z => ?_, fun _ => ?_⟩⟩)))⟩))))
          · have z' : ((row.length : Nat) : Int) < ((least p (sizeL (sv row p))).1 : Nat) := of_decide_eq_true z
            omega
          refine w_if (w_and (w_tst (w_bin (w_bin (w_V rfl (w_C ⟨_, ix0_Z _, w_bin (w_dget (w_V rfl (w_V rfl ⟨_, kvs, _, rfl, getDr_e _ _ _, hg, w_C ⟨_, ix0_Z _, _, rfl, _, rfl, fun z => ?_, fun _ => ?_⟩⟩)))⟩))))) )
          · have z' : ((row.length : Nat) : Int) = ((least p (sizeL (sv row p))).1 : Nat) := of_decide_eq_true z
            have hz : sizeL row = least p (sizeL (sv row p)) := Prod.ext (by show row.length = _; omega) (l3 (by omega)).symm
            refine w_tst (w_bin (w_V rfl (w_dget (w_V rfl (w_V rfl ⟨_, kvs, _, rfl, getDr_e _ _ _, hg, _, neD_pl (encZ_pl 59 _) (encZ_pl 59 _), _, rfl, fun z => ?_, fun _ => w_nx ⟨_, _, _, _, rfl, Bn⟩⟩)))))
            rw [hz] at z
            simp at z
          · exact ⟨fun z => absurd z (by decide), fun _ => w_nx ⟨_, _, _, _, rfl, Bn⟩⟩
      -- the outputs that were led to
      rintro s3 ⟨x9, x10, x11, kvs, rfl, B⟩
      refine w_seq (w_forK (r := hp3.length) (kvs := kvs) rfl (end_get _ _) ?_)
      refine (show Wp _ (st [vl (.fz (ns.map D.int)), vl (.ref 1), vl (.int (0 + (a' : Nat))), vl (.str ls), vl (.int (most : Nat)), vl (.lst (rs.map D.str)), vl (.int (0 + (b' : Nat))), vl (.str p), vl (.ref hp3.length), x9, x10, x11] (hp3 ++ [.dkL kvs])) _ → _ from fun z => by
        have e : (hp3 ++ [AO.dk kvs]).set hp3.length (.dkL kvs) = hp3 ++ [.dkL kvs] := end_set _ _ _
        show Wp _ (st _ ((hp3 ++ [AO.dk kvs]).set hp3.length (.dkL kvs))) _
        rw [e]
        exact z) ?_
      refine w_for (fun q : KK × D => kD q.1) kvs (fun _ s' => ∃ x10, s' = st [vl (.fz (ns.map D.int)), vl (.ref 1), vl (.int (0 + (a' : Nat))), vl (.str ls), vl (.int (most : Nat)), vl (.lst (rs.map D.str)), vl (.int (0 + (b' : Nat))), vl (.str p), vl (.ref hp3.length), x9, x10, x11] (hp3 ++ [.dkL kvs])) ?_ ?_ ?_
      · refine ⟨kvs.map fun q : KK × D => kD q.1, _, ?_, rfl, x10, rfl⟩
        show (match (hp3 ++ [AO.dkL kvs])[hp3.length]? with | some (.dkL kvs) => some (O.ok (kvs.map fun q : KK × D => kD q.1) _) | _ => none) = _
        rw [end_get]
      · rintro pre4 q post4 s4 hE4 ⟨x10, rfl⟩
        have hq : q ∈ kvs := by
          rw [hE4]
          exact List.mem_append_right _ List.mem_cons_self
        obtain ⟨out, eo⟩ := B.key q hq
        obtain ⟨d, hd⟩ := getK_mem hq
        rw [eo] at hd
        obtain ⟨rfl, r, hr, er⟩ := B.val _ _ hd
        rw [eo]
        obtain ⟨rl, rm⟩ := (hall.mem r).mp hr
        have olow : low out := by
          rw [← er]
          exact fun c hc => hlow c (rl c (sv_mem hc))
        have hr5 : rok r := low_rok5 (lowr r rl) (by omega)
        have hrok : rok out := by
          rw [← er]
          exact rok_sv hr5 p
        refine w_gV (w_if (w_not (w_tst (w_call (w_cons (w_call (w_cons (w_V rfl (w_cons (w_V rfl (w_nil ⟨rfl, w_least_size_2 tp (by omega) olow hrok ?_⟩))))) ))))))
        refine w_cons (w_dget (w_V rfl (w_V rfl ⟨_, kvs, _, rfl, getDr_eL _ _ _, hd, w_nil ⟨rfl, w_law_same_Z ⟨true, rfl, fun z => absurd z (by decide), fun _ => w_nx ⟨_, rfl⟩⟩⟩⟩)))
      · rintro s4 ⟨x10, rfl⟩
        refine ⟨kvs, end_get _ _, ?_⟩
        have e : (hp3 ++ [AO.dkL kvs]).set hp3.length (.dk kvs) = hp3 ++ [.dk kvs] := end_set _ _ _
        show Wp _ (st _ ((hp3 ++ [AO.dkL kvs]).set hp3.length (.dk kvs))) _
        rw [e]
        -- the short rows
        have a5 : SrcAt (hp3 ++ [.dk kvs]) 1 0 (100 * pre.length + 20 + 20 * pre2.length + 14) := (rows_ne a3 _).le (by omega)
        refine w_bnd (w_it (w_call (w_cons (w_V rfl (w_cons (w_C (w_nil ⟨rfl, w_law_rows (most := 3) hl3 (by decide) fun rs3 hall3 hrl3 => ⟨_, rfl, ?_⟩⟩)))))))
        refine w_forL (e := D.str) (fun _ s' => ∃ x10, s' = st [vl (.fz (ns.map D.int)), vl (.ref 1), vl (.int (0 + (a' : Nat))), vl (.str ls), vl (.int (most : Nat)), vl (.lst (rs.map D.str)), vl (.int (0 + (b' : Nat))), vl (.str p), vl (.ref hp3.length), x9, x10, x11] (hp3 ++ [.dk kvs])) rs3 [] _ ⟨x10, rfl⟩ ?_ ?_
        · rintro pre4 out post4 s4 hE4 ⟨x10, rfl⟩
          have hout : out ∈ rs3 := by
            have : rs3 = pre4 ++ out :: post4 := by simpa using hE4
            rw [this]
            exact List.mem_append_right _ List.mem_cons_self
          obtain ⟨ol, om⟩ := (hall3.mem out).mp hout
          have olow := lowr out ol
          have hrok : rok out := low_rok5 olow (by omega)
          refine w_gV (w_if (w_and (w_tst (w_din (w_V rfl (w_V rfl ⟨_, kvs, rfl, getDr_e _ _ _, ?_⟩)))))) 
          cases hg : getK kvs (.inr out) with
          | some d => exact ⟨_, rfl, fun z => absurd z (by simp), fun _ => ⟨fun z => absurd z (by decide), fun _ => w_nx ⟨_, rfl⟩⟩⟩
          | none =>
            refine ⟨_, rfl, fun _ => ?_, fun z => absurd z (by decide)⟩
            refine w_tst (w_bin (w_bin (w_call (w_cons (w_V rfl (w_cons (w_V rfl (w_nil ⟨rfl, w_least_size_2 tp (by omega) olow hrok (w_C ⟨_, ix0_Z _, w_V rfl ⟨_, rfl, _, rfl, fun z => ?_, fun _ => w_nx ⟨_, rfl⟩⟩⟩)⟩))))))))
            have z' : (((least p (sizeL out)).1 : Nat) : Int) ≤ (most : Nat) := of_decide_eq_true z
            obtain ⟨s1, s2, s3⟩ := sf_in ho1 ho2 tp ol
            have hin : sf o p out ∈ rs := (hall.mem _).mpr ⟨s1, by omega⟩
            obtain ⟨d, hd⟩ := B.has _ hin
            rw [s3, hg] at hd
            cases hd
        · rintro s4 ⟨x10, rfl⟩
          refine ⟨_, _, _, _, _, _, _, rfl, a5.le ?_⟩
          rw [List.length_append, List.length_singleton]
          omega
    · rintro s2 ⟨x6, x7, x8, x9, x10, x11, hp2, rfl, h2⟩
      rw [List.length_range] at h2
      refine ⟨_, _, _, _, _, _, _, _, _, _, _, rfl, h2.le ?_⟩
      rw [List.length_append, List.length_singleton]
      omega
  · rintro s1 ⟨x2, x3, x4, x5, x6, x7, x8, x9, x10, x11, hp, rfl, hsrc⟩
    have lo : low [97, 97] := fun c hc => by have : c = 97 := by simpa using hc
                                             omega
    refine w_rt (w_bin ?_)
    (repeat (first | refine w_seq ?_ | refine w_set ?_ | refine w_asg ?_ | refine w_gV ?_ | refine w_gT2 ?_ | refine w_gL2 ?_ | refine w_rt ?_ | refine w_drop ?_ | refine w_par ?_ | refine w_aug rfl ?_ | refine w_nx ?_ | refine w_and ?_ | refine w_or ?_ | refine w_not ?_ | refine w_tst ?_ | refine w_if ?_ | refine w_andV ?_ | refine w_orV ?_ | refine w_tup ?_ | refine w_lst ?_ | refine w_lstH ?_ | refine w_bin ?_ | refine w_un ?_ | refine w_fn ?_ | refine w_it ?_ | refine w_itA ?_ | refine w_cons ?_ | refine w_nil ?_ | refine w_V rfl ?_ | refine w_VO rfl ?_ | refine w_C ?_ | refine w_sl ?_ | refine w_so ?_ | refine w_no ?_ | refine w_call ?_ | refine w_join ?_ | refine w_setO ?_ | refine w_ixH ?_ | refine w_setIxH ?_ | refine w_cmpH ?_ | refine w_pop0H ?_ | refine w_appH ?_ | refine w_par3 ?_ | refine w_joinH ?_ | refine w_perm ?_ | refine w_split ?_ | refine w_notV ?_ | refine w_ret ?_ | refine And.intro rfl ?_ | refine Exists.intro _ (And.intro rfl ?_)))
    refine w_least_size_2 (p := [83]) (s := [97, 97]) (fun c hc => .inr (List.mem_singleton.mp hc)) (by decide) lo (low_rok5 lo (by decide)) ?_
    have e1 : encZ (least [83] (sizeL [97, 97])) = .tup [.int 4, .int 1] := rfl
    rw [e1]
    refine w_tup (w_cons (w_C (w_cons (w_C (w_nil ⟨rfl, ?_⟩)))))
    refine ⟨_, eqD_pl (by rfl) (by rfl), ?_⟩
    rw [decide_eq_true rfl]
    rfl
theorem sp_law_5 : ∀ ds hp r, ds.length = 1 → n_law_5 ds hp = some r → fnOf 12 b_law_5 ds hp = some r := fun _ _ _ _ h => h

end Z
namespace Lw
open PySem L2 Z
/-! ### the text by places -/
def topS (i : Nat) : Stmt := PySem.Challenge.pw_twinsieve_k06_whole_least_sizes_by_all_r.main.body.getD i (.Pass ⟨0, 0, 0, 0⟩)
theorem Str_da39a3ee : ("" : Str) = ⟨[].toArray⟩ := by decide +kernel
theorem Str_02aa629c : ("S" : Str) = ⟨[83].toArray⟩ := by decide +kernel
theorem Str_a114748d : ("SSST" : Str) = ⟨[83, 83, 83, 84].toArray⟩ := by decide +kernel
theorem Str_c2c53d66 : ("T" : Str) = ⟨[84].toArray⟩ := by decide +kernel
theorem Str_d3a2460e : ("TS" : Str) = ⟨[84, 83].toArray⟩ := by decide +kernel
theorem Str_3c849266 : ("TTTS" : Str) = ⟨[84, 84, 84, 83].toArray⟩ := by decide +kernel
theorem Str_e0c90358 : ("aa" : Str) = ⟨[97, 97].toArray⟩ := by decide +kernel
theorem Str_da23614e : ("ab" : Str) = ⟨[97, 98].toArray⟩ := by decide +kernel
theorem Str_a9993e36 : ("abc" : Str) = ⟨[97, 98, 99].toArray⟩ := by decide +kernel
theorem Str_32d10c7b : ("abcdefghijklmnopqrstuvwxyz" : Str) = ⟨[97, 98, 99, 100, 101, 102, 103, 104, 105, 106, 107, 108, 109, 110, 111, 112, 113, 114, 115, 116, 117, 118, 119, 120, 121, 122].toArray⟩ := by decide +kernel
theorem Str_5f845998 : ("xy" : Str) = ⟨[120, 121].toArray⟩ := by decide +kernel
/-- what the walk asks of the module's names -/
structure Bl (K : PySem.W.Frag) (mg : Str → Option Value) (t_LETTERS : Tok) (t_SINGLES : Tok) (t_TWINS : Tok) : Prop where
  b_bool : mg "bool" = none
  b_enumerate : mg "enumerate" = none
  b_int : mg "int" = none
  b_isinstance : mg "isinstance" = none
  b_len : mg "len" = none
  b_list : mg "list" = none
  b_max : mg "max" = none
  b_min : mg "min" = none
  b_range : mg "range" = none
  b_str : mg "str" = none
  b_tuple : mg "tuple" = none
  g_LETTERS : mg "LETTERS" = some (.str "abcdefghijklmnopqrstuvwxyz" t_LETTERS)
  g_SINGLES : mg "SINGLES" = some (.str "S" t_SINGLES)
  g_TWINS : mg "TWINS" = some (.str "T" t_TWINS)
abbrev s__law_source : Stmt := topS 17
theorem sc__law_source : FnScope ["script", "mix", "digits", "cell", "span"] ["script"] (defScope s__law_source) := ⟨rfl, rfl, rfl, by decide +kernel, rfl, by decide +kernel, by decide +kernel⟩
abbrev s__law_rows : Stmt := topS 25
theorem sc__law_rows : FnScope ["letters", "most", "found", "last", "time", "longer", "row", "letter"] ["letters", "most"] (defScope s__law_rows) := ⟨rfl, rfl, rfl, by decide +kernel, rfl, by decide +kernel, by decide +kernel⟩
abbrev s_check_pipeline : Stmt := topS 9
theorem sc_check_pipeline : FnScope ["pipeline", "index", "letter"] ["pipeline"] (defScope s_check_pipeline) := ⟨rfl, rfl, rfl, by decide +kernel, rfl, by decide +kernel, by decide +kernel⟩
abbrev s_check_row : Stmt := topS 8
theorem sc_check_row : FnScope ["row", "index", "letter"] ["row"] (defScope s_check_row) := ⟨rfl, rfl, rfl, by decide +kernel, rfl, by decide +kernel, by decide +kernel⟩
abbrev s_size_before : Stmt := topS 13
theorem sc_size_before : FnScope ["size", "sieve", "length", "pairs"] ["size", "sieve"] (defScope s_size_before) := ⟨rfl, rfl, rfl, by decide +kernel, rfl, by decide +kernel, by decide +kernel⟩
abbrev s_least_size_from : Stmt := topS 14
theorem sc_least_size_from : FnScope ["pipeline", "size", "sieve"] ["pipeline", "size"] (defScope s_least_size_from) := ⟨rfl, rfl, rfl, by decide +kernel, rfl, by decide +kernel, by decide +kernel⟩
abbrev s_runs_of : Stmt := topS 10
theorem sc_runs_of : FnScope ["row", "found", "letter"] ["row"] (defScope s_runs_of) := ⟨rfl, rfl, rfl, by decide +kernel, rfl, by decide +kernel, by decide +kernel⟩
abbrev s_size_of : Stmt := topS 11
theorem sc_size_of : FnScope ["row"] ["row"] (defScope s_size_of) := ⟨rfl, rfl, rfl, by decide +kernel, rfl, by decide +kernel, by decide +kernel⟩
abbrev s_least_size : Stmt := topS 15
theorem sc_least_size : FnScope ["pipeline", "output"] ["pipeline", "output"] (defScope s_least_size) := ⟨rfl, rfl, rfl, by decide +kernel, rfl, by decide +kernel, by decide +kernel⟩
abbrev s__law_draw : Stmt := topS 18
theorem sc__law_draw : FnScope ["source", "many", "drawn", "mixed"] ["source", "many"] (defScope s__law_draw) := ⟨rfl, rfl, rfl, by decide +kernel, rfl, by decide +kernel, by decide +kernel⟩
abbrev s__law_sieves : Stmt := topS 23
theorem sc__law_sieves : FnScope ["source", "most", "way", "found", "time", "some"] ["source", "most"] (defScope s__law_sieves) := ⟨rfl, rfl, rfl, by decide +kernel, rfl, by decide +kernel, by decide +kernel⟩
abbrev s__law_runs : Stmt := topS 20
theorem sc__law_runs : FnScope ["row", "found", "letter"] ["row"] (defScope s__law_runs) := ⟨rfl, rfl, rfl, by decide +kernel, rfl, by decide +kernel, by decide +kernel⟩
abbrev s__law_sieved : Stmt := topS 21
theorem sc__law_sieved : FnScope ["row", "sieves", "one", "letter", "span"] ["row", "sieves"] (defScope s__law_sieved) := ⟨rfl, rfl, rfl, by decide +kernel, rfl, by decide +kernel, by decide +kernel⟩
abbrev s__law_size : Stmt := topS 22
theorem sc__law_size : FnScope ["row"] ["row"] (defScope s__law_size) := ⟨rfl, rfl, rfl, by decide +kernel, rfl, by decide +kernel, by decide +kernel⟩
abbrev s__law_same : Stmt := topS 19
theorem sc__law_same : FnScope ["found", "wanted", "k"] ["found", "wanted"] (defScope s__law_same) := ⟨rfl, rfl, rfl, by decide +kernel, rfl, by decide +kernel, by decide +kernel⟩
abbrev s_law : Stmt := topS 26
theorem sc_law : FnScope ["script", "source", "k", "letters", "most", "rows", "turn", "sieves", "best", "row", "output", "span"] ["script"] (defScope s_law) := ⟨rfl, rfl, rfl, by decide +kernel, rfl, by decide +kernel, by decide +kernel⟩
section
variable {P : Program} {w : World} {K : PySem.W.Frag} {mg : Str → Option Value} {base : Heap} {t_LETTERS : Tok} {t_SINGLES : Tok} {t_TWINS : Tok}
theorem d__law_source {f : Addr} {fd : FuncData} (B : Bl K mg t_LETTERS t_SINGLES t_TWINS) (d : Dfn K mg "_law_source" "_law_source" s__law_source ["script"] f fd) : Cal P w K mg base "_law_source" "_law_source" s__law_source ["script"] 1 1 n_law_source :=
  (calD (N := ["script", "mix", "digits", "cell", "span"]) (m := b_law_source) (k := 0) d sc__law_source rfl fun cdv A outer s H E hr =>
    have hu := hr.units
    have tk := takes_of (X := cxOf (L2.CX P w) P w K mg base ["script", "mix", "digits", "cell", "span"] "_law_source" (defScope s__law_source) f cdv A outer s H E) rfl rfl rfl rfl
    ⟨_, (dss_cons (ds_set 1 sc__law_source.nd de_int)
    (dss_cons (ds_set 2 sc__law_source.nd (de_lstH da_nil))
    (dss_cons (ds_for (passes_of rfl) rfl (ki_lst K (de_var 0)) (dg_name 3 sc__law_source.nd) (dss_cons (ds_set 1 sc__law_source.nd (de_op o_modI (de_op o_addI (de_op o_mulI (de_var 1) de_int) (de_var 3)) (de_op o_subI (de_op o_powI de_int de_int) de_int)))
    (dss_cons (ds_set 4 sc__law_source.nd (de_callB (b_max rfl) (by rfl) B.b_max (by decide +kernel) (da_cons (de_var 3) (da_cons (de_op o_subI de_int (de_var 3)) da_nil))))
    (dss_one (ds_if (dt_cmp o_geI (de_var 4) (de_op o_powI de_int de_int)) (dss_one (ds_expr (de_appH (de_var 2) (de_op o_subI (de_var 4) (de_op o_powI de_int de_int))))) dss_nil)))))
    (dss_one (ds_ret (de_lstH (da_cons (de_var 2) (da_cons de_int (da_cons (de_var 1) (da_cons de_int da_nil))))))))))⟩).imp sp_law_source
theorem d__law_rows {f : Addr} {fd : FuncData} (B : Bl K mg t_LETTERS t_SINGLES t_TWINS) (d : Dfn K mg "_law_rows" "_law_rows" s__law_rows ["letters", "most"] f fd) : Cal P w K mg base "_law_rows" "_law_rows" s__law_rows ["letters", "most"] 1 2 n_law_rows :=
  (calD (N := ["letters", "most", "found", "last", "time", "longer", "row", "letter"]) (m := b_law_rows) (k := 0) d sc__law_rows rfl fun cdv A outer s H E hr =>
    have hu := hr.units
    have tk := takes_of (X := cxOf (L2.CX P w) P w K mg base ["letters", "most", "found", "last", "time", "longer", "row", "letter"] "_law_rows" (defScope s__law_rows) f cdv A outer s H E) rfl rfl rfl rfl
    ⟨_, (dss_cons (ds_par 2 3 rfl sc__law_rows.nd (da_cons (de_lst (da_cons (de_str [] Str_da39a3ee) da_nil)) (da_cons (de_lst (da_cons (de_str [] Str_da39a3ee) da_nil)) da_nil)))
    (dss_cons (ds_for (passes_of rfl) rfl (di_rng1 (by rfl) B.b_range (da_cons (de_var 1) da_nil)) (dg_name 4 sc__law_rows.nd) (dss_cons (ds_setO 5 sc__law_rows.nd da_nil)
    (dss_cons (ds_for (passes_of rfl) rfl (ki_lst K (de_var 3)) (dg_name 6 sc__law_rows.nd) (dss_one (ds_expr (de_extO 5 (de_lc [("letter", 7)] rfl sc__law_rows.nd (di_str (de_var 0)) (blkOk_by (N := ["letters", "most", "found", "last", "time", "longer", "row", "letter"]) (sc := defScope s__law_rows) (by decide +kernel)) (fun _ _ _ _ _ => (dg_name 7 sc__law_rows.nd)) (gk_name (by decide)) (fun _ _ _ _ _ => dts_nil) (fun _ _ _ _ _ => (de_op o_addS (de_var 6) (de_var 7))))))))
    (dss_one (ds_par 2 3 rfl sc__law_rows.nd (da_cons (de_op o_catL (de_var 2) (de_var 5)) (da_cons (de_var 5) da_nil)))))))
    (dss_one (ds_ret (de_var 2)))))⟩).imp sp_law_rows
theorem d_check_pipeline {f : Addr} {fd : FuncData} (B : Bl K mg t_LETTERS t_SINGLES t_TWINS) (d : Dfn K mg "check_pipeline" "check_pipeline" s_check_pipeline ["pipeline"] f fd) : Cal P w K mg base "check_pipeline" "check_pipeline" s_check_pipeline ["pipeline"] 1 1 n_check_pipeline :=
  (calD (N := ["pipeline", "index", "letter"]) (m := b_check_pipeline) (k := 0) d sc_check_pipeline rfl fun cdv A outer s H E hr =>
    have hu := hr.units
    have tk := takes_of (X := cxOf (L2.CX P w) P w K mg base ["pipeline", "index", "letter"] "check_pipeline" (defScope s_check_pipeline) f cdv A outer s H E) rfl rfl rfl rfl
    ⟨_, (dss_one (ds_for (passes_of rfl) rfl (di_enS (by rfl) B.b_enumerate (da_cons (de_var 0) da_nil)) (kg_tup K rfl (dgs_cons (dg_name 1 sc_check_pipeline.nd) (dgs_cons (dg_name 2 sc_check_pipeline.nd) dgs_nil))) (dss_one (ds_if (dt_cmp (k_notInL K) (de_var 2) (de_tup (da_cons (de_globS [84] (by rfl) B.g_TWINS Str_c2c53d66) (da_cons (de_globS [83] (by rfl) B.g_SINGLES Str_02aa629c) da_nil)))) (dss_one ds_never) dss_nil))))⟩).imp sp_check_pipeline
theorem d_check_row {f : Addr} {fd : FuncData} (B : Bl K mg t_LETTERS t_SINGLES t_TWINS) (d : Dfn K mg "check_row" "check_row" s_check_row ["row"] f fd) : Cal P w K mg base "check_row" "check_row" s_check_row ["row"] 1 1 n_check_row :=
  (calD (N := ["row", "index", "letter"]) (m := b_check_row) (k := 0) d sc_check_row rfl fun cdv A outer s H E hr =>
    have hu := hr.units
    have tk := takes_of (X := cxOf (L2.CX P w) P w K mg base ["row", "index", "letter"] "check_row" (defScope s_check_row) f cdv A outer s H E) rfl rfl rfl rfl
    ⟨_, (dss_one (ds_for (passes_of rfl) rfl (di_enS (by rfl) B.b_enumerate (da_cons (de_var 0) da_nil)) (kg_tup K rfl (dgs_cons (dg_name 1 sc_check_row.nd) (dgs_cons (dg_name 2 sc_check_row.nd) dgs_nil))) (dss_one (ds_if (dt_cmp o_notInS (de_var 2) (de_globS [97, 98, 99, 100, 101, 102, 103, 104, 105, 106, 107, 108, 109, 110, 111, 112, 113, 114, 115, 116, 117, 118, 119, 120, 121, 122] (by rfl) B.g_LETTERS Str_32d10c7b)) (dss_one ds_never) dss_nil))))⟩).imp sp_check_row
theorem d_size_before {f : Addr} {fd : FuncData} (B : Bl K mg t_LETTERS t_SINGLES t_TWINS) (d : Dfn K mg "size_before" "size_before" s_size_before ["size", "sieve"] f fd) : Cal P w K mg base "size_before" "size_before" s_size_before ["size", "sieve"] 1 2 n_size_before_2 :=
  (calD (N := ["size", "sieve", "length", "pairs"]) (m := b_size_before_2) (k := 0) d sc_size_before rfl fun cdv A outer s H E hr =>
    have hu := hr.units
    have tk := takes_of (X := cxOf (L2.CX P w) P w K mg base ["size", "sieve", "length", "pairs"] "size_before" (defScope s_size_before) f cdv A outer s H E) rfl rfl rfl rfl
    ⟨_, (dss_cons (ds_asg (swt := rfl) (de_var 0) (kg_tup K rfl (dgs_cons (dg_name 2 sc_size_before.nd) (dgs_cons (dg_name 3 sc_size_before.nd) dgs_nil))))
    (dss_one (ds_ret (de_if (dt_cmp o_eqS (de_var 1) (de_globS [84] (by rfl) B.g_TWINS Str_c2c53d66)) (de_tup (da_cons (de_op o_addI (de_op o_mulI de_int (de_var 2)) (de_var 3)) (da_cons (de_var 2) da_nil))) (de_tup (da_cons (de_op o_addI (de_var 2) (de_op o_mulI de_int (de_var 3))) (da_cons (de_var 3) da_nil)))))))⟩).imp sp_size_before_2
theorem d_least_size_from {f : Addr} {fd : FuncData} (B : Bl K mg t_LETTERS t_SINGLES t_TWINS) (d : Dfn K mg "least_size_from" "least_size_from" s_least_size_from ["pipeline", "size"] f fd) (C_size_before : Cal P w K mg base "size_before" "size_before" s_size_before ["size", "sieve"] 1 2 n_size_before_2) : Cal P w K mg base "least_size_from" "least_size_from" s_least_size_from ["pipeline", "size"] 2 2 n_least_size_from_2 :=
  (calD (N := ["pipeline", "size", "sieve"]) (m := b_least_size_from_2) (k := 1) d sc_least_size_from rfl fun cdv A outer s H E hr =>
    have hu := hr.units
    have tk := takes_of (X := cxOf (L2.CX P w) P w K mg base ["pipeline", "size", "sieve"] "least_size_from" (defScope s_least_size_from) f cdv A outer s H E) rfl rfl rfl rfl
    ⟨_, (dss_cons (ds_for (passes_of rfl) rfl (di_str (de_revS (de_var 0))) (dg_name 2 sc_least_size_from.nd) (dss_one (ds_set 1 sc_least_size_from.nd (ke_call K mg C_size_before (hr.mono (by decide)) tk (da_cons (de_var 1) (da_cons (de_var 2) da_nil))))))
    (dss_one (ds_ret (de_var 1))))⟩).imp sp_least_size_from_2
theorem d_runs_of {f : Addr} {fd : FuncData} (B : Bl K mg t_LETTERS t_SINGLES t_TWINS) (d : Dfn K mg "runs_of" "runs_of" s_runs_of ["row"] f fd) : Cal P w K mg base "runs_of" "runs_of" s_runs_of ["row"] 1 1 n_runs_of :=
  (calD (N := ["row", "found", "letter"]) (m := b_runs_of) (k := 0) d sc_runs_of rfl fun cdv A outer s H E hr =>
    have hu := hr.units
    have tk := takes_of (X := cxOf (L2.CX P w) P w K mg base ["row", "found", "letter"] "runs_of" (defScope s_runs_of) f cdv A outer s H E) rfl rfl rfl rfl
    ⟨_, (dss_cons (ds_setO 1 sc_runs_of.nd da_nil)
    (dss_cons (ds_for (passes_of rfl) rfl (di_str (de_var 0)) (dg_name 2 sc_runs_of.nd) (dss_one (ds_if (dt_w (dw_and (dt_neO 1 hu (de_lst da_nil)) (dw_and1 (dt_cmp o_eqS (de_ix (k_ix K) (de_ixO 1 (de_neg de_int)) de_int) (de_var 2))))) (dss_one (ds_setIxO 1 (de_tup (da_cons (de_var 2) (da_cons (de_op o_addI (de_ix (k_ix K) (de_ixO 1 (de_neg de_int)) de_int) de_int) da_nil))) (de_neg de_int))) (dss_one (ds_expr (de_appO 1 (de_tup (da_cons (de_var 2) (da_cons de_int da_nil)))))))))
    (dss_one (ds_ret (de_var 1)))))⟩).imp sp_runs_of
theorem d_size_of {f : Addr} {fd : FuncData} (B : Bl K mg t_LETTERS t_SINGLES t_TWINS) (d : Dfn K mg "size_of" "size_of" s_size_of ["row"] f fd) (C_runs_of : Cal P w K mg base "runs_of" "runs_of" s_runs_of ["row"] 1 1 n_runs_of) : Cal P w K mg base "size_of" "size_of" s_size_of ["row"] 2 1 n_size_of :=
  (calD (N := ["row"]) (m := b_size_of) (k := 1) d sc_size_of rfl fun cdv A outer s H E hr =>
    have hu := hr.units
    have tk := takes_of (X := cxOf (L2.CX P w) P w K mg base ["row"] "size_of" (defScope s_size_of) f cdv A outer s H E) rfl rfl rfl rfl
    ⟨_, (dss_one (ds_ret (de_tup (da_cons (de_callB (kb_len K) (by rfl) B.b_len (by decide +kernel) (da_cons (de_var 0) da_nil)) (da_cons (de_op o_subI (de_callB (kb_len K) (by rfl) B.b_len (by decide +kernel) (da_cons (de_var 0) da_nil)) (de_callB (kb_len K) (by rfl) B.b_len (by decide +kernel) (da_cons (ke_call K mg C_runs_of (hr.mono (by decide)) tk (da_cons (de_var 0) da_nil)) da_nil))) da_nil)))))⟩).imp sp_size_of
theorem d_least_size {f : Addr} {fd : FuncData} (B : Bl K mg t_LETTERS t_SINGLES t_TWINS) (d : Dfn K mg "least_size" "least_size" s_least_size ["pipeline", "output"] f fd) (C_check_pipeline : Cal P w K mg base "check_pipeline" "check_pipeline" s_check_pipeline ["pipeline"] 1 1 n_check_pipeline) (C_check_row : Cal P w K mg base "check_row" "check_row" s_check_row ["row"] 1 1 n_check_row) (C_size_of : Cal P w K mg base "size_of" "size_of" s_size_of ["row"] 2 1 n_size_of) (C_least_size_from : Cal P w K mg base "least_size_from" "least_size_from" s_least_size_from ["pipeline", "size"] 2 2 n_least_size_from_2) : Cal P w K mg base "least_size" "least_size" s_least_size ["pipeline", "output"] 3 2 n_least_size_2 :=
  (calD (N := ["pipeline", "output"]) (m := b_least_size_2) (k := 2) d sc_least_size rfl fun cdv A outer s H E hr =>
    have hu := hr.units
    have tk := takes_of (X := cxOf (L2.CX P w) P w K mg base ["pipeline", "output"] "least_size" (defScope s_least_size) f cdv A outer s H E) rfl rfl rfl rfl
    ⟨_, (dss_cons (ds_expr (ke_call K mg C_check_pipeline (hr.mono (by decide)) tk (da_cons (de_var 0) da_nil)))
    (dss_cons (ds_expr (ke_call K mg C_check_row (hr.mono (by decide)) tk (da_cons (de_var 1) da_nil)))
    (dss_one (ds_ret (ke_call K mg C_least_size_from (hr.mono (by decide)) tk (da_cons (de_var 0) (da_cons (ke_call K mg C_size_of (hr.mono (by decide)) tk (da_cons (de_var 1) da_nil)) da_nil)))))))⟩).imp sp_least_size_2
theorem d__law_draw {f : Addr} {fd : FuncData} (B : Bl K mg t_LETTERS t_SINGLES t_TWINS) (d : Dfn K mg "_law_draw" "_law_draw" s__law_draw ["source", "many"] f fd) : Cal P w K mg base "_law_draw" "_law_draw" s__law_draw ["source", "many"] 1 2 n_law_draw_2 :=
  (calD (N := ["source", "many", "drawn", "mixed"]) (m := b_law_draw_2) (k := 0) d sc__law_draw rfl fun cdv A outer s H E hr =>
    have hu := hr.units
    have tk := takes_of (X := cxOf (L2.CX P w) P w K mg base ["source", "many", "drawn", "mixed"] "_law_draw" (defScope s__law_draw) f cdv A outer s H E) rfl rfl rfl rfl
    ⟨_, (dss_cons (ds_while (passes_of rfl) (dt_w (dw_and (dt_cmp o_ltI (ke_ixH K (de_var 0) de_int) de_int) (dw_and1 (dt_neH hu (ke_ixH K (de_var 0) de_int) (de_lst da_nil))))) (dss_one (ds_setIxH (de_pop0H (ke_ixH K (de_var 0) de_int) de_int) (de_var 0) de_int)))
    (dss_cons (ds_if (dt_cmp o_geI (ke_ixH K (de_var 0) de_int) de_int) (dss_cons (ds_set 2 sc__law_draw.nd (de_op o_modI (ke_ixH K (de_var 0) de_int) (de_var 1)))
    (dss_cons (ds_setIxH (de_op o_divI (ke_ixH K (de_var 0) de_int) (de_var 1)) (de_var 0) de_int)
    (dss_one (ds_ret (de_var 2))))) dss_nil)
    (dss_cons (ds_setIxH (de_op o_addI (ke_ixH K (de_var 0) de_int) de_int) (de_var 0) de_int)
    (dss_cons (ds_set 3 sc__law_draw.nd (de_op o_mulI (de_op o_addI (ke_ixH K (de_var 0) de_int) de_int) (de_op o_powI (de_op o_addI (ke_ixH K (de_var 0) de_int) de_int) de_int)))
    (dss_cons (ds_set 3 sc__law_draw.nd (de_op o_modI (de_op o_addI (de_var 3) (de_op o_mulI de_int (ke_ixH K (de_var 0) de_int))) (de_op o_subI (de_op o_powI de_int de_int) de_int)))
    (dss_one (ds_ret (de_op o_modI (de_op o_divI (de_op o_modI (de_op o_powI (de_var 3) de_int) (de_op o_addI (de_op o_powI de_int de_int) de_int)) de_int) (de_var 1)))))))))⟩).imp sp_law_draw_2
theorem d__law_sieves {f : Addr} {fd : FuncData} (B : Bl K mg t_LETTERS t_SINGLES t_TWINS) (d : Dfn K mg "_law_sieves" "_law_sieves" s__law_sieves ["source", "most"] f fd) (C__law_draw : Cal P w K mg base "_law_draw" "_law_draw" s__law_draw ["source", "many"] 1 2 n_law_draw_2) : Cal P w K mg base "_law_sieves" "_law_sieves" s__law_sieves ["source", "most"] 2 2 n_law_sieves :=
  (calD (N := ["source", "most", "way", "found", "time", "some"]) (m := b_law_sieves) (k := 1) d sc__law_sieves rfl fun cdv A outer s H E hr =>
    have hu := hr.units
    have tk := takes_of (X := cxOf (L2.CX P w) P w K mg base ["source", "most", "way", "found", "time", "some"] "_law_sieves" (defScope s__law_sieves) f cdv A outer s H E) rfl rfl rfl rfl
    ⟨_, (dss_cons (ds_set 2 sc__law_sieves.nd (ke_call K mg C__law_draw (hr.mono (by decide)) tk (da_cons (de_var 0) (da_cons de_int da_nil))))
    (dss_cons (ds_set 3 sc__law_sieves.nd (de_str [] Str_da39a3ee))
    (dss_cons (ds_for (passes_of rfl) rfl (di_rng1 (by rfl) B.b_range (da_cons (ke_call K mg C__law_draw (hr.mono (by decide)) tk (da_cons (de_var 0) (da_cons (de_op o_addI (de_var 1) de_int) da_nil))) da_nil)) (dg_name 4 sc__law_sieves.nd) (dss_cons (ds_set 5 sc__law_sieves.nd (de_lst (da_cons (de_ix (k_ix K) (de_str [84, 83] Str_d3a2460e) (ke_call K mg C__law_draw (hr.mono (by decide)) tk (da_cons (de_var 0) (da_cons de_int da_nil)))) (da_cons (de_ix (k_ix K) (de_str [84, 84, 84, 83] Str_3c849266) (ke_call K mg C__law_draw (hr.mono (by decide)) tk (da_cons (de_var 0) (da_cons de_int da_nil)))) (da_cons (de_ix (k_ix K) (de_str [83, 83, 83, 84] Str_a114748d) (ke_call K mg C__law_draw (hr.mono (by decide)) tk (da_cons (de_var 0) (da_cons de_int da_nil)))) (da_cons (de_ix (k_ix K) (de_str [84, 83] Str_d3a2460e) (de_op o_modI (de_var 4) de_int)) da_nil))))))
    (dss_one (ds_set 3 sc__law_sieves.nd (de_op o_addS (de_var 3) (de_ix (k_ix K) (de_var 5) (de_var 2)))))))
    (dss_one (ds_ret (de_var 3))))))⟩).imp sp_law_sieves
theorem d__law_runs {f : Addr} {fd : FuncData} (B : Bl K mg t_LETTERS t_SINGLES t_TWINS) (d : Dfn K mg "_law_runs" "_law_runs" s__law_runs ["row"] f fd) : Cal P w K mg base "_law_runs" "_law_runs" s__law_runs ["row"] 1 1 n_law_runs :=
  (calD (N := ["row", "found", "letter"]) (m := b_law_runs) (k := 0) d sc__law_runs rfl fun cdv A outer s H E hr =>
    have hu := hr.units
    have tk := takes_of (X := cxOf (L2.CX P w) P w K mg base ["row", "found", "letter"] "_law_runs" (defScope s__law_runs) f cdv A outer s H E) rfl rfl rfl rfl
    ⟨_, (dss_cons (ds_setO 1 sc__law_runs.nd da_nil)
    (dss_cons (ds_for (passes_of rfl) rfl (di_str (de_var 0)) (dg_name 2 sc__law_runs.nd) (dss_one (ds_if (dt_w (dw_and (dt_neO 1 hu (de_lst da_nil)) (dw_and1 (dt_cmp o_eqS (de_ix (k_ix K) (de_ixO 1 (de_neg de_int)) de_int) (de_var 2))))) (dss_one (ds_setIxO 1 (de_tup (da_cons (de_var 2) (da_cons (de_op o_addI (de_ix (k_ix K) (de_ixO 1 (de_neg de_int)) de_int) de_int) da_nil))) (de_neg de_int))) (dss_one (ds_expr (de_appO 1 (de_tup (da_cons (de_var 2) (da_cons de_int da_nil)))))))))
    (dss_one (ds_ret (de_var 1)))))⟩).imp sp_law_runs
theorem d__law_sieved {f : Addr} {fd : FuncData} (B : Bl K mg t_LETTERS t_SINGLES t_TWINS) (d : Dfn K mg "_law_sieved" "_law_sieved" s__law_sieved ["row", "sieves"] f fd) (C__law_runs : Cal P w K mg base "_law_runs" "_law_runs" s__law_runs ["row"] 1 1 n_law_runs) : Cal P w K mg base "_law_sieved" "_law_sieved" s__law_sieved ["row", "sieves"] 2 2 n_law_sieved :=
  (calD (N := ["row", "sieves", "one", "letter", "span"]) (m := b_law_sieved) (k := 1) d sc__law_sieved rfl fun cdv A outer s H E hr =>
    have hu := hr.units
    have tk := takes_of (X := cxOf (L2.CX P w) P w K mg base ["row", "sieves", "one", "letter", "span"] "_law_sieved" (defScope s__law_sieved) f cdv A outer s H E) rfl rfl rfl rfl
    ⟨_, (dss_cons (ds_for (passes_of rfl) rfl (di_str (de_var 1)) (dg_name 2 sc__law_sieved.nd) (dss_one (ds_set 0 sc__law_sieved.nd (ke_join K (de_str [] Str_da39a3ee) (de_lc [("letter", 3), ("span", 4)] rfl sc__law_sieved.nd (ki_lst K (ke_call K mg C__law_runs (hr.mono (by decide)) tk (da_cons (de_var 0) da_nil))) (blkOk_by (N := ["row", "sieves", "one", "letter", "span"]) (sc := defScope s__law_sieved) (by decide +kernel)) (fun _ _ _ _ _ => (kg_tup K rfl (dgs_cons (dg_name 3 sc__law_sieved.nd) (dgs_cons (dg_name 4 sc__law_sieved.nd) dgs_nil)))) (gk_tup (gk_cons (by decide) (gk_cons (by decide) gk_nil))) (fun _ _ _ _ _ => (dts_one (dt_cmp o_eqS (de_cmp o_gtI (de_var 4) de_int) (de_cmp o_eqS (de_var 2) (de_str [84] Str_c2c53d66))))) (fun _ _ _ _ _ => (de_var 3)))))))
    (dss_one (ds_ret (de_var 0))))⟩).imp sp_law_sieved
theorem d__law_size {f : Addr} {fd : FuncData} (B : Bl K mg t_LETTERS t_SINGLES t_TWINS) (d : Dfn K mg "_law_size" "_law_size" s__law_size ["row"] f fd) (C__law_runs : Cal P w K mg base "_law_runs" "_law_runs" s__law_runs ["row"] 1 1 n_law_runs) : Cal P w K mg base "_law_size" "_law_size" s__law_size ["row"] 2 1 n_law_size :=
  (calD (N := ["row"]) (m := b_law_size) (k := 1) d sc__law_size rfl fun cdv A outer s H E hr =>
    have hu := hr.units
    have tk := takes_of (X := cxOf (L2.CX P w) P w K mg base ["row"] "_law_size" (defScope s__law_size) f cdv A outer s H E) rfl rfl rfl rfl
    ⟨_, (dss_one (ds_ret (de_tup (da_cons (de_callB (kb_len K) (by rfl) B.b_len (by decide +kernel) (da_cons (de_var 0) da_nil)) (da_cons (de_op o_subI (de_callB (kb_len K) (by rfl) B.b_len (by decide +kernel) (da_cons (de_var 0) da_nil)) (de_callB (kb_len K) (by rfl) B.b_len (by decide +kernel) (da_cons (ke_call K mg C__law_runs (hr.mono (by decide)) tk (da_cons (de_var 0) da_nil)) da_nil))) da_nil)))))⟩).imp sp_law_size
theorem rr__law_same {f : Addr} {fd : FuncData} (B : Bl K mg t_LETTERS t_SINGLES t_TWINS) (d : Dfn K mg "_law_same" "_law_same" s__law_same ["found", "wanted"] f fd) {k : Nat} (hk : 0 ≤ k) {nself : Fn} (C__law_same : Cal P w K mg base "_law_same" "_law_same" s__law_same ["found", "wanted"] k 2 nself) : Cal P w K mg base "_law_same" "_law_same" s__law_same ["found", "wanted"] (k + 1) 2 (fnOf 3 (b_law_same nself)) :=
  (calD (N := ["found", "wanted", "k"]) (m := b_law_same nself) (k := k) d sc__law_same rfl fun cdv A outer s H E hr =>
    have hu := hr.units
    have tk := takes_of (X := cxOf (L2.CX P w) P w K mg base ["found", "wanted", "k"] "_law_same" (defScope s__law_same) f cdv A outer s H E) rfl rfl rfl rfl
    ⟨_, (dss_cons (ds_if (dt_cmp o_isN (de_var 1) de_non) (dss_one (ds_ret (de_cmp o_isN (de_var 0) de_non))) dss_nil)
    (dss_cons (ds_if (dt_val (ke_isi K (by rfl) B.b_isinstance (by rfl) B.b_bool (by decide +kernel) (de_var 1))) (dss_one (ds_ret (de_and (ke_isi K (by rfl) B.b_isinstance (by rfl) B.b_bool (by decide +kernel) (de_var 0)) (de_one (de_cmp (k_eqD K hu) (de_var 0) (de_var 1)))))) dss_nil)
    (dss_cons (ds_if (dt_val (ke_isi K (by rfl) B.b_isinstance (by rfl) B.b_int (by decide +kernel) (de_var 1))) (dss_one (ds_ret (de_and (ke_isi K (by rfl) B.b_isinstance (by rfl) B.b_int (by decide +kernel) (de_var 0)) (de_and (de_not (ke_isi K (by rfl) B.b_isinstance (by rfl) B.b_bool (by decide +kernel) (de_var 0))) (de_one (de_cmp (k_eqD K hu) (de_var 0) (de_var 1))))))) dss_nil)
    (dss_cons (ds_if (dt_val (ke_isi K (by rfl) B.b_isinstance (by rfl) B.b_str (by decide +kernel) (de_var 1))) (dss_one (ds_ret (de_and (ke_isi K (by rfl) B.b_isinstance (by rfl) B.b_str (by decide +kernel) (de_var 0)) (de_one (de_cmp (k_eqD K hu) (de_var 0) (de_var 1)))))) dss_nil)
    (dss_cons (ds_if (dt_cmp o_neS (ke_isi K (by rfl) B.b_isinstance (by rfl) B.b_list (by decide +kernel) (de_var 0)) (ke_isi K (by rfl) B.b_isinstance (by rfl) B.b_list (by decide +kernel) (de_var 1))) (dss_one (ds_ret de_bl)) dss_nil)
    (dss_cons (ds_if (dt_w (dw_or (dt_cmp o_neS (ke_isi K (by rfl) B.b_isinstance (by rfl) B.b_tuple (by decide +kernel) (de_var 0)) (ke_isi K (by rfl) B.b_isinstance (by rfl) B.b_tuple (by decide +kernel) (de_var 1))) (dw_or1 (dt_cmp o_neS (de_callB (kb_len K) (by rfl) B.b_len (by decide +kernel) (da_cons (de_var 0) da_nil)) (de_callB (kb_len K) (by rfl) B.b_len (by decide +kernel) (da_cons (de_var 1) da_nil)))))) (dss_one (ds_ret de_bl)) dss_nil)
    (dss_one (ds_ret (de_cmp (k_eqD K hu) (de_lc [("k", 2)] rfl sc__law_same.nd (di_rng1 (by rfl) B.b_range (da_cons (de_callB (kb_len K) (by rfl) B.b_len (by decide +kernel) (da_cons (de_var 1) da_nil)) da_nil)) (blkOk_by (N := ["found", "wanted", "k"]) (sc := defScope s__law_same) (by decide +kernel)) (fun _ _ _ _ _ => (dg_name 2 sc__law_same.nd)) (gk_name (by decide)) (fun _ _ _ _ _ => (dts_one (dt_not (dt_val (ke_call K mg C__law_same (hr.mono (by omega)) takes0 (da_cons (de_ix (k_ix K) (de_var 0) (de_var 2)) (da_cons (de_ix (k_ix K) (de_var 1) (de_var 2)) da_nil))))))) (fun _ _ _ _ _ => (de_var 2))) (de_lst da_nil))))))))))⟩)
theorem d__law_same {f : Addr} {fd : FuncData} (B : Bl K mg t_LETTERS t_SINGLES t_TWINS) (d : Dfn K mg "_law_same" "_law_same" s__law_same ["found", "wanted"] f fd) : Cal P w K mg base "_law_same" "_law_same" s__law_same ["found", "wanted"] 4 2 n_law_same :=
  (rr__law_same B d (k := 3) (by decide) (rr__law_same B d (k := 2) (by decide) (rr__law_same B d (k := 1) (by decide) (rr__law_same B d (k := 0) (by decide) (cal_none d))))).imp sp_law_same
theorem d_law {f : Addr} {fd : FuncData} (B : Bl K mg t_LETTERS t_SINGLES t_TWINS) (d : Dfn K mg "law" "law" s_law ["script"] f fd) (C__law_source : Cal P w K mg base "_law_source" "_law_source" s__law_source ["script"] 1 1 n_law_source) (C__law_draw : Cal P w K mg base "_law_draw" "_law_draw" s__law_draw ["source", "many"] 1 2 n_law_draw_2) (C__law_rows : Cal P w K mg base "_law_rows" "_law_rows" s__law_rows ["letters", "most"] 1 2 n_law_rows) (C__law_sieves : Cal P w K mg base "_law_sieves" "_law_sieves" s__law_sieves ["source", "most"] 2 2 n_law_sieves) (C__law_sieved : Cal P w K mg base "_law_sieved" "_law_sieved" s__law_sieved ["row", "sieves"] 2 2 n_law_sieved) (C__law_size : Cal P w K mg base "_law_size" "_law_size" s__law_size ["row"] 2 1 n_law_size) (C_least_size : Cal P w K mg base "least_size" "least_size" s_least_size ["pipeline", "output"] 3 2 n_least_size_2) (C__law_same : Cal P w K mg base "_law_same" "_law_same" s__law_same ["found", "wanted"] 4 2 n_law_same) : Cal P w K mg base "law" "law" s_law ["script"] 5 1 n_law_5 :=
  (calD (N := ["script", "source", "k", "letters", "most", "rows", "turn", "sieves", "best", "row", "output", "span"]) (m := b_law_5) (k := 4) d sc_law rfl fun cdv A outer s H E hr =>
    have hu := hr.units
    have tk := takes_of (X := cxOf (L2.CX P w) P w K mg base ["script", "source", "k", "letters", "most", "rows", "turn", "sieves", "best", "row", "output", "span"] "law" (defScope s_law) f cdv A outer s H E) rfl rfl rfl rfl
    ⟨_, (dss_cons (ds_set 1 sc_law.nd (ke_call K mg C__law_source (hr.mono (by decide)) tk (da_cons (de_var 0) da_nil)))
    (dss_cons (ds_for (passes_of rfl) rfl (di_rng1 (by rfl) B.b_range (da_cons (de_op o_addI de_int (de_callB (b_min rfl) (by rfl) B.b_min (by decide +kernel) (da_cons de_int (da_cons (de_callB (kb_len K) (by rfl) B.b_len (by decide +kernel) (da_cons (de_var 0) da_nil)) da_nil)))) da_nil)) (dg_name 2 sc_law.nd) (dss_cons (ds_asg (swt := rfl) (de_ix (k_ix K) (de_lst (da_cons (de_tup (da_cons (de_str [97, 98] Str_da23614e) (da_cons de_int da_nil))) (da_cons (de_tup (da_cons (de_str [97, 98, 99] Str_a9993e36) (da_cons de_int da_nil))) (da_cons (de_tup (da_cons (de_str [120, 121] Str_5f845998) (da_cons de_int da_nil))) da_nil)))) (ke_call K mg C__law_draw (hr.mono (by decide)) tk (da_cons (de_var 1) (da_cons de_int da_nil)))) (kg_tup K rfl (dgs_cons (dg_name 3 sc_law.nd) (dgs_cons (dg_name 4 sc_law.nd) dgs_nil))))
    (dss_cons (ds_set 5 sc_law.nd (ke_call K mg C__law_rows (hr.mono (by decide)) tk (da_cons (de_var 3) (da_cons (de_var 4) da_nil))))
    (dss_one (ds_for (passes_of rfl) rfl (di_rng1 (by rfl) B.b_range (da_cons de_int da_nil)) (dg_name 6 sc_law.nd) (dss_cons (ds_set 7 sc_law.nd (ke_call K mg C__law_sieves (hr.mono (by decide)) tk (da_cons (de_var 1) (da_cons de_int da_nil))))
    (dss_cons (ds_set 8 sc_law.nd de_dnew)
    (dss_cons (ds_for (passes_of rfl) rfl (ki_lst K (de_var 5)) (dg_name 9 sc_law.nd) (dss_cons (ds_set 10 sc_law.nd (ke_call K mg C__law_sieved (hr.mono (by decide)) tk (da_cons (de_var 9) (da_cons (de_var 7) da_nil))))
    (dss_cons (ds_set 11 sc_law.nd (ke_call K mg C__law_size (hr.mono (by decide)) tk (da_cons (de_var 9) da_nil)))
    (dss_one (ds_if (dt_w (dw_or (dt_dnotin hu (de_var 10) (de_var 8)) (dw_or1 (dt_cmp o_ltI (de_ix (k_ix K) (de_var 11) de_int) (de_ix (k_ix K) (de_dget hu (de_var 8) (de_var 10)) de_int))))) (dss_one (ds_dput hu (de_var 11) (de_var 8) (de_var 10))) (dss_one (ds_if (dt_w (dw_and (dt_cmp o_eqS (de_ix (k_ix K) (de_var 11) de_int) (de_ix (k_ix K) (de_dget hu (de_var 8) (de_var 10)) de_int)) (dw_and1 (dt_cmp (k_neD K hu) (de_var 11) (de_dget hu (de_var 8) (de_var 10)))))) (dss_one (ds_ret de_bl)) dss_nil)))))))
    (dss_cons (ds_forK 8 (passes_of rfl) rfl (de_var 8) (dg_name 10 sc_law.nd) (dss_one (ds_if (dt_not (dt_val (ke_call K mg C__law_same (hr.mono (by decide)) tk (da_cons (ke_call K mg C_least_size (hr.mono (by decide)) tk (da_cons (de_var 7) (da_cons (de_var 10) da_nil))) (da_cons (de_dget hu (de_var 8) (de_var 10)) da_nil))))) (dss_one (ds_ret de_bl)) dss_nil)))
    (dss_one (ds_for (passes_of rfl) rfl (ki_lst K (ke_call K mg C__law_rows (hr.mono (by decide)) tk (da_cons (de_var 3) (da_cons de_int da_nil)))) (dg_name 10 sc_law.nd) (dss_one (ds_if (dt_w (dw_and (dt_dnotin hu (de_var 10) (de_var 8)) (dw_and1 (dt_cmp o_leI (de_ix (k_ix K) (ke_call K mg C_least_size (hr.mono (by decide)) tk (da_cons (de_var 7) (da_cons (de_var 10) da_nil))) de_int) (de_var 4))))) (dss_one (ds_ret de_bl)) dss_nil)))))))))))))
    (dss_one (ds_ret (de_cmp (k_eqD K hu) (ke_call K mg C_least_size (hr.mono (by decide)) tk (da_cons (de_str [83] Str_02aa629c) (da_cons (de_str [97, 97] Str_e0c90358) da_nil))) (de_tup (da_cons de_int (da_cons de_int da_nil))))))))⟩).imp sp_law_5
end
theorem all_mk {l : PySem.W.OpenLaw} {w : World} {K : PySem.W.Frag} {h : Heap} {mg : Str → Option Value} {fa f0 f1 f2 f3 f4 f5 f6 f7 f8 f9 f10 f11 f12 f13 f14 f15 : Addr} (X : K.In h) (G : h.Ns mainGlobals mg) (hfa : mg "law" = some (.ref fa))
    {od0 an0 : Option Addr} {sl0 : Array (Option Value)} {oc0 kV0 dc0 pm0 cd0 ct0 : Value}
    {od1 an1 : Option Addr} {sl1 : Array (Option Value)} {oc1 kV1 dc1 pm1 cd1 ct1 : Value}
    {od2 an2 : Option Addr} {sl2 : Array (Option Value)} {oc2 kV2 dc2 pm2 cd2 ct2 : Value}
    {od3 an3 : Option Addr} {sl3 : Array (Option Value)} {oc3 kV3 dc3 pm3 cd3 ct3 : Value}
    {od4 an4 : Option Addr} {sl4 : Array (Option Value)} {oc4 kV4 dc4 pm4 cd4 ct4 : Value}
    {od5 an5 : Option Addr} {sl5 : Array (Option Value)} {oc5 kV5 dc5 pm5 cd5 ct5 : Value}
    {od6 an6 : Option Addr} {sl6 : Array (Option Value)} {oc6 kV6 dc6 pm6 cd6 ct6 : Value}
    {od7 an7 : Option Addr} {sl7 : Array (Option Value)} {oc7 kV7 dc7 pm7 cd7 ct7 : Value}
    {od8 an8 : Option Addr} {sl8 : Array (Option Value)} {oc8 kV8 dc8 pm8 cd8 ct8 : Value}
    {od9 an9 : Option Addr} {sl9 : Array (Option Value)} {oc9 kV9 dc9 pm9 cd9 ct9 : Value}
    {od10 an10 : Option Addr} {sl10 : Array (Option Value)} {oc10 kV10 dc10 pm10 cd10 ct10 : Value}
    {od11 an11 : Option Addr} {sl11 : Array (Option Value)} {oc11 kV11 dc11 pm11 cd11 ct11 : Value}
    {od12 an12 : Option Addr} {sl12 : Array (Option Value)} {oc12 kV12 dc12 pm12 cd12 ct12 : Value}
    {od13 an13 : Option Addr} {sl13 : Array (Option Value)} {oc13 kV13 dc13 pm13 cd13 ct13 : Value}
    {od14 an14 : Option Addr} {sl14 : Array (Option Value)} {oc14 kV14 dc14 pm14 cd14 ct14 : Value}
    {od15 an15 : Option Addr} {sl15 : Array (Option Value)} {oc15 kV15 dc15 pm15 cd15 ct15 : Value}
    {t_LETTERS t_SINGLES t_TWINS : Tok}
    (a0 : PySem.W.nsIn K mainGlobals "_law_source" = some (some (.ref f0))) (l0 : K.lookup f0 = some ⟨oc0, od0, .func (PySem.W.fnOf "_law_source" "_law_source" (defArgs s__law_source) (defBody s__law_source) (defScope s__law_source) .none kV0 dc0 pm0 an0 cd0 ct0), sl0⟩) (c0 : PySem.W.codeIn K cd0 "_law_source" = true) (k0 : PySem.W.keepIn K (.ref f0) = true)
    (a1 : PySem.W.nsIn K mainGlobals "_law_rows" = some (some (.ref f1))) (l1 : K.lookup f1 = some ⟨oc1, od1, .func (PySem.W.fnOf "_law_rows" "_law_rows" (defArgs s__law_rows) (defBody s__law_rows) (defScope s__law_rows) .none kV1 dc1 pm1 an1 cd1 ct1), sl1⟩) (c1 : PySem.W.codeIn K cd1 "_law_rows" = true) (k1 : PySem.W.keepIn K (.ref f1) = true)
    (a2 : PySem.W.nsIn K mainGlobals "check_pipeline" = some (some (.ref f2))) (l2 : K.lookup f2 = some ⟨oc2, od2, .func (PySem.W.fnOf "check_pipeline" "check_pipeline" (defArgs s_check_pipeline) (defBody s_check_pipeline) (defScope s_check_pipeline) .none kV2 dc2 pm2 an2 cd2 ct2), sl2⟩) (c2 : PySem.W.codeIn K cd2 "check_pipeline" = true) (k2 : PySem.W.keepIn K (.ref f2) = true)
    (a3 : PySem.W.nsIn K mainGlobals "check_row" = some (some (.ref f3))) (l3 : K.lookup f3 = some ⟨oc3, od3, .func (PySem.W.fnOf "check_row" "check_row" (defArgs s_check_row) (defBody s_check_row) (defScope s_check_row) .none kV3 dc3 pm3 an3 cd3 ct3), sl3⟩) (c3 : PySem.W.codeIn K cd3 "check_row" = true) (k3 : PySem.W.keepIn K (.ref f3) = true)
    (a4 : PySem.W.nsIn K mainGlobals "size_before" = some (some (.ref f4))) (l4 : K.lookup f4 = some ⟨oc4, od4, .func (PySem.W.fnOf "size_before" "size_before" (defArgs s_size_before) (defBody s_size_before) (defScope s_size_before) .none kV4 dc4 pm4 an4 cd4 ct4), sl4⟩) (c4 : PySem.W.codeIn K cd4 "size_before" = true) (k4 : PySem.W.keepIn K (.ref f4) = true)
    (a5 : PySem.W.nsIn K mainGlobals "least_size_from" = some (some (.ref f5))) (l5 : K.lookup f5 = some ⟨oc5, od5, .func (PySem.W.fnOf "least_size_from" "least_size_from" (defArgs s_least_size_from) (defBody s_least_size_from) (defScope s_least_size_from) .none kV5 dc5 pm5 an5 cd5 ct5), sl5⟩) (c5 : PySem.W.codeIn K cd5 "least_size_from" = true) (k5 : PySem.W.keepIn K (.ref f5) = true)
    (a6 : PySem.W.nsIn K mainGlobals "runs_of" = some (some (.ref f6))) (l6 : K.lookup f6 = some ⟨oc6, od6, .func (PySem.W.fnOf "runs_of" "runs_of" (defArgs s_runs_of) (defBody s_runs_of) (defScope s_runs_of) .none kV6 dc6 pm6 an6 cd6 ct6), sl6⟩) (c6 : PySem.W.codeIn K cd6 "runs_of" = true) (k6 : PySem.W.keepIn K (.ref f6) = true)
    (a7 : PySem.W.nsIn K mainGlobals "size_of" = some (some (.ref f7))) (l7 : K.lookup f7 = some ⟨oc7, od7, .func (PySem.W.fnOf "size_of" "size_of" (defArgs s_size_of) (defBody s_size_of) (defScope s_size_of) .none kV7 dc7 pm7 an7 cd7 ct7), sl7⟩) (c7 : PySem.W.codeIn K cd7 "size_of" = true) (k7 : PySem.W.keepIn K (.ref f7) = true)
    (a8 : PySem.W.nsIn K mainGlobals "least_size" = some (some (.ref f8))) (l8 : K.lookup f8 = some ⟨oc8, od8, .func (PySem.W.fnOf "least_size" "least_size" (defArgs s_least_size) (defBody s_least_size) (defScope s_least_size) .none kV8 dc8 pm8 an8 cd8 ct8), sl8⟩) (c8 : PySem.W.codeIn K cd8 "least_size" = true) (k8 : PySem.W.keepIn K (.ref f8) = true)
    (a9 : PySem.W.nsIn K mainGlobals "_law_draw" = some (some (.ref f9))) (l9 : K.lookup f9 = some ⟨oc9, od9, .func (PySem.W.fnOf "_law_draw" "_law_draw" (defArgs s__law_draw) (defBody s__law_draw) (defScope s__law_draw) .none kV9 dc9 pm9 an9 cd9 ct9), sl9⟩) (c9 : PySem.W.codeIn K cd9 "_law_draw" = true) (k9 : PySem.W.keepIn K (.ref f9) = true)
    (a10 : PySem.W.nsIn K mainGlobals "_law_sieves" = some (some (.ref f10))) (l10 : K.lookup f10 = some ⟨oc10, od10, .func (PySem.W.fnOf "_law_sieves" "_law_sieves" (defArgs s__law_sieves) (defBody s__law_sieves) (defScope s__law_sieves) .none kV10 dc10 pm10 an10 cd10 ct10), sl10⟩) (c10 : PySem.W.codeIn K cd10 "_law_sieves" = true) (k10 : PySem.W.keepIn K (.ref f10) = true)
    (a11 : PySem.W.nsIn K mainGlobals "_law_runs" = some (some (.ref f11))) (l11 : K.lookup f11 = some ⟨oc11, od11, .func (PySem.W.fnOf "_law_runs" "_law_runs" (defArgs s__law_runs) (defBody s__law_runs) (defScope s__law_runs) .none kV11 dc11 pm11 an11 cd11 ct11), sl11⟩) (c11 : PySem.W.codeIn K cd11 "_law_runs" = true) (k11 : PySem.W.keepIn K (.ref f11) = true)
    (a12 : PySem.W.nsIn K mainGlobals "_law_sieved" = some (some (.ref f12))) (l12 : K.lookup f12 = some ⟨oc12, od12, .func (PySem.W.fnOf "_law_sieved" "_law_sieved" (defArgs s__law_sieved) (defBody s__law_sieved) (defScope s__law_sieved) .none kV12 dc12 pm12 an12 cd12 ct12), sl12⟩) (c12 : PySem.W.codeIn K cd12 "_law_sieved" = true) (k12 : PySem.W.keepIn K (.ref f12) = true)
    (a13 : PySem.W.nsIn K mainGlobals "_law_size" = some (some (.ref f13))) (l13 : K.lookup f13 = some ⟨oc13, od13, .func (PySem.W.fnOf "_law_size" "_law_size" (defArgs s__law_size) (defBody s__law_size) (defScope s__law_size) .none kV13 dc13 pm13 an13 cd13 ct13), sl13⟩) (c13 : PySem.W.codeIn K cd13 "_law_size" = true) (k13 : PySem.W.keepIn K (.ref f13) = true)
    (a14 : PySem.W.nsIn K mainGlobals "_law_same" = some (some (.ref f14))) (l14 : K.lookup f14 = some ⟨oc14, od14, .func (PySem.W.fnOf "_law_same" "_law_same" (defArgs s__law_same) (defBody s__law_same) (defScope s__law_same) .none kV14 dc14 pm14 an14 cd14 ct14), sl14⟩) (c14 : PySem.W.codeIn K cd14 "_law_same" = true) (k14 : PySem.W.keepIn K (.ref f14) = true)
    (a15 : PySem.W.nsIn K mainGlobals "law" = some (some (.ref f15))) (l15 : K.lookup f15 = some ⟨oc15, od15, .func (PySem.W.fnOf "law" "law" (defArgs s_law) (defBody s_law) (defScope s_law) .none kV15 dc15 pm15 an15 cd15 ct15), sl15⟩) (c15 : PySem.W.codeIn K cd15 "law" = true) (k15 : PySem.W.keepIn K (.ref f15) = true)
    (z_bool : PySem.W.nsIn K mainGlobals "bool" = some none)
    (z_enumerate : PySem.W.nsIn K mainGlobals "enumerate" = some none)
    (z_int : PySem.W.nsIn K mainGlobals "int" = some none)
    (z_isinstance : PySem.W.nsIn K mainGlobals "isinstance" = some none)
    (z_len : PySem.W.nsIn K mainGlobals "len" = some none)
    (z_list : PySem.W.nsIn K mainGlobals "list" = some none)
    (z_max : PySem.W.nsIn K mainGlobals "max" = some none)
    (z_min : PySem.W.nsIn K mainGlobals "min" = some none)
    (z_range : PySem.W.nsIn K mainGlobals "range" = some none)
    (z_str : PySem.W.nsIn K mainGlobals "str" = some none)
    (z_tuple : PySem.W.nsIn K mainGlobals "tuple" = some none)
    (z_LETTERS : PySem.W.nsIn K mainGlobals "LETTERS" = some (some (.str "abcdefghijklmnopqrstuvwxyz" t_LETTERS)))
    (z_SINGLES : PySem.W.nsIn K mainGlobals "SINGLES" = some (some (.str "S" t_SINGLES)))
    (z_TWINS : PySem.W.nsIn K mainGlobals "TWINS" = some (some (.str "T" t_TWINS)))
    : ∃ fd : FuncData, (∀ (s : Shared) (v : Value), BindsTo s fd ⟨[v], []⟩ [("script", v)]) ∧ ∀ base : Heap, K.In base → base.Ns mainGlobals mg → FnG l.prog w K mg base 5 fa fd ["script"] (spD K mg 1 n_law_5) := by
  have B : Bl K mg t_LETTERS t_SINGLES t_TWINS := ⟨PySem.W.mg_none_of X G z_bool, PySem.W.mg_none_of X G z_enumerate, PySem.W.mg_none_of X G z_int, PySem.W.mg_none_of X G z_isinstance, PySem.W.mg_none_of X G z_len, PySem.W.mg_none_of X G z_list, PySem.W.mg_none_of X G z_max, PySem.W.mg_none_of X G z_min, PySem.W.mg_none_of X G z_range, PySem.W.mg_none_of X G z_str, PySem.W.mg_none_of X G z_tuple, PySem.W.mg_of X G z_LETTERS, PySem.W.mg_of X G z_SINGLES, PySem.W.mg_of X G z_TWINS⟩
  have F0 := fun_mk (st := s__law_source) l0 c0 k0
  have D0 : Dfn K mg "_law_source" "_law_source" s__law_source ["script"] f0 _ := ⟨PySem.W.mg_of X G a0, F0, F0.binds (ps := ["script"]) fun _ _ _ _ _ _ us hl => match us, hl with | [_], _ => rfl⟩
  have F1 := fun_mk (st := s__law_rows) l1 c1 k1
  have D1 : Dfn K mg "_law_rows" "_law_rows" s__law_rows ["letters", "most"] f1 _ := ⟨PySem.W.mg_of X G a1, F1, F1.binds (ps := ["letters", "most"]) fun _ _ _ _ _ _ us hl => match us, hl with | [_, _], _ => rfl⟩
  have F2 := fun_mk (st := s_check_pipeline) l2 c2 k2
  have D2 : Dfn K mg "check_pipeline" "check_pipeline" s_check_pipeline ["pipeline"] f2 _ := ⟨PySem.W.mg_of X G a2, F2, F2.binds (ps := ["pipeline"]) fun _ _ _ _ _ _ us hl => match us, hl with | [_], _ => rfl⟩
  have F3 := fun_mk (st := s_check_row) l3 c3 k3
  have D3 : Dfn K mg "check_row" "check_row" s_check_row ["row"] f3 _ := ⟨PySem.W.mg_of X G a3, F3, F3.binds (ps := ["row"]) fun _ _ _ _ _ _ us hl => match us, hl with | [_], _ => rfl⟩
  have F4 := fun_mk (st := s_size_before) l4 c4 k4
  have D4 : Dfn K mg "size_before" "size_before" s_size_before ["size", "sieve"] f4 _ := ⟨PySem.W.mg_of X G a4, F4, F4.binds (ps := ["size", "sieve"]) fun _ _ _ _ _ _ us hl => match us, hl with | [_, _], _ => rfl⟩
  have F5 := fun_mk (st := s_least_size_from) l5 c5 k5
  have D5 : Dfn K mg "least_size_from" "least_size_from" s_least_size_from ["pipeline", "size"] f5 _ := ⟨PySem.W.mg_of X G a5, F5, F5.binds (ps := ["pipeline", "size"]) fun _ _ _ _ _ _ us hl => match us, hl with | [_, _], _ => rfl⟩
  have F6 := fun_mk (st := s_runs_of) l6 c6 k6
  have D6 : Dfn K mg "runs_of" "runs_of" s_runs_of ["row"] f6 _ := ⟨PySem.W.mg_of X G a6, F6, F6.binds (ps := ["row"]) fun _ _ _ _ _ _ us hl => match us, hl with | [_], _ => rfl⟩
  have F7 := fun_mk (st := s_size_of) l7 c7 k7
  have D7 : Dfn K mg "size_of" "size_of" s_size_of ["row"] f7 _ := ⟨PySem.W.mg_of X G a7, F7, F7.binds (ps := ["row"]) fun _ _ _ _ _ _ us hl => match us, hl with | [_], _ => rfl⟩
  have F8 := fun_mk (st := s_least_size) l8 c8 k8
  have D8 : Dfn K mg "least_size" "least_size" s_least_size ["pipeline", "output"] f8 _ := ⟨PySem.W.mg_of X G a8, F8, F8.binds (ps := ["pipeline", "output"]) fun _ _ _ _ _ _ us hl => match us, hl with | [_, _], _ => rfl⟩
  have F9 := fun_mk (st := s__law_draw) l9 c9 k9
  have D9 : Dfn K mg "_law_draw" "_law_draw" s__law_draw ["source", "many"] f9 _ := ⟨PySem.W.mg_of X G a9, F9, F9.binds (ps := ["source", "many"]) fun _ _ _ _ _ _ us hl => match us, hl with | [_, _], _ => rfl⟩
  have F10 := fun_mk (st := s__law_sieves) l10 c10 k10
  have D10 : Dfn K mg "_law_sieves" "_law_sieves" s__law_sieves ["source", "most"] f10 _ := ⟨PySem.W.mg_of X G a10, F10, F10.binds (ps := ["source", "most"]) fun _ _ _ _ _ _ us hl => match us, hl with | [_, _], _ => rfl⟩
  have F11 := fun_mk (st := s__law_runs) l11 c11 k11
  have D11 : Dfn K mg "_law_runs" "_law_runs" s__law_runs ["row"] f11 _ := ⟨PySem.W.mg_of X G a11, F11, F11.binds (ps := ["row"]) fun _ _ _ _ _ _ us hl => match us, hl with | [_], _ => rfl⟩
  have F12 := fun_mk (st := s__law_sieved) l12 c12 k12
  have D12 : Dfn K mg "_law_sieved" "_law_sieved" s__law_sieved ["row", "sieves"] f12 _ := ⟨PySem.W.mg_of X G a12, F12, F12.binds (ps := ["row", "sieves"]) fun _ _ _ _ _ _ us hl => match us, hl with | [_, _], _ => rfl⟩
  have F13 := fun_mk (st := s__law_size) l13 c13 k13
  have D13 : Dfn K mg "_law_size" "_law_size" s__law_size ["row"] f13 _ := ⟨PySem.W.mg_of X G a13, F13, F13.binds (ps := ["row"]) fun _ _ _ _ _ _ us hl => match us, hl with | [_], _ => rfl⟩
  have F14 := fun_mk (st := s__law_same) l14 c14 k14
  have D14 : Dfn K mg "_law_same" "_law_same" s__law_same ["found", "wanted"] f14 _ := ⟨PySem.W.mg_of X G a14, F14, F14.binds (ps := ["found", "wanted"]) fun _ _ _ _ _ _ us hl => match us, hl with | [_, _], _ => rfl⟩
  have F15 := fun_mk (st := s_law) l15 c15 k15
  have D15 : Dfn K mg "law" "law" s_law ["script"] f15 _ := ⟨PySem.W.mg_of X G a15, F15, F15.binds (ps := ["script"]) fun _ _ _ _ _ _ us hl => match us, hl with | [_], _ => rfl⟩
  have e := hfa.symm.trans (PySem.W.mg_of X G a15)
  cases e
  refine ⟨PySem.W.fnOf "law" "law" (defArgs s_law) (defBody s_law) (defScope s_law) .none kV15 dc15 pm15 an15 cd15 ct15, fun s v => .of_eq rfl, fun base _ _ => ?_⟩
  have C__law_source := d__law_source (P := l.prog) (w := w) (base := base) B D0
  have C__law_rows := d__law_rows (P := l.prog) (w := w) (base := base) B D1
  have C_check_pipeline := d_check_pipeline (P := l.prog) (w := w) (base := base) B D2
  have C_check_row := d_check_row (P := l.prog) (w := w) (base := base) B D3
  have C_size_before := d_size_before (P := l.prog) (w := w) (base := base) B D4
  have C_least_size_from := d_least_size_from (P := l.prog) (w := w) (base := base) B D5 C_size_before
  have C_runs_of := d_runs_of (P := l.prog) (w := w) (base := base) B D6
  have C_size_of := d_size_of (P := l.prog) (w := w) (base := base) B D7 C_runs_of
  have C_least_size := d_least_size (P := l.prog) (w := w) (base := base) B D8 C_check_pipeline C_check_row C_size_of C_least_size_from
  have C__law_draw := d__law_draw (P := l.prog) (w := w) (base := base) B D9
  have C__law_sieves := d__law_sieves (P := l.prog) (w := w) (base := base) B D10 C__law_draw
  have C__law_runs := d__law_runs (P := l.prog) (w := w) (base := base) B D11
  have C__law_sieved := d__law_sieved (P := l.prog) (w := w) (base := base) B D12 C__law_runs
  have C__law_size := d__law_size (P := l.prog) (w := w) (base := base) B D13 C__law_runs
  have C__law_same := d__law_same (P := l.prog) (w := w) (base := base) B D14
  have C_law := d_law (P := l.prog) (w := w) (base := base) B D15 C__law_source C__law_draw C__law_rows C__law_sieves C__law_sieved C__law_size C_least_size C__law_same
  obtain ⟨f, fd, dd, o⟩ := C_law.ex
  have e1 := dd.mg.symm.trans D15.mg
  cases e1
  have e2 : fd = _ := dfn_fd dd D15
  subst e2
  exact o
end Lw
open PySem PySem.W PyProof.Rows
set_option maxRecDepth 100000 in
set_option maxHeartbeats 0 in
theorem PySem.Challenge.cw_twinsieve_k06_whole_least_sizes_by_all_r_holds : PySem.Challenge.rw_twinsieve_k06_whole_least_sizes_by_all_r.Holds := by
  w_on; o_law; k_head; (case hw => w_witness2)
  k_fill
  refine Z.endD (l := PySem.Challenge.rw_twinsieve_k06_whole_least_sizes_by_all_r) (k := 5) (n := Z.n_law_5) (qual := "law") (x := "law") (st := Lw.s_law) rfl rfl ⟨⟨rfl, by decide, by decide⟩, rfl⟩ (fun w h Y => PySem.W.kIn_of Y) ?F Z.law_law_5
  case F =>
    intro w mg fa h KX G hmg
    refine' Lw.all_mk KX G hmg ?a0 ?l0 ?c0 ?k0 ?a1 ?l1 ?c1 ?k1 ?a2 ?l2 ?c2 ?k2 ?a3 ?l3 ?c3 ?k3 ?a4 ?l4 ?c4 ?k4 ?a5 ?l5 ?c5 ?k5 ?a6 ?l6 ?c6 ?k6 ?a7 ?l7 ?c7 ?k7 ?a8 ?l8 ?c8 ?k8 ?a9 ?l9 ?c9 ?k9 ?a10 ?l10 ?c10 ?k10 ?a11 ?l11 ?c11 ?k11 ?a12 ?l12 ?c12 ?k12 ?a13 ?l13 ?c13 ?k13 ?a14 ?l14 ?c14 ?k14 ?a15 ?l15 ?c15 ?k15 ?z_bool ?z_enumerate ?z_int ?z_isinstance ?z_len ?z_list ?z_max ?z_min ?z_range ?z_str ?z_tuple ?z_LETTERS ?z_SINGLES ?z_TWINS
    (case a0 => k_is)
    (case l0 => k_is)
    (case c0 => k_is)
    (case k0 => k_is)
    (case a1 => k_is)
    (case l1 => k_is)
    (case c1 => k_is)
    (case k1 => k_is)
    (case a2 => k_is)
    (case l2 => k_is)
    (case c2 => k_is)
    (case k2 => k_is)
    (case a3 => k_is)
    (case l3 => k_is)
    (case c3 => k_is)
    (case k3 => k_is)
    (case a4 => k_is)
    (case l4 => k_is)
    (case c4 => k_is)
    (case k4 => k_is)
    (case a5 => k_is)
    (case l5 => k_is)
    (case c5 => k_is)
    (case k5 => k_is)
    (case a6 => k_is)
    (case l6 => k_is)
    (case c6 => k_is)
    (case k6 => k_is)
    (case a7 => k_is)
    (case l7 => k_is)
    (case c7 => k_is)
    (case k7 => k_is)
    (case a8 => k_is)
    (case l8 => k_is)
    (case c8 => k_is)
    (case k8 => k_is)
    (case a9 => k_is)
    (case l9 => k_is)
    (case c9 => k_is)
    (case k9 => k_is)
    (case a10 => k_is)
    (case l10 => k_is)
    (case c10 => k_is)
    (case k10 => k_is)
    (case a11 => k_is)
    (case l11 => k_is)
    (case c11 => k_is)
    (case k11 => k_is)
    (case a12 => k_is)
    (case l12 => k_is)
    (case c12 => k_is)
    (case k12 => k_is)
    (case a13 => k_is)
    (case l13 => k_is)
    (case c13 => k_is)
    (case k13 => k_is)
    (case a14 => k_is)
    (case l14 => k_is)
    (case c14 => k_is)
    (case k14 => k_is)
    (case a15 => k_is)
    (case l15 => k_is)
    (case c15 => k_is)
    (case k15 => k_is)
    (case z_bool => k_is)
    (case z_enumerate => k_is)
    (case z_int => k_is)
    (case z_isinstance => k_is)
    (case z_len => k_is)
    (case z_list => k_is)
    (case z_max => k_is)
    (case z_min => k_is)
    (case z_range => k_is)
    (case z_str => k_is)
    (case z_tuple => k_is)
    (case z_LETTERS => k_is)
    (case z_SINGLES => k_is)
    (case z_TWINS => k_is)
