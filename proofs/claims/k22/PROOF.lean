import PyProof.Rows.All
import Wide.All
import OpenK.AllK
import Wide.FinOn
import HandS.ForMost
import HandS.ForExc
import HandS.Wide
import HandS.Codes
import HandS.Style
import HandS.CallSlots
import HandS.Steps
import HandS.Zip
import KE.GoesEnum
import HandS.IsInst
import HandS.Text
import HandS.SortKw
import HandS.NoneIn
import PyProof.ReprRoads
import KE.KExcSuper
import KE.KExcIs
import HandS.ExcInit
import HandS.StrMore
import HandS.ExcValue
import HandS.GenList
import HandS.SortRule
import PyProof.Rows.SortKeyStr
import HandS.Property
import HandS.Star
import HandS.Defaults
import HandS.ClsMeth
import PyProof.ListStr
import HandS.OwnEq
import PyProof.StrReplace2
import KE.KIntText
import PySem.Challenge.RW_twinsieve_k22_equal_live_rows
set_option Elab.async false
set_option linter.all false
set_option maxRecDepth 100000
set_option maxHeartbeats 4000000
set_option exponentiation.threshold 10000
/-! Z1: the D-layer's core. Abstract data D, abstract states, what an expression / a statement does as a plain function. -/
namespace Z
open PySem L2

/-- the package's own error classes -/
inductive EC where
  | row | pip | num | und | unr
  deriving DecidableEq
def EC.nm : EC → Str
  | .row => "InvalidRow"
  | .pip => "InvalidPipeline"
  | .num => "InvalidNumber"
  | .und => "NothingToUndo"
  | .unr => "Unreadable"
/-- an error object of the class at C, its dict at dd -/
def xco (C dd a : Addr) : HO := .ext fun h => ∃ (oe : Obj) (vs : Array Value), h.get? a = some oe ∧ Zc (.ref C) (some dd) oe ∧ oe.data = .fields vs
inductive D where
  | non | bl (b : Bool) | int (i : Int) | str (s : List Nat) | lst (l : List D) | tup (l : List D) | fz (l : List D) | ref (i : Nat) | exc (c : EC) (d : D) | cls (c : Str)

abbrev KK := Sum Int (List Nat)
def kk : KK → Key
  | .inl i => .inl i
  | .inr s => .inr ⟨s.toArray⟩
def kD : KK → D
  | .inl i => .int i
  | .inr s => .str s
/-- what an own object holds -/
inductive AO where
  | lst (l : List D)
  | dk (kvs : List (KK × D))
  | dt (kvs : List (List KK × D))
  | dkL (kvs : List (KK × D))
  | ins (c : Str) (fs : List (Str × D))
  | dead
/-- what stands in a slot: data, or an object that this slot alone knows -/
inductive SV where
  | val (d : D) | own (o : AO)
structure A where
  sl : List (Option SV)
  hp : List AO
structure Exn where
  c : EC
  v : D
inductive O (α : Type) where
  | ok (a : α) (s : A)
  | ex (e : Exn) (s : A)
abbrev M (α : Type) := A → Option (O α)
def ret {α : Type} (a : α) : M α := fun s => some (.ok a s)
def bnd {α β : Type} (m : M α) (k : α → M β) : M β := fun s => match m s with
  | some (.ok a s') => k a s'
  | some (.ex e s') => some (.ex e s')
  | none => none
def lft {α : Type} (o : Option α) : M α := fun s => match o with
  | some a => some (.ok a s)
  | none => none
/-- a def's end -/
inductive FR where
  | ok (d : D) (hp : List AO)
  | ex (e : Exn) (hp : List AO)
abbrev Fn := List D → List AO → Option FR

/-! ### what stands for what -/
mutual
def rep (K : PySem.W.Frag) (io : List Addr) (F : Hp) : D → V → Prop
  | .non, v => v = .non
  | .bl b, v => v = .bl b
  | .int i, v => v = .int i
  | .str s, v => v = .str ⟨s.toArray⟩
  | .lst l, v => ∃ a xs, v = .ref a ∧ F a = some (.lst xs) ∧ reps K io F l xs
  | .tup l, v => ∃ a xs, v = .ref a ∧ SqT K F a xs ∧ reps K io F l xs
  | .fz l, v => ∃ a xs, v = .ref a ∧ SqL K F a xs ∧ reps K io F l xs
  | .ref i, v => ∃ a, v = .ref a ∧ io[i]? = some a
  | .exc c d, v => ∃ a C dd w, v = .ref a ∧ PySem.W.nsIn K mainGlobals c.nm = some (some (.ref C)) ∧ F a = some (xco C dd a) ∧ F dd = some (.xd [(("value" : Str), w)]) ∧ rep K io F d w
  | .cls c, v => ∃ C, v = .ref C ∧ PySem.W.nsIn K mainGlobals c = some (some (.ref C))
def reps (K : PySem.W.Frag) (io : List Addr) (F : Hp) : List D → List V → Prop
  | [], xs => xs = []
  | d :: l, xs => ∃ x r, xs = x :: r ∧ rep K io F d x ∧ reps K io F l r
end

def Ex (H H' : Hp) : Prop := ∀ a o, H a = some o → H' a = some o
theorem Ex.refl (H : Hp) : Ex H H := fun _ _ h => h
theorem Ex.trans {H H1 H2 : Hp} (a : Ex H H1) (b : Ex H1 H2) : Ex H H2 := fun x o h => b x o (a x o h)
theorem Ex.new {H : Hp} {p : Addr} {o : HO} (h : H p = none) : Ex H (upd H p o) := fun a u e => by
  rw [upd_ne (ne_of_none e h)]
  exact e
theorem Ex.up {H H' : Hp} {p : Addr} {o : HO} (e : Ex H H') : Ex (upd H p o) (upd H' p o) := fun a u h => by
  by_cases ha : a = p
  · subst ha
    rw [upd_same] at h ⊢
    exact h
  · rw [upd_ne ha] at h ⊢
    exact e a u h
theorem Ex.none_of {H H' : Hp} {p : Addr} (e : Ex H H') (h : H' p = none) : H p = none := by
  cases h1 : H p with
  | none => rfl
  | some o =>
    rw [e p o h1] at h
    cases h
theorem Ex.rd {H H' : Hp} {a : Addr} {u : HO} (e : Ex H H') (h : Rd H a u) : Rd H' a u := by
  rcases h with h | ⟨o, h⟩
  · exact .inl (e a _ h)
  · exact .inr ⟨o, e a _ h⟩
theorem Ex.l {K : PySem.W.Frag} {H H' : Hp} {a : Addr} {xs : List V} (e : Ex H H') (h : SqL K H a xs) : SqL K H' a xs := by
  rcases h with h | h
  · exact .inl (e.rd h)
  · exact .inr h
theorem Ex.t {K : PySem.W.Frag} {H H' : Hp} {a : Addr} {xs : List V} (e : Ex H H') (h : SqT K H a xs) : SqT K H' a xs := by
  rcases h with h | h
  · exact .inl (e.rd h)
  · exact .inr h

/-- later: more addresses known, more frozen -/
structure Le (io : List Addr) (F : Hp) (io' : List Addr) (F' : Hp) : Prop where
  pre : ∀ (i : Nat) a, io[i]? = some a → io'[i]? = some a
  ex : Ex F F'
theorem Le.refl (io : List Addr) (F : Hp) : Le io F io F := ⟨fun _ _ h => h, Ex.refl F⟩
theorem Le.trans {a b c : List Addr} {F G H : Hp} (x : Le a F b G) (y : Le b G c H) : Le a F c H := ⟨fun i p h => y.pre i p (x.pre i p h), x.ex.trans y.ex⟩

section
variable {K : PySem.W.Frag} {io io' : List Addr} {F F' : Hp}
mutual
theorem rep_le (h : Le io F io' F') : ∀ (d : D) (v : V), rep K io F d v → rep K io' F' d v
  | .non, _, r => r
  | .bl _, _, r => r
  | .int _, _, r => r
  | .str _, _, r => r
  | .lst l, v, r => by
    obtain ⟨a, xs, e, p, q⟩ := r
    exact ⟨a, xs, e, h.ex a _ p, reps_le h l xs q⟩
  | .tup l, v, r => by
    obtain ⟨a, xs, e, p, q⟩ := r
    exact ⟨a, xs, e, h.ex.t p, reps_le h l xs q⟩
  | .fz l, v, r => by
    obtain ⟨a, xs, e, p, q⟩ := r
    exact ⟨a, xs, e, h.ex.l p, reps_le h l xs q⟩
  | .ref i, v, r => by
    obtain ⟨a, e, p⟩ := r
    exact ⟨a, e, h.pre i a p⟩
  | .exc c d, v, r => by
    obtain ⟨a, C, dd, w, e, k, p, q, r⟩ := r
    exact ⟨a, C, dd, w, e, k, h.ex a _ p, h.ex dd _ q, rep_le h d w r⟩
  | .cls c, v, r => r
theorem reps_le (h : Le io F io' F') : ∀ (l : List D) (xs : List V), reps K io F l xs → reps K io' F' l xs
  | [], _, r => r
  | d :: l, xs, r => by
    obtain ⟨x, t, e, p, q⟩ := r
    exact ⟨x, t, e, rep_le h d x p, reps_le h l t q⟩
end
theorem reps_len : ∀ {l : List D} {xs : List V}, reps K io F l xs → xs.length = l.length
  | [], xs, r => by
    rw [show xs = [] from r]
    rfl
  | d :: l, _, r => by
    obtain ⟨x, t, e, p, q⟩ := r
    rw [e, List.length_cons, List.length_cons, reps_len q]
theorem reps_get : ∀ {l : List D} {xs : List V} {i : Nat} {d : D}, reps K io F l xs → l[i]? = some d → ∃ x, xs[i]? = some x ∧ rep K io F d x
  | [], _, i, d, _, h => by simp at h
  | c :: l, _, 0, d, r, h => by
    obtain ⟨x, t, e, p, q⟩ := r
    rw [List.getElem?_cons_zero] at h
    cases h
    subst e
    exact ⟨x, rfl, p⟩
  | c :: l, _, i + 1, d, r, h => by
    obtain ⟨x, t, e, p, q⟩ := r
    rw [List.getElem?_cons_succ] at h
    subst e
    obtain ⟨y, h1, h2⟩ := reps_get q h
    exact ⟨y, by rw [List.getElem?_cons_succ]; exact h1, h2⟩
theorem reps_get' {l : List D} {xs : List V} {i : Nat} {x : V} (r : reps K io F l xs) (h : xs[i]? = some x) : ∃ d, l[i]? = some d ∧ rep K io F d x := by
  have hi := (List.getElem?_eq_some_iff.mp h).1
  rw [reps_len r] at hi
  obtain ⟨y, h1, h2⟩ := reps_get r (List.getElem?_eq_getElem hi)
  rw [h] at h1
  cases h1
  exact ⟨_, List.getElem?_eq_getElem hi, h2⟩
theorem reps_app : ∀ {l l' : List D} {xs xs' : List V}, reps K io F l xs → reps K io F l' xs' → reps K io F (l ++ l') (xs ++ xs')
  | [], _, xs, _, r, r' => by
    rw [show xs = [] from r]
    exact r'
  | d :: l, _, _, _, r, r' => by
    obtain ⟨x, t, e, p, q⟩ := r
    subst e
    exact ⟨x, _, rfl, p, reps_app q r'⟩
theorem reps_one {d : D} {x : V} (h : rep K io F d x) : reps K io F [d] [x] := ⟨x, [], rfl, h, rfl⟩
theorem reps_set : ∀ {l : List D} {xs : List V} {d : D} {x : V} (i : Nat), reps K io F l xs → rep K io F d x → reps K io F (l.set i d) (xs.set i x)
  | [], xs, _, _, i, r, _ => by
    rw [show xs = [] from r]
    rfl
  | c :: l, _, d, x, 0, r, h => by
    obtain ⟨y, t, e, p, q⟩ := r
    subst e
    exact ⟨x, t, rfl, h, q⟩
  | c :: l, _, d, x, i + 1, r, h => by
    obtain ⟨y, t, e, p, q⟩ := r
    subst e
    exact ⟨y, _, rfl, p, reps_set i q h⟩
theorem reps_take : ∀ {l : List D} {xs : List V} (n : Nat), reps K io F l xs → reps K io F (l.take n) (xs.take n)
  | _, _, 0, _ => rfl
  | [], xs, n + 1, r => by
    rw [show xs = [] from r]
    rfl
  | c :: l, _, n + 1, r => by
    obtain ⟨y, t, e, p, q⟩ := r
    subst e
    exact ⟨y, _, rfl, p, reps_take n q⟩
theorem reps_drop : ∀ {l : List D} {xs : List V} (n : Nat), reps K io F l xs → reps K io F (l.drop n) (xs.drop n)
  | _, _, 0, r => r
  | [], xs, n + 1, r => by
    rw [show xs = [] from r]
    rfl
  | c :: l, _, n + 1, r => by
    obtain ⟨y, t, e, p, q⟩ := r
    subst e
    exact reps_drop n q
theorem reps_rev : ∀ {l : List D} {xs : List V}, reps K io F l xs → reps K io F l.reverse xs.reverse
  | [], xs, r => by
    rw [show xs = [] from r]
    rfl
  | c :: l, _, r => by
    obtain ⟨y, t, e, p, q⟩ := r
    subst e
    rw [List.reverse_cons, List.reverse_cons]
    exact reps_app (reps_rev q) (reps_one p)
theorem reps_erase : ∀ {l : List D} {xs : List V} (i : Nat), reps K io F l xs → reps K io F (l.eraseIdx i) (xs.eraseIdx i)
  | [], xs, i, r => by
    rw [show xs = [] from r]
    rfl
  | c :: l, _, 0, r => by
    obtain ⟨y, t, e, p, q⟩ := r
    subst e
    exact q
  | c :: l, _, i + 1, r => by
    obtain ⟨y, t, e, p, q⟩ := r
    subst e
    exact ⟨y, _, rfl, p, reps_erase i q⟩
theorem reps_dropLast {l : List D} {xs : List V} (r : reps K io F l xs) : reps K io F l.dropLast xs.dropLast := by
  rw [List.dropLast_eq_take, List.dropLast_eq_take, reps_len r]
  exact reps_take _ r
end

/-- pairs of a dict -/
def KReps {κ κ' : Type} (g : κ → κ') (K : PySem.W.Frag) (io : List Addr) (F : Hp) (kvs : List (κ × D)) (ws : List (κ' × V)) : Prop :=
  ws.map (·.1) = kvs.map (fun p => g p.1) ∧ reps K io F (kvs.map (·.2)) (ws.map (·.2))
def FReps (K : PySem.W.Frag) (io : List Addr) (F : Hp) (fs : List (Str × D)) (ws : List (Str × V)) : Prop :=
  ws.map (·.1) = fs.map (·.1) ∧ reps K io F (fs.map (·.2)) (ws.map (·.2))
/-- what stands at p is o; F does not know it -/
def Cont (K : PySem.W.Frag) (io : List Addr) (F H : Hp) (p : Addr) : AO → Prop
  | .lst l => F p = none ∧ ∃ xs, H p = some (.lst xs) ∧ reps K io F l xs
  | .dk kvs => F p = none ∧ ∃ ws, H p = some (.dK ws) ∧ KReps kk K io F kvs ws
  | .dt kvs => F p = none ∧ ∃ ws, H p = some (.dT ws) ∧ KReps (fun k : List KK => k.map kk) K io F kvs ws
  | .ins c fs => F p = none ∧ ∃ C dx ws, H p = some (.ins C dx ws) ∧ PySem.W.nsIn K mainGlobals c = some (some (.ref C)) ∧ FReps K io F fs ws
  | .dkL kvs => ∃ ob ws, F p = some (.frz ob (.dK ws)) ∧ H p = some (.frz ob (.dK ws)) ∧ KReps kk K io F kvs ws
  | .dead => H p ≠ none
theorem Cont.live {K : PySem.W.Frag} {io : List Addr} {F H : Hp} {p : Addr} {o : AO} (c : Cont K io F H p o) : H p ≠ none := by
  cases o with
  | dead => exact c
  | lst l => obtain ⟨_, xs, e, _⟩ := c; rw [e]; exact fun z => nomatch z
  | dk l => obtain ⟨_, xs, e, _⟩ := c; rw [e]; exact fun z => nomatch z
  | dt l => obtain ⟨_, xs, e, _⟩ := c; rw [e]; exact fun z => nomatch z
  | dkL l => obtain ⟨_, xs, _, e, _⟩ := c; rw [e]; exact fun z => nomatch z
  | ins n l => obtain ⟨_, C, dx, xs, e, _⟩ := c; rw [e]; exact fun z => nomatch z
/-- it stands as it stood, F knows it not still -/
theorem Cont.le {K : PySem.W.Frag} {io io' : List Addr} {F F' H H' : Hp} {p : Addr} {o : AO} (h : Le io F io' F') (hF : F p = none → F' p = none) (hH : ∀ u, H p = some u → H' p = some u) (c : Cont K io F H p o) : Cont K io' F' H' p o := by
  cases o with
  | dead =>
    intro z
    cases e : H p with
    | none => exact c e
    | some u => rw [hH u e] at z; cases z
  | lst l => obtain ⟨a, xs, e, r⟩ := c; exact ⟨hF a, xs, hH _ e, reps_le h _ _ r⟩
  | dk l => obtain ⟨a, xs, e, r1, r⟩ := c; exact ⟨hF a, xs, hH _ e, r1, reps_le h _ _ r⟩
  | dt l => obtain ⟨a, xs, e, r1, r⟩ := c; exact ⟨hF a, xs, hH _ e, r1, reps_le h _ _ r⟩
  | dkL l => obtain ⟨ob, xs, f, e, r1, r⟩ := c; exact ⟨ob, xs, h.ex _ _ f, hH _ e, r1, reps_le h _ _ r⟩
  | ins n l => obtain ⟨a, C, dx, xs, e, m, r1, r⟩ := c; exact ⟨hF a, C, dx, xs, hH _ e, m, r1, reps_le h _ _ r⟩

/-- the own heap -/
structure HRel (K : PySem.W.Frag) (io : List Addr) (F H : Hp) (hp : List AO) : Prop where
  ex : Ex F H
  len : io.length = hp.length
  nd : ∀ (i j : Nat) p, io[i]? = some p → io[j]? = some p → i = j
  ids : ∀ (i : Nat) p o, io[i]? = some p → hp[i]? = some o → Cont K io F H p o
/-- an entry: the heap, what is frozen, what is known -/
structure Ent where
  H : Hp
  F : Hp
  io : List Addr
/-- what a def's run keeps of its entry -/
structure Kept (en : Ent) (io : List Addr) (F H : Hp) : Prop where
  pre : ∀ (i : Nat) a, en.io[i]? = some a → io[i]? = some a
  new : ∀ (i : Nat) a, io[i]? = some a → en.io.length ≤ i → en.H a = none
  frm : ∀ b o, en.H b = some o → b ∉ en.io → H b = some o
  liv : ∀ b, en.H b ≠ none → H b ≠ none
  grow : ∀ b, en.H b ≠ none → F b = en.F b
  ex : Ex en.F F
/-- the whole relation: slots, heap -/
structure Rel (K : PySem.W.Frag) (en : Ent) (io : List Addr) (F H : Hp) (σ : St) (s : A) : Prop where
  h : HRel K io F H s.hp
  k : Kept en io F H
  len : s.sl.length = σ.length
  val : ∀ (i : Nat) d, s.sl[i]? = some (some (.val d)) → ∃ v, σ[i]? = some (some v) ∧ rep K io F d v
  own : ∀ (i : Nat) o, s.sl[i]? = some (some (.own o)) → ∃ p, σ[i]? = some (some (.ref p)) ∧ Cont K io F H p o ∧ p ∉ io ∧ en.H p = none
  sep : ∀ (i j : Nat) o o' p, s.sl[i]? = some (some (.own o)) → s.sl[j]? = some (some (.own o')) → σ[i]? = some (some (.ref p)) → σ[j]? = some (some (.ref p)) → i = j

/-! ### what an exception is -/
def XRep (K : PySem.W.Frag) (mg : Str → Option Value) (io : List Addr) (F H : Hp) (e : Exn) (cls : Value) (dd : Option Addr) : Prop :=
  PySem.W.nsIn K mainGlobals e.c.nm = some (some cls) ∧ (∃ C, cls = .ref C) ∧ ∃ d v, dd = some d ∧ F d = some (.xd [(("value" : Str), v)]) ∧ rep K io F e.v v

section
variable (K : PySem.W.Frag) (mg : Str → Option Value) (W : WX)
/-- what must hold of the wish, if it ends by an exception -/
def PostX {α : Type} (en : Ent) (io : List Addr) (F : Hp) (o : O α) : Prop := match o with
  | .ok _ _ => True
  | .ex e s' => ∀ cls dd io' F' H' σ', Le io F io' F' → Rel K en io' F' H' σ' s' → XRep K mg io' F' H' e cls dd → W cls dd σ' H'
theorem PostX.le {α : Type} {en : Ent} {io io' : List Addr} {F F' : Hp} {o : O α} (h : Le io F io' F') (p : PostX K mg W en io F o) : PostX K mg W en io' F' o := by
  cases o with
  | ok _ _ => trivial
  | ex e s' => exact fun cls dd i f g t l => p cls dd i f g t (h.trans l)
def SemE (t : TE) (m : M D) : Prop := ∀ (en : Ent) (io : List Addr) (F H : Hp) (σ : St) (s : A) (o : O D) (Q : VK), Rel K en io F H σ s → m s = some o → PostX K mg W en io F o →
  (∀ d s', o = .ok d s' → ∀ v io' F' H', Le io F io' F' → Rel K en io' F' H' σ s' → rep K io' F' d v → Q v H') → t σ H Q
def SemT (t : TT) (m : M Bool) : Prop := ∀ (en : Ent) (io : List Addr) (F H : Hp) (σ : St) (s : A) (o : O Bool) (Q : Bool → Hp → Prop), Rel K en io F H σ s → m s = some o → PostX K mg W en io F o →
  (∀ d s', o = .ok d s' → ∀ io' F' H', Le io F io' F' → Rel K en io' F' H' σ s' → Q d H') → t σ H Q
def SemA (t : TA) (m : M (List D)) : Prop := ∀ (en : Ent) (io : List Addr) (F H : Hp) (σ : St) (s : A) (o : O (List D)) (Q : List V → Hp → Prop), Rel K en io F H σ s → m s = some o → PostX K mg W en io F o →
  (∀ d s', o = .ok d s' → ∀ v io' F' H', Le io F io' F' → Rel K en io' F' H' σ s' → reps K io' F' d v → Q v H') → t σ H Q
/-- how a statement ends -/
inductive Fl where
  | nx | rt (d : D) | bk | ct
def EndP (io : List Addr) (F H : Hp) (σ : St) (E : Ends) : Fl → Prop
  | .nx => E.nx σ H
  | .rt d => ∀ v, rep K io F d v → E.rt v H
  | .bk => E.bk σ H
  | .ct => E.ct σ H
def SemS (t : TS) (m : M Fl) : Prop := ∀ (en : Ent) (io : List Addr) (F H : Hp) (σ : St) (s : A) (o : O Fl) (E : Ends), Rel K en io F H σ s → m s = some o → PostX K mg W en io F o →
  (∀ f s', o = .ok f s' → ∀ io' F' H' σ', Le io F io' F' → Rel K en io' F' H' σ' s' → EndP K io' F' H' σ' E f) → t E σ H
def SemG (g : TG) (m : D → M Unit) : Prop := ∀ (en : Ent) (io : List Addr) (F H : Hp) (σ : St) (s : A) (d : D) (v : V) (o : O Unit) (Q : St → Hp → Prop), Rel K en io F H σ s → rep K io F d v → m d s = some o → PostX K mg W en io F o →
  (∀ u s', o = .ok u s' → ∀ io' F' H' σ', Le io F io' F' → Rel K en io' F' H' σ' s' → Q σ' H') → g v σ H Q
end

section
variable {K : PySem.W.Frag} {mg : Str → Option Value} {W : WX} {en : Ent} {io : List Addr} {F H : Hp} {σ : St} {s : A} {β : Type}
theorem bnd_some {α : Type} {m : M α} {k : α → M β} {o : O β} (e : bnd m k s = some o) : (∃ a s', m s = some (.ok a s') ∧ k a s' = some o) ∨ ∃ x s', m s = some (.ex x s') ∧ o = .ex x s' := by
  unfold bnd at e
  split at e
  · exact .inl ⟨_, _, by assumption, e⟩
  · exact .inr ⟨_, _, by assumption, (Option.some.inj e).symm⟩
  · cases e
theorem lft_some {o : Option β} {r : O β} (e : lft o s = some r) : ∃ a, o = some a ∧ r = .ok a s := by
  unfold lft at e
  split at e
  · exact ⟨_, rfl, (Option.some.inj e).symm⟩
  · cases e
/-- first t, then what follows -/
theorem SemE.step {t : TE} {m : M D} {k : D → M β} {o : O β} {Q : VK} (h : SemE K mg W t m) (R : Rel K en io F H σ s) (e : bnd m k s = some o) (hx : PostX K mg W en io F o)
    (hk : ∀ d s1 v io' F' H', Le io F io' F' → Rel K en io' F' H' σ s1 → rep K io' F' d v → k d s1 = some o → PostX K mg W en io' F' o → Q v H') : t σ H Q := by
  rcases bnd_some e with ⟨a, s', e1, e2⟩ | ⟨x, s', e1, e2⟩
  · exact h en io F H σ s _ Q R e1 trivial fun d s2 e3 v io' F' H' l R' r => by
      cases e3
      exact hk a s' v io' F' H' l R' r e2 (hx.le _ _ _ l)
  · subst e2
    exact h en io F H σ s _ Q R e1 hx fun d s2 e3 => by cases e3
theorem SemT.step {t : TT} {m : M Bool} {k : Bool → M β} {o : O β} {Q : Bool → Hp → Prop} (h : SemT K mg W t m) (R : Rel K en io F H σ s) (e : bnd m k s = some o) (hx : PostX K mg W en io F o)
    (hk : ∀ d s1 io' F' H', Le io F io' F' → Rel K en io' F' H' σ s1 → k d s1 = some o → PostX K mg W en io' F' o → Q d H') : t σ H Q := by
  rcases bnd_some e with ⟨a, s', e1, e2⟩ | ⟨x, s', e1, e2⟩
  · exact h en io F H σ s _ Q R e1 trivial fun d s2 e3 io' F' H' l R' => by
      cases e3
      exact hk a s' io' F' H' l R' e2 (hx.le _ _ _ l)
  · subst e2
    exact h en io F H σ s _ Q R e1 hx fun d s2 e3 => by cases e3
theorem SemA.step {t : TA} {m : M (List D)} {k : List D → M β} {o : O β} {Q : List V → Hp → Prop} (h : SemA K mg W t m) (R : Rel K en io F H σ s) (e : bnd m k s = some o) (hx : PostX K mg W en io F o)
    (hk : ∀ d s1 v io' F' H', Le io F io' F' → Rel K en io' F' H' σ s1 → reps K io' F' d v → k d s1 = some o → PostX K mg W en io' F' o → Q v H') : t σ H Q := by
  rcases bnd_some e with ⟨a, s', e1, e2⟩ | ⟨x, s', e1, e2⟩
  · exact h en io F H σ s _ Q R e1 trivial fun d s2 e3 v io' F' H' l R' r => by
      cases e3
      exact hk a s' v io' F' H' l R' r e2 (hx.le _ _ _ l)
  · subst e2
    exact h en io F H σ s _ Q R e1 hx fun d s2 e3 => by cases e3
theorem SemG.step {g : TG} {m : D → M Unit} {k : Unit → M β} {o : O β} {Q : St → Hp → Prop} {d : D} {v : V} (h : SemG K mg W g m) (R : Rel K en io F H σ s) (r : rep K io F d v) (e : bnd (m d) k s = some o) (hx : PostX K mg W en io F o)
    (hk : ∀ s1 io' F' H' σ', Le io F io' F' → Rel K en io' F' H' σ' s1 → k () s1 = some o → PostX K mg W en io' F' o → Q σ' H') : g v σ H Q := by
  rcases bnd_some e with ⟨a, s', e1, e2⟩ | ⟨x, s', e1, e2⟩
  · exact h en io F H σ s d v _ Q R r e1 trivial fun u s2 e3 io' F' H' σ' l R' => by
      cases e3
      exact hk s' io' F' H' σ' l R' e2 (hx.le _ _ _ l)
  · subst e2
    exact h en io F H σ s d v _ Q R r e1 hx fun d s2 e3 => by cases e3
end

/-! ### the judgements -/
structure DE (X : Cx) (W : WX) (e : Expr) (t : TE) (m : M D) : Prop where
  p : PE X e t
  s : SemE X.K X.mg W t m
structure DT (X : Cx) (W : WX) (e : Expr) (t : TT) (m : M Bool) : Prop where
  p : PT X e t
  s : SemT X.K X.mg W t m
structure DA (X : Cx) (W : WX) (es : List Expr) (t : TA) (m : M (List D)) : Prop where
  p : PA X es t
  s : SemA X.K X.mg W t m
structure DS (X : Cx) (W : WX) (st : Stmt) (t : TS) (m : M Fl) : Prop where
  p : PS X st t
  s : SemS X.K X.mg W t m
structure DSs (X : Cx) (W : WX) (sts : List Stmt) (t : TS) (m : M Fl) : Prop where
  p : PSs X sts t
  s : SemS X.K X.mg W t m
structure DG (X : Cx) (W : WX) (e : Expr) (g : TG) (m : D → M Unit) : Prop where
  p : PG X e g
  s : SemG X.K X.mg W g m
end Z
/-! Z2: how the relation is carried over a change -/
namespace Z
open PySem L2
section
variable {K : PySem.W.Frag} {en : Ent} {io io' : List Addr} {F F' H H' : Hp} {σ : St} {s : A} {p : Addr}

theorem HRel.at (h : HRel K io F H s.hp) {i : Nat} {o : AO} (e : s.hp[i]? = some o) : ∃ p, io[i]? = some p ∧ Cont K io F H p o := by
  have hi := (List.getElem?_eq_some_iff.mp e).1
  rw [← h.len] at hi
  exact ⟨io[i], List.getElem?_eq_getElem hi, h.ids i _ o (List.getElem?_eq_getElem hi) e⟩
theorem HRel.mem (h : HRel K io F H s.hp) (hp : p ∈ io) : ∃ (i : Nat) (o : AO), io[i]? = some p ∧ s.hp[i]? = some o ∧ Cont K io F H p o := by
  obtain ⟨i, hi⟩ := List.getElem?_of_mem hp
  have hl := (List.getElem?_eq_some_iff.mp hi).1
  have hl2 : i < s.hp.length := by rw [← h.len]; exact hl
  exact ⟨i, s.hp[i], hi, List.getElem?_eq_getElem hl2, h.ids i p _ hi (List.getElem?_eq_getElem hl2)⟩
/-- a step of another's: calls, new objects -/
theorem Rel.after (R : Rel K en io F H σ s) {hp' : List AO} (h' : HRel K io' F' H' hp') (l : Le io F io' F') (hF : ∀ q, H q ≠ none → F' q = F q) (fr : ∀ b o, H b = some o → b ∉ io → H' b = some o)
    (lv : ∀ b, H b ≠ none → H' b ≠ none) (nw : ∀ (i : Nat) a, io'[i]? = some a → io.length ≤ i → H a = none) : Rel K en io' F' H' σ { s with hp := hp' } := by
  have notin : ∀ q, q ∉ io → H q ≠ none → q ∉ io' := fun q hq hn hm => by
    obtain ⟨i, hi⟩ := List.getElem?_of_mem hm
    by_cases hl : io.length ≤ i
    · exact hn (nw i q hi hl)
    · have hl' : i < io.length := by omega
      have e := l.pre i io[i] (List.getElem?_eq_getElem hl')
      rw [hi] at e
      cases e
      exact hq (List.getElem_mem hl')
  have enio : ∀ (i : Nat) a, en.io[i]? = some a → a ∈ io := fun i a e => List.mem_of_getElem? (R.k.pre i a e)
  refine ⟨h', ⟨fun i a e => l.pre i a (R.k.pre i a e), fun i a e hl => ?_, fun b o e hb => ?_, fun b hb => lv b (R.k.liv b hb), fun b hb => (hF b (R.k.liv b hb)).trans (R.k.grow b hb), R.k.ex.trans l.ex⟩, R.len, fun i d e => ?_, fun i o e => ?_, R.sep⟩
  · by_cases hl2 : io.length ≤ i
    · cases q : en.H a with
      | none => rfl
      | some u => exact absurd (nw i a e hl2) (R.k.liv a (by rw [q]; exact fun z => nomatch z))
    · have hl' : i < io.length := by omega
      have e2 := l.pre i io[i] (List.getElem?_eq_getElem hl')
      rw [e] at e2
      cases e2
      exact R.k.new i _ (List.getElem?_eq_getElem hl') hl
  · have hH := R.k.frm b o e hb
    refine fr b o hH fun hm => ?_
    obtain ⟨i, hi⟩ := List.getElem?_of_mem hm
    by_cases hl2 : en.io.length ≤ i
    · rw [R.k.new i b hi hl2] at e
      cases e
    · have hl' : i < en.io.length := by omega
      have e2 := R.k.pre i en.io[i] (List.getElem?_eq_getElem hl')
      rw [hi] at e2
      cases e2
      exact hb (List.getElem_mem hl')
  · obtain ⟨v, e1, r⟩ := R.val i d e
    exact ⟨v, e1, rep_le l d v r⟩
  · obtain ⟨q, e1, c, hq, hn⟩ := R.own i o e
    have hne := c.live
    exact ⟨q, e1, c.le l (fun z => (hF q hne).trans z) (fun u hu => fr q u hu hq), notin q hq hne, hn⟩
/-- H grows, and F with it -/
theorem Rel.grow (R : Rel K en io F H σ s) (hF : ∀ q, H q ≠ none → F' q = F q) (exF : Ex F F') (exH : Ex H H') (ex' : Ex F' H') : Rel K en io F' H' σ s := by
  have l : Le io F io F' := ⟨fun _ _ h => h, exF⟩
  have h' : HRel K io F' H' s.hp := ⟨ex', R.h.len, R.h.nd, fun i q o e1 e2 => by
    have c := R.h.ids i q o e1 e2
    exact c.le l (fun z => (hF q c.live).trans z) (fun u hu => exH q u hu)⟩
  exact R.after h' l hF (fun b o e _ => exH b o e) (fun b hb z => by
    cases e : H b with
    | none => exact hb e
    | some o => rw [exH b o e] at z; cases z) fun i a e hl => absurd (List.getElem?_eq_some_iff.mp e).1 (by omega)
/-- a new frozen object -/
theorem Rel.new (R : Rel K en io F H σ s) (hp : H p = none) (o : HO) : Rel K en io (upd F p o) (upd H p o) σ s ∧ Le io F io (upd F p o) := by
  have hFp : F p = none := R.h.ex.none_of hp
  refine ⟨R.grow (fun q hq => upd_ne fun z => ?_) (Ex.new hFp) (Ex.new hp) R.h.ex.up, ⟨fun _ _ h => h, Ex.new hFp⟩⟩
  subst z
  exact hq hp
/-- .. that nobody needs -/
theorem Rel.junk (R : Rel K en io F H σ s) (hp : H p = none) (o : HO) : Rel K en io F (upd H p o) σ s :=
  R.grow (fun _ _ => rfl) (Ex.refl F) (Ex.new hp) (R.h.ex.trans (Ex.new hp))

/-- a slot takes data -/
theorem Rel.setv (R : Rel K en io F H σ s) {i : Nat} {d : D} {v : V} (r : rep K io F d v) : Rel K en io F H (σ.set i (some v)) { s with sl := s.sl.set i (some (.val d)) } := by
  refine ⟨R.h, R.k, by simpa using R.len, fun j e h => ?_, fun j o h => ?_, fun j k o o' q h1 h2 e1 e2 => ?_⟩
  · by_cases hj : i = j
    · subst hj
      have hl := (List.getElem?_eq_some_iff.mp h).1
      rw [List.length_set] at hl
      rw [List.getElem?_set_self hl] at h
      cases h
      exact ⟨v, List.getElem?_set_self (by rw [← R.len]; exact hl), r⟩
    · rw [List.getElem?_set_ne hj] at h ⊢
      exact R.val j e h
  · by_cases hj : i = j
    · subst hj
      have hl := (List.getElem?_eq_some_iff.mp h).1
      rw [List.length_set] at hl
      rw [List.getElem?_set_self hl] at h
      cases h
    · rw [List.getElem?_set_ne hj] at h ⊢
      exact R.own j o h
  · have key : ∀ (j : Nat) (o : AO), (s.sl.set i (some (.val d)))[j]? = some (some (.own o)) → i ≠ j := fun j o h z => by
      subst z
      have hl := (List.getElem?_eq_some_iff.mp h).1
      rw [List.length_set] at hl
      rw [List.getElem?_set_self hl] at h
      cases h
    have n1 := key j o h1
    have n2 := key k o' h2
    rw [List.getElem?_set_ne n1] at h1 e1
    rw [List.getElem?_set_ne n2] at h2 e2
    exact R.sep j k o o' q h1 h2 e1 e2
/-- a slot is forgotten -/
theorem Rel.forget (R : Rel K en io F H σ s) {i : Nat} (x : Option V) : Rel K en io F H (σ.set i x) { s with sl := s.sl.set i none } := by
  have key : ∀ (j : Nat) (o : SV), (s.sl.set i none)[j]? = some (some o) → i ≠ j := fun j o h z => by
    subst z
    have hl := (List.getElem?_eq_some_iff.mp h).1
    rw [List.length_set] at hl
    rw [List.getElem?_set_self hl] at h
    cases h
  refine ⟨R.h, R.k, by simpa using R.len, fun j e h => ?_, fun j o h => ?_, fun j k o o' q h1 h2 e1 e2 => ?_⟩
  · have n := key j _ h
    rw [List.getElem?_set_ne n] at h ⊢
    exact R.val j e h
  · have n := key j _ h
    rw [List.getElem?_set_ne n] at h ⊢
    exact R.own j o h
  · have n1 := key j _ h1
    have n2 := key k _ h2
    rw [List.getElem?_set_ne n1] at h1 e1
    rw [List.getElem?_set_ne n2] at h2 e2
    exact R.sep j k o o' q h1 h2 e1 e2
/-- a new object that the slot alone knows -/
theorem Rel.seto (R : Rel K en io F H σ s) {i : Nat} {ho : HO} {o : AO} (hp : H p = none) (c : Cont K io F (upd H p ho) p o) : Rel K en io F (upd H p ho) (σ.set i (some (.ref p))) { s with sl := s.sl.set i (some (.own o)) } := by
  have R1 := R.junk hp ho
  have pn : ∀ (j : Nat) o', s.sl[j]? = some (some (.own o')) → σ[j]? = some (some (.ref p)) → False := fun j o' h e => by
    obtain ⟨q, e1, c', _, _⟩ := R.own j o' h
    rw [e] at e1
    cases e1
    exact c'.live hp
  have pio : p ∉ io := fun hm => by
    obtain ⟨j, o', _, _, c'⟩ := R.h.mem hm
    exact c'.live hp
  have enp : en.H p = none := by
    cases q : en.H p with
    | none => rfl
    | some u => exact absurd hp (R.k.liv p (by rw [q]; exact fun z => nomatch z))
  have self : ∀ (j : Nat) (o' : SV), (s.sl.set i (some (.own o)))[j]? = some (some o') → i = j → i < s.sl.length ∧ o' = .own o := fun j o' h z => by
    subst z
    have hl := (List.getElem?_eq_some_iff.mp h).1
    rw [List.length_set] at hl
    rw [List.getElem?_set_self hl] at h
    cases h
    exact ⟨hl, rfl⟩
  refine ⟨R1.h, R1.k, by simpa using R1.len, fun j e h => ?_, fun j o' h => ?_, fun j k o1 o2 q h1 h2 e1 e2 => ?_⟩
  · by_cases hj : i = j
    · have := (self j _ h hj).2
      cases this
    · rw [List.getElem?_set_ne hj] at h ⊢
      exact R1.val j e h
  · by_cases hj : i = j
    · obtain ⟨hl, e⟩ := self j _ h hj
      cases e
      subst hj
      exact ⟨p, List.getElem?_set_self (by rw [← R.len]; exact hl), c, pio, enp⟩
    · rw [List.getElem?_set_ne hj] at h ⊢
      exact R1.own j o' h
  · by_cases hj : i = j
    · obtain ⟨hl, _⟩ := self j _ h1 hj
      subst hj
      rw [List.getElem?_set_self (by rw [← R.len]; exact hl)] at e1
      cases e1
      by_cases hk : i = k
      · exact hk
      · rw [List.getElem?_set_ne hk] at h2 e2
        exact (pn k o2 h2 e2).elim
    · by_cases hk : i = k
      · obtain ⟨hl, _⟩ := self k _ h2 hk
        subst hk
        rw [List.getElem?_set_self (by rw [← R.len]; exact hl)] at e2
        cases e2
        rw [List.getElem?_set_ne hj] at h1 e1
        exact (pn j o1 h1 e1).elim
      · rw [List.getElem?_set_ne hj] at h1 e1
        rw [List.getElem?_set_ne hk] at h2 e2
        exact R.sep j k o1 o2 q h1 h2 e1 e2
/-- the object of a slot is changed -/
theorem Rel.put (R : Rel K en io F H σ s) {i : Nat} {ho : HO} {o o' : AO} (hs : s.sl[i]? = some (some (.own o))) (hσ : σ[i]? = some (some (.ref p))) (hF : F p = none) (c : Cont K io F (upd H p ho) p o') :
    Rel K en io F (upd H p ho) σ { s with sl := s.sl.set i (some (.own o')) } := by
  obtain ⟨q, e1, c0, pio, enp⟩ := R.own i o hs
  rw [hσ] at e1
  cases e1
  have hlt := (List.getElem?_eq_some_iff.mp hs).1
  have self : ∀ (j : Nat) (x : SV), (s.sl.set i (some (.own o')))[j]? = some (some x) → i = j → x = .own o' := fun j x h z => by
    subst z
    rw [List.getElem?_set_self hlt] at h
    cases h
    rfl
  refine ⟨⟨fun b u e => ?_, R.h.len, R.h.nd, fun j b u e1 e2 => ?_⟩, ⟨R.k.pre, R.k.new, fun b u e hb => ?_, fun b hb => ?_, R.k.grow, R.k.ex⟩, by simpa using R.len, fun j e h => ?_, fun j x h => ?_, fun j k o1 o2 b h1 h2 e1 e2 => ?_⟩
  · rw [upd_ne (fun z => by subst z; rw [hF] at e; cases e)]
    exact R.h.ex b u e
  · have hb : b ≠ p := fun z => by
      subst z
      exact pio (List.mem_of_getElem? e1)
    exact (R.h.ids j b u e1 e2).le (Le.refl io F) id fun w hw => by rw [upd_ne hb]; exact hw
  · rw [upd_ne (fun z => by subst z; rw [enp] at e; cases e)]
    exact R.k.frm b u e hb
  · by_cases z : b = p
    · subst z
      rw [upd_same]
      exact fun z => nomatch z
    · rw [upd_ne z]
      exact R.k.liv b hb
  · by_cases hj : i = j
    · cases self j _ h hj
    · rw [List.getElem?_set_ne hj] at h
      exact R.val j e h
  · by_cases hj : i = j
    · cases self j _ h hj
      subst hj
      exact ⟨p, hσ, c, pio, enp⟩
    · rw [List.getElem?_set_ne hj] at h
      obtain ⟨b, e1, c1, h3, h4⟩ := R.own j x h
      have hb : b ≠ p := fun z => by
        subst z
        exact hj (R.sep i j o x b hs h hσ e1)
      exact ⟨b, e1, c1.le (Le.refl io F) id fun w hw => by rw [upd_ne hb]; exact hw, h3, h4⟩
  · have back : ∀ (j : Nat) (x : AO), (s.sl.set i (some (.own o')))[j]? = some (some (.own x)) → ∃ y, s.sl[j]? = some (some (.own y)) := fun j x h => by
      by_cases hj : i = j
      · subst hj
        exact ⟨o, hs⟩
      · rw [List.getElem?_set_ne hj] at h
        exact ⟨x, h⟩
    obtain ⟨y1, g1⟩ := back j o1 h1
    obtain ⟨y2, g2⟩ := back k o2 h2
    exact R.sep j k y1 y2 b g1 g2 e1 e2
/-- a slot's list is frozen: it is data from now on -/
theorem Rel.frz (R : Rel K en io F H σ s) {i : Nat} {l : List D} (hs : s.sl[i]? = some (some (.own (.lst l)))) :
    ∃ p F', σ[i]? = some (some (.ref p)) ∧ Le io F io F' ∧ Rel K en io F' H σ { s with sl := s.sl.set i (some (.val (.lst l))) } ∧ rep K io F' (.lst l) (.ref p) := by
  obtain ⟨p, e1, ⟨hF, xs, hH, r⟩, pio, enp⟩ := R.own i _ hs
  have l1 : Le io F io (upd F p (.lst xs)) := ⟨fun _ _ h => h, Ex.new hF⟩
  have rr : rep K io (upd F p (.lst xs)) (.lst l) (.ref p) := ⟨p, xs, rfl, upd_same, reps_le l1 _ _ r⟩
  have hlt := (List.getElem?_eq_some_iff.mp hs).1
  have self : ∀ (j : Nat) (x : SV), (s.sl.set i (some (.val (.lst l))))[j]? = some (some x) → i = j → x = .val (.lst l) := fun j x h z => by
    subst z
    rw [List.getElem?_set_self hlt] at h
    cases h
    rfl
  refine ⟨p, upd F p (.lst xs), e1, l1, ⟨⟨fun b u e => ?_, R.h.len, R.h.nd, fun j b u h1 h2 => ?_⟩, ⟨R.k.pre, R.k.new, R.k.frm, R.k.liv, fun b hb => ?_, R.k.ex.trans l1.ex⟩, by simpa using R.len, fun j e h => ?_, fun j x h => ?_, fun j k o1 o2 b h1 h2 g1 g2 => ?_⟩, rr⟩
  · by_cases z : b = p
    · subst z
      rw [upd_same] at e
      cases e
      exact hH
    · rw [upd_ne z] at e
      exact R.h.ex b u e
  · have hb : b ≠ p := fun z => by
      subst z
      exact pio (List.mem_of_getElem? h1)
    exact (R.h.ids j b u h1 h2).le l1 (fun z => by rw [upd_ne hb]; exact z) fun w hw => hw
  · rw [upd_ne (fun z => by subst z; exact hb enp)]
    exact R.k.grow b hb
  · by_cases hj : i = j
    · cases self j _ h hj
      subst hj
      exact ⟨_, e1, rr⟩
    · rw [List.getElem?_set_ne hj] at h
      obtain ⟨v, e2, r2⟩ := R.val j e h
      exact ⟨v, e2, rep_le l1 _ _ r2⟩
  · by_cases hj : i = j
    · cases self j _ h hj
    · rw [List.getElem?_set_ne hj] at h
      obtain ⟨b, e2, c1, h3, h4⟩ := R.own j x h
      have hb : b ≠ p := fun z => by
        subst z
        exact hj (R.sep i j _ x b hs h e1 e2)
      exact ⟨b, e2, c1.le l1 (fun z => by rw [upd_ne hb]; exact z) fun w hw => hw, h3, h4⟩
  · have key : ∀ (j : Nat) (o : AO), (s.sl.set i (some (.val (.lst l))))[j]? = some (some (.own o)) → i ≠ j := fun j o h z => by cases self j _ h z
    have n1 := key j o1 h1
    have n2 := key k o2 h2
    rw [List.getElem?_set_ne n1] at h1
    rw [List.getElem?_set_ne n2] at h2
    exact R.sep j k o1 o2 b h1 h2 g1 g2
/-- an object of the own heap is changed -/
theorem Rel.hput (R : Rel K en io F H σ s) {i : Nat} {ho : HO} {o o' : AO} (hs : s.hp[i]? = some o) (hi : io[i]? = some p) (hF : F p = none) (c : Cont K io F (upd H p ho) p o') :
    Rel K en io F (upd H p ho) σ { s with hp := s.hp.set i o' } := by
  have hlt := (List.getElem?_eq_some_iff.mp hs).1
  have pin : p ∈ io := List.mem_of_getElem? hi
  have h' : HRel K io F (upd H p ho) (s.hp.set i o') := ⟨fun b u e => by
    rw [upd_ne (fun z => by subst z; rw [hF] at e; cases e)]
    exact R.h.ex b u e, by rw [List.length_set]; exact R.h.len, R.h.nd, fun j b u e1 e2 => by
    by_cases hj : i = j
    · subst hj
      rw [hi] at e1
      cases e1
      rw [List.getElem?_set_self hlt] at e2
      cases e2
      exact c
    · rw [List.getElem?_set_ne hj] at e2
      have hb : b ≠ p := fun z => by
        subst z
        exact hj (R.h.nd i j b hi e1)
      exact (R.h.ids j b u e1 e2).le (Le.refl io F) id fun w hw => by rw [upd_ne hb]; exact hw⟩
  refine R.after h' (Le.refl io F) (fun _ _ => rfl) (fun b u e hb => ?_) (fun b hb => ?_) fun j a e hl => absurd (List.getElem?_eq_some_iff.mp e).1 (by omega)
  · rw [upd_ne (fun z => by subst z; exact hb pin)]
    exact e
  · by_cases z : b = p
    · subst z
      rw [upd_same]
      exact fun z => nomatch z
    · rw [upd_ne z]
      exact hb
/-- a new object of the own heap -/
theorem Rel.hnew (R : Rel K en io F H σ s) {ho : HO} {o : AO} (hp : H p = none) (c : Cont K (io ++ [p]) F (upd H p ho) p o) :
    Rel K en (io ++ [p]) F (upd H p ho) σ { s with hp := s.hp ++ [o] } ∧ Le io F (io ++ [p]) F ∧ rep K (io ++ [p]) F (.ref s.hp.length) (.ref p) := by
  have l : Le io F (io ++ [p]) F := ⟨fun i a e => by rw [List.getElem?_append_left (List.getElem?_eq_some_iff.mp e).1]; exact e, Ex.refl F⟩
  have pnot : p ∉ io := fun hm => by
    obtain ⟨j, o', _, _, c'⟩ := R.h.mem hm
    exact c'.live hp
  have at_ : ∀ (i : Nat) a, (io ++ [p])[i]? = some a → (i < io.length ∧ io[i]? = some a) ∨ (i = io.length ∧ a = p) := fun i a e => by
    by_cases hl : i < io.length
    · rw [List.getElem?_append_left hl] at e
      exact .inl ⟨hl, e⟩
    · have hlt := (List.getElem?_eq_some_iff.mp e).1
      rw [List.length_append, List.length_singleton] at hlt
      have hi : i = io.length := by omega
      subst hi
      rw [List.getElem?_append_right (Nat.le_refl _), Nat.sub_self] at e
      exact .inr ⟨rfl, by simpa using e.symm⟩
  have h' : HRel K (io ++ [p]) F (upd H p ho) (s.hp ++ [o]) := by
    refine ⟨R.h.ex.trans (Ex.new hp), by simp [R.h.len], fun i j a e1 e2 => ?_, fun i a u e1 e2 => ?_⟩
    · rcases at_ i a e1 with ⟨_, g1⟩ | ⟨g1, g1'⟩
      · rcases at_ j a e2 with ⟨_, g2⟩ | ⟨_, g2'⟩
        · exact R.h.nd i j a g1 g2
        · subst g2'
          exact absurd (List.mem_of_getElem? g1) pnot
      · rcases at_ j a e2 with ⟨_, g2⟩ | ⟨g2, _⟩
        · subst g1'
          exact absurd (List.mem_of_getElem? g2) pnot
        · omega
    · rcases at_ i a e1 with ⟨hl, g1⟩ | ⟨g1, g1'⟩
      · rw [List.getElem?_append_left (by rw [← R.h.len]; exact hl)] at e2
        have c1 := R.h.ids i a u g1 e2
        have hb : a ≠ p := fun z => by
          subst z
          exact c1.live hp
        exact c1.le l id fun w hw => by rw [upd_ne hb]; exact hw
      · subst g1'
        rw [g1, R.h.len, List.getElem?_append_right (Nat.le_refl _), Nat.sub_self] at e2
        have e3 : o = u := by simpa using e2
        subst e3
        exact c
  refine ⟨R.after h' l (fun _ _ => rfl) (fun b u e _ => Ex.new hp b u e) (fun b hb => ?_) (fun i a e hl => ?_), l, ⟨p, rfl, by rw [← R.h.len]; simp⟩⟩
  · by_cases z : b = p
    · subst z
      rw [upd_same]
      exact fun z => nomatch z
    · rw [upd_ne z]
      exact hb
  · rcases at_ i a e with ⟨hl', _⟩ | ⟨_, e'⟩
    · omega
    · rw [e']
      exact hp
/-- no new names are needed: slots alike -/
theorem Rel.same (R : Rel K en io F H σ s) {s' : A} (h1 : s'.sl = s.sl) (h2 : s'.hp = s.hp) : Rel K en io F H σ s' := by
  obtain ⟨a, b⟩ := s'
  obtain ⟨c, d⟩ := s
  simp only at h1 h2
  subst h1 h2
  exact R
end
end Z
/-! Z3: expressions -/
namespace Z
open PySem L2
open Classical

/-! ### names, constants -/
def mVar (i : Nat) : M D := fun s => match s.sl[i]? with
  | some (some (.val d)) => some (.ok d s)
  | some (some (.own (.lst l))) => some (.ok (.lst l) { s with sl := s.sl.set i (some (.val (.lst l))) })
  | _ => none
def mC (d : D) : M D := ret d
section
variable {X : Cx} {W : WX} {pos : Pos} {K : PySem.W.Frag} {mg : Str → Option Value}
theorem sem_var {i : Nat} : SemE K mg W (tVar i) (mVar i) := by
  intro en io F H σ s o Q R e hx hq
  unfold mVar at e
  split at e
  · rename_i d h
    cases e
    obtain ⟨v, e1, r⟩ := R.val i d h
    exact ⟨v, e1, hq _ _ rfl v io F H (Le.refl _ _) R r⟩
  · rename_i l h
    cases e
    obtain ⟨p, F', e1, l1, R', r⟩ := R.frz h
    exact ⟨.ref p, e1, hq _ _ rfl _ io F' H l1 R' r⟩
  · cases e
theorem de_var (i : Nat) {x : Str} (hN : X.N[i]? = some x := by rfl) (hv : Vis X.env.scope x := by first | exact Or.inl rfl | exact Or.inr (Or.inl rfl) | exact Or.inr (Or.inr rfl)) (hd : (x == ("__debug__" : Str)) = false := by decide)
    (hcd : (x == ("__classdict__" : Str)) = false := by decide) : DE X W (.Name x pos) (tVar i) (mVar i) := ⟨pe_var hN hv hd hcd, sem_var⟩
theorem sem_c {d : D} {v : V} (h : ∀ io F, rep K io F d v) : SemE K mg W (tC v) (mC d) := by
  intro en io F H σ s o Q R e hx hq
  cases e
  exact hq _ _ rfl v io F H (Le.refl _ _) R (h io F)
theorem de_int {i : Int} {j} : DE X W (.Constant (.int i) j pos) (tC (.int i)) (mC (.int i)) := ⟨pe_int, sem_c fun _ _ => rfl⟩
theorem de_bl {b : Bool} {j} : DE X W (.Constant (.bool b) j pos) (tC (.bl b)) (mC (.bl b)) := ⟨pe_bl, sem_c fun _ _ => rfl⟩
theorem de_non {j} : DE X W (.Constant .none j pos) (tC .non) (mC .non) := ⟨pe_non, sem_c fun _ _ => rfl⟩
theorem de_str {x : Str} {j} (l : List Nat) (h : x = ⟨l.toArray⟩ := by decide) : DE X W (.Constant (.str x) j pos) (tC (.str x)) (mC (.str l)) := ⟨pe_str, sem_c fun _ _ => by rw [h]; rfl⟩
/-- a text of the module -/
theorem de_globS {x y : Str} {t : Tok} (l : List Nat) (hg : Gl X x) (hm : X.mg x = some (.str y t)) (h : y = ⟨l.toArray⟩ := by decide) (hd : (x == ("__debug__" : Str)) = false := by decide) : DE X W (.Name x pos) (tC (.str y)) (mC (.str l)) :=
  ⟨pe_glob hg hm ⟨t, rfl⟩ hd, sem_c fun _ _ => by rw [h]; rfl⟩
theorem de_globI {x : Str} {i : Int} {t : Tok} (hg : Gl X x) (hm : X.mg x = some (.int i t)) (hd : (x == ("__debug__" : Str)) = false := by decide) : DE X W (.Name x pos) (tC (.int i)) (mC (.int i)) :=
  ⟨pe_glob hg hm ⟨t, rfl⟩ hd, sem_c fun _ _ => rfl⟩
/-- a tuple of ints of the module -/
theorem de_globT {x : Str} {a : Addr} (ns : List Int) (hg : Gl X x) (hm : X.mg x = some (.ref a)) (h : ∀ H, SqT X.K H a (ns.map V.int)) (hd : (x == ("__debug__" : Str)) = false := by decide) : DE X W (.Name x pos) (tC (.ref a)) (mC (.tup (ns.map D.int))) :=
  ⟨pe_glob hg hm rfl hd, sem_c fun io F => ⟨a, _, rfl, h F, by
    clear h
    induction ns with
    | nil => rfl
    | cons n r ih => exact ⟨_, _, rfl, rfl, ih⟩⟩⟩
end

/-! ### two-place operations -/
def OpD (K : PySem.W.Frag) (r : R2) (f : D → D → Option D) : Prop := ∀ (en : Ent) (io : List Addr) (F H : Hp) (σ : St) (s : A) (x y : V) (dx dy d : D) (Q : VK), Rel K en io F H σ s → rep K io F dx x → rep K io F dy y → f dx dy = some d →
  (∀ v io' F' H', Le io F io' F' → Rel K en io' F' H' σ s → rep K io' F' d v → Q v H') → r x y H Q
structure OpOk (X : Cx) (f : Value → Value → Sem Value) (r : R2) (g : D → D → Option D) : Prop where
  p : OpR X f r
  s : OpD X.K r g
def mBin (f : D → D → Option D) (ma mb : M D) : M D := bnd ma fun x => bnd mb fun y => lft (f x y)
/-- a value as a test -/
def mTst (m : M D) : M Bool := bnd m fun d => match d with
  | .bl b => ret b
  | _ => fun _ => none
section
variable {X : Cx} {W : WX} {pos : Pos} {K : PySem.W.Frag} {mg : Str → Option Value} {a b c : Expr} {ta tb tc : TE} {ma mb mc : M D} {r r' : R2} {f f' : D → D → Option D}
theorem sem_bin (ha : SemE K mg W ta ma) (hb : SemE K mg W tb mb) (ho : OpD K r f) : SemE K mg W (tOp r ta tb) (mBin f ma mb) := by
  intro en io F H σ s o Q R e hx hq
  refine ha.step R e hx fun d s1 v io1 F1 H1 l1 R1 r1 e1 hx1 => ?_
  refine hb.step R1 e1 hx1 fun d2 s2 v2 io2 F2 H2 l2 R2 r2 e2 hx2 => ?_
  obtain ⟨z, e3, e4⟩ := lft_some e2
  exact ho en io2 F2 H2 σ s2 v v2 d d2 z Q R2 (rep_le l2 _ _ r1) r2 e3 fun w io3 F3 H3 l3 R3 r3 => hq z s2 e4 w io3 F3 H3 ((l1.trans l2).trans l3) R3 r3
theorem sem_tst {t : TE} {m : M D} (h : SemE K mg W t m) : SemT K mg W (tTest t) (mTst m) := by
  intro en io F H σ s o Q R e hx hq
  refine h.step R e hx fun d s1 v io1 F1 H1 l1 R1 r1 e1 hx1 => ?_
  cases d with
  | bl b =>
    cases e1
    exact ⟨b, r1, hq _ _ rfl io1 F1 H1 l1 R1⟩
  | _ => cases e1
theorem de_op {op : Operator} (ho : OpOk X (binaryOp op) r f) (ha : DE X W a ta ma) (hb : DE X W b tb mb) : DE X W (.BinOp a op b pos) (tOp r ta tb) (mBin f ma mb) := ⟨pe_op ho.p ha.p hb.p, sem_bin ha.s hb.s ho.s⟩
theorem de_cmp {op : CmpOp} (ho : OpOk X (compareOp op) r f) (ha : DE X W a ta ma) (hb : DE X W b tb mb) (hm : behindInMarks op b = false := by first | exact nomark _ | rfl) : DE X W (.Compare a [op] [b] pos) (tOp r ta tb) (mBin f ma mb) := ⟨pe_cmpR ho.p ha.p hb.p hm, sem_bin ha.s hb.s ho.s⟩
theorem dt_cmp {op : CmpOp} (ho : OpOk X (compareOp op) r f) (ha : DE X W a ta ma) (hb : DE X W b tb mb) (hm : behindInMarks op b = false := by first | exact nomark _ | rfl) : DT X W (.Compare a [op] [b] pos) (tTest (tOp r ta tb)) (mTst (mBin f ma mb)) :=
  ⟨pt_cmpR ho.p ha.p hb.p hm, sem_tst (sem_bin ha.s hb.s ho.s)⟩
def mChain (f f' : D → D → Option D) (ma mb mc : M D) : M D := bnd ma fun x => bnd mb fun y => bnd (mTst (lft (f x y))) fun k => if k = true then bnd mc fun z => lft (f' y z) else ret (.bl false)
theorem sem_chain (ha : SemE K mg W ta ma) (hb : SemE K mg W tb mb) (hc : SemE K mg W tc mc) (ho : OpD K r f) (ho' : OpD K r' f') : SemE K mg W (tChain r r' ta tb tc) (mChain f f' ma mb mc) := by
  intro en io F H σ s o Q R e hx hq
  refine ha.step R e hx fun d s1 v io1 F1 H1 l1 R1 r1 e1 hx1 => ?_
  refine hb.step R1 e1 hx1 fun d2 s2 v2 io2 F2 H2 l2 R2 r2 e2 hx2 => ?_
  rcases bnd_some e2 with ⟨k, s3, e3, e4⟩ | ⟨x, s3, e3, e4⟩
  · rcases bnd_some e3 with ⟨z, s4, g1, g2⟩ | ⟨x, s4, g1, g2⟩
    · obtain ⟨z', g3, g4⟩ := lft_some g1
      cases g4
      cases z with
      | bl b =>
        cases g2
        refine ho en io2 F2 H2 σ s2 v v2 d d2 _ _ R2 (rep_le l2 _ _ r1) r2 g3 fun w io3 F3 H3 l3 R3 r3 => ?_
        refine ⟨_, r3, ?_⟩
        cases k with
        | true =>
          have e4' : bnd mc (fun z => lft (f' d2 z)) s2 = some o := e4
          rw [if_pos rfl]
          refine hc.step R3 e4' (hx2.le _ _ _ l3) fun d5 s5 v5 io5 F5 H5 l5 R5 r5 e5 hx5 => ?_
          obtain ⟨z, e6, e7⟩ := lft_some e5
          exact ho' en io5 F5 H5 σ s5 v2 v5 d2 d5 z Q R5 (rep_le (l3.trans l5) _ _ r2) r5 e6 fun w io6 F6 H6 l6 R6 r6 => hq z s5 e7 w io6 F6 H6 ((((l1.trans l2).trans l3).trans l5).trans l6) R6 r6
        | false =>
          have e4' : ret (D.bl false) s2 = some o := e4
          rw [if_neg Bool.false_ne_true]
          cases e4'
          exact hq _ _ rfl _ io3 F3 H3 ((l1.trans l2).trans l3) R3 rfl
      | _ => cases g2
    · obtain ⟨z', g3, g4⟩ := lft_some g1
      cases g4
  · rcases bnd_some e3 with ⟨z, s4, g1, g2⟩ | ⟨x, s4, g1, g2⟩
    · obtain ⟨z', g3, g4⟩ := lft_some g1
      cases g4
      cases z <;> cases g2
    · obtain ⟨z', g3, g4⟩ := lft_some g1
      cases g4
theorem dt_chain {op op' : CmpOp} (ho : OpOk X (compareOp op) r f) (ho' : OpOk X (compareOp op') r' f') (ha : DE X W a ta ma) (hb : DE X W b tb mb) (hc : DE X W c tc mc)
    (hm : lastMarks [op, op'] [b, c] = false := by with_unfolding_all rfl) : DT X W (.Compare a [op, op'] [b, c] pos) (tTest (tChain r r' ta tb tc)) (mTst (mChain f f' ma mb mc)) :=
  ⟨pt_chain ho.p ho'.p ha.p hb.p hc.p hm, sem_tst (sem_chain ha.s hb.s hc.s ho.s ho'.s)⟩
theorem de_chain {op op' : CmpOp} (ho : OpOk X (compareOp op) r f) (ho' : OpOk X (compareOp op') r' f') (ha : DE X W a ta ma) (hb : DE X W b tb mb) (hc : DE X W c tc mc)
    (hm : lastMarks [op, op'] [b, c] = false := by with_unfolding_all rfl) : DE X W (.Compare a [op, op'] [b, c] pos) (tChain r r' ta tb tc) (mChain f f' ma mb mc) :=
  ⟨pe_chain ho.p ho'.p ha.p hb.p hc.p hm, sem_chain ha.s hb.s hc.s ho.s ho'.s⟩
/-- an operation on values that makes nothing -/
theorem opd_val {r : R2} {f : D → D → Option D} (h : ∀ (io : List Addr) (F H : Hp) x y dx dy d Q, Ex F H → rep K io F dx x → rep K io F dy y → f dx dy = some d → (∀ v, (∀ io' F', Le io F io' F' → rep K io' F' d v) → Q v H) → r x y H Q) : OpD K r f :=
  fun en io F H σ s x y dx dy d Q R rx ry e k => h io F H x y dx dy d Q R.h.ex rx ry e fun v hv => k v io F H (Le.refl _ _) R (hv _ _ (Le.refl _ _))

/-! ### ints -/
def fI (g : Int → Int → D) : D → D → Option D
  | .int i, .int j => some (g i j)
  | _, _ => none
noncomputable def fIc (C : Int → Int → Prop) (g : Int → Int → D) : D → D → Option D
  | .int i, .int j => if C i j then some (g i j) else none
  | _, _ => none
theorem opd_I0 {g : Int → Int → V} {g' : Int → Int → D} (h : ∀ i j io F, rep K io F (g' i j) (g i j)) : OpD K (rI0 g) (fI g') := opd_val fun io F H x y dx dy d Q ex rx ry e k => by
  cases dx with
  | int i =>
    cases dy with
    | int j =>
      cases e
      exact ⟨i, j, rx, ry, k _ fun io' F' _ => h i j io' F'⟩
    | _ => cases e
  | _ => cases e
theorem opd_I {C : Int → Int → Prop} {g : Int → Int → V} {g' : Int → Int → D} (h : ∀ i j io F, rep K io F (g' i j) (g i j)) : OpD K (rI C g) (fIc C g') := opd_val fun io F H x y dx dy d Q ex rx ry e k => by
  cases dx with
  | int i =>
    cases dy with
    | int j =>
      have e' : (if C i j then some (g' i j) else none) = some d := e
      by_cases hc : C i j
      · rw [if_pos hc] at e'
        cases e'
        exact ⟨i, j, rx, ry, hc, k _ fun io' F' _ => h i j io' F'⟩
      · rw [if_neg hc] at e'
        cases e'
    | _ => cases e
  | _ => cases e
abbrev addI := fI fun i j => .int (i + j)
abbrev subI := fI fun i j => .int (i - j)
noncomputable abbrev mulI := fIc CMulW fun i j => .int (i * j)
noncomputable abbrev divI := fIc CDivW fun i j => .int (i / j)
noncomputable abbrev modI := fIc (fun _ j => 0 < j) fun i j => .int (i % j)
abbrev ltI := fI fun i j => .bl (decide (i < j))
abbrev leI := fI fun i j => .bl (decide (i ≤ j))
abbrev gtI := fI fun i j => .bl (decide (j < i))
abbrev geI := fI fun i j => .bl (decide (j ≤ i))
abbrev r_addI : R2 := rI0 fun i j => .int (i + j)
theorem o_addI : OpOk X (binaryOp .Add) r_addI addI := ⟨op_add, opd_I0 fun _ _ _ _ => rfl⟩
abbrev r_subI : R2 := rI0 fun i j => .int (i - j)
theorem o_subI : OpOk X (binaryOp .Sub) r_subI subI := ⟨op_sub, opd_I0 fun _ _ _ _ => rfl⟩
abbrev r_mulI : R2 := rI CMulW fun i j => .int (i * j)
theorem o_mulI : OpOk X (binaryOp .Mult) r_mulI mulI := ⟨op_mulW, opd_I fun _ _ _ _ => rfl⟩
abbrev r_divI : R2 := rI CDivW fun i j => .int (i / j)
theorem o_divI : OpOk X (binaryOp .FloorDiv) r_divI divI := ⟨op_fdivW, opd_I fun _ _ _ _ => rfl⟩
abbrev r_modI : R2 := rI (fun _ j => 0 < j) fun i j => .int (i % j)
theorem o_modI : OpOk X (binaryOp .Mod) r_modI modI := ⟨op_mod, opd_I fun _ _ _ _ => rfl⟩
abbrev r_ltI : R2 := rI0 fun i j => .bl (decide (i < j))
theorem o_ltI : OpOk X (compareOp .Lt) r_ltI ltI := ⟨op_lt, opd_I0 fun _ _ _ _ => rfl⟩
abbrev r_leI : R2 := rI0 fun i j => .bl (decide (i ≤ j))
theorem o_leI : OpOk X (compareOp .LtE) r_leI leI := ⟨op_le, opd_I0 fun _ _ _ _ => rfl⟩
abbrev r_gtI : R2 := rI0 fun i j => .bl (decide (j < i))
theorem o_gtI : OpOk X (compareOp .Gt) r_gtI gtI := ⟨op_gt, opd_I0 fun _ _ _ _ => rfl⟩
abbrev r_geI : R2 := rI0 fun i j => .bl (decide (j ≤ i))
theorem o_geI : OpOk X (compareOp .GtE) r_geI geI := ⟨op_ge, opd_I0 fun _ _ _ _ => rfl⟩
/-- a ** b: the bits together below a hundred million -/
def CPowW (i j : Int) : Prop := 0 ≤ j ∧ (i.natAbs.log2 + 1 : Int) * j ≤ 2 ^ 27
theorem op_powW : OpR X (binaryOp .Pow) (rI CPowW fun i j => .int (i ^ j.toNat)) := opI fun i j _ _ _ _ _ hc q => PyProof.Rows.pow_int hc.1 (Int.le_trans (Int.mul_le_mul_of_nonneg_right (by
  show ((Builtin.Int.intBits i : Nat) : Int) ≤ (i.natAbs.log2 : Int) + 1
  unfold Builtin.Int.intBits
  split <;> omega) hc.1) hc.2) q
noncomputable abbrev powI := fIc CPowW fun i j => .int (i ^ j.toNat)
abbrev r_powI : R2 := rI CPowW fun i j => .int (i ^ j.toNat)
theorem o_powI : OpOk X (binaryOp .Pow) r_powI powI := ⟨op_powW, opd_I fun _ _ _ _ => rfl⟩

/-! ### texts -/
def addS : D → D → Option D
  | .str x, .str y => if x.length + y.length ≤ sizeLine then some (.str (x ++ y)) else none
  | _, _ => none
theorem str_len (l : List Nat) : (⟨l.toArray⟩ : Str).length = l.length := by
  show l.toArray.size = l.length
  simp
theorem str_app (x y : List Nat) : ((⟨x.toArray⟩ : Str) ++ (⟨y.toArray⟩ : Str)) = ⟨(x ++ y).toArray⟩ := by
  show (⟨x.toArray ++ y.toArray⟩ : Str) = _
  simp
abbrev r_addS : R2 := fun x y H Q => ∃ i j, x = .str i ∧ y = .str j ∧ i.length + j.length ≤ sizeLine ∧ Q (.str (i ++ j)) H
theorem o_addS : OpOk X (binaryOp .Add) r_addS addS := ⟨op_add_str, opd_val fun io F H x y dx dy d Q ex rx ry e k => by
  cases dx with
  | str i =>
    cases dy with
    | str j =>
      have e' : (if i.length + j.length ≤ sizeLine then some (D.str (i ++ j)) else none) = some d := e
      by_cases hc : i.length + j.length ≤ sizeLine
      · rw [if_pos hc] at e'
        cases e'
        exact ⟨⟨i.toArray⟩, ⟨j.toArray⟩, rx, ry, by rw [str_len, str_len]; exact hc, by rw [str_app]; exact k _ fun _ _ _ => rfl⟩
      · rw [if_neg hc] at e'
        cases e'
    | _ => cases e
  | _ => cases e⟩
/-- text * int -/
def repL {α : Type} (l : List α) (n : Nat) : List α := (List.replicate n l).flatten
def rMulS : R2 := fun x y H Q => ∃ z n, x = .str z ∧ y = .int n ∧ -(2 ^ 62) ≤ n ∧ n < 2 ^ 62 ∧ z.length * n.toNat ≤ sizeLine ∧ Q (.str ⟨(repL z.cps.toList n.toNat).toArray⟩) H
theorem foldl_rep (l : Array Nat) : ∀ (k : Nat) (acc : Array Nat), (List.replicate k l).foldl (· ++ ·) acc = acc ++ (repL l.toList k).toArray
  | 0, acc => by simp [repL]
  | k + 1, acc => by
    rw [List.replicate_succ, List.foldl_cons, foldl_rep l k (acc ++ l)]
    unfold repL
    rw [List.replicate_succ, List.flatten_cons]
    apply Array.ext'
    simp
theorem op_mulS : OpR X (binaryOp .Mult) rMulS := by
  intro pins s σ H x y v u Q I rx ry h
  obtain ⟨z, n, rfl, rfl, h1, h2, h3, q⟩ := h
  obtain ⟨t, rfl⟩ := rx
  obtain ⟨t', rfl⟩ := ry
  have hz : z.length * n.toNat ≤ sizeLine := h3
  have hs : (sizeLine : Nat) < 2 ^ 62 := by rw [sizeLine_eq]; decide
  refine PySem.P.mul_str ?_ (fun h5 h6 => ?_) (fun h5 h6 => ?_) ?_
  · rw [decide_eq_false (by omega), decide_eq_false (by omega)]
    rfl
  · intro h7
    have h8 : (z.length : Int) ≤ (2 ^ 63 - 1) / n := by
      refine Int.le_ediv_of_mul_le (by omega) ?_
      have e1 : (z.length : Int) * n = ((z.length * n.toNat : Nat) : Int) := by
        rw [Int.natCast_mul, Int.toNat_of_nonneg (by omega)]
      rw [e1]
      omega
    omega
  · show decide (z.length * n.toNat > sizeLine) = false
    exact decide_eq_false (by omega)
  · by_cases h5 : n < 1
    · rw [if_pos h5]
      have e : n.toNat = 0 := by omega
      rw [e] at q
      exact ⟨by decide, .str _, H, I.tok _, ⟨_, rfl⟩, q⟩
    · rw [if_neg h5]
      by_cases h6 : (n == 1 || z.length == 0) = true
      · rw [if_pos h6]
        have e : (⟨(repL z.cps.toList n.toNat).toArray⟩ : Str) = z := by
          rw [Bool.or_eq_true] at h6
          rcases h6 with h6 | h6
          · have : n = 1 := by simpa using h6
            subst this
            simp [repL]
          · have h7 : z.cps.size = 0 := beq_iff_eq.mp h6
            obtain ⟨cp⟩ := z
            have h8 : cp = #[] := Array.eq_empty_of_size_eq_zero h7
            subst h8
            simp [repL]
        rw [e] at q
        exact ⟨.str _, H, I, ⟨_, rfl⟩, q⟩
      · rw [if_neg h6]
        have e : (List.replicate n.toNat z.cps).foldl (· ++ ·) #[] = (repL z.cps.toList n.toNat).toArray := by
          rw [foldl_rep]
          simp
        rw [e]
        refine ⟨?_, .str _, H, I.tok _, ⟨_, rfl⟩, q⟩
        show (repL z.cps.toList n.toNat).toArray.size ≤ sizeLine
        have : ∀ k, (repL z.cps.toList k).length = z.cps.toList.length * k := fun k => by
          induction k with
          | zero => rfl
          | succ k ih =>
            unfold repL at ih ⊢
            rw [List.replicate_succ, List.flatten_cons, List.length_append, ih, Nat.mul_succ]
            omega
        rw [List.size_toArray, this]
        exact hz
def mulS : D → D → Option D
  | .str x, .int n => if -(2 ^ 62) ≤ n ∧ n < 2 ^ 62 ∧ x.length * n.toNat ≤ sizeLine then some (.str (repL x n.toNat)) else none
  | _, _ => none
theorem o_mulS : OpOk X (binaryOp .Mult) rMulS mulS := ⟨op_mulS, opd_val fun io F H x y dx dy d Q ex rx ry e k => by
  cases dx with
  | str i =>
    cases dy with
    | int n =>
      have e' : (if -(2 ^ 62) ≤ n ∧ n < 2 ^ 62 ∧ i.length * n.toNat ≤ sizeLine then some (D.str (repL i n.toNat)) else none) = some d := e
      by_cases hc : -(2 ^ 62) ≤ n ∧ n < 2 ^ 62 ∧ i.length * n.toNat ≤ sizeLine
      · rw [if_pos hc] at e'
        cases e'
        exact ⟨⟨i.toArray⟩, n, rx, ry, hc.1, hc.2.1, by rw [str_len]; exact hc.2.2, k _ fun _ _ _ => by simp [rep]⟩
      · rw [if_neg hc] at e'
        cases e'
    | _ => cases e
  | _ => cases e⟩

/-! ### == and != -/
mutual
def toP : D → Option PyData
  | .non => some .none
  | .bl b => some (.bool b)
  | .int i => some (.int i)
  | .str s => some (.str ⟨s.toArray⟩)
  | .lst l => (toPs l).map .list
  | .fz l => (toPs l).map .list
  | .tup l => (toPs l).map .tuple
  | .ref _ => none
  | .exc _ _ => none
  | .cls _ => none
def toPs : List D → Option (List PyData)
  | [] => some []
  | d :: l => match toP d, toPs l with
    | some p, some q => some (p :: q)
    | _, _ => none
end
mutual
theorem rep_dp {io : List Addr} {F H : Hp} (ex : Ex F H) : ∀ (d : D) (v : V) (p : PyData), toP d = some p → rep K io F d v → Dp K H v p
  | .non, v, p, e, r => by
    cases e
    rw [show v = .non from r]
    exact .non
  | .bl b, v, p, e, r => by
    cases e
    rw [show v = .bl b from r]
    exact .bl b
  | .int i, v, p, e, r => by
    cases e
    rw [show v = .int i from r]
    exact .int i
  | .str x, v, p, e, r => by
    cases e
    rw [show v = .str ⟨x.toArray⟩ from r]
    exact .str _
  | .lst l, v, p, e, r => by
    obtain ⟨a, xs, rfl, h, q⟩ := r
    unfold toP at e
    obtain ⟨ps, e1, rfl⟩ := Option.map_eq_some_iff.mp e
    exact .lst (.of (ex a _ h)) (reps_dp ex l xs ps e1 q)
  | .fz l, v, p, e, r => by
    obtain ⟨a, xs, rfl, h, q⟩ := r
    unfold toP at e
    obtain ⟨ps, e1, rfl⟩ := Option.map_eq_some_iff.mp e
    exact .lst (ex.l h) (reps_dp ex l xs ps e1 q)
  | .tup l, v, p, e, r => by
    obtain ⟨a, xs, rfl, h, q⟩ := r
    unfold toP at e
    obtain ⟨ps, e1, rfl⟩ := Option.map_eq_some_iff.mp e
    exact .tup (ex.t h) (reps_dp ex l xs ps e1 q)
  | .ref i, v, p, e, r => by cases e
  | .exc _ _, v, p, e, r => by cases e
  | .cls _, v, p, e, r => by cases e
theorem reps_dp {io : List Addr} {F H : Hp} (ex : Ex F H) : ∀ (l : List D) (xs : List V) (ps : List PyData), toPs l = some ps → reps K io F l xs → DpAll K H xs ps
  | [], xs, ps, e, r => by
    cases e
    rw [show xs = [] from r]
    exact .nil
  | d :: l, xs, ps, e, r => by
    obtain ⟨x, t, rfl, r1, r2⟩ := r
    unfold toPs at e
    split at e
    · rename_i p q h1 h2
      cases e
      exact .cons (rep_dp ex d x p h1 r1) (reps_dp ex l t q h2 r2)
    · cases e
end
def eqd (d e : D) : Option Bool := match toP d, toP e with
  | some p, some q => if SeqAt.shaped p = true ∧ SeqAt.shaped q = true then some (PyData.eqv p q) else none
  | _, _ => none
def eqD (d e : D) : Option D := (eqd d e).map .bl
def neD (d e : D) : Option D := (eqd d e).map fun b => .bl (!b)
theorem eqd_some {d e : D} {b : Bool} (h : eqd d e = some b) : ∃ p q, toP d = some p ∧ toP e = some q ∧ SeqAt.shaped p = true ∧ SeqAt.shaped q = true ∧ b = PyData.eqv p q := by
  unfold eqd at h
  split at h
  · rename_i p q h1 h2
    split at h
    · rename_i hc
      cases h
      exact ⟨p, q, h1, h2, hc.1, hc.2, rfl⟩
    · cases h
  · cases h
theorem o_eqD (hu : X.A.units + 64 < cLine) : OpOk X (compareOp .Eq) (rEqD X.K) eqD := ⟨op_eqD hu, opd_val fun io F H x y dx dy d Q ex rx ry e k => by
  obtain ⟨b, e1, rfl⟩ := Option.map_eq_some_iff.mp e
  obtain ⟨p, q, h1, h2, h3, h4, rfl⟩ := eqd_some e1
  exact ⟨p, q, rep_dp ex _ _ _ h1 rx, rep_dp ex _ _ _ h2 ry, h3, h4, k _ fun _ _ _ => rfl⟩⟩
theorem o_neD (hu : X.A.units + 64 < cLine) : OpOk X (compareOp .NotEq) (rNeD X.K) neD := ⟨op_neD hu, opd_val fun io F H x y dx dy d Q ex rx ry e k => by
  obtain ⟨b, e1, rfl⟩ := Option.map_eq_some_iff.mp e
  obtain ⟨p, q, h1, h2, h3, h4, rfl⟩ := eqd_some e1
  exact ⟨p, q, rep_dp ex _ _ _ h1 rx, rep_dp ex _ _ _ h2 ry, h3, h4, k _ fun _ _ _ => rfl⟩⟩

/-! ### is None -/
def isNon : D → Bool
  | .non => true
  | _ => false
def isN (d e : D) : Option D := match e with
  | .non => some (.bl (isNon d))
  | _ => none
def notN (d e : D) : Option D := match e with
  | .non => some (.bl (!isNon d))
  | _ => none
theorem rep_non {io : List Addr} {F : Hp} {d : D} {x : V} (r : rep K io F d x) : decide (x = .non) = isNon d := by
  cases d with
  | non => cases (show x = .non from r); rfl
  | bl b => cases (show x = .bl b from r); rfl
  | int b => cases (show x = .int b from r); rfl
  | str b => cases (show x = .str _ from r); rfl
  | lst b => obtain ⟨a, xs, rfl, _⟩ := r; rfl
  | tup b => obtain ⟨a, xs, rfl, _⟩ := r; rfl
  | fz b => obtain ⟨a, xs, rfl, _⟩ := r; rfl
  | ref b => obtain ⟨a, rfl, _⟩ := r; rfl
  | exc c b => obtain ⟨a, C, dd, w, rfl, _⟩ := r; rfl
  | cls c => obtain ⟨C, rfl, _⟩ := r; rfl
abbrev r_isN : R2 := fun x y H Q => y = .non ∧ Q (.bl (decide (x = .non))) H
theorem o_isN : OpOk X (compareOp .Is) r_isN isN := ⟨op_isN, opd_val fun io F H x y dx dy d Q ex rx ry e k => by
  cases dy with
  | non =>
    cases e
    exact ⟨ry, by rw [rep_non rx]; exact k _ fun _ _ _ => rfl⟩
  | _ => cases e⟩
abbrev r_notN : R2 := fun x y H Q => y = .non ∧ Q (.bl (!decide (x = .non))) H
theorem o_notN : OpOk X (compareOp .IsNot) r_notN notN := ⟨op_notN, opd_val fun io F H x y dx dy d Q ex rx ry e k => by
  cases dy with
  | non =>
    cases e
    exact ⟨ry, by rw [rep_non rx]; exact k _ fun _ _ _ => rfl⟩
  | _ => cases e⟩
end
end Z
/-! Z4: tests, displays, calls, subscripts -/
namespace Z
open PySem L2
open Classical
section
variable {X : Cx} {W : WX} {pos : Pos} {K : PySem.W.Frag} {mg : Str → Option Value} {a b c e : Expr} {es : List Expr} {ta tb tc te : TE} {ma mb mc me : M D} {tA tB' : TT} {mA mB : M Bool} {tl : TA} {ml : M (List D)}

/-! ### tests -/
structure DW (X : Cx) (W : WX) (e : Expr) (t : TT) (m : M Bool) : Prop where
  p : PW X e t
  s : SemT X.K X.mg W t m
theorem dt_val (h : DE X W e te me) (he : ∀ whole, isTrue e X.env whole = (do let v ← whole; standAt e.pos; holding [v] (truthy v)) := by intro _; rfl) : DT X W e (tB te) (mTst me) := ⟨pt_val h.p he, sem_tst h.s⟩
def mNot (m : M Bool) : M Bool := bnd m fun b => ret (!b)
theorem dt_not (h : DT X W a tA mA) : DT X W (.UnaryOp .Not a pos) (tNot tA) (mNot mA) := ⟨pt_not h.p, by
  intro en io F H σ s o Q R e hx hq
  refine h.s.step R e hx fun d s1 io1 F1 H1 l1 R1 e1 hx1 => ?_
  cases e1
  exact hq _ _ rfl io1 F1 H1 l1 R1⟩
def mAnd (m n : M Bool) : M Bool := bnd m fun b => if b = true then n else ret false
def mOr (m n : M Bool) : M Bool := bnd m fun b => if b = true then ret true else n
theorem sem_and (ha : SemT K mg W tA mA) (hb : SemT K mg W tB' mB) : SemT K mg W (tAnd tA tB') (mAnd mA mB) := by
  intro en io F H σ s o Q R e hx hq
  refine ha.step R e hx fun d s1 io1 F1 H1 l1 R1 e1 hx1 => ?_
  cases d with
  | true =>
    rw [if_pos rfl]
    exact hb en io1 F1 H1 σ s1 o Q R1 e1 hx1 fun d s2 e2 io2 F2 H2 l2 R2 => hq d s2 e2 io2 F2 H2 (l1.trans l2) R2
  | false =>
    rw [if_neg Bool.false_ne_true]
    cases e1
    exact hq _ _ rfl io1 F1 H1 l1 R1
theorem sem_or (ha : SemT K mg W tA mA) (hb : SemT K mg W tB' mB) : SemT K mg W (tOr tA tB') (mOr mA mB) := by
  intro en io F H σ s o Q R e hx hq
  refine ha.step R e hx fun d s1 io1 F1 H1 l1 R1 e1 hx1 => ?_
  cases d with
  | false =>
    rw [if_neg Bool.false_ne_true]
    exact hb en io1 F1 H1 σ s1 o Q R1 e1 hx1 fun d s2 e2 io2 F2 H2 l2 R2 => hq d s2 e2 io2 F2 H2 (l1.trans l2) R2
  | true =>
    rw [if_pos rfl]
    cases e1
    exact hq _ _ rfl io1 F1 H1 l1 R1
theorem dw_and1 (h : DT X W a tA mA) : DW X W (.BoolOp .And [a] pos) tA mA := ⟨pw_and1 h.p, h.s⟩
theorem dw_or1 (h : DT X W a tA mA) : DW X W (.BoolOp .Or [a] pos) tA mA := ⟨pw_or1 h.p, h.s⟩
theorem dw_and (h : DT X W a tA mA) (g : DW X W (.BoolOp .And (b :: es) pos) tB' mB) : DW X W (.BoolOp .And (a :: b :: es) pos) (tAnd tA tB') (mAnd mA mB) := ⟨pw_and h.p g.p, sem_and h.s g.s⟩
theorem dw_or (h : DT X W a tA mA) (g : DW X W (.BoolOp .Or (b :: es) pos) tB' mB) : DW X W (.BoolOp .Or (a :: b :: es) pos) (tOr tA tB') (mOr mA mB) := ⟨pw_or h.p g.p, sem_or h.s g.s⟩
theorem dt_w (h : DW X W e tA mA) : DT X W e tA mA := ⟨h.p.pt, h.s⟩
/-- .. as values -/
def mAndV (m n : M D) : M D := bnd m fun d => match d with
  | .bl true => n
  | .bl false => ret (.bl false)
  | _ => fun _ => none
def mOrV (m n : M D) : M D := bnd m fun d => match d with
  | .bl true => ret (.bl true)
  | .bl false => n
  | _ => fun _ => none
theorem de_one {op} (h : DE X W a ta ma) : DE X W (.BoolOp op [a] pos) ta ma := ⟨pe_one h.p, h.s⟩
theorem de_and (h : DE X W a ta ma) (g : DE X W (.BoolOp .And (b :: es) pos) tb mb) : DE X W (.BoolOp .And (a :: b :: es) pos) (tAndV ta tb) (mAndV ma mb) := ⟨pe_and h.p g.p, by
  intro en io F H σ s o Q R e hx hq
  refine h.s.step R e hx fun d s1 v io1 F1 H1 l1 R1 r1 e1 hx1 => ?_
  cases d with
  | bl k =>
    refine ⟨k, r1, ?_⟩
    cases k with
    | true =>
      rw [if_pos rfl]
      exact g.s en io1 F1 H1 σ s1 o Q R1 e1 hx1 fun d s2 e2 v io2 F2 H2 l2 R2 => hq d s2 e2 v io2 F2 H2 (l1.trans l2) R2
    | false =>
      rw [if_neg Bool.false_ne_true]
      cases e1
      exact hq _ _ rfl _ io1 F1 H1 l1 R1 rfl
  | _ => cases e1⟩
theorem de_or (h : DE X W a ta ma) (g : DE X W (.BoolOp .Or (b :: es) pos) tb mb) : DE X W (.BoolOp .Or (a :: b :: es) pos) (tOrV ta tb) (mOrV ma mb) := ⟨pe_or h.p g.p, by
  intro en io F H σ s o Q R e hx hq
  refine h.s.step R e hx fun d s1 v io1 F1 H1 l1 R1 r1 e1 hx1 => ?_
  cases d with
  | bl k =>
    refine ⟨k, r1, ?_⟩
    cases k with
    | false =>
      rw [if_neg Bool.false_ne_true]
      exact g.s en io1 F1 H1 σ s1 o Q R1 e1 hx1 fun d s2 e2 v io2 F2 H2 l2 R2 => hq d s2 e2 v io2 F2 H2 (l1.trans l2) R2
    | true =>
      rw [if_pos rfl]
      cases e1
      exact hq _ _ rfl _ io1 F1 H1 l1 R1 rfl
  | _ => cases e1⟩
def mNotV (m : M D) : M D := bnd m fun d => match d with
  | .bl k => ret (.bl (!k))
  | _ => fun _ => none
theorem de_not (h : DE X W a ta ma) : DE X W (.UnaryOp .Not a pos) (tNotV ta) (mNotV ma) := ⟨pe_not h.p, by
  intro en io F H σ s o Q R e hx hq
  refine h.s.step R e hx fun d s1 v io1 F1 H1 l1 R1 r1 e1 hx1 => ?_
  cases d with
  | bl k =>
    cases e1
    exact ⟨k, r1, hq _ _ rfl _ io1 F1 H1 l1 R1 rfl⟩
  | _ => cases e1⟩
def mIf {α : Type} (c : M Bool) (m n : M α) : M α := bnd c fun b => if b = true then m else n
theorem de_if (h : DT X W c tA mA) (ha : DE X W a ta ma) (hb : DE X W b tb mb) : DE X W (.IfExp c a b pos) (tIf tA ta tb) (mIf mA ma mb) := ⟨pe_ifExp h.p ha.p hb.p, by
  intro en io F H σ s o Q R e hx hq
  refine h.s.step R e hx fun d s1 io1 F1 H1 l1 R1 e1 hx1 => ?_
  cases d with
  | true =>
    rw [if_pos rfl]
    exact ha.s en io1 F1 H1 σ s1 o Q R1 e1 hx1 fun d s2 e2 v io2 F2 H2 l2 R2 => hq d s2 e2 v io2 F2 H2 (l1.trans l2) R2
  | false =>
    rw [if_neg Bool.false_ne_true]
    exact hb.s en io1 F1 H1 σ s1 o Q R1 e1 hx1 fun d s2 e2 v io2 F2 H2 l2 R2 => hq d s2 e2 v io2 F2 H2 (l1.trans l2) R2⟩
def mUn (f : D → Option D) (m : M D) : M D := bnd m fun d => lft (f d)
def negI : D → Option D
  | .int i => some (.int (-i))
  | _ => none
theorem de_neg (ha : DE X W a ta ma) : DE X W (.UnaryOp .USub a pos) (tUn (rU fun i => .int (-i)) ta) (mUn negI ma) := ⟨pe_un un_neg ha.p, by
  intro en io F H σ s o Q R e hx hq
  refine ha.s.step R e hx fun d s1 v io1 F1 H1 l1 R1 r1 e1 hx1 => ?_
  obtain ⟨z, e2, e3⟩ := lft_some e1
  cases d with
  | int i =>
    cases e2
    exact ⟨i, r1, hq _ _ e3 _ io1 F1 H1 l1 R1 rfl⟩
  | _ => cases e2⟩

/-! ### argument lists, displays -/
def mNil : M (List D) := ret []
def mCons (m : M D) (n : M (List D)) : M (List D) := bnd m fun d => bnd n fun l => ret (d :: l)
theorem da_nil : DA X W [] tNil mNil := ⟨pa_nil, by
  intro en io F H σ s o Q R e hx hq
  cases e
  exact hq _ _ rfl [] io F H (Le.refl _ _) R rfl⟩
theorem da_cons (h : DE X W e te me) (g : DA X W es tl ml) (hs : starEach (e :: es) X.env = (false, eval e X.env) :: starEach es X.env := by rfl) : DA X W (e :: es) (tCons te tl) (mCons me ml) := ⟨pa_cons h.p g.p hs, by
  intro en io F H σ s o Q R e hx hq
  refine h.s.step R e hx fun d s1 v io1 F1 H1 l1 R1 r1 e1 hx1 => ?_
  refine g.s.step R1 e1 hx1 fun d2 s2 v2 io2 F2 H2 l2 R2 r2 e2 hx2 => ?_
  cases e2
  exact hq _ _ rfl _ io2 F2 H2 (l1.trans l2) R2 ⟨v, v2, rfl, rep_le l2 _ _ r1, r2⟩⟩
def tupD (l : List D) : Option D := if l.length ≤ sizeLine then some (.tup l) else none
def lstD (l : List D) : Option D := if l.length ≤ sizeLine then some (.lst l) else none
def mTup (m : M (List D)) : M D := bnd m fun l => lft (tupD l)
def mLst (m : M (List D)) : M D := bnd m fun l => lft (lstD l)
theorem de_tup {x1} (h : DA X W es tl ml) : DE X W (.Tuple es x1 pos) (tTup tl) (mTup ml) := ⟨pe_tup h.p, by
  intro en io F H σ s o Q R e hx hq
  refine h.s.step R e hx fun d s1 v io1 F1 H1 l1 R1 r1 e1 hx1 => ?_
  obtain ⟨z, e2, e3⟩ := lft_some e1
  unfold tupD at e2
  by_cases hc : d.length ≤ sizeLine
  · rw [if_pos hc] at e2
    cases e2
    refine ⟨by rw [reps_len r1]; exact hc, fun p hp => ?_⟩
    obtain ⟨R2, l2⟩ := R1.new hp (.tup v)
    exact hq _ _ e3 _ io1 _ _ (l1.trans l2) R2 ⟨p, v, rfl, .inl (.inl upd_same), reps_le l2 _ _ r1⟩
  · rw [if_neg hc] at e2
    cases e2⟩
theorem de_lst (h : DA X W es tl ml) : DE X W (.List es pos) (tLst tl) (mLst ml) := ⟨pe_lst h.p, by
  intro en io F H σ s o Q R e hx hq
  refine h.s.step R e hx fun d s1 v io1 F1 H1 l1 R1 r1 e1 hx1 => ?_
  obtain ⟨z, e2, e3⟩ := lft_some e1
  unfold lstD at e2
  by_cases hc : d.length ≤ sizeLine
  · rw [if_pos hc] at e2
    cases e2
    refine ⟨by rw [reps_len r1]; exact hc, fun p hp => ?_⟩
    obtain ⟨R2, l2⟩ := R1.new hp (.lst v)
    exact hq _ _ e3 _ io1 _ _ (l1.trans l2) R2 ⟨p, v, rfl, upd_same, reps_le l2 _ _ r1⟩
  · rw [if_neg hc] at e2
    cases e2⟩
/-- a list that is a new object of the own heap -/
def mLstH (m : M (List D)) : M D := bnd m fun l => fun s => if l.length ≤ sizeLine then some (.ok (.ref s.hp.length) { s with hp := s.hp ++ [.lst l] }) else none
theorem de_lstH (h : DA X W es tl ml) : DE X W (.List es pos) (tLst tl) (mLstH ml) := ⟨pe_lst h.p, by
  intro en io F H σ s o Q R e hx hq
  refine h.s.step R e hx fun d s1 v io1 F1 H1 l1 R1 r1 e1 hx1 => ?_
  by_cases hc : d.length ≤ sizeLine
  · have e2 : some (O.ok (D.ref s1.hp.length) { s1 with hp := s1.hp ++ [.lst d] }) = some o := by rw [← e1]; exact (if_pos hc).symm
    cases e2
    refine ⟨by rw [reps_len r1]; exact hc, fun p hp => ?_⟩
    obtain ⟨R2, l2, r2⟩ := R1.hnew (ho := .lst v) (o := .lst d) hp ⟨R1.h.ex.none_of hp, v, upd_same, reps_le ⟨fun i a e => by rw [List.getElem?_append_left (List.getElem?_eq_some_iff.mp e).1]; exact e, Ex.refl _⟩ _ _ r1⟩
    exact hq _ _ rfl _ _ _ _ (l1.trans l2) R2 r2
  · have e2 : none = some o := by rw [← e1]; exact (if_neg hc).symm
    cases e2⟩

/-! ### calls of the text's own defs -/
structure Stp (K : PySem.W.Frag) (io : List Addr) (F H : Hp) (io' : List Addr) (F' H' : Hp) (hp' : List AO) : Prop where
  h : HRel K io' F' H' hp'
  l : Le io F io' F'
  hF : ∀ q, H q ≠ none → F' q = F q
  fr : ∀ b o, H b = some o → b ∉ io → H' b = some o
  lv : ∀ b, H b ≠ none → H' b ≠ none
  nw : ∀ (i : Nat) a, io'[i]? = some a → io.length ≤ i → H a = none
theorem Rel.stp {en : Ent} {io io' : List Addr} {F F' H H' : Hp} {σ : St} {s : A} {hp' : List AO} (R : Rel K en io F H σ s) (x : Stp K io F H io' F' H' hp') : Rel K en io' F' H' σ { s with hp := hp' } := R.after x.h x.l x.hF x.fr x.lv x.nw
def FEnd (K : PySem.W.Frag) (mg : Str → Option Value) (io : List Addr) (F H : Hp) (Q : VK) (E : XK) : FR → Prop
  | .ok d hp' => ∀ v io' F' H', Stp K io F H io' F' H' hp' → rep K io' F' d v → Q v H'
  | .ex e hp' => ∀ cls dd io' F' H', Stp K io F H io' F' H' hp' → XRep K mg io' F' H' e cls dd → E cls dd H'
/-- called with such data, a def does what n says -/
def spD (K : PySem.W.Frag) (mg : Str → Option Value) (np : Nat) (n : Fn) : Sp := fun vs H Q E => ∃ (io : List Addr) (F : Hp) (ds : List D) (hp : List AO) (r : FR),
  HRel K io F H hp ∧ reps K io F ds vs ∧ ds.length = np ∧ n ds hp = some r ∧ FEnd K mg io F H Q E r
theorem spD_imp {np : Nat} {n n' : Fn} (h : ∀ ds hp r, ds.length = np → n' ds hp = some r → n ds hp = some r) : ∀ vs H Q E, spD K mg np n' vs H Q E → spD K mg np n vs H Q E :=
  fun vs H Q E ⟨io, F, ds, hp, r, h1, h2, h3, h4, h5⟩ => ⟨io, F, ds, hp, r, h1, h2, h3, h ds hp r h3 h4, h5⟩
def ofFR (f : Option FR) (s : A) : Option (O D) := match f with
  | some (.ok d hp') => some (.ok d { s with hp := hp' })
  | some (.ex e hp') => some (.ex e { s with hp := hp' })
  | none => none
/-- a call: the arity np, the def's function -/
def mCall (np : Nat) (n : Fn) (m : M (List D)) : M D := bnd m fun ds s => if ds.length = np then ofFR (n ds s.hp) s else none
theorem sem_call {np : Nat} {n : Fn} {en : Ent} {io : List Addr} {F H : Hp} {σ : St} {s : A} {o : O D} {Q : VK} {ds : List D} {vs : List V} (R : Rel K en io F H σ s) (r : reps K io F ds vs) (hx : PostX K mg W en io F o)
    (e : (if ds.length = np then ofFR (n ds s.hp) s else none) = some o)
    (hq : ∀ d s', o = .ok d s' → ∀ v io' F' H', Le io F io' F' → Rel K en io' F' H' σ s' → rep K io' F' d v → Q v H') : spD K mg np n vs H Q (fun c d H => W c d σ H) := by
  by_cases hl : ds.length = np
  · rw [if_pos hl] at e
    unfold ofFR at e
    split at e
    · rename_i d hp' h1
      cases e
      refine ⟨io, F, ds, s.hp, _, R.h, r, hl, h1, fun v io' F' H' x rv => ?_⟩
      exact hq _ _ rfl v io' F' H' x.l (R.stp x) rv
    · rename_i d hp' h1
      cases e
      refine ⟨io, F, ds, s.hp, _, R.h, r, hl, h1, fun cls dd io' F' H' x rv => ?_⟩
      exact hx cls dd io' F' H' σ x.l (R.stp x) rv
    · cases e
  · rw [if_neg hl] at e
    cases e
/-- room; from 30 calls on: no repr under way -/
structure RoomG (k : Nat) (A : Around) : Prop where
  r : Room k A
  g : 30 ≤ k → A.guards = some []
theorem RoomG.mono {j k : Nat} {A : Around} (r : RoomG k A) (h : j ≤ k) : RoomG j A := ⟨r.r.mono h, fun q => r.g (Nat.le_trans q h)⟩
/-- below 30 -/
theorem RoomG.of {k : Nat} {A : Around} (r : Room k A) (h : k < 30) : RoomG k A := ⟨r, fun q => absurd h (Nat.not_lt.mpr q)⟩
theorem RoomG.units {k : Nat} {A : Around} (r : RoomG k A) : A.units + 64 < cLine := r.r.units
/-- a def keeps its promise wherever there is room and no repr is under way -/
structure FnG (P : Program) (w : World) (K : PySem.W.Frag) (mg : Str → Option Value) (base : Heap) (k : Nat) (f : Addr) (fd : FuncData) (ps : List Str) (sp : Sp) : Prop where
  len : ∀ vs H Q E, sp vs H Q E → vs.length = ps.length
  run : ∀ (A : Around) (outer : List Env) (s : Shared) (H : Hp) (args : Args) (us : List Value) (vs : List V) (Q : VK) (E : XK), RoomG k A → Env0 P w K mg base A outer s H → BindsTo s fd args (ps.zip us) → Vals vs us → sp vs H Q E →
    codeAny (model P w) A (.call (.ref f) args) (CR (L2.CX P w) outer P w H s Q E) s
theorem FnG.mono {P : Program} {w : World} {K : PySem.W.Frag} {mg : Str → Option Value} {base : Heap} {j k : Nat} {f : Addr} {fd : FuncData} {ps : List Str} {sp : Sp} (F : FnG P w K mg base j f fd ps sp) (h : j ≤ k) : FnG P w K mg base k f fd ps sp :=
  ⟨F.len, fun A outer s H args us vs Q E hr => F.run A outer s H args us vs Q E (hr.mono h)⟩
theorem FnG.imp {P : Program} {w : World} {K : PySem.W.Frag} {mg : Str → Option Value} {base : Heap} {k : Nat} {f : Addr} {fd : FuncData} {ps : List Str} {sp sp' : Sp} (F : FnG P w K mg base k f fd ps sp) (h : ∀ vs H Q E, sp' vs H Q E → sp vs H Q E) : FnG P w K mg base k f fd ps sp' :=
  ⟨fun vs H Q E q => F.len vs H Q E (h _ _ _ _ q), fun A outer s H args us vs Q E hr he hb hv hs => F.run A outer s H args us vs Q E hr he hb hv (h _ _ _ _ hs)⟩
theorem run_fnG {k : Nat} {f : Addr} {fd : FuncData} {ps : List Str} {sp : Sp} {pins : List (Addr × Obj)} {σ : St} {H : Hp} {s : Shared} {Q : VK} {E : XK} {args : Args} {us : List Value} {vs : List V} (F : FnG X.prog X.w X.K X.mg X.base k f fd ps sp) (hr : RoomG k X.A) (hb : (us.length = ps.length) → BindsTo s fd args (ps.zip us)) (hx : PassesAt (L2.CX X.prog X.w) X σ E)
    (I : Inv X pins σ H s) (r : Vals vs us) (h : sp vs H Q E) : wpAny (model X.prog X.w) X.A (call (.ref f) args.pos args.kw) (EP X pins σ Q) X.xe s := by
  have hl : us.length = ps.length := by rw [← r.length]; exact F.len _ _ _ _ h
  refine wpAny_call (codeAny_mono (F.run X.A X.stack s H args us vs Q E hr I.env0 (hb hl) r h) fun r s' hq => ?_)
  cases r with
  | error e => exact hx pins H s e s' I hq
  | ok fl =>
    cases fl with
    | ret u => exact I.after hq
    | next => exact False.elim hq
    | brk => exact False.elim hq
    | cont => exact False.elim hq
theorem de_call {k np : Nat} {f : Addr} {fd : FuncData} {ps : List Str} {n : Fn} {x : Str} {p : Pos} (Fk : FnG X.prog X.w X.K X.mg X.base k f fd ps (spD X.K X.mg np n)) (hr : RoomG k X.A) (hg : Gl X x) (hm : X.mg x = some (.ref f)) (hk : PySem.W.keepIn X.K (.ref f) = true)
    (hb : Binds X.K fd ps []) (tk : Takes X W) (ha : DA X W (e :: es) tl ml) (hdb : (x == ("__debug__" : Str)) = false := by decide) (he : starEach (e :: es) X.env = (false, eval e X.env) :: starEach es X.env := by rfl) (hpl : (backTo pos (starEach es X.env)).any (·.1) = false := by rfl) :
    DE X W (.Call (.Name x p) (e :: es) [] pos) (tCallSD (spD X.K X.mg np n) [] (fun σ c d H => W c d σ H) tl) (mCall np n ml) := ⟨⟨fun pins s σ H Q I h => by
  refine wpAny_Call_Name_kw (ld_glob I hg hm ?_ hdb)
  refine PySem.W.callWith_K (h₀ := X.base) I.ok.mod.kin hk (thn (ha.p.run pos pins s σ H _ I h) fun us s1 ⟨vs, H1, I1, r, q⟩ => ⟨I1.kIn, ?_⟩) he hpl
  have q' : spD X.K X.mg np n (vs ++ []) H1 Q (fun c d H => W c d σ H) := q
  rw [List.append_nil] at q'
  exact run_fnG (args := ⟨us, []⟩) Fk hr (fun hl => by have := hb s1 us I1.kIn (by rw [List.append_nil]; exact hl); rwa [List.append_nil] at this) (passAt tk σ) I1 r q'⟩, by
  intro en io F H σ s o Q R e hx hq
  refine ha.s.step R e hx fun d s1 v io1 F1 H1 l1 R1 r1 e1 hx1 => ?_
  show spD _ _ _ _ (v ++ []) H1 Q _
  rw [List.append_nil]
  exact sem_call R1 r1 hx1 e1 fun d2 s2 e2 w io2 F2 H2 l2 R2 r2 => hq d2 s2 e2 w io2 F2 H2 (l1.trans l2) R2 r2⟩

/-! ### calls of builtins by values -/
def mFn (f : List D → Option D) (m : M (List D)) : M D := bnd m fun l => lft (f l)
def CallD (K : PySem.W.Frag) (r : List V → Hp → VK → Prop) (g : List D → Option D) : Prop := ∀ (en : Ent) (io : List Addr) (F H : Hp) (σ : St) (s : A) (vs : List V) (ds : List D) (d : D) (Q : VK), Rel K en io F H σ s → reps K io F ds vs → g ds = some d →
  (∀ v io' F' H', Le io F io' F' → Rel K en io' F' H' σ s → rep K io' F' d v → Q v H') → r vs H Q
structure CallOk (X : Cx) (f : Value) (r : List V → Hp → VK → Prop) (g : List D → Option D) : Prop where
  p : CallR X f r
  s : CallD X.K r g
theorem sem_cb {r : List V → Hp → VK → Prop} {g : List D → Option D} (h : SemA K mg W tl ml) (hc : CallD K r g) : SemE K mg W (tCB r tl) (mFn g ml) := by
  intro en io F H σ s o Q R e hx hq
  refine h.step R e hx fun d s1 v io1 F1 H1 l1 R1 r1 e1 hx1 => ?_
  obtain ⟨z, e2, e3⟩ := lft_some e1
  exact hc en io1 F1 H1 σ s1 v d z Q R1 r1 e2 fun w io2 F2 H2 l2 R2 r2 => hq _ _ e3 w io2 F2 H2 (l1.trans l2) R2 r2
theorem de_callB {id : String} {r : List V → Hp → VK → Prop} {g : List D → Option D} {x : Str} {p : Pos} (hc : CallOk X (.builtin id) r g) (hg : Gl X x) (hm : X.mg x = none) (hv : bootBuiltins x = some (.builtin id)) (ha : DA X W (e :: es) tl ml) (hn : x ≠ "__name__" := by decide) (hdb : (x == ("__debug__" : Str)) = false := by decide)
    (hs : starEach (e :: es) X.env = (false, eval e X.env) :: starEach es X.env := by rfl) (hpl : (backTo pos (starEach es X.env)).any (·.1) = false := by rfl) : DE X W (.Call (.Name x p) (e :: es) [] pos) (tCB r tl) (mFn g ml) :=
  ⟨pe_callB hc.p hg hm hv ha.p hn hdb hs hpl, sem_cb ha.s hc.s⟩
theorem de_callTy {T : String} {r : List V → Hp → VK → Prop} {g : List D → Option D} {x : Str} {p : Pos} (hc : CallOk X (.type T) r g) (hg : Gl X x) (hm : X.mg x = none) (hv : bootBuiltins x = some (.type T)) (ha : DA X W (e :: es) tl ml) (hn : x ≠ "__name__" := by decide) (hdb : (x == ("__debug__" : Str)) = false := by decide)
    (hs : starEach (e :: es) X.env = (false, eval e X.env) :: starEach es X.env := by rfl) (hpl : (backTo pos (starEach es X.env)).any (·.1) = false := by rfl) : DE X W (.Call (.Name x p) (e :: es) [] pos) (tCB r tl) (mFn g ml) :=
  ⟨pe_callTy hc.p hg hm hv ha.p hn hdb hs hpl, sem_cb ha.s hc.s⟩
theorem calld_val {r : List V → Hp → VK → Prop} {g : List D → Option D} (h : ∀ (io : List Addr) (F H : Hp) vs ds d Q, Ex F H → reps K io F ds vs → g ds = some d → (∀ v, (∀ io' F', Le io F io' F' → rep K io' F' d v) → Q v H) → r vs H Q) : CallD K r g :=
  fun en io F H σ s vs ds d Q R rx e k => h io F H vs ds d Q R.h.ex rx e fun v hv => k v io F H (Le.refl _ _) R (hv _ _ (Le.refl _ _))
def lenF : List D → Option D
  | [.str x] => if x.length ≤ sizeLine then some (.int x.length) else none
  | [.lst l] => some (.int l.length)
  | [.fz l] => some (.int l.length)
  | [.tup l] => some (.int l.length)
  | _ => none
theorem reps1 {io : List Addr} {F : Hp} {d : D} {vs : List V} (r : reps K io F [d] vs) : ∃ x, vs = [x] ∧ rep K io F d x := by
  obtain ⟨x, t, rfl, h, h2⟩ := r
  rw [show t = [] from h2]
  exact ⟨x, rfl, h⟩
theorem reps2 {io : List Addr} {F : Hp} {d d' : D} {vs : List V} (r : reps K io F [d, d'] vs) : ∃ x y, vs = [x, y] ∧ rep K io F d x ∧ rep K io F d' y := by
  obtain ⟨x, t, rfl, h, h2⟩ := r
  obtain ⟨y, rfl, h3⟩ := reps1 h2
  exact ⟨x, y, rfl, h, h3⟩
abbrev r_len (K : PySem.W.Frag) : List V → Hp → VK → Prop := fun xs H Q => ∃ x n, xs = [x] ∧ LenV K x H n ∧ Q (.int n) H
theorem b_len : CallOk X (.builtin "len") (r_len X.K) lenF := ⟨call_len, calld_val fun io F H vs ds d Q ex rx e k => by
  match ds, e with
  | [.str x], e =>
    obtain ⟨v, rfl, r⟩ := reps1 rx
    have e' : (if x.length ≤ sizeLine then some (D.int x.length) else none) = some d := e
    by_cases hc : x.length ≤ sizeLine
    · rw [if_pos hc] at e'
      cases e'
      exact ⟨v, x.length, rfl, by rw [show v = _ from r]; exact ⟨by rw [str_len]; exact hc, (str_len x).symm⟩, k _ fun _ _ _ => rfl⟩
    · rw [if_neg hc] at e'
      cases e'
  | [.lst l], e =>
    obtain ⟨v, rfl, p, xs, rfl, h, r⟩ := reps1 rx
    cases e
    exact ⟨_, l.length, rfl, .inl ⟨xs, .of (ex p _ h), (reps_len r).symm⟩, k _ fun _ _ _ => rfl⟩
  | [.fz l], e =>
    obtain ⟨v, rfl, p, xs, rfl, h, r⟩ := reps1 rx
    cases e
    exact ⟨_, l.length, rfl, .inl ⟨xs, ex.l h, (reps_len r).symm⟩, k _ fun _ _ _ => rfl⟩
  | [.tup l], e =>
    obtain ⟨v, rfl, p, xs, rfl, h, r⟩ := reps1 rx
    cases e
    exact ⟨_, l.length, rfl, .inr ⟨xs, ex.t h, (reps_len r).symm⟩, k _ fun _ _ _ => rfl⟩⟩
def absF : List D → Option D
  | [.int i] => some (.int (if i < 0 then -i else i))
  | _ => none
def maxF : List D → Option D
  | [.int i, .int j] => some (.int (if j > i then j else i))
  | _ => none
def minF : List D → Option D
  | [.int i, .int j] => some (.int (if j < i then j else i))
  | _ => none
def intF : List D → Option D
  | [.int i] => some (.int i)
  | [.bl b] => some (.int (if b then 1 else 0))
  | _ => none
abbrev r_abs : List V → Hp → VK → Prop := fun xs H Q => ∃ i, xs = [.int i] ∧ Q (.int (if i < 0 then -i else i)) H
abbrev r_max : List V → Hp → VK → Prop := fun xs H Q => ∃ i j, xs = [.int i, .int j] ∧ Q (.int (if j > i then j else i)) H
abbrev r_min : List V → Hp → VK → Prop := fun xs H Q => ∃ i j, xs = [.int i, .int j] ∧ Q (.int (if j < i then j else i)) H
abbrev r_int : List V → Hp → VK → Prop := fun xs H Q => (∃ i, xs = [.int i] ∧ Q (.int i) H) ∨ ∃ k, xs = [.bl k] ∧ Q (.int (if k then 1 else 0)) H
theorem b_abs : CallOk X (.builtin "abs") r_abs absF := ⟨call_abs, calld_val fun io F H vs ds d Q ex rx e k => by
  match ds, e with
  | [.int i], e =>
    obtain ⟨v, rfl, r⟩ := reps1 rx
    cases e
    exact ⟨i, by rw [show v = _ from r], k _ fun _ _ _ => rfl⟩⟩
theorem b_max (hc : X.calm = true) : CallOk X (.builtin "max") r_max maxF := ⟨call_max2 hc, calld_val fun io F H vs ds d Q ex rx e k => by
  match ds, e with
  | [.int i, .int j], e =>
    obtain ⟨v, w, rfl, r, r'⟩ := reps2 rx
    cases e
    exact ⟨i, j, by rw [show v = _ from r, show w = _ from r'], k _ fun _ _ _ => rfl⟩⟩
theorem b_min (hc : X.calm = true) : CallOk X (.builtin "min") r_min minF := ⟨call_min2 hc, calld_val fun io F H vs ds d Q ex rx e k => by
  match ds, e with
  | [.int i, .int j], e =>
    obtain ⟨v, w, rfl, r, r'⟩ := reps2 rx
    cases e
    exact ⟨i, j, by rw [show v = _ from r, show w = _ from r'], k _ fun _ _ _ => rfl⟩⟩
theorem b_int : CallOk X (.type "int") r_int intF := ⟨call_int1, calld_val fun io F H vs ds d Q ex rx e k => by
  match ds, e with
  | [.int i], e =>
    obtain ⟨v, rfl, r⟩ := reps1 rx
    cases e
    exact .inl ⟨i, by rw [show v = _ from r], k _ fun _ _ _ => rfl⟩
  | [.bl i], e =>
    obtain ⟨v, rfl, r⟩ := reps1 rx
    cases e
    exact .inr ⟨i, by rw [show v = _ from r], k _ fun _ _ _ => rfl⟩⟩

/-! ### subscripts -/
structure IxOk (X : Cx) (r : R2) (g : D → D → Option D) : Prop where
  p : IxR X r
  s : OpD X.K r g
theorem de_ix {r : R2} {g : D → D → Option D} (ho : IxOk X r g) (ha : DE X W a ta ma) (hb : DE X W b tb mb) (hs : PlainIx b := by exact fun _ _ => rfl) : DE X W (.Subscript a b pos) (tOp r ta tb) (mBin g ma mb) := ⟨pe_ix ho.p ha.p hb.p hs, sem_bin ha.s hb.s ho.s⟩
def ixF : D → D → Option D
  | .lst l, .int i => atI l i
  | .fz l, .int i => atI l i
  | .tup l, .int i => atI l i
  | .str x, .int i => if x.length ≤ sizeLine then (atI x i).map fun c => .str [c] else none
  | _, _ => none
theorem atI_reps {io : List Addr} {F : Hp} {l : List D} {xs : List V} {i : Int} {d : D} (r : reps K io F l xs) (h : atI l i = some d) : ∃ x, atI xs i = some x ∧ rep K io F d x := by
  unfold atI at h ⊢
  rw [reps_len r]
  cases e : ixN l.length i with
  | none => rw [e] at h; cases h
  | some j =>
    rw [e] at h
    exact reps_get r h
theorem o_ix : IxOk X (rIx X.K) ixF := ⟨ix_seq, opd_val fun io F H x y dx dy d Q ex rx ry e k => by
  match dx, dy, e with
  | .lst l, .int i, e =>
    obtain ⟨p, xs, rfl, h, r⟩ := rx
    obtain ⟨v, h1, h2⟩ := atI_reps r e
    exact .inl ⟨p, xs, i, v, rfl, ry, .of (ex p _ h), h1, k _ fun _ _ l => rep_le l _ _ h2⟩
  | .fz l, .int i, e =>
    obtain ⟨p, xs, rfl, h, r⟩ := rx
    obtain ⟨v, h1, h2⟩ := atI_reps r e
    exact .inl ⟨p, xs, i, v, rfl, ry, ex.l h, h1, k _ fun _ _ l => rep_le l _ _ h2⟩
  | .tup l, .int i, e =>
    obtain ⟨p, xs, rfl, h, r⟩ := rx
    obtain ⟨v, h1, h2⟩ := atI_reps r e
    exact .inr (.inl ⟨p, xs, i, v, rfl, ry, ex.t h, h1, k _ fun _ _ l => rep_le l _ _ h2⟩)
  | .str z, .int i, e =>
    have e' : (if z.length ≤ sizeLine then (atI z i).map fun c => D.str [c] else none) = some d := e
    by_cases hc : z.length ≤ sizeLine
    · rw [if_pos hc] at e'
      obtain ⟨c, h1, rfl⟩ := Option.map_eq_some_iff.mp e'
      exact .inr (.inr ⟨⟨z.toArray⟩, i, c, rx, ry, by rw [str_len]; exact hc, h1, k _ fun _ _ _ => rfl⟩)
    · rw [if_neg hc] at e'
      cases e'⟩
/-- a slice -/
structure DO (X : Cx) (W : WX) (e : Option Expr) (t : TO) (m : M (Option Int)) : Prop where
  p : PO X e t
  s : ∀ (en : Ent) (io : List Addr) (F H : Hp) (σ : St) (s : A) (o : O (Option Int)) (Q : Option Int → Hp → Prop), Rel X.K en io F H σ s → m s = some o → PostX X.K X.mg W en io F o →
    (∀ d s', o = .ok d s' → ∀ io' F' H', Le io F io' F' → Rel X.K en io' F' H' σ s' → Q d H') → t σ H Q
def mNo : M (Option Int) := ret none
def mSo (m : M D) : M (Option Int) := bnd m fun d => match d with
  | .int i => ret (some i)
  | _ => fun _ => none
theorem do_none : DO X W none tNoPart mNo := ⟨po_none, by
  intro en io F H σ s o Q R e hx hq
  cases e
  exact hq _ _ rfl io F H (Le.refl _ _) R⟩
theorem do_some (h : DE X W e te me) : DO X W (some e) (tPart te) (mSo me) := ⟨po_some h.p, by
  intro en io F H σ s o Q R e hx hq
  refine h.s.step R e hx fun d s1 v io1 F1 H1 l1 R1 r1 e1 hx1 => ?_
  cases d with
  | int i =>
    cases e1
    exact ⟨i, r1, hq _ _ rfl io1 F1 H1 l1 R1⟩
  | _ => cases e1⟩
def cutL {α : Type} (l : List α) (lo hi : Option Int) : List α := (l.drop (HT.sIx l.length 0 lo)).take (HT.sIx l.length l.length hi - HT.sIx l.length 0 lo)
def slS : D → Option Int → Option Int → Option D
  | .str x, lo, hi => if x.length ≤ sizeLine then some (.str (cutL x lo hi)) else none
  | _, _, _ => none
def slL : D → Option Int → Option Int → Option D
  | .lst l, lo, hi => some (.lst (cutL l lo hi))
  | .fz l, lo, hi => some (.lst (cutL l lo hi))
  | _, _, _ => none
def SlD (K : PySem.W.Frag) (r : V → Option Int → Option Int → Hp → VK → Prop) (g : D → Option Int → Option Int → Option D) : Prop := ∀ (en : Ent) (io : List Addr) (F H : Hp) (σ : St) (s : A) (x : V) (dx d : D) (lo hi : Option Int) (Q : VK), Rel K en io F H σ s → rep K io F dx x → g dx lo hi = some d →
  (∀ v io' F' H', Le io F io' F' → Rel K en io' F' H' σ s → rep K io' F' d v → Q v H') → r x lo hi H Q
structure SlOk (X : Cx) (r : V → Option Int → Option Int → Hp → VK → Prop) (g : D → Option Int → Option Int → Option D) : Prop where
  p : SlR X r
  s : SlD X.K r g
theorem o_slS : SlOk X rSlS slS := ⟨sl_str, fun en io F H σ s x dx d lo hi Q R rx e k => by
  cases dx with
  | str z =>
    have e' : (if z.length ≤ sizeLine then some (D.str (cutL z lo hi)) else none) = some d := e
    by_cases hc : z.length ≤ sizeLine
    · rw [if_pos hc] at e'
      cases e'
      refine ⟨⟨z.toArray⟩, rx, by rw [str_len]; exact hc, k _ io F H (Le.refl _ _) R ?_⟩
      show V.str (cutS ⟨z.toArray⟩ lo hi) = V.str ⟨(cutL z lo hi).toArray⟩
      unfold cutS cutL
      rw [str_len]
    · rw [if_neg hc] at e'
      cases e'
  | _ => cases e⟩
theorem reps_cut {io : List Addr} {F : Hp} {l : List D} {xs : List V} (r : reps K io F l xs) (lo hi : Option Int) : reps K io F (cutL l lo hi) (cutV xs lo hi) := by
  unfold cutL cutV
  rw [reps_len r]
  exact reps_take _ (reps_drop _ r)
theorem o_slL : SlOk X (rSlL X.K) slL := ⟨sl_list, fun en io F H σ s x dx d lo hi Q R rx e k => by
  match dx, e with
  | .lst l, e =>
    cases e
    obtain ⟨p, xs, rfl, h, r⟩ := rx
    refine ⟨p, xs, rfl, .of (R.h.ex p _ h), fun q hq => ?_⟩
    obtain ⟨R2, l2⟩ := R.new hq (.lst (cutV xs lo hi))
    exact k _ io _ _ l2 R2 ⟨q, _, rfl, upd_same, reps_le l2 _ _ (reps_cut r lo hi)⟩
  | .fz l, e =>
    cases e
    obtain ⟨p, xs, rfl, h, r⟩ := rx
    refine ⟨p, xs, rfl, R.h.ex.l h, fun q hq => ?_⟩
    obtain ⟨R2, l2⟩ := R.new hq (.lst (cutV xs lo hi))
    exact k _ io _ _ l2 R2 ⟨q, _, rfl, upd_same, reps_le l2 _ _ (reps_cut r lo hi)⟩⟩
def mSl (g : D → Option Int → Option Int → Option D) (m : M D) (ml mh : M (Option Int)) : M D := bnd m fun d => bnd ml fun lo => bnd mh fun hi => lft (g d lo hi)
theorem DO.step {β : Type} {e : Option Expr} {t : TO} {m : M (Option Int)} {k : Option Int → M β} {en : Ent} {io : List Addr} {F H : Hp} {σ : St} {s : A} {o : O β} {Q : Option Int → Hp → Prop} (h : DO X W e t m) (R : Rel X.K en io F H σ s) (e' : bnd m k s = some o) (hx : PostX X.K X.mg W en io F o)
    (hk : ∀ d s1 io' F' H', Le io F io' F' → Rel X.K en io' F' H' σ s1 → k d s1 = some o → PostX X.K X.mg W en io' F' o → Q d H') : t σ H Q := by
  rcases bnd_some e' with ⟨a, s', e1, e2⟩ | ⟨x, s', e1, e2⟩
  · exact h.s en io F H σ s _ Q R e1 trivial fun d s2 e3 io' F' H' l R' => by
      cases e3
      exact hk a s' io' F' H' l R' e2 (hx.le _ _ _ l)
  · subst e2
    exact h.s en io F H σ s _ Q R e1 hx fun d s2 e3 => by cases e3
theorem de_slice {r : V → Option Int → Option Int → Hp → VK → Prop} {g : D → Option Int → Option Int → Option D} {lo hi : Option Expr} {th tl' : TO} {mh ml' : M (Option Int)} {p2 : Pos} (hr : SlOk X r g) (he : DE X W e te me) (hl : DO X W lo tl' ml') (hu : DO X W hi th mh) :
    DE X W (.Subscript e (.Slice lo hi none p2) pos) (tSl r te tl' th) (mSl g me ml' mh) := ⟨pe_slice hr.p he.p hl.p hu.p, by
  intro en io F H σ s o Q R e hx hq
  refine he.s.step R e hx fun d s1 v io1 F1 H1 l1 R1 r1 e1 hx1 => ?_
  refine hl.step R1 e1 hx1 fun lo s2 io2 F2 H2 l2 R2 e2 hx2 => ?_
  refine hu.step R2 e2 hx2 fun hi s3 io3 F3 H3 l3 R3 e3 hx3 => ?_
  obtain ⟨z, e4, e5⟩ := lft_some e3
  exact hr.s en io3 F3 H3 σ s3 v d z lo hi Q R3 (rep_le (l2.trans l3) _ _ r1) e4 fun w io4 F4 H4 l4 R4 r4 => hq _ _ e5 w io4 F4 H4 (((l1.trans l2).trans l3).trans l4) R4 r4⟩
/-- xs[::-1] of a list -/
def revL : D → Option D
  | .lst l => some (.lst l.reverse)
  | .fz l => some (.lst l.reverse)
  | _ => none
theorem de_revL {k : Nat} {p1 p2 p3 : Pos} (he : DE X W e te me) : DE X W (.Subscript e (.Slice none none (some (.UnaryOp .USub (.Constant (.int 1) k p1) p2)) p3) pos) (tRevL X.K te) (mUn revL me) := ⟨pe_revL he.p, by
  intro en io F H σ s o Q R e hx hq
  refine he.s.step R e hx fun d s1 v io1 F1 H1 l1 R1 r1 e1 hx1 => ?_
  obtain ⟨z, e2, e3⟩ := lft_some e1
  match d, e2 with
  | .lst l, e2 =>
    cases e2
    obtain ⟨p, xs, rfl, h, r⟩ := r1
    refine ⟨p, xs, rfl, .of (R1.h.ex p _ h), fun q hq' => ?_⟩
    obtain ⟨R2, l2⟩ := R1.new hq' (.lst xs.reverse)
    exact hq _ _ e3 _ io1 _ _ (l1.trans l2) R2 ⟨q, _, rfl, upd_same, reps_le l2 _ _ (reps_rev r)⟩
  | .fz l, e2 =>
    cases e2
    obtain ⟨p, xs, rfl, h, r⟩ := r1
    refine ⟨p, xs, rfl, R1.h.ex.l h, fun q hq' => ?_⟩
    obtain ⟨R2, l2⟩ := R1.new hq' (.lst xs.reverse)
    exact hq _ _ e3 _ io1 _ _ (l1.trans l2) R2 ⟨q, _, rfl, upd_same, reps_le l2 _ _ (reps_rev r)⟩⟩

/-! ### lists: +, *; in -/
def catL : D → D → Option D
  | .lst l, .lst l' => if l.length + l'.length ≤ sizeLine then some (.lst (l ++ l')) else none
  | _, _ => none
theorem o_catL : OpOk X (binaryOp .Add) rCat catL := ⟨op_cat, fun en io F H σ s x y dx dy d Q R rx ry e k => by
  match dx, dy, e with
  | .lst l, .lst l', e =>
    have e' : (if l.length + l'.length ≤ sizeLine then some (D.lst (l ++ l')) else none) = some d := e
    by_cases hc : l.length + l'.length ≤ sizeLine
    · rw [if_pos hc] at e'
      cases e'
      obtain ⟨p, xs, rfl, h, r⟩ := rx
      obtain ⟨q, ys, rfl, h', r'⟩ := ry
      refine ⟨p, q, xs, ys, rfl, rfl, R.h.ex p _ h, R.h.ex q _ h', by rw [reps_len r, reps_len r']; exact hc, fun z hz => ?_⟩
      obtain ⟨R2, l2⟩ := R.new hz (.lst (xs ++ ys))
      exact k _ io _ _ l2 R2 ⟨z, _, rfl, upd_same, reps_le l2 _ _ (reps_app r r')⟩
    · rw [if_neg hc] at e'
      cases e'⟩
theorem reps_rep {io : List Addr} {F : Hp} {l : List D} {xs : List V} (r : reps K io F l xs) : ∀ n : Nat, reps K io F (repL l n) (List.replicate n xs).flatten
  | 0 => rfl
  | n + 1 => by
    unfold repL
    rw [List.replicate_succ, List.replicate_succ, List.flatten_cons, List.flatten_cons]
    exact reps_app r (reps_rep r n)
def repF : D → D → Option D
  | .lst l, .int n => if -(2 ^ 62) ≤ n ∧ n < 2 ^ 62 ∧ l.length * n.toNat ≤ sizeLine then some (.lst (repL l n.toNat)) else none
  | _, _ => none
theorem o_repL : OpOk X (binaryOp .Mult) rRep repF := ⟨op_rep, fun en io F H σ s x y dx dy d Q R rx ry e k => by
  match dx, dy, e with
  | .lst l, .int n, e =>
    have e' : (if -(2 ^ 62) ≤ n ∧ n < 2 ^ 62 ∧ l.length * n.toNat ≤ sizeLine then some (D.lst (repL l n.toNat)) else none) = some d := e
    by_cases hc : -(2 ^ 62) ≤ n ∧ n < 2 ^ 62 ∧ l.length * n.toNat ≤ sizeLine
    · rw [if_pos hc] at e'
      cases e'
      obtain ⟨p, xs, rfl, h, r⟩ := rx
      refine ⟨p, n, xs, rfl, ry, R.h.ex p _ h, by omega, by omega, by rw [reps_len r]; exact hc.2.2, fun z hz => ?_⟩
      obtain ⟨R2, l2⟩ := R.new hz (.lst (List.replicate n.toNat xs).flatten)
      exact k _ io _ _ l2 R2 ⟨z, _, rfl, upd_same, reps_le l2 _ _ (reps_rep r n.toNat)⟩
    · rw [if_neg hc] at e'
      cases e'⟩
/-- one sign in a text -/
def inS : D → D → Option D
  | .str [c], .str z => some (.bl (decide (c ∈ z)))
  | _, _ => none
def notInS : D → D → Option D
  | .str [c], .str z => some (.bl (!decide (c ∈ z)))
  | _, _ => none
theorem o_inS : OpOk X (compareOp .In) rInS inS := ⟨op_inS, opd_val fun io F H x y dx dy d Q ex rx ry e k => by
  match dx, dy, e with
  | .str [c], .str z, e =>
    cases e
    exact ⟨c, ⟨z.toArray⟩, rx, ry, k _ fun _ _ _ => rfl⟩⟩
theorem o_notInS : OpOk X (compareOp .NotIn) rNotInS notInS := ⟨op_notInS, opd_val fun io F H x y dx dy d Q ex rx ry e k => by
  match dx, dy, e with
  | .str [c], .str z, e =>
    cases e
    exact ⟨c, ⟨z.toArray⟩, rx, ry, k _ fun _ _ _ => rfl⟩⟩
/-- a flat thing in a list or tuple of flat things -/
def flatD : D → Bool
  | .non | .bl _ | .int _ | .str _ => true
  | _ => false
def eqF : D → D → Bool
  | .non, .non => true
  | .bl a, .bl b => a == b
  | .int i, .int j => i == j
  | .str x, .str y => x == y
  | .bl a, .int j => (if a then 1 else 0) == j
  | .int i, .bl b => i == (if b then 1 else 0)
  | _, _ => false
theorem rep_flat {io : List Addr} {F : Hp} {d : D} {x : V} (h : flatD d = true) (r : rep K io F d x) : flatV x = true := by
  cases d with
  | non => cases (show x = _ from r); rfl
  | bl b => cases (show x = _ from r); rfl
  | int b => cases (show x = _ from r); rfl
  | str b => cases (show x = _ from r); rfl
  | _ => cases h
theorem strBeq (x y : List Nat) : ((⟨x.toArray⟩ : Str) == (⟨y.toArray⟩ : Str)) = (x == y) := by
  by_cases h : x = y
  · subst h
    rw [beq_self_eq_true, beq_self_eq_true]
  · rw [beq_eq_false_iff_ne.mpr h, beq_eq_false_iff_ne.mpr]
    intro z
    apply h
    have z1 : x.toArray = y.toArray := congrArg Str.cps z
    simpa using congrArg Array.toList z1
theorem rep_eqF {io : List Addr} {F : Hp} {d d' : D} {x y : V} (h : flatD d = true) (h' : flatD d' = true) (r : rep K io F d x) (r' : rep K io F d' y) : eqV x y = eqF d d' := by
  cases d with
  | non => cases (show x = _ from r); (cases d' <;> first | (cases (show y = _ from r'); rfl) | cases h')
  | bl b => cases (show x = _ from r); (cases d' <;> first | (cases (show y = _ from r'); rfl) | cases h')
  | int b => cases (show x = _ from r); (cases d' <;> first | (cases (show y = _ from r'); rfl) | cases h')
  | str b => cases (show x = _ from r); (cases d' <;> first | (cases (show y = _ from r'); first | exact strBeq _ _ | rfl) | cases h')
  | _ => cases h
theorem reps_flat {io : List Addr} {F : Hp} : ∀ {l : List D} {xs : List V}, l.all flatD = true → reps K io F l xs → xs.all flatV = true
  | [], xs, _, r => by
    rw [show xs = [] from r]
    rfl
  | d :: l, _, h, r => by
    obtain ⟨x, t, rfl, r1, r2⟩ := r
    rw [List.all_cons, Bool.and_eq_true] at h
    rw [List.all_cons, rep_flat h.1 r1, reps_flat h.2 r2]
    rfl
theorem reps_inV {io : List Addr} {F : Hp} {d : D} {x : V} (hd : flatD d = true) (rd : rep K io F d x) : ∀ {l : List D} {xs : List V}, l.all flatD = true → reps K io F l xs → inV x xs = l.any fun y => eqF y d
  | [], xs, _, r => by
    rw [show xs = [] from r]
    rfl
  | c :: l, _, h, r => by
    obtain ⟨y, t, rfl, r1, r2⟩ := r
    rw [List.all_cons, Bool.and_eq_true] at h
    unfold inV
    rw [List.any_cons, List.any_cons, rep_eqF h.1 hd r1 rd]
    have ih := reps_inV hd rd h.2 r2
    unfold inV at ih
    rw [ih]
def seqD : D → Option (List D)
  | .lst l | .tup l | .fz l => some l
  | _ => none
def inL (d e : D) : Option D := match seqD e with
  | some l => if flatD d = true ∧ l.all flatD = true then some (.bl (l.any fun y => eqF y d)) else none
  | none => none
def notInL (d e : D) : Option D := match seqD e with
  | some l => if flatD d = true ∧ l.all flatD = true then some (.bl (!l.any fun y => eqF y d)) else none
  | none => none
theorem seq_rep {io : List Addr} {F H : Hp} {e : D} {y : V} {l : List D} (ex : Ex F H) (h : seqD e = some l) (r : rep K io F e y) : ∃ p xs, y = .ref p ∧ (SqL K H p xs ∨ SqT K H p xs) ∧ reps K io F l xs := by
  match e, h with
  | .lst _, h =>
    cases h
    obtain ⟨p, xs, rfl, h, r⟩ := r
    exact ⟨p, xs, rfl, .inl (.of (ex p _ h)), r⟩
  | .fz _, h =>
    cases h
    obtain ⟨p, xs, rfl, h, r⟩ := r
    exact ⟨p, xs, rfl, .inl (ex.l h), r⟩
  | .tup _, h =>
    cases h
    obtain ⟨p, xs, rfl, h, r⟩ := r
    exact ⟨p, xs, rfl, .inr (ex.t h), r⟩
theorem o_inL : OpOk X (compareOp .In) (rIn X.K false) inL := ⟨op_in_seq, opd_val fun io F H x y dx dy d Q ex rx ry e k => by
  unfold inL at e
  split at e
  · rename_i l hl
    split at e
    · rename_i hc
      cases e
      obtain ⟨p, xs, rfl, h, r⟩ := seq_rep ex hl ry
      refine ⟨p, xs, rfl, h, rep_flat hc.1 rx, reps_flat hc.2 r, k _ fun _ _ _ => ?_⟩
      show V.bl (if false = true then _ else inV x xs) = _
      rw [if_neg Bool.false_ne_true, reps_inV hc.1 rx hc.2 r]
    · cases e
  · cases e⟩
theorem o_notInL : OpOk X (compareOp .NotIn) (rIn X.K true) notInL := ⟨op_notIn_seq, opd_val fun io F H x y dx dy d Q ex rx ry e k => by
  unfold notInL at e
  split at e
  · rename_i l hl
    split at e
    · rename_i hc
      cases e
      obtain ⟨p, xs, rfl, h, r⟩ := seq_rep ex hl ry
      refine ⟨p, xs, rfl, h, rep_flat hc.1 rx, reps_flat hc.2 r, k _ fun _ _ _ => ?_⟩
      show V.bl (if true = true then !inV x xs else _) = _
      rw [if_pos rfl, reps_inV hc.1 rx hc.2 r]
    · cases e
  · cases e⟩
/-- sep.join(texts) -/
def joinL : List Nat → List (List Nat) → List Nat
  | _, [] => []
  | _, [p] => p
  | s, p :: q :: r => p ++ (s ++ joinL s (q :: r))
def strsD : List D → Option (List (List Nat))
  | [] => some []
  | .str x :: l => (strsD l).map (x :: ·)
  | _ => none
theorem strs_reps {io : List Addr} {F : Hp} : ∀ {l : List D} {xs : List V} {ys : List (List Nat)}, strsD l = some ys → reps K io F l xs → xs = (ys.map fun y => (⟨y.toArray⟩ : Str)).map V.str
  | [], xs, ys, h, r => by
    cases h
    exact r
  | .str x :: l, xs, ys, h, r => by
    obtain ⟨v, t, rfl, r1, r2⟩ := r
    have h' : (strsD l).map (x :: ·) = some ys := h
    obtain ⟨zs, h1, rfl⟩ := Option.map_eq_some_iff.mp h'
    rw [strs_reps h1 r2, show v = _ from r1]
    rfl
theorem joinL_eq (s : List Nat) : ∀ ys : List (List Nat), TL.joinL s ys = joinL s ys
  | [] => rfl
  | [_] => rfl
  | p :: q :: r => by
    show p ++ (s ++ TL.joinL s (q :: r)) = p ++ (s ++ joinL s (q :: r))
    rw [joinL_eq s (q :: r)]
abbrev r_join (K : PySem.W.Frag) : V → List V → Hp → VK → Prop := fun x xs H Q => ∃ a p, ∃ ys : List Str, x = .str a ∧ xs = [.ref p] ∧ (SqL K H p (ys.map V.str) ∨ SqT K H p (ys.map V.str)) ∧
      (ys.map (·.length)).sum + ys.length * a.length ≤ 16777216 ∧ Q (.str (Txt.join a ys)) H
def joinD (s : List Nat) (e : D) : Option D := match seqD e with
  | some l => match strsD l with
    | some ys => if (ys.map (·.length)).sum + ys.length * s.length ≤ 16777216 then some (.str (joinL s ys)) else none
    | none => none
  | none => none
theorem joinD_some {s : List Nat} {e d : D} (h : joinD s e = some d) : ∃ l ys, seqD e = some l ∧ strsD l = some ys ∧ (ys.map (·.length)).sum + ys.length * s.length ≤ 16777216 ∧ d = .str (joinL s ys) := by
  unfold joinD at h
  split at h
  · rename_i l hl
    split at h
    · rename_i ys hys
      split at h
      · rename_i hc
        cases h
        exact ⟨l, ys, hl, hys, hc, rfl⟩
      · cases h
    · cases h
  · cases h
def mJoin (ma mb : M D) : M D := bnd ma fun d => match d with
  | .str s => bnd mb fun e => lft (joinD s e)
  | _ => fun _ => none
theorem de_join {apos : Pos} (ho : DE X W a ta ma) (he : DE X W b tb mb) (hs : starEach [b] X.env = [(false, eval b X.env)] := by rfl) (hbase : attributeBase a "join" X.env (eval a X.env) = eval a X.env := by rfl) (hline : (apos.endLine == pos.line) = true := by rfl) :
    DE X W (.Call (.Attribute a "join" apos) [b] [] pos) (tM1 (r_join X.K) ta tb) (mJoin ma mb) := ⟨pe_join ho.p he.p hs hbase hline, by
  intro en io F H σ s o Q R e hx hq
  refine ho.s.step R e hx fun d s1 v io1 F1 H1 l1 R1 r1 e1 hx1 => ?_
  cases d with
  | str sp =>
    refine ⟨⟨_, r1⟩, he.s.step R1 e1 hx1 fun d2 s2 v2 io2 F2 H2 l2 R2 r2 e2 hx2 => ?_⟩
    obtain ⟨z2, e5, e6⟩ := lft_some e2
    obtain ⟨l, ys, hl, hys, hc, rfl⟩ := joinD_some e5
    obtain ⟨p, xs, rfl, hq', rq⟩ := seq_rep R2.h.ex hl r2
    have ex := strs_reps hys rq
    refine ⟨⟨sp.toArray⟩, p, ys.map fun y => (⟨y.toArray⟩ : Str), r1, rfl, ?_, ?_, ?_⟩
    · rw [← ex]
      exact hq'
    · rw [List.length_map, str_len, List.map_map]
      have : (fun x : Str => x.length) ∘ (fun y : List Nat => (⟨y.toArray⟩ : Str)) = fun y => y.length := by
        funext y
        exact str_len y
      rw [this]
      exact hc
    · have ej := SX.join_S sp ys
      rw [joinL_eq] at ej
      have ej' : Txt.join ⟨sp.toArray⟩ (ys.map fun y => (⟨y.toArray⟩ : Str)) = ⟨(joinL sp ys).toArray⟩ := ej
      rw [ej']
      exact hq _ _ e6 _ io2 F2 H2 (l1.trans l2) R2 rfl
  | _ => cases e1⟩
end
end Z
/-! Z5: statements, loops, defs -/
namespace Z
open PySem L2
open Classical

/-! ### what is walked -/
def WalkD (K : PySem.W.Frag) (J : It) (io : List Addr) (F : Hp) (ds : List D) : Prop := ∀ (i : Nat) (en : Ent) (io2 : List Addr) (F2 H2 : Hp) (σ2 : St) (s2 : A), Le io F io2 F2 → Rel K en io2 F2 H2 σ2 s2 →
  (∀ d, ds[i]? = some d → J.go i H2 ∧ ∀ x H3, J.yld i H2 x H3 → ∃ F3, Le io2 F2 io2 F3 ∧ Rel K en io2 F3 H3 σ2 s2 ∧ rep K io2 F3 d x) ∧ (i = ds.length → J.stop i H2)
def SemI (K : PySem.W.Frag) (mg : Str → Option Value) (W : WX) (w : TI) (m : M (List D)) : Prop := ∀ (en : Ent) (io : List Addr) (F H : Hp) (σ : St) (s : A) (o : O (List D)) (R : It → Hp → Prop), Rel K en io F H σ s → m s = some o → PostX K mg W en io F o →
  (∀ ds s', o = .ok ds s' → ∀ J io' F' H', Le io F io' F' → Rel K en io' F' H' σ s' → WalkD K J io' F' ds → R J H') → w σ H R
structure DI (X : Cx) (W : WX) (tg e : Expr) (w : TI) (m : M (List D)) : Prop where
  p : PI X tg e w
  s : SemI X.K X.mg W w m
section
variable {X : Cx} {W : WX} {pos : Pos} {K : PySem.W.Frag} {mg : Str → Option Value} {tg a b c e : Expr} {es : List Expr} {ta tb tc te : TE} {ma mb mc me : M D} {tA tB' : TT} {mA mB : M Bool} {tl : TA} {ml : M (List D)}
theorem SemI.step {β : Type} {en : Ent} {io : List Addr} {F H : Hp} {σ : St} {s : A} {w : TI} {m : M (List D)} {k : List D → M β} {o : O β} {Q : It → Hp → Prop} (h : SemI K mg W w m) (R : Rel K en io F H σ s) (e : bnd m k s = some o) (hx : PostX K mg W en io F o)
    (hk : ∀ ds s1 J io' F' H', Le io F io' F' → Rel K en io' F' H' σ s1 → WalkD K J io' F' ds → k ds s1 = some o → PostX K mg W en io' F' o → Q J H') : w σ H Q := by
  rcases bnd_some e with ⟨a, s', e1, e2⟩ | ⟨x, s', e1, e2⟩
  · exact h en io F H σ s _ Q R e1 trivial fun d s2 e3 J io' F' H' l R' r => by
      cases e3
      exact hk a s' J io' F' H' l R' r e2 (hx.le _ _ _ l)
  · subst e2
    exact h en io F H σ s _ Q R e1 hx fun d s2 e3 => by cases e3
def itL : D → Option (List D)
  | .lst l => some l
  | .fz l => some l
  | _ => none
def itT : D → Option (List D)
  | .tup l => some l
  | _ => none
def itS : D → Option (List D)
  | .str x => some (x.map fun c => .str [c])
  | _ => none
def mIt (f : D → Option (List D)) (m : M D) : M (List D) := bnd m fun d => lft (f d)
theorem di_lst (he : DE X W e te me) : DI X W tg e (iList X.K te) (mIt itL me) := ⟨pi_list he.p, by
  intro en io F H σ s o Q R e hx hq
  refine he.s.step R e hx fun d s1 v io1 F1 H1 l1 R1 r1 e1 hx1 => ?_
  obtain ⟨z, e2, e3⟩ := lft_some e1
  have fin : ∀ (p : Addr) (xs : List V), v = .ref p → SqL X.K F1 p xs → reps X.K io1 F1 z xs → iList X.K (fun _ H Q => Q v H) σ H1 Q := fun p xs ev hs hr => by
    subst ev
    refine ⟨p, rfl, ⟨xs, R1.h.ex.l hs⟩, hq _ _ e3 _ io1 F1 H1 l1 R1 fun i en2 io2 F2 H2 σ2 s2 l2 R2 => ⟨fun d hd => ?_, fun hi => ⟨xs, R2.h.ex.l (l2.ex.l hs), by rw [reps_len hr]; omega⟩⟩⟩
    obtain ⟨x, h1, h2⟩ := reps_get hr hd
    refine ⟨⟨xs, x, R2.h.ex.l (l2.ex.l hs), h1⟩, fun y H3 hy => ?_⟩
    obtain ⟨rfl, hy⟩ := hy
    have := hy xs (R2.h.ex.l (l2.ex.l hs))
    rw [h1] at this
    cases this
    exact ⟨F2, Le.refl _ _, R2, rep_le l2 _ _ h2⟩
  match d, e2 with
  | .lst l, e2 =>
    cases e2
    obtain ⟨p, xs, ev, h, r⟩ := r1
    exact fin p xs ev (.of h) r
  | .fz l, e2 =>
    cases e2
    obtain ⟨p, xs, ev, h, r⟩ := r1
    exact fin p xs ev h r⟩
theorem di_tup (he : DE X W e te me) : DI X W tg e (iTup X.K te) (mIt itT me) := ⟨pi_tup he.p, by
  intro en io F H σ s o Q R e hx hq
  refine he.s.step R e hx fun d s1 v io1 F1 H1 l1 R1 r1 e1 hx1 => ?_
  obtain ⟨z, e2, e3⟩ := lft_some e1
  match d, e2 with
  | .tup l, e2 =>
    cases e2
    obtain ⟨p, xs, rfl, hs, hr⟩ := r1
    refine ⟨p, rfl, ⟨xs, R1.h.ex.t hs⟩, hq _ _ e3 _ io1 F1 H1 l1 R1 fun i en2 io2 F2 H2 σ2 s2 l2 R2 => ⟨fun d hd => ?_, fun hi => ⟨xs, R2.h.ex.t (l2.ex.t hs), by rw [reps_len hr]; omega⟩⟩⟩
    obtain ⟨x, h1, h2⟩ := reps_get hr hd
    refine ⟨⟨xs, x, R2.h.ex.t (l2.ex.t hs), h1⟩, fun y H3 hy => ?_⟩
    obtain ⟨rfl, hy⟩ := hy
    have := hy xs (R2.h.ex.t (l2.ex.t hs))
    rw [h1] at this
    cases this
    exact ⟨F2, Le.refl _ _, R2, rep_le l2 _ _ h2⟩⟩
theorem di_str (he : DE X W e te me) : DI X W tg e (iStr te) (mIt itS me) := ⟨pi_str he.p, by
  intro en io F H σ s o Q R e hx hq
  refine he.s.step R e hx fun d s1 v io1 F1 H1 l1 R1 r1 e1 hx1 => ?_
  obtain ⟨z, e2, e3⟩ := lft_some e1
  match d, e2 with
  | .str x, e2 =>
    cases e2
    refine ⟨_, r1, hq _ _ e3 _ io1 F1 H1 l1 R1 fun i en2 io2 F2 H2 σ2 s2 l2 R2 => ⟨fun d hd => ?_, fun hi => ?_⟩⟩
    · rw [List.getElem?_map] at hd
      obtain ⟨c, hc, rfl⟩ := Option.map_eq_some_iff.mp hd
      have hl := (List.getElem?_eq_some_iff.mp hc).1
      refine ⟨by show i < x.toArray.size; simpa using hl, fun y H3 hy => ?_⟩
      obtain ⟨rfl, c', hc', rfl⟩ := hy
      have e5 : x.toArray[i]? = some c' := hc'
      rw [List.getElem?_toArray, hc] at e5
      cases e5
      exact ⟨F2, Le.refl _ _, R2, rfl⟩
    · show x.toArray.size ≤ i
      rw [hi]
      simp⟩
def rngD (lo : Int) (n : Nat) : List D := (List.range n).map fun i => .int (lo + (i : Nat))
def rng1 : List D → Option (List D)
  | [.int j] => if -(2 ^ 62) ≤ j ∧ j < 2 ^ 62 then some (rngD 0 j.toNat) else none
  | _ => none
def rng2 : List D → Option (List D)
  | [.int i, .int j] => if -(2 ^ 62) ≤ i ∧ i < 2 ^ 62 ∧ -(2 ^ 62) ≤ j ∧ j < 2 ^ 62 then some (rngD i (j - i).toNat) else none
  | _ => none
def mItA (f : List D → Option (List D)) (m : M (List D)) : M (List D) := bnd m fun d => lft (f d)
theorem walk_rng {io : List Addr} {F : Hp} (lo : Int) (n : Nat) : WalkD K (Itr lo n) io F (rngD lo n) := fun i en2 io2 F2 H2 σ2 s2 l2 R2 => ⟨fun d hd => by
  unfold rngD at hd
  rw [List.getElem?_map] at hd
  obtain ⟨c, hc, rfl⟩ := Option.map_eq_some_iff.mp hd
  have hl := (List.getElem?_eq_some_iff.mp hc).1
  rw [List.length_range] at hl
  rw [List.getElem?_range hl] at hc
  cases hc
  refine ⟨hl, fun y H3 hy => ?_⟩
  obtain ⟨rfl, rfl⟩ := hy
  exact ⟨F2, Le.refl _ _, R2, rfl⟩, fun hi => by
  unfold rngD at hi
  rw [List.length_map, List.length_range] at hi
  show n ≤ i
  omega⟩
theorem di_rng1 {p : Pos} (hg : Gl X "range") (hm : X.mg "range" = none) (ha : DA X W [a] tl ml) (hs : starEach [a] X.env = [(false, eval a X.env)] := by rfl) : DI X W tg (.Call (.Name "range" p) [a] [] pos) (iRng1 tl) (mItA rng1 ml) := ⟨pi_range1 hg hm ha.p hs, by
  intro en io F H σ s o Q R e hx hq
  refine ha.s.step R e hx fun d s1 v io1 F1 H1 l1 R1 r1 e1 hx1 => ?_
  obtain ⟨z, e2, e3⟩ := lft_some e1
  match d, e2 with
  | [.int j], e2 =>
    obtain ⟨x, rfl, r⟩ := reps1 r1
    have e2' : (if -(2 ^ 62) ≤ j ∧ j < 2 ^ 62 then some (rngD 0 j.toNat) else none) = some z := e2
    by_cases hc : -(2 ^ 62) ≤ j ∧ j < 2 ^ 62
    · rw [if_pos hc] at e2'
      cases e2'
      exact ⟨j, by rw [show x = _ from r], hc.1, hc.2, hq _ _ e3 _ io1 F1 H1 l1 R1 (walk_rng _ _)⟩
    · rw [if_neg hc] at e2'
      cases e2'⟩
theorem di_rng2 {p : Pos} (hg : Gl X "range") (hm : X.mg "range" = none) (ha : DA X W [a, b] tl ml) (hs : starEach [a, b] X.env = [(false, eval a X.env), (false, eval b X.env)] := by rfl) (hs2 : starEach [b] X.env = [(false, eval b X.env)] := by rfl) :
    DI X W tg (.Call (.Name "range" p) [a, b] [] pos) (iRng2 tl) (mItA rng2 ml) := ⟨pi_range2 hg hm ha.p hs hs2, by
  intro en io F H σ s o Q R e hx hq
  refine ha.s.step R e hx fun d s1 v io1 F1 H1 l1 R1 r1 e1 hx1 => ?_
  obtain ⟨z, e2, e3⟩ := lft_some e1
  match d, e2 with
  | [.int i, .int j], e2 =>
    obtain ⟨x, y, rfl, r, r'⟩ := reps2 r1
    have e2' : (if -(2 ^ 62) ≤ i ∧ i < 2 ^ 62 ∧ -(2 ^ 62) ≤ j ∧ j < 2 ^ 62 then some (rngD i (j - i).toNat) else none) = some z := e2
    by_cases hc : -(2 ^ 62) ≤ i ∧ i < 2 ^ 62 ∧ -(2 ^ 62) ≤ j ∧ j < 2 ^ 62
    · rw [if_pos hc] at e2'
      cases e2'
      exact ⟨i, j, by rw [show x = _ from r, show y = _ from r'], hc, hq _ _ e3 _ io1 F1 H1 l1 R1 (walk_rng _ _)⟩
    · rw [if_neg hc] at e2'
      cases e2'⟩
end

/-! ### targets -/
def gV (i : Nat) (d : D) : M Unit := fun s => some (.ok () { s with sl := s.sl.set i (some (.val d)) })
def gT (gs : List D → M Unit) (n : Nat) (d : D) : M Unit := match d with
  | .tup l => if l.length = n then gs l else fun _ => none
  | _ => fun _ => none
def gN (l : List D) : M Unit := match l with
  | [] => ret ()
  | _ => fun _ => none
def gC (g : D → M Unit) (gs : List D → M Unit) (l : List D) : M Unit := match l with
  | d :: r => bnd (g d) fun _ => gs r
  | _ => fun _ => none
structure DGs (X : Cx) (W : WX) (ts : List Expr) (t : TGs) (m : List D → M Unit) : Prop where
  p : PGs X ts t
  s : ∀ (en : Ent) (io : List Addr) (F H : Hp) (σ : St) (s : A) (d : List D) (v : List V) (o : O Unit) (Q : St → Hp → Prop), Rel X.K en io F H σ s → reps X.K io F d v → m d s = some o → PostX X.K X.mg W en io F o →
    (∀ u s', o = .ok u s' → ∀ io' F' H' σ', Le io F io' F' → Rel X.K en io' F' H' σ' s' → Q σ' H') → t v σ H Q
section
variable {X : Cx} {W : WX} {pos : Pos} {K : PySem.W.Frag} {mg : Str → Option Value} {tg a b c e : Expr} {es : List Expr} {ta tb tc te : TE} {ma mb mc me : M D} {tA tB' : TT} {mA mB : M Bool} {tl : TA} {ml : M (List D)} {g : TG} {gm : D → M Unit}
theorem dg_name (i : Nat) {x : Str} (hN : X.N.Nodup) (hi : X.N[i]? = some x := by rfl) (hx : Loc X.env.scope x := by first | exact Or.inl rfl | exact Or.inr rfl) (hf : X.fn x = true ∨ X.env.scope.names.lookup x = some .local := by first | exact .inl rfl | exact .inr rfl | assumption) : DG X W (.Name x pos) (gName i) (gV i) := ⟨pg_name hN hi hx hf, by
  intro en io F H σ s d v o Q R r e hx hq
  cases e
  exact hq _ _ rfl io F H _ (Le.refl _ _) (R.setv r)⟩
theorem dgs_nil : DGs X W [] gNil gN := ⟨pgs_nil, by
  intro en io F H σ s d v o Q R r e hx hq
  match d, e with
  | [], e =>
    cases e
    exact ⟨r, hq _ _ rfl io F H _ (Le.refl _ _) R⟩⟩
theorem dgs_cons {t : TGs} {gs : List D → M Unit} (h1 : DG X W e g gm) (h2 : DGs X W es t gs) (hs : (assignEach (e :: es) X.env).map (·.2) = assign e X.env :: (assignEach es X.env).map (·.2) := by rfl) : DGs X W (e :: es) (gCons g t) (gC gm gs) := ⟨pgs_cons h1.p h2.p hs, by
  intro en io F H σ s d v o Q R r e hx hq
  match d, e with
  | d :: l, e =>
    obtain ⟨x, t, rfl, r1, r2⟩ := r
    refine ⟨x, t, rfl, h1.s.step R r1 e hx fun s1 io1 F1 H1 σ1 l1 R1 e1 hx1 => ?_⟩
    exact h2.s en io1 F1 H1 σ1 s1 l t o Q R1 (reps_le l1 _ _ r2) e1 hx1 fun u s2 e2 io2 F2 H2 σ2 l2 R2 => hq u s2 e2 io2 F2 H2 σ2 (l1.trans l2) R2⟩
theorem dg_tup {k : Nat} {t : TGs} {gs : List D → M Unit} {n : Nat} (hc : X.calm = true) (h : DGs X W es t gs)
    (hn : (assignEach es X.env).length = n := by rfl) (hst : (assignEach es X.env).findIdx? (·.1) = none := by rfl) : DG X W (.Tuple es k pos) (gTup X.K n t) (gT gs n) := ⟨pg_tup hc h.p hn hst, by
  intro en io F H σ s d v o Q R r e hx hq
  match d, e with
  | .tup l, e =>
    obtain ⟨a, xs, rfl, h1, h2⟩ := r
    have e' : (if l.length = n then gs l else fun _ => none) s = some o := e
    by_cases hl : l.length = n
    · rw [if_pos hl] at e'
      exact ⟨a, xs, rfl, R.h.ex.t h1, by rw [reps_len h2]; exact hl, h.s en io F H σ s l xs o Q R h2 e' hx hq⟩
    · rw [if_neg hl] at e'
      cases e'⟩

/-! ### statements -/
def mNx : M Fl := ret .nx
def mSeq (m n : M Fl) : M Fl := bnd m fun f => match f with
  | .nx => n
  | f => ret f
def mAsg (m : M D) (g : D → M Unit) : M Fl := bnd m fun d => bnd (g d) fun _ => ret .nx
def mDrop (m : M D) : M Fl := bnd m fun _ => ret .nx
def mRet (m : M D) : M Fl := bnd m fun d => ret (.rt d)
variable {st : Stmt} {sts : List Stmt} {t u : TS} {m n : M Fl}
theorem SemS.step {β : Type} {en : Ent} {io : List Addr} {F H : Hp} {σ : St} {s : A} {m : M Fl} {k : Fl → M β} {o : O β} {E : Ends} (h : SemS K mg W t m) (R : Rel K en io F H σ s) (e : bnd m k s = some o) (hx : PostX K mg W en io F o)
    (hk : ∀ f s1 io' F' H' σ', Le io F io' F' → Rel K en io' F' H' σ' s1 → k f s1 = some o → PostX K mg W en io' F' o → EndP K io' F' H' σ' E f) : t E σ H := by
  rcases bnd_some e with ⟨a, s', e1, e2⟩ | ⟨x, s', e1, e2⟩
  · exact h en io F H σ s _ E R e1 trivial fun d s2 e3 io' F' H' σ' l R' => by
      cases e3
      exact hk a s' io' F' H' σ' l R' e2 (hx.le _ _ _ l)
  · subst e2
    exact h en io F H σ s _ E R e1 hx fun d s2 e3 => by cases e3
theorem dss_nil : DSs X W [] tNext mNx := ⟨pss_nil, by
  intro en io F H σ s o E R e hx hq
  cases e
  exact hq _ _ rfl io F H σ (Le.refl _ _) R⟩
theorem dss_cons (h1 : DS X W st t m) (h2 : DSs X W sts u n) : DSs X W (st :: sts) (tSeq t u) (mSeq m n) := ⟨pss_cons h1.p h2.p, by
  intro en io F H σ s o E R e hx hq
  refine h1.s.step (E := { E with nx := u E }) R e hx fun f s1 io1 F1 H1 σ1 l1 R1 e1 hx1 => ?_
  cases f with
  | nx => exact h2.s en io1 F1 H1 σ1 s1 o E R1 e1 hx1 fun f s2 e2 io2 F2 H2 σ2 l2 R2 => hq f s2 e2 io2 F2 H2 σ2 (l1.trans l2) R2
  | rt d => cases e1; exact hq _ _ rfl io1 F1 H1 σ1 l1 R1
  | bk => cases e1; exact hq _ _ rfl io1 F1 H1 σ1 l1 R1
  | ct => cases e1; exact hq _ _ rfl io1 F1 H1 σ1 l1 R1⟩
theorem dss_one (h1 : DS X W st t m) : DSs X W [st] t m := ⟨pss_one h1.p, h1.s⟩
theorem ds_pass : DS X W (.Pass pos) tNext mNx := ⟨ps_pass, dss_nil (X := X).s⟩
theorem ds_doc {x j p} : DS X W (.Expr (.Constant (.str x) j p) pos) tNext mNx := ⟨ps_doc, dss_nil (X := X).s⟩
theorem ds_break : DS X W (.Break pos) tBreak (ret .bk) := ⟨ps_break, by
  intro en io F H σ s o E R e hx hq
  cases e
  exact hq _ _ rfl io F H σ (Le.refl _ _) R⟩
theorem ds_continue : DS X W (.Continue pos) tCont (ret .ct) := ⟨ps_continue, by
  intro en io F H σ s o E R e hx hq
  cases e
  exact hq _ _ rfl io F H σ (Le.refl _ _) R⟩
/-- a statement that is never come to -/
def mNo' : M Fl := fun _ => none
theorem ds_never : DS X W st tNever mNo' := ⟨ps_never, by
  intro en io F H σ s o E R e hx hq
  cases e⟩
theorem ds_expr (he : DE X W e te me) (hs : swapsWith e none pos.line X.env = pure false := by rfl) : DS X W (.Expr e pos) (tDrop te) (mDrop me) := ⟨ps_expr he.p hs, by
  intro en io F H σ s o E R e hx hq
  refine he.s.step R e hx fun d s1 v io1 F1 H1 l1 R1 r1 e1 hx1 => ?_
  cases e1
  exact hq _ _ rfl io1 F1 H1 σ l1 R1⟩
theorem ds_ret (he : DE X W e te me) : DS X W (.Return (some e) pos) (tRet te) (mRet me) := ⟨ps_ret he.p, by
  intro en io F H σ s o E R e hx hq
  refine he.s.step R e hx fun d s1 v io1 F1 H1 l1 R1 r1 e1 hx1 => ?_
  cases e1
  exact hq _ _ rfl io1 F1 H1 σ l1 R1 v r1⟩
theorem ds_retN : DS X W (.Return none pos) tRetN (ret (.rt .non)) := ⟨ps_retN, by
  intro en io F H σ s o E R e hx hq
  cases e
  exact hq _ _ rfl io F H σ (Le.refl _ _) R .non rfl⟩
theorem ds_asg {swt : tg = tg} (he : DE X W e te me) (hg : DG X W tg g gm) (hs : swapsWithSole [tg] e pos.line X.env = pure false := by rfl) (hw : swappedStores [tg] e X.env = pure none := by rfl)
    (h1 : (assignEach [tg] X.env).map (·.2) = [assign tg X.env] := by rfl) : DS X W (.Assign [tg] e pos) (tAsg te g) (mAsg me gm) := ⟨ps_asg he.p hg.p hs hw h1, by
  intro en io F H σ s o E R e hx hq
  refine he.s.step R e hx fun d s1 v io1 F1 H1 l1 R1 r1 e1 hx1 => ?_
  refine hg.s.step R1 r1 e1 hx1 fun s2 io2 F2 H2 σ2 l2 R2 e2 hx2 => ?_
  cases e2
  exact hq _ _ rfl io2 F2 H2 σ2 (l1.trans l2) R2⟩
theorem ds_set (i : Nat) {x : Str} {pos' : Pos} (hN : X.N.Nodup) (he : DE X W e te me) (hi : X.N[i]? = some x := by rfl) (hx : Loc X.env.scope x := by first | exact Or.inl rfl | exact Or.inr rfl) (hs : swapsWith e (some (.Name x pos')) pos.line X.env = pure false := by rfl)
    (hf : X.fn x = true ∨ X.env.scope.names.lookup x = some .local := by first | exact .inl rfl | exact .inr rfl | assumption) : DS X W (.Assign [.Name x pos'] e pos) (tAsg te (gName i)) (mAsg me (gV i)) := ⟨ps_set hN hi hx he.p hs hf, by
  intro en io F H σ s o E R e hx hq
  refine he.s.step R e hx fun d s1 v io1 F1 H1 l1 R1 r1 e1 hx1 => ?_
  cases e1
  exact hq _ _ rfl io1 F1 H1 _ l1 (R1.setv r1)⟩
/-- x, y = a, b -/
def mPar (i j : Nat) (m : M (List D)) : M Fl := bnd m fun l => match l with
  | [d, e] => fun s => some (.ok .nx { s with sl := (s.sl.set i (some (.val d))).set j (some (.val e)) })
  | _ => fun _ => none
theorem ds_par (i j : Nat) {x y : Str} {px py pt : Pos} {kt k2 pt2} (hc : X.calm = true) (hN : X.N.Nodup) (ha : DA X W [a, b] tl ml) (hi : X.N[i]? = some x := by rfl) (hj : X.N[j]? = some y := by rfl) (hij : i ≠ j := by decide)
    (hx : X.env.scope.names.lookup x = some .local := by rfl) (hy : X.env.scope.names.lookup y = some .local := by rfl)
    (hw : swappedStores [.Tuple [.Name x px, .Name y py] kt pt] (.Tuple [a, b] k2 pt2) X.env = pure (some [x, y]) := by rfl)
    (hs : swapsWithSole [.Tuple [.Name x px, .Name y py] kt pt] (.Tuple [a, b] k2 pt2) pos.line X.env = pure false := by rfl) :
    DS X W (.Assign [.Tuple [.Name x px, .Name y py] kt pt] (.Tuple [a, b] k2 pt2) pos) (tPar i j tl) (mPar i j ml) := ⟨ps_par hc hN hi hj hij hx hy ha.p hw hs, by
  intro en io F H σ s o E R e hx hq
  refine ha.s.step R e hx fun d s1 v io1 F1 H1 l1 R1 r1 e1 hx1 => ?_
  match d, e1 with
  | [d, d2], e1 =>
    cases e1
    obtain ⟨x1, x2, rfl, r, r'⟩ := reps2 r1
    exact ⟨x1, x2, rfl, hq _ _ rfl io1 F1 H1 _ l1 ((R1.setv r).setv r')⟩⟩
/-- x += e -/
def mAug (i : Nat) (f : D → D → Option D) (m : M D) : M Fl := fun s => match s.sl[i]? with
  | some (some (.val x)) => bnd m (fun y => bnd (lft (f x y)) fun z => bnd (gV i z) fun _ => ret .nx) s
  | _ => none
theorem ip_of {op : Operator} {r : R2} (h : OpR X (inplaceOp op) r) : PIp X op (fun x y H Q => r x y H Q) := fun pins s σ H x y v u Q I rx ry q => h pins s σ H x y v u Q I rx ry q
theorem ds_aug (i : Nat) {x : Str} {op : Operator} {pos' : Pos} {r : R2} {f : D → D → Option D} (hN : X.N.Nodup) (ho : OpOk X (inplaceOp op) r f) (he : DE X W e te me) (hi : X.N[i]? = some x := by rfl) (hx : Loc X.env.scope x := by first | exact Or.inl rfl | exact Or.inr rfl)
    (hf : X.fn x = true ∨ X.env.scope.names.lookup x = some .local := by first | exact .inl rfl | exact .inr rfl | assumption) : DS X W (.AugAssign (.Name x pos') op e pos) (tAug i te (fun x y H Q => r x y H Q)) (mAug i f me) := ⟨ps_aug hN hi hx he.p (ip_of ho.p) hf, by
  intro en io F H σ s o E R e hx hq
  unfold mAug at e
  split at e
  · rename_i d h
    obtain ⟨v, e1, r1⟩ := R.val i d h
    refine ⟨v, e1, he.s.step R e hx fun d2 s1 v2 io1 F1 H1 l1 R1 r2 e2 hx1 => ?_⟩
    rcases bnd_some e2 with ⟨z, s2, g1, g2⟩ | ⟨z, s2, g1, g2⟩
    · obtain ⟨z', g3, g4⟩ := lft_some g1
      cases g4
      refine ho.s en io1 F1 H1 σ s1 v v2 d d2 z _ R1 (rep_le l1 _ _ r1) r2 g3 fun w io2 F2 H2 l2 R2 r3 => ?_
      cases g2
      exact hq _ _ rfl io2 F2 H2 _ (l1.trans l2) (R2.setv r3)
    · obtain ⟨z', g3, g4⟩ := lft_some g1
      cases g4
  · cases e⟩
theorem o_iaddI : OpOk X (inplaceOp .Add) r_addI addI := ⟨iop_add, (o_addI (X := X)).s⟩
theorem o_isubI : OpOk X (inplaceOp .Sub) r_subI subI := ⟨iop_sub, (o_subI (X := X)).s⟩
theorem o_iaddS : OpOk X (inplaceOp .Add) r_addS addS := ⟨iop_add_str, (o_addS (X := X)).s⟩
theorem o_idivI : OpOk X (inplaceOp .FloorDiv) (rI CDiv fun i j => .int (i / j)) (fIc CDiv fun i j => .int (i / j)) := ⟨iop_fdiv, opd_I fun _ _ _ _ => rfl⟩
theorem ds_if (hc : DT X W c tA mA) (ha : DSs X W sts t m) {sts2 : List Stmt} (hb : DSs X W sts2 u n) : DS X W (.If c sts sts2 pos) (tIfS tA t u) (mIf mA m n) := ⟨ps_if hc.p ha.p hb.p, by
  intro en io F H σ s o E R e hx hq
  refine hc.s.step R e hx fun d s1 io1 F1 H1 l1 R1 e1 hx1 => ?_
  cases d with
  | true =>
    rw [if_pos rfl]
    exact ha.s en io1 F1 H1 σ s1 o E R1 e1 hx1 fun f s2 e2 io2 F2 H2 σ2 l2 R2 => hq f s2 e2 io2 F2 H2 σ2 (l1.trans l2) R2
  | false =>
    rw [if_neg Bool.false_ne_true]
    exact hb.s en io1 F1 H1 σ s1 o E R1 e1 hx1 fun f s2 e2 io2 F2 H2 σ2 l2 R2 => hq f s2 e2 io2 F2 H2 σ2 (l1.trans l2) R2⟩

/-! ### for -/
def mForL (g : D → M Unit) (b : M Fl) : List D → M Fl
  | [] => ret .nx
  | d :: l => bnd (g d) fun _ => bnd b fun f => match f with
    | .nx => mForL g b l
    | .ct => mForL g b l
    | .bk => ret .nx
    | .rt d => ret (.rt d)
def mFor (mi : M (List D)) (g : D → M Unit) (b : M Fl) : M Fl := bnd mi fun l => mForL g b l
theorem sem_for {w : TI} {mi : M (List D)} (hi : SemI K mg W w mi) (hg : SemG K mg W g gm) (hb : SemS K mg W t m) : SemS K mg W (tFor w g t) (mFor mi gm m) := by
  intro en io F H σ s o E R e hx hq
  refine hi.step R e hx fun ds s1 J io1 F1 H1 l1 R1 wk e1 hx1 => ?_
  refine ⟨fun i k σ H => k = ds.length - i ∧ i ≤ ds.length ∧ ∃ io' F' s', Le io1 F1 io' F' ∧ Rel K en io' F' H σ s' ∧ mForL gm m (ds.drop i) s' = some o, ⟨_, rfl, Nat.zero_le _, io1, F1, s1, Le.refl _ _, R1, e1⟩, ?_⟩
  rintro i k σ2 H2 ⟨rfl, hil, io2, F2, s2, l2, R2, e2⟩
  have hw := wk i en io2 F2 H2 σ2 s2 l2 R2
  by_cases hlt : i < ds.length
  · obtain ⟨go, yl⟩ := hw.1 ds[i] (List.getElem?_eq_getElem hlt)
    refine .inr ⟨go, fun σ' H' => ∃ io' F' s', Le io1 F1 io' F' ∧ Rel K en io' F' H' σ' s' ∧ mForL gm m (ds.drop (i + 1)) s' = some o, fun σ' H' ⟨a, b, c, d⟩ => ⟨ds.length - (i + 1), by omega, rfl, hlt, a, b, c, d⟩, fun x H3 hy => ?_⟩
    obtain ⟨F3, l3, R3, r3⟩ := yl x H3 hy
    rw [List.drop_eq_getElem_cons hlt] at e2
    have hx3 := hx1.le _ _ _ (l2.trans l3)
    refine hg.step R3 r3 e2 hx3 fun s4 io4 F4 H4 σ4 l4 R4 e4 hx4 => ?_
    refine hb.step (E := { E with nx := _, ct := _, bk := E.nx }) R4 e4 hx4 fun f s5 io5 F5 H5 σ5 l5 R5 e5 hx5 => ?_
    have lt := ((l2.trans l3).trans l4).trans l5
    cases f with
    | nx => exact ⟨io5, F5, s5, lt, R5, e5⟩
    | ct => exact ⟨io5, F5, s5, lt, R5, e5⟩
    | bk => cases e5; exact hq _ _ rfl io5 F5 H5 σ5 (l1.trans lt) R5
    | rt d => cases e5; exact hq _ _ rfl io5 F5 H5 σ5 (l1.trans lt) R5
  · have hi' : i = ds.length := by omega
    rw [hi', List.drop_length] at e2
    cases e2
    exact .inl ⟨hw.2 hi', hq _ _ rfl io2 F2 H2 σ2 (l1.trans l2) R2⟩
theorem ds_for {w : TI} {mi : M (List D)} (hp : PassesOwn (model X.prog X.w) X.A X.env X.xe) (hc : X.calm = true) (hi : DI X W tg e w mi) (hg : DG X W tg g gm) (hb : DSs X W sts t m)
    (hs : ∀ x, foldedSetIterable e X.env x = pure x := by intro _; rfl) : DS X W (.For tg e sts [] pos) (tFor w g t) (mFor mi gm m) := ⟨ps_for hp hc hi.p hg.p hb.p hs, sem_for hi.s hg.s hb.s⟩

/-! ### while -/
def whileN (c : M Bool) (b : M Fl) : Nat → M Fl
  | 0 => fun _ => none
  | n + 1 => bnd c fun k => if k = true then bnd b fun f => match f with
      | .nx => whileN c b n
      | .ct => whileN c b n
      | .bk => ret .nx
      | .rt d => ret (.rt d)
    else ret .nx
noncomputable def mWhile (c : M Bool) (b : M Fl) : M Fl := fun s => if h : ∃ (n : Nat) (o : O Fl), whileN c b n s = some o then whileN c b (choose h) s else none
theorem whileN_mono {c : M Bool} {b : M Fl} : ∀ {n k : Nat} {s : A} {o : O Fl}, whileN c b n s = some o → whileN c b (n + k) s = some o
  | 0, k, s, o, h => by cases h
  | n + 1, k, s, o, h => by
    rw [Nat.add_right_comm]
    unfold whileN at h ⊢
    rcases bnd_some h with ⟨a, s', e1, e2⟩ | ⟨x, s', e1, e2⟩
    · unfold bnd
      rw [e1]
      cases a with
      | false => exact e2
      | true =>
        have e2' : bnd b (fun f => match f with | .nx => whileN c b n | .ct => whileN c b n | .bk => ret .nx | .rt d => ret (.rt d)) s' = some o := e2
        show bnd b (fun f => match f with | .nx => whileN c b (n + k) | .ct => whileN c b (n + k) | .bk => ret .nx | .rt d => ret (.rt d)) s' = some o
        rcases bnd_some e2' with ⟨f, s2, g1, g2⟩ | ⟨x, s2, g1, g2⟩
        · unfold bnd
          rw [g1]
          cases f with
          | nx => exact whileN_mono g2
          | ct => exact whileN_mono g2
          | bk => exact g2
          | rt d => exact g2
        · unfold bnd
          rw [g1]
          exact congrArg some g2.symm
    · unfold bnd
      rw [e1]
      exact congrArg some e2.symm
theorem while_of {c : M Bool} {b : M Fl} {n : Nat} {s : A} {o : O Fl} (h : whileN c b n s = some o) : mWhile c b s = some o := by
  have hh : ∃ (n : Nat) (o : O Fl), whileN c b n s = some o := ⟨n, o, h⟩
  unfold mWhile
  rw [dif_pos hh]
  obtain ⟨o', h'⟩ := choose_spec hh
  have h1 := whileN_mono (k := choose hh) h
  have h2 := whileN_mono (k := n) h'
  rw [Nat.add_comm, h1] at h2
  rw [h', h2]
theorem of_while {c : M Bool} {b : M Fl} {s : A} {o : O Fl} (h : mWhile c b s = some o) : ∃ n, whileN c b n s = some o := by
  unfold mWhile at h
  split at h
  · exact ⟨_, h⟩
  · cases h
theorem sem_while (hc : SemT K mg W tA mA) (hb : SemS K mg W t m) : SemS K mg W (tWhile tA t) (mWhile mA m) := by
  intro en io F H σ s o E R e hx hq
  obtain ⟨n, e⟩ := of_while e
  refine ⟨fun k σ H => ∃ io' F' s', Le io F io' F' ∧ Rel K en io' F' H σ s' ∧ whileN mA m k s' = some o, ⟨n, io, F, s, Le.refl _ _, R, e⟩, ?_⟩
  rintro k σ1 H1 ⟨io1, F1, s1, l1, R1, e1⟩
  cases k with
  | zero => cases e1
  | succ k =>
    refine hc.step R1 e1 (hx.le _ _ _ l1) fun d s2 io2 F2 H2 l2 R2 e2 hx2 => ?_
    cases d with
    | false =>
      rw [if_neg Bool.false_ne_true]
      cases e2
      exact hq _ _ rfl io2 F2 H2 σ1 (l1.trans l2) R2
    | true =>
      rw [if_pos rfl]
      refine ⟨fun σ' H' => ∃ io' F' s', Le io F io' F' ∧ Rel K en io' F' H' σ' s' ∧ whileN mA m k s' = some o, fun σ' H' h => ⟨k, Nat.lt_succ_self k, h⟩, ?_⟩
      have e2' : bnd m (fun f => match f with | .nx => whileN mA m k | .ct => whileN mA m k | .bk => ret .nx | .rt d => ret (.rt d)) s2 = some o := e2
      refine hb.step (E := { E with nx := _, ct := _, bk := E.nx }) R2 e2' hx2 fun f s5 io5 F5 H5 σ5 l5 R5 e5 hx5 => ?_
      have lt := (l1.trans l2).trans l5
      cases f with
      | nx => exact ⟨io5, F5, s5, lt, R5, e5⟩
      | ct => exact ⟨io5, F5, s5, lt, R5, e5⟩
      | bk => cases e5; exact hq _ _ rfl io5 F5 H5 σ5 lt R5
      | rt d => cases e5; exact hq _ _ rfl io5 F5 H5 σ5 lt R5
theorem ds_while (hp : PassesOwn (model X.prog X.w) X.A X.env X.xe) (hc : DT X W c tA mA) (hb : DSs X W sts t m) : DS X W (.While c sts [] pos) (tWhile tA t) (mWhile mA m) := ⟨ps_while hp hc.p hb.p, sem_while hc.s hb.s⟩
end

/-! ### a def -/
def entA (N : Nat) (ds : List D) (hp : List AO) : A := ⟨ds.map (fun d => some (.val d)) ++ List.replicate (N - ds.length) none, hp⟩
def fnOf (N : Nat) (m : M Fl) : Fn := fun ds hp => match m (entA N ds hp) with
  | some (.ok .nx s) => some (.ok .non s.hp)
  | some (.ok (.rt d) s) => some (.ok d s.hp)
  | some (.ex e s) => some (.ex e s.hp)
  | _ => none
section
variable {K : PySem.W.Frag} {P : Program} {w : World} {mg : Str → Option Value} {base : Heap}
theorem Rel.start {io : List Addr} {F H : Hp} {hp : List AO} {N : List Str} {ds : List D} {vs : List V} (h : HRel K io F H hp) (r : reps K io F ds vs) : Rel K ⟨H, F, io⟩ io F H (start N vs) (entA N.length ds hp) := by
  have noown : ∀ (i : Nat) o, (entA N.length ds hp).sl[i]? = some (some (.own o)) → False := fun i o e => by
    unfold entA at e
    by_cases hl : i < ds.length
    · rw [List.getElem?_append_left (by rw [List.length_map]; exact hl), List.getElem?_map] at e
      obtain ⟨d, _, h2⟩ := Option.map_eq_some_iff.mp e
      cases h2
    · rw [List.getElem?_append_right (by rw [List.length_map]; omega)] at e
      have := List.mem_of_getElem? e
      cases (List.mem_replicate.mp this).2
  refine ⟨h, ⟨fun _ _ e => e, fun i a e (hl : io.length ≤ i) => absurd (List.getElem?_eq_some_iff.mp e).1 (by omega), fun _ _ e _ => e, fun _ e => e, fun _ _ => rfl, Ex.refl F⟩, ?_, fun i d e => ?_, fun i o e => (noown i o e).elim, fun i j o o' p e => (noown i o e).elim⟩
  · unfold entA L2.start
    simp [reps_len r]
  · unfold entA at e
    by_cases hl : i < ds.length
    · rw [List.getElem?_append_left (by rw [List.length_map]; exact hl), List.getElem?_map] at e
      obtain ⟨d', h1, h2⟩ := Option.map_eq_some_iff.mp e
      cases h2
      obtain ⟨x, hx, rx⟩ := reps_get r h1
      refine ⟨x, ?_, rx⟩
      unfold L2.start
      rw [List.getElem?_append_left (by rw [List.length_map, reps_len r]; exact hl), List.getElem?_map, hx]
      rfl
    · rw [List.getElem?_append_right (by rw [List.length_map]; omega)] at e
      have := List.mem_of_getElem? e
      cases (List.mem_replicate.mp this).2
theorem Rel.stpd {io io' : List Addr} {F F' H H' : Hp} {σ : St} {s : A} (R : Rel K ⟨H, F, io⟩ io' F' H' σ s) : Stp K io F H io' F' H' s.hp :=
  ⟨R.h, ⟨R.k.pre, R.k.ex⟩, R.k.grow, R.k.frm, R.k.liv, R.k.new⟩
/-- a def by its body, where no repr is under way -/
theorem fnG_of {x qual : Str} {st : Stmt} {f : Addr} {fd : FuncData} {N ps : List Str} {k : Nat} {sp : Sp} (Fk : Fun K x qual st f fd) (S : FnScope N ps (defScope st)) (len : ∀ vs H Q E, sp vs H Q E → vs.length = ps.length)
    (hbody : ∀ (cdv : Value) (A : Around) (outer : List Env) (s : Shared) (H : Hp) (vs : List V) (Q : VK) (E : XK), RoomG k (A.deeper (PyProof.Rows.envOfC qual (defScope st) s.heap.objs.size f cdv)) → sp vs H Q E →
      ∃ t, PSs (cxOf (L2.CX P w) P w K mg base N qual (defScope st) f cdv A outer s H E) (defBody st) t ∧ t { nx := fun _ H' => Q .non H', rt := Q } (L2.start N vs) H) : FnG P w K mg base (k + 1) f fd ps sp := by
  obtain ⟨oc, od, kV, doc, pm, an, cdv, ct, osl, rfl, lk, hcd⟩ := Fk.ex
  refine ⟨len, fun A outer s H args us vs Q E hr e0 hb r hsp => ?_⟩
  have hl := len _ _ _ _ hsp
  have KX : K.In s.heap := e0.mod.kin.keeps fun b o e => (e0.bs b o e).1
  have lim : s.heap.NoLimit := e0.mod.nolimit.keeps fun b o e => (e0.bs b o e).1
  have hkind : ∀ y ∈ ps.zip us, (defScope st).names.lookup y.1 = some .local ∨ ((defScope st).names.lookup y.1 = some .cell ∧ ((PySem.cellsFrom (s.heap.objs.size + 1) (defScope st).names []).lookup y.1).isSome = true) := fun ⟨n, v⟩ hy => by
    rcases S.par n (List.of_mem_zip hy).1 with q | q
    · exact .inl q
    · exact .inr ⟨q, PySem.W.cellsFrom_some _ _ _ (.inl q)⟩
  refine PySem.codeAny_call_function hr.r.depth (KX _ _ lk) rfl S.co S.gen rfl (PySem.W.codeRec_of KX hcd) (hb _ _ _ _ ?_)
  refine wpAny_newFunctionEnv_cells S.kind hkind fun env he s1 x => ?_
  subst he
  refine ⟨lim.keeps x.toInCall.keep, codeAny_func ?_⟩
  obtain ⟨t, ht, hq⟩ := hbody cdv A outer s H vs Q E ⟨hr.r.deeper _, fun q => hr.g (Nat.le_succ_of_le q)⟩ hsp
  have I : Inv (cxOf (L2.CX P w) P w K mg base N qual (defScope st) f cdv A outer s H E) [] (L2.start N vs) H s1 := inv_start S hr.r.hd e0 hl r x
  refine wpAny_mono (ht.run [] s1 (L2.start N vs) H _ I hq) (fun fl s' hs => ?_) fun e s' hs => hs
  have fin : ∀ {σ' : St} {H' : Hp} {v : V} {u : Value}, Inv (cxOf (L2.CX P w) P w K mg base N qual (defScope st) f cdv A outer s H E) [] σ' H' s' → RelV v u → Q v H' → CE outer P w H s Q u s' :=
    fun {σ' H' v u} J rv q => ⟨v, H', J.os, J.bare, J.base, J.hok, rv, q⟩
  cases fl with
  | ret u =>
    obtain ⟨v, σ', H', J, rv, q⟩ := hs
    exact fin J rv q
  | next =>
    obtain ⟨σ', H', J, q⟩ := hs
    exact fin (v := V.non) (u := Value.none) J rfl q
  | brk =>
    obtain ⟨_, _, _, q⟩ := hs
    exact False.elim q
  | cont =>
    obtain ⟨_, _, _, q⟩ := hs
    exact False.elim q
/-- THE RULE for a def -/
theorem okD {x qual : Str} {st : Stmt} {f : Addr} {fd : FuncData} {N ps : List Str} {k : Nat} {m : M Fl} (Fk : Fun K x qual st f fd) (S : FnScope N ps (defScope st))
    (hb : ∀ (cdv : Value) (A : Around) (outer : List Env) (s : Shared) (H : Hp) (E : XK), RoomG k (A.deeper (PyProof.Rows.envOfC qual (defScope st) s.heap.objs.size f cdv)) →
      ∃ t, DSs (cxOf (L2.CX P w) P w K mg base N qual (defScope st) f cdv A outer s H E) (fun c d _ H => E c d H) (defBody st) t m) :
    FnG P w K mg base (k + 1) f fd ps (spD K mg ps.length (fnOf N.length m)) := by
  refine fnG_of Fk S (fun vs H Q E h => ?_) (fun cdv A outer s H vs Q E hr h => ?_)
  · obtain ⟨io, F, ds, hp, r, h1, h2, h3, _⟩ := h
    rw [reps_len h2]
    exact h3
  · obtain ⟨t, hd⟩ := hb cdv A outer s H E hr
    obtain ⟨io, F, ds, hp, r, h1, h2, h3, h4, h5⟩ := h
    refine ⟨t, hd.p, ?_⟩
    have R0 := Rel.start (N := N) h1 h2
    unfold fnOf at h4
    split at h4
    · rename_i s1 e
      cases h4
      exact hd.s _ io F H _ _ _ _ R0 e trivial fun f s2 e2 io2 F2 H2 σ2 l2 R2 => by
        cases e2
        exact h5 .non io2 F2 H2 R2.stpd rfl
    · rename_i d s1 e
      cases h4
      exact hd.s _ io F H _ _ _ _ R0 e trivial fun f s2 e2 io2 F2 H2 σ2 l2 R2 => by
        cases e2
        exact fun v rv => h5 v io2 F2 H2 R2.stpd rv
    · rename_i x s1 e
      cases h4
      exact hd.s _ io F H _ _ _ _ R0 e (fun cls dd io2 F2 H2 σ2 l2 R2 xr => h5 cls dd io2 F2 H2 R2.stpd xr) fun f s2 e2 => by cases e2
    · cases h4
theorem okD_imp {f : Addr} {fd : FuncData} {ps : List Str} {k np : Nat} {n n' : Fn} (Fk : FnG P w K mg base k f fd ps (spD K mg np n)) (h : ∀ ds hp r, ds.length = np → n' ds hp = some r → n ds hp = some r) :
    FnG P w K mg base k f fd ps (spD K mg np n') := Fk.imp (spD_imp h)
end
end Z
/-! Z6: comprehensions; lists that a slot alone knows -/
namespace Z
open PySem L2
open Classical

/-! ### an object beside the relation -/
section
variable {K : PySem.W.Frag} {en : Ent} {io io' : List Addr} {F F' H H' : Hp} {σ : St} {s : A} {p : Addr}
abbrev Ent.wi (en : Ent) (p : Addr) (o : HO) : Ent := ⟨upd en.H p o, en.F, en.io⟩
theorem Rel.enH (R : Rel K en io F H σ s) (h : H p = none) : en.H p = none := by
  cases q : en.H p with
  | none => rfl
  | some u => exact absurd h (R.k.liv p (by rw [q]; exact fun z => nomatch z))
theorem Rel.notio (R : Rel K en io F H σ s) (h : H p = none) : p ∉ io := fun hm => by
  obtain ⟨j, o', _, _, c'⟩ := R.h.mem hm
  exact c'.live h
theorem Rel.sideNew (R : Rel K en io F H σ s) (hp : H p = none) (o : HO) : Rel K (en.wi p o) io F (upd H p o) σ s := by
  have R1 := R.junk hp o
  have e0 := R.enH hp
  have hn := R.notio hp
  have hF := R.h.ex.none_of hp
  refine ⟨R1.h, ⟨R1.k.pre, fun i a e hl => ?_, fun b u e hb => ?_, fun b hb => ?_, fun b hb => ?_, R1.k.ex⟩, R1.len, R1.val, fun i u e => ?_, R1.sep⟩
  · have : a ≠ p := fun z => by
      subst z
      exact hn (List.mem_of_getElem? e)
    show upd en.H p o a = none
    rw [upd_ne this]
    exact R1.k.new i a e hl
  · by_cases z : b = p
    · subst z
      have e' : upd en.H b o b = some u := e
      rw [upd_same] at e'
      cases e'
      exact upd_same
    · have e' : upd en.H p o b = some u := e
      rw [upd_ne z] at e'
      exact R1.k.frm b u e' hb
  · by_cases z : b = p
    · subst z
      rw [upd_same]
      exact fun z => nomatch z
    · have hb' : upd en.H p o b ≠ none := hb
      rw [upd_ne z] at hb'
      exact R1.k.liv b hb'
  · by_cases z : b = p
    · subst z
      show F b = en.F b
      rw [hF, R.k.ex.none_of hF]
    · have hb' : upd en.H p o b ≠ none := hb
      rw [upd_ne z] at hb'
      exact R1.k.grow b hb'
  · obtain ⟨q, e1, c, h1, h2⟩ := R1.own i u e
    refine ⟨q, e1, c, h1, ?_⟩
    have : q ≠ p := fun z => by
      subst z
      obtain ⟨q', e1', c', _, _⟩ := R.own i u e
      rw [e1] at e1'
      cases e1'
      exact c'.live hp
    show upd en.H p o q = none
    rw [upd_ne this]
    exact h2
theorem Rel.sideAt {o : HO} (R : Rel K (en.wi p o) io F H σ s) (hio : p ∉ en.io) : H p = some o := R.k.frm p o upd_same hio
theorem Rel.sideio {o : HO} (R : Rel K (en.wi p o) io F H σ s) (hio : p ∉ en.io) : p ∉ io := fun hm => by
  obtain ⟨i, hi⟩ := List.getElem?_of_mem hm
  by_cases hl : en.io.length ≤ i
  · have := R.k.new i p hi hl
    have e' : upd en.H p o p = none := this
    rw [upd_same] at e'
    cases e'
  · have hl' : i < en.io.length := by omega
    have e2 := R.k.pre i en.io[i] (List.getElem?_eq_getElem hl')
    rw [hi] at e2
    cases e2
    exact hio (List.getElem_mem hl')
theorem Rel.sideF {o : HO} (R : Rel K (en.wi p o) io F H σ s) (hF : en.F p = none) : F p = none := by
  have := R.k.grow p (by show upd en.H p o p ≠ none; rw [upd_same]; exact fun z => nomatch z)
  exact this.trans hF
theorem Rel.sideOwn {o : HO} (R : Rel K (en.wi p o) io F H σ s) {i : Nat} {u : AO} {q : Addr} (e : s.sl[i]? = some (some (.own u))) (e1 : σ[i]? = some (some (.ref q))) : q ≠ p := fun z => by
  subst z
  obtain ⟨q', e1', c', _, h⟩ := R.own i u e
  rw [e1] at e1'
  cases e1'
  have h' : upd en.H q o q = none := h
  rw [upd_same] at h'
  cases h'
theorem Rel.sideChg {o : HO} (R : Rel K (en.wi p o) io F H σ s) (hio : p ∉ en.io) (hF : en.F p = none) (o' : HO) : Rel K (en.wi p o') io F (upd H p o') σ s := by
  have pio := R.sideio hio
  have pF := R.sideF hF
  refine ⟨⟨fun b u e => ?_, R.h.len, R.h.nd, fun j b u h1 h2 => ?_⟩, ⟨R.k.pre, fun i a e hl => ?_, fun b u e hb => ?_, fun b hb => ?_, fun b hb => ?_, R.k.ex⟩, R.len, R.val, fun i u e => ?_, R.sep⟩
  · rw [upd_ne (fun z => by subst z; rw [pF] at e; cases e)]
    exact R.h.ex b u e
  · have hb : b ≠ p := fun z => by
      subst z
      exact pio (List.mem_of_getElem? h1)
    exact (R.h.ids j b u h1 h2).le (Le.refl io F) id fun w hw => by rw [upd_ne hb]; exact hw
  · have : a ≠ p := fun z => by
      subst z
      exact pio (List.mem_of_getElem? e)
    have h := R.k.new i a e hl
    have h' : upd en.H p o a = none := h
    rw [upd_ne this] at h'
    show upd en.H p o' a = none
    rw [upd_ne this]
    exact h'
  · by_cases z : b = p
    · subst z
      have e' : upd en.H b o' b = some u := e
      rw [upd_same] at e' ⊢
      exact e'
    · have e' : upd en.H p o' b = some u := e
      rw [upd_ne z] at e' ⊢
      exact R.k.frm b u (by show upd en.H p o b = some u; rw [upd_ne z]; exact e') hb
  · by_cases z : b = p
    · subst z
      rw [upd_same]
      exact fun z => nomatch z
    · have e' : upd en.H p o' b ≠ none := hb
      rw [upd_ne z] at e' ⊢
      exact R.k.liv b (by show upd en.H p o b ≠ none; rw [upd_ne z]; exact e')
  · by_cases z : b = p
    · subst z
      rw [pF]
      exact hF.symm
    · have e' : upd en.H p o' b ≠ none := hb
      rw [upd_ne z] at e'
      exact R.k.grow b (by show upd en.H p o b ≠ none; rw [upd_ne z]; exact e')
  · obtain ⟨q, e1, c, h1, h2⟩ := R.own i u e
    have hq := R.sideOwn e e1
    have h2' : upd en.H p o q = none := h2
    rw [upd_ne hq] at h2'
    refine ⟨q, e1, c.le (Le.refl io F) id fun w hw => by rw [upd_ne hq]; exact hw, h1, ?_⟩
    show upd en.H p o' q = none
    rw [upd_ne hq]
    exact h2'
theorem Rel.sideEnd {xs : List V} {ds : List D} (R : Rel K (en.wi p (.lst xs)) io F H σ s) (hio : p ∉ en.io) (hF : en.F p = none) (hH : en.H p = none) (r : reps K io F ds xs) :
    Rel K en io (upd F p (.lst xs)) H σ s ∧ Le io F io (upd F p (.lst xs)) ∧ rep K io (upd F p (.lst xs)) (.lst ds) (.ref p) := by
  have pio := R.sideio hio
  have pF := R.sideF hF
  have l : Le io F io (upd F p (.lst xs)) := ⟨fun _ _ h => h, Ex.new pF⟩
  refine ⟨⟨⟨fun b u e => ?_, R.h.len, R.h.nd, fun j b u h1 h2 => ?_⟩, ⟨R.k.pre, fun i a e hl => ?_, fun b u e hb => ?_, fun b hb => ?_, fun b hb => ?_, R.k.ex.trans l.ex⟩, R.len, fun i d e => ?_, fun i u e => ?_, R.sep⟩, l, ⟨p, xs, rfl, upd_same, reps_le l _ _ r⟩⟩
  · by_cases z : b = p
    · subst z
      rw [upd_same] at e
      cases e
      exact R.sideAt hio
    · rw [upd_ne z] at e
      exact R.h.ex b u e
  · have hb : b ≠ p := fun z => by
      subst z
      exact pio (List.mem_of_getElem? h1)
    exact (R.h.ids j b u h1 h2).le l (fun z => by rw [upd_ne hb]; exact z) fun w hw => hw
  · have h := R.k.new i a e hl
    have : a ≠ p := fun z => by
      subst z
      exact pio (List.mem_of_getElem? e)
    have h' : upd en.H p (.lst xs) a = none := h
    rw [upd_ne this] at h'
    exact h'
  · have : b ≠ p := fun z => by
      subst z
      rw [hH] at e
      cases e
    exact R.k.frm b u (by show upd en.H p (.lst xs) b = some u; rw [upd_ne this]; exact e) hb
  · have : b ≠ p := fun z => by
      subst z
      exact hb hH
    exact R.k.liv b (by show upd en.H p (.lst xs) b ≠ none; rw [upd_ne this]; exact hb)
  · have : b ≠ p := fun z => by
      subst z
      exact hb hH
    rw [upd_ne this]
    exact R.k.grow b (by show upd en.H p (.lst xs) b ≠ none; rw [upd_ne this]; exact hb)
  · obtain ⟨v, e1, r1⟩ := R.val i d e
    exact ⟨v, e1, rep_le l _ _ r1⟩
  · obtain ⟨q, e1, c, h1, h2⟩ := R.own i u e
    have hq := R.sideOwn e e1
    have h2' : upd en.H p (.lst xs) q = none := h2
    rw [upd_ne hq] at h2'
    exact ⟨q, e1, c.le l (fun z => by rw [upd_ne hq]; exact z) fun w hw => hw, h1, h2'⟩
end

/-! ### comprehensions -/
def wipeL (l : List (Option SV)) : List Nat → List (Option SV)
  | [] => l
  | v :: vs => (wipeL l vs).set v none
def wipeA (s : A) (vs : List Nat) : A := { s with sl := wipeL s.sl vs }
theorem Rel.wipe {K : PySem.W.Frag} {en : Ent} {io : List Addr} {F H : Hp} {σ : St} {s : A} (R : Rel K en io F H σ s) : ∀ vs : List Nat, Rel K en io F H (L2.wipe σ vs) (wipeA s vs)
  | [] => R
  | v :: vs => (R.wipe vs).forget none
theorem wipeL_none {l : List (Option SV)} {i : Nat} {x : SV} : ∀ {vs : List Nat}, (wipeL l vs)[i]? = some (some x) → l[i]? = some (some x) ∧ i ∉ vs
  | [], h => ⟨h, by simp⟩
  | v :: vs, h => by
    unfold wipeL at h
    by_cases hi : v = i
    · subst hi
      have hl := (List.getElem?_eq_some_iff.mp h).1
      rw [List.length_set] at hl
      rw [List.getElem?_set_self hl] at h
      cases h
    · rw [List.getElem?_set_ne hi] at h
      obtain ⟨a, b⟩ := wipeL_none h
      exact ⟨a, by simp [b, Ne.symm hi]⟩
theorem wipe_get {σ : St} {i : Nat} : ∀ {vs : List Nat}, i ∉ vs → (L2.wipe σ vs)[i]? = σ[i]?
  | [], _ => rfl
  | v :: vs, h => by
    have h1 : i ≠ v := fun z => h (by simp [z])
    have h2 : i ∉ vs := fun z => h (by simp [z])
    unfold L2.wipe
    rw [List.getElem?_set_ne (Ne.symm h1)]
    exact wipe_get h2
/-- back to the slots ahead of the wiping -/
theorem Rel.unwipe {K : PySem.W.Frag} {en : Ent} {io : List Addr} {F H : Hp} {σ : St} {s : A} {vs : List Nat} (R : Rel K en io F H (L2.wipe σ vs) s) (h : ∀ (i : Nat) x, s.sl[i]? = some (some x) → i ∉ vs) : Rel K en io F H σ s := by
  refine ⟨R.h, R.k, by rw [R.len, wipe_length], fun i d e => ?_, fun i o e => ?_, fun i j o o' p h1 h2 e1 e2 => ?_⟩
  · obtain ⟨v, e1, r⟩ := R.val i d e
    rw [wipe_get (h i _ e)] at e1
    exact ⟨v, e1, r⟩
  · obtain ⟨v, e1, r⟩ := R.own i o e
    rw [wipe_get (h i _ e)] at e1
    exact ⟨v, e1, r⟩
  · exact R.sep i j o o' p h1 h2 (by rw [wipe_get (h i _ h1)]; exact e1) (by rw [wipe_get (h j _ h2)]; exact e2)
/-- no exception -/
def bndN {α β : Type} (m : M α) (k : α → M β) : M β := fun s => match m s with
  | some (.ok a s') => k a s'
  | _ => none
theorem bndN_some {α β : Type} {m : M α} {k : α → M β} {s : A} {o : O β} (e : bndN m k s = some o) : ∃ a s', m s = some (.ok a s') ∧ k a s' = some o := by
  unfold bndN at e
  split at e
  · exact ⟨_, _, by assumption, e⟩
  · cases e
abbrev W0 : WX := fun _ _ _ _ => False
/-- the target stores the block's own names alone -/
def GKeep (g : TG) (vs : List Nat) : Prop := ∀ v σ H Q, g v σ H Q → g v σ H (fun σ' H' => L2.wipe σ' vs = L2.wipe σ vs ∧ Q σ' H')
def GKeeps (g : TGs) (vs : List Nat) : Prop := ∀ v σ H Q, g v σ H Q → g v σ H (fun σ' H' => L2.wipe σ' vs = L2.wipe σ vs ∧ Q σ' H')
theorem wipe_set {σ : St} {i : Nat} {x : Option V} : ∀ {vs : List Nat}, i ∈ vs → L2.wipe (σ.set i x) vs = L2.wipe σ vs
  | v :: vs, h => by
    unfold L2.wipe
    by_cases hi : i ∈ vs
    · rw [wipe_set hi]
    · have hv : i = v := by simpa [hi] using h
      subst hv
      have : ∀ (us : List Nat) (τ : St), i ∉ us → L2.wipe (τ.set i x) us = (L2.wipe τ us).set i x := fun us => by
        induction us with
        | nil => intro τ _; rfl
        | cons u us ih =>
          intro τ hu
          have h1 : i ≠ u := fun z => hu (by simp [z])
          have h2 : i ∉ us := fun z => hu (by simp [z])
          unfold L2.wipe
          rw [ih τ h2, List.set_comm _ _ h1]
      rw [this vs σ hi, List.set_set]
theorem gk_name {i : Nat} {vs : List Nat} (h : i ∈ vs) : GKeep (gName i) vs := fun v σ H Q q => ⟨wipe_set h, q⟩
theorem gk_nil {vs : List Nat} : GKeeps gNil vs := fun v σ H Q q => ⟨q.1, rfl, q.2⟩
theorem gk_mono {g : TG} {vs : List Nat} (h : GKeep g vs) : GKeep g vs := h
theorem gk_cons {i : Nat} {u : TGs} {vs : List Nat} (h : i ∈ vs) (h2 : GKeeps u vs) : GKeeps (gCons (gName i) u) vs := fun v σ H Q q => by
  obtain ⟨x, r, e, q⟩ := q
  refine ⟨x, r, e, ?_⟩
  have q' := h2 r (σ.set i (some x)) H Q q
  rw [wipe_set h] at q'
  exact q'
theorem gk_tup {K : PySem.W.Frag} {n : Nat} {u : TGs} {vs : List Nat} (h : GKeeps u vs) : GKeep (gTup K n u) vs := fun v σ H Q q => by
  obtain ⟨a, xs, e, h1, h2, q⟩ := q
  exact ⟨a, xs, e, h1, h2, h xs σ H Q q⟩
structure DTs (X : Cx) (W : WX) (ifs : List Expr) (t : TT) (m : M Bool) : Prop where
  p : PTs X ifs t
  s : SemT X.K X.mg W t m
noncomputable def mLcL (g : D → M Unit) (tt : M Bool) (me : M D) (vs : List Nat) : List D → List D → M D
  | [], acc => fun s => some (.ok (.lst acc) s)
  | d :: l, acc => bndN (g d) fun _ => bndN tt fun b => if b = true then bndN me fun y s' => if acc.length < sizeLine then mLcL g tt me vs l (acc ++ [y]) (wipeA s' vs) else none
      else fun s' => mLcL g tt me vs l acc (wipeA s' vs)
noncomputable def mLc (mi : M (List D)) (g : D → M Unit) (tt : M Bool) (me : M D) (vs : List Nat) : M D := bnd mi fun ds s => mLcL g tt me vs ds [] (wipeA s vs)
section
variable {X : Cx} {W : WX} {pos : Pos} {K : PySem.W.Frag} {mg : Str → Option Value} {tg a b c e elt iter : Expr} {es ifs : List Expr} {ta tb tc te : TE} {ma mb mc me : M D} {tA tB' : TT} {mA mB : M Bool} {tl : TA} {ml : M (List D)} {g : TG} {gm : D → M Unit} {w : TI} {mi : M (List D)} {vs : List Nat}
/-- a comprehension: its list stands aside -/
theorem sem_lcS (hi : SemI K mg W w mi) (hg : SemG K mg W0 g gm) (hk : GKeep g vs) (ht : SemT K mg W0 tA mA) (he : SemE K mg W0 te me) (en : Ent) (io : List Addr) (F H : Hp) (σ : St) (s : A) (o : O D) (Q : VK) (R : Rel K en io F H σ s) (e : mLc mi gm mA me vs s = some o) (hx : PostX K mg W en io F o)
    (hq : ∀ (dn : List D) (s2 : A), o = .ok (.lst dn) s2 → ∀ (Dd : Addr) (acc : List V) (io' : List Addr) (F' H' : Hp), Le io F io' F' → Rel K (en.wi Dd (.lst acc)) io' F' H' σ s2 → Dd ∉ en.io → en.F Dd = none → en.H Dd = none → reps K io' F' dn acc → Q (.ref Dd) H') : tLc w g tA te vs σ H Q := by
  refine hi.step R e hx fun ds s1 J io1 F1 H1 l1 R1 wk e1 hx1 => ?_
  intro Dd hD
  have e0 := R1.enH hD
  have eF : en.F Dd = none := R1.k.ex.none_of (R1.h.ex.none_of hD)
  have eio : Dd ∉ en.io := fun hm => by
    obtain ⟨i, hi⟩ := List.getElem?_of_mem hm
    exact R1.notio hD (List.mem_of_getElem? (R1.k.pre i Dd hi))
  refine ⟨fun i k H => k = ds.length - i ∧ i ≤ ds.length ∧ ∃ io' F' s' acc dn, Le io1 F1 io' F' ∧ Rel K (en.wi Dd (.lst acc)) io' F' H (L2.wipe σ vs) s' ∧ reps K io' F' dn acc ∧ mLcL gm mA me vs (ds.drop i) dn s' = some o ∧ ∀ (j : Nat) x, s'.sl[j]? = some (some x) → j ∉ vs,
    ⟨_, rfl, Nat.zero_le _, io1, F1, _, [], [], Le.refl _ _, (R1.wipe vs).sideNew hD _, rfl, e1, fun j x h => (wipeL_none h).2⟩, ?_⟩
  rintro i k H2 ⟨rfl, hil, io2, F2, s2, acc, dn, l2, R2, ra, e2, hv⟩
  have hw := wk i _ io2 F2 H2 _ s2 l2 R2
  by_cases hlt : i < ds.length
  · obtain ⟨go, yl⟩ := hw.1 ds[i] (List.getElem?_eq_getElem hlt)
    refine .inr ⟨go, fun H' => ∃ io' F' s' acc dn, Le io1 F1 io' F' ∧ Rel K (en.wi Dd (.lst acc)) io' F' H' (L2.wipe σ vs) s' ∧ reps K io' F' dn acc ∧ mLcL gm mA me vs (ds.drop (i + 1)) dn s' = some o ∧ ∀ (j : Nat) x, s'.sl[j]? = some (some x) → j ∉ vs,
      fun H' h => ⟨ds.length - (i + 1), by omega, rfl, hlt, h⟩, fun x H3 hy => ?_⟩
    obtain ⟨F3, l3, R3, r3⟩ := yl x H3 hy
    rw [List.drop_eq_getElem_cons hlt] at e2
    obtain ⟨u, s4, g1, g2⟩ := bndN_some e2
    have hw2 : L2.wipe (L2.wipe σ vs) vs = L2.wipe σ vs := by
      have : ∀ (us : List Nat) (τ : St), (∀ v ∈ us, v ∈ vs) → L2.wipe (L2.wipe τ us) vs = L2.wipe τ vs := fun us => by
        induction us with
        | nil => intro τ _; rfl
        | cons u us ih =>
          intro τ h
          show L2.wipe ((L2.wipe τ us).set u none) vs = _
          rw [wipe_set (h u (by simp)), ih τ fun v hv => h v (by simp [hv])]
      exact this vs σ fun v h => h
    have step := hg _ io2 F3 H3 _ s2 _ x _ (fun σ2 H4 => L2.wipe σ2 vs = L2.wipe σ vs → tA σ2 H4 fun b H5 => if b = true then te σ2 H5 fun y H6 => ∃ acc, H6 Dd = some (.lst acc) ∧ acc.length < sizeLine ∧ ∃ io' F' s' acc' dn, Le io1 F1 io' F' ∧ Rel K (en.wi Dd (.lst acc')) io' F' (upd H6 Dd (.lst (acc ++ [y]))) (L2.wipe σ vs) s' ∧ reps K io' F' dn acc' ∧ mLcL gm mA me vs (ds.drop (i + 1)) dn s' = some o ∧ ∀ (j : Nat) x, s'.sl[j]? = some (some x) → j ∉ vs
        else ∃ io' F' s' acc dn, Le io1 F1 io' F' ∧ Rel K (en.wi Dd (.lst acc)) io' F' H5 (L2.wipe σ vs) s' ∧ reps K io' F' dn acc ∧ mLcL gm mA me vs (ds.drop (i + 1)) dn s' = some o ∧ ∀ (j : Nat) x, s'.sl[j]? = some (some x) → j ∉ vs) R3 r3 g1 trivial fun u s5 e5 io5 F5 H5 σ5 l5 R5 hw5 => by
      cases e5
      obtain ⟨b, s6, g3, g4⟩ := bndN_some g2
      refine ht _ io5 F5 H5 σ5 s4 _ _ R5 g3 trivial fun b' s7 e7 io7 F7 H7 l7 R7 => ?_
      cases e7
      cases b with
      | true =>
        rw [if_pos rfl]
        have g4' : bndN me (fun y s' => if dn.length < sizeLine then mLcL gm mA me vs (ds.drop (i + 1)) (dn ++ [y]) (wipeA s' vs) else none) s6 = some o := g4
        obtain ⟨y, s8, g5, g6⟩ := bndN_some g4'
        refine he _ io7 F7 H7 σ5 s6 _ _ R7 g5 trivial fun y' s9 e9 yv io9 F9 H9 l9 R9 r9 => ?_
        cases e9
        have lall := ((l3.trans l5).trans l7).trans l9
        have hH := R9.sideAt eio
        by_cases hz : dn.length < sizeLine
        · have g6' : mLcL gm mA me vs (ds.drop (i + 1)) (dn ++ [y]) (wipeA s8 vs) = some o := by rw [← g6]; exact (if_pos hz).symm
          refine ⟨acc, hH, by rw [reps_len ra]; exact hz, io9, F9, _, acc ++ [yv], dn ++ [y], l2.trans lall, ?_, reps_app (reps_le lall _ _ ra) (reps_one r9), g6', fun j x h => (wipeL_none h).2⟩
          have := (R9.wipe vs).sideChg eio eF (.lst (acc ++ [yv]))
          rw [hw5] at this
          exact this
        · have g6' : none = some o := by rw [← g6]; exact (if_neg hz).symm
          cases g6'
      | false =>
        rw [if_neg Bool.false_ne_true]
        have lall := (l3.trans l5).trans l7
        refine ⟨io7, F7, _, acc, dn, l2.trans lall, ?_, reps_le lall _ _ ra, g4, fun j x h => (wipeL_none h).2⟩
        have := R7.wipe vs
        rw [hw5] at this
        exact this
    have step2 := hk x _ H3 _ step
    have mono : ∀ (σ2 : St) (H4 : Hp), (L2.wipe σ2 vs = L2.wipe (L2.wipe σ vs) vs ∧ (L2.wipe σ2 vs = L2.wipe σ vs → tA σ2 H4 fun b H5 => if b = true then te σ2 H5 fun y H6 => ∃ acc, H6 Dd = some (.lst acc) ∧ acc.length < sizeLine ∧ ∃ io' F' s' acc' dn, Le io1 F1 io' F' ∧ Rel K (en.wi Dd (.lst acc')) io' F' (upd H6 Dd (.lst (acc ++ [y]))) (L2.wipe σ vs) s' ∧ reps K io' F' dn acc' ∧ mLcL gm mA me vs (ds.drop (i + 1)) dn s' = some o ∧ ∀ (j : Nat) x, s'.sl[j]? = some (some x) → j ∉ vs
        else ∃ io' F' s' acc dn, Le io1 F1 io' F' ∧ Rel K (en.wi Dd (.lst acc)) io' F' H5 (L2.wipe σ vs) s' ∧ reps K io' F' dn acc ∧ mLcL gm mA me vs (ds.drop (i + 1)) dn s' = some o ∧ ∀ (j : Nat) x, s'.sl[j]? = some (some x) → j ∉ vs)) →
        (L2.wipe σ2 vs = L2.wipe σ vs ∧ tA σ2 H4 fun b H5 => if b = true then te σ2 H5 fun y H6 => ∃ acc, H6 Dd = some (.lst acc) ∧ acc.length < sizeLine ∧ ∃ io' F' s' acc' dn, Le io1 F1 io' F' ∧ Rel K (en.wi Dd (.lst acc')) io' F' (upd H6 Dd (.lst (acc ++ [y]))) (L2.wipe σ vs) s' ∧ reps K io' F' dn acc' ∧ mLcL gm mA me vs (ds.drop (i + 1)) dn s' = some o ∧ ∀ (j : Nat) x, s'.sl[j]? = some (some x) → j ∉ vs
        else ∃ io' F' s' acc dn, Le io1 F1 io' F' ∧ Rel K (en.wi Dd (.lst acc)) io' F' H5 (L2.wipe σ vs) s' ∧ reps K io' F' dn acc ∧ mLcL gm mA me vs (ds.drop (i + 1)) dn s' = some o ∧ ∀ (j : Nat) x, s'.sl[j]? = some (some x) → j ∉ vs) := fun σ2 H4 ⟨h1, h2⟩ => by
      rw [hw2] at h1
      exact ⟨h1, h2 h1⟩
    have : (fun σ2 H4 => L2.wipe σ2 vs = L2.wipe (L2.wipe σ vs) vs ∧ (L2.wipe σ2 vs = L2.wipe σ vs → tA σ2 H4 fun b H5 => if b = true then te σ2 H5 fun y H6 => ∃ acc, H6 Dd = some (.lst acc) ∧ acc.length < sizeLine ∧ ∃ io' F' s' acc' dn, Le io1 F1 io' F' ∧ Rel K (en.wi Dd (.lst acc')) io' F' (upd H6 Dd (.lst (acc ++ [y]))) (L2.wipe σ vs) s' ∧ reps K io' F' dn acc' ∧ mLcL gm mA me vs (ds.drop (i + 1)) dn s' = some o ∧ ∀ (j : Nat) x, s'.sl[j]? = some (some x) → j ∉ vs
        else ∃ io' F' s' acc dn, Le io1 F1 io' F' ∧ Rel K (en.wi Dd (.lst acc)) io' F' H5 (L2.wipe σ vs) s' ∧ reps K io' F' dn acc ∧ mLcL gm mA me vs (ds.drop (i + 1)) dn s' = some o ∧ ∀ (j : Nat) x, s'.sl[j]? = some (some x) → j ∉ vs)) =
        (fun σ2 H4 => L2.wipe σ2 vs = L2.wipe σ vs ∧ tA σ2 H4 fun b H5 => if b = true then te σ2 H5 fun y H6 => ∃ acc, H6 Dd = some (.lst acc) ∧ acc.length < sizeLine ∧ ∃ io' F' s' acc' dn, Le io1 F1 io' F' ∧ Rel K (en.wi Dd (.lst acc')) io' F' (upd H6 Dd (.lst (acc ++ [y]))) (L2.wipe σ vs) s' ∧ reps K io' F' dn acc' ∧ mLcL gm mA me vs (ds.drop (i + 1)) dn s' = some o ∧ ∀ (j : Nat) x, s'.sl[j]? = some (some x) → j ∉ vs
        else ∃ io' F' s' acc dn, Le io1 F1 io' F' ∧ Rel K (en.wi Dd (.lst acc)) io' F' H5 (L2.wipe σ vs) s' ∧ reps K io' F' dn acc ∧ mLcL gm mA me vs (ds.drop (i + 1)) dn s' = some o ∧ ∀ (j : Nat) x, s'.sl[j]? = some (some x) → j ∉ vs) := by
      funext σ2 H4
      refine propext ⟨mono σ2 H4, fun ⟨h1, h2⟩ => ⟨by rw [hw2]; exact h1, fun _ => h2⟩⟩
    rw [this] at step2
    exact step2
  · have hi' : i = ds.length := by omega
    rw [hi', List.drop_length] at e2
    cases e2
    exact .inl ⟨hw.2 hi', hq _ _ rfl Dd acc io2 F2 H2 (l1.trans l2) (R2.unwipe hv) eio eF e0 ra⟩
theorem sem_lc (hi : SemI K mg W w mi) (hg : SemG K mg W0 g gm) (hk : GKeep g vs) (ht : SemT K mg W0 tA mA) (he : SemE K mg W0 te me) : SemE K mg W (tLc w g tA te vs) (mLc mi gm mA me vs) := by
  intro en io F H σ s o Q R e hx hq
  refine sem_lcS hi hg hk ht he en io F H σ s o Q R e hx fun dn s2 eo Dd acc io' F' H' l2 R2 eio eF e0 ra => ?_
  obtain ⟨R3, l3, r3⟩ := R2.sideEnd eio eF e0 ra
  exact hq _ _ eo _ io' _ H' (l2.trans l3) R3 r3
theorem de_lc {scope : Scope} (own : List (Str × Nat)) (hc : X.calm = true) (hN : X.N.Nodup) (hi : DI X W tg iter w mi) (ok : BlkOk X.N X.env.scope scope own)
    (hg : ∀ (s : Shared) (H : Hp) (C : Addr) (cl : List (Str × Addr)) (fp : List Addr), DG (X.blk s H scope (compEnvC scope cl C X.env) fp) W0 tg g gm) (hk : GKeep g (own.map (·.2)))
    (ht : ∀ (s : Shared) (H : Hp) (C : Addr) (cl : List (Str × Addr)) (fp : List Addr), DTs (X.blk s H scope (compEnvC scope cl C X.env) fp) W0 ifs tA mA)
    (he : ∀ (s : Shared) (H : Hp) (C : Addr) (cl : List (Str × Addr)) (fp : List Addr), DE (X.blk s H scope (compEnvC scope cl C X.env) fp) W0 elt te me) (hs : ∀ x, foldedSetIterable iter X.env x = pure x := by intro _; rfl) :
    DE X W (.ListComp elt [⟨tg, iter, ifs, 0⟩] scope pos) (tLc w g tA te (own.map (·.2))) (mLc mi gm mA me (own.map (·.2))) :=
  ⟨pe_lc hc hN hi.p ok (fun s H C cl fp => (hg s H C cl fp).p) (fun s H C cl fp => (ht s H C cl fp).p) (fun s H C cl fp => (he s H C cl fp).p) hs,
   sem_lc hi.s (hg X.s_0 (fun _ => none) 0 [] []).s hk (ht X.s_0 (fun _ => none) 0 [] []).s (he X.s_0 (fun _ => none) 0 [] []).s⟩
theorem dts_nil : DTs X W [] tYes (ret true) := ⟨pts_nil, by
  intro en io F H σ s o Q R e hx hq
  cases e
  exact hq _ _ rfl io F H (Le.refl _ _) R⟩
theorem dts_one (h : DT X W c tA mA) : DTs X W [c] tA mA := ⟨pts_one h.p, h.s⟩
/-- name = [..] -/
theorem ds_setLc {scope : Scope} {y : Str} {py spos : Pos} (i : Nat) (own : List (Str × Nat)) (hc : X.calm = true) (hN : X.N.Nodup) (hsw : swapsWith (.ListComp elt [⟨tg, iter, ifs, 0⟩] scope pos) (some (.Name y py)) spos.line X.env = pure true) (hi : DI X W tg iter w mi) (ok : BlkOk X.N X.env.scope scope own)
    (hg : ∀ (s : Shared) (H : Hp) (C : Addr) (cl : List (Str × Addr)) (fp : List Addr), DG (X.blk s H scope (compEnvC scope cl C X.env) fp) W0 tg g gm) (hk : GKeep g (own.map (·.2)))
    (ht : ∀ (s : Shared) (H : Hp) (C : Addr) (cl : List (Str × Addr)) (fp : List Addr), DTs (X.blk s H scope (compEnvC scope cl C X.env) fp) W0 ifs tA mA)
    (he : ∀ (s : Shared) (H : Hp) (C : Addr) (cl : List (Str × Addr)) (fp : List Addr), DE (X.blk s H scope (compEnvC scope cl C X.env) fp) W0 elt te me)
    (hy : X.N[i]? = some y := by rfl) (hyl : X.env.scope.names.lookup y = some .local := by rfl) (hs : ∀ x, foldedSetIterable iter X.env x = pure x := by intro _; rfl) :
    DS X W (.Assign [.Name y py] (.ListComp elt [⟨tg, iter, ifs, 0⟩] scope pos) spos) (tAsg (tLc w g tA te (own.map (·.2))) (gName i)) (mAsg (mLc mi gm mA me (own.map (·.2))) (gV i)) :=
  ⟨ps_setLc hc hN hy hyl hsw hi.p ok (fun s H C cl fp => (hg s H C cl fp).p) (fun s H C cl fp => (ht s H C cl fp).p) (fun s H C cl fp => (he s H C cl fp).p) hs, by
    intro en io F H σ s o E R e hx hq
    refine (sem_lc hi.s (hg X.s_0 (fun _ => none) 0 [] []).s hk (ht X.s_0 (fun _ => none) 0 [] []).s (he X.s_0 (fun _ => none) 0 [] []).s).step R e hx fun d s1 v io1 F1 H1 l1 R1 r1 e1 hx1 => ?_
    cases e1
    exact hq _ _ rfl io1 F1 H1 _ l1 (R1.setv r1)⟩
end

/-! ### lists that one slot knows -/
def getO (s : A) (i : Nat) : Option (List D) := match s.sl[i]? with
  | some (some (.own (.lst l))) => some l
  | _ => none
def setO (s : A) (i : Nat) (l : List D) : A := { s with sl := s.sl.set i (some (.own (.lst l))) }
section
variable {X : Cx} {W : WX} {pos : Pos} {K : PySem.W.Frag} {mg : Str → Option Value} {tg a b c e elt iter : Expr} {es ifs : List Expr} {ta tb tc te : TE} {ma mb mc me : M D} {tA tB' : TT} {mA mB : M Bool} {tl : TA} {ml : M (List D)} {en : Ent} {io : List Addr} {F H : Hp} {σ : St} {s : A}
theorem Rel.getO (R : Rel K en io F H σ s) {i : Nat} {l : List D} (h : getO s i = some l) : s.sl[i]? = some (some (.own (.lst l))) ∧ ∃ p xs, σ[i]? = some (some (.ref p)) ∧ F p = none ∧ H p = some (.lst xs) ∧ reps K io F l xs := by
  unfold Z.getO at h
  split at h
  · rename_i l' h'
    cases h
    obtain ⟨p, e1, ⟨hF, xs, hH, r⟩, _⟩ := R.own i _ h'
    exact ⟨h', p, xs, e1, hF, hH, r⟩
  · cases h
theorem Rel.setO (R : Rel K en io F H σ s) {i : Nat} {l l' : List D} {p : Addr} {ys : List V} (h : Z.getO s i = some l) (hσ : σ[i]? = some (some (.ref p))) (hF : F p = none) (r : reps K io F l' ys) : Rel K en io F (upd H p (.lst ys)) σ (setO s i l') :=
  R.put (R.getO h).1 hσ hF ⟨hF, ys, upd_same, r⟩
/-- the slot's address is the same behind a step of expressions -/
theorem Rel.sameO {io' : List Addr} {F' H' : Hp} {s' : A} (R : Rel K en io F H σ s) (R' : Rel K en io' F' H' σ s') {i : Nat} {l l' : List D} (h : Z.getO s i = some l) (h' : Z.getO s' i = some l') :
    ∃ p xs, σ[i]? = some (some (.ref p)) ∧ F' p = none ∧ H' p = some (.lst xs) ∧ reps K io' F' l' xs := by
  obtain ⟨_, p, xs, e1, hF, hH, r⟩ := R'.getO h'
  exact ⟨p, xs, e1, hF, hH, r⟩
/-- x = [..], the slot's own -/
def mSetO (i : Nat) (m : M (List D)) : M Fl := bnd m fun l s => if l.length ≤ sizeLine then some (.ok .nx (setO s i l)) else none
theorem ds_setO (i : Nat) {x : Str} {pos' lpos : Pos} (hN : X.N.Nodup) (ha : DA X W es tl ml) (hi : X.N[i]? = some x := by rfl) (hx : Loc X.env.scope x := by first | exact Or.inl rfl | exact Or.inr rfl) (hs : swapsWith (.List es lpos) (some (.Name x pos')) pos.line X.env = pure false := by rfl)
    (hf : X.fn x = true ∨ X.env.scope.names.lookup x = some .local := by first | exact .inl rfl | exact .inr rfl | assumption) : DS X W (.Assign [.Name x pos'] (.List es lpos) pos) (tAsg (tLst tl) (gName i)) (mSetO i ml) := ⟨ps_set hN hi hx (pe_lst ha.p) hs hf, by
  intro en io F H σ s o E R e hx hq
  refine ha.s.step R e hx fun d s1 v io1 F1 H1 l1 R1 r1 e1 hx1 => ?_
  by_cases hc : d.length ≤ sizeLine
  · have e2 : some (O.ok Fl.nx (setO s1 i d)) = some o := by rw [← e1]; exact (if_pos hc).symm
    cases e2
    refine ⟨by rw [reps_len r1]; exact hc, fun p hp => ?_⟩
    exact hq _ _ rfl io1 F1 _ _ l1 (R1.seto (o := .lst d) hp ⟨R1.h.ex.none_of hp, v, upd_same, r1⟩)
  · have e2 : none = some o := by rw [← e1]; exact (if_neg hc).symm
    cases e2⟩
/-- x.append(e) -/
def mAppO (i : Nat) (m : M D) : M D := fun s => match getO s i with
  | some _ => bnd m (fun d s' => match getO s' i with
    | some l => if l.length < sizeLine then some (.ok .non (setO s' i (l ++ [d]))) else none
    | none => none) s
  | none => none
theorem de_appO (i : Nat) {x : Str} {npos apos : Pos} (he : DE X W e te me) (hi : X.N[i]? = some x := by rfl) (hv : Vis X.env.scope x := by first | exact Or.inl rfl | exact Or.inr (Or.inl rfl)) (hd : (x == ("__debug__" : Str)) = false := by decide) (hcd : (x == ("__classdict__" : Str)) = false := by decide)
    (hbase : attributeBase (.Name x npos) "append" X.env (eval (.Name x npos) X.env) = eval (.Name x npos) X.env := by rfl) (hline : (apos.endLine == pos.line) = true := by rfl)
    (hfew : ((backTo pos (starEach [e] X.env)).all (fun x => !x.1) && (backToKw pos (keywordEach [] X.env)).all (fun x => x.1.isSome)
      && decide (([e] : List Expr).length + ([] : List Keyword).length + (if ([] : List Keyword).isEmpty then 0 else 1) < 30)) = true := by rfl)
    (hs : starEach [e] X.env = (false, eval e X.env) :: starEach [] X.env := by rfl) (hpl : (backTo pos (starEach [] X.env)).any (·.1) = false := by rfl) :
    DE X W (.Call (.Attribute (.Name x npos) "append" apos) [e] [] pos) (tBM X.K "list" rAppend (tVar i) (tCons te tNil)) (mAppO i me) :=
  ⟨pe_bm PySem.F.plainAttrs_list PySem.F.slot_list_append PySem.F.type_list_append mt_append (pe_var hi hv hd hcd) (pa_cons he.p pa_nil hs) hbase hfew hline hs hpl, by
    intro en io F H σ s o Q R e hx hq
    unfold mAppO at e
    split at e
    · rename_i l hl
      obtain ⟨_, p, xs, e1, hF, hH, r⟩ := R.getO hl
      refine ⟨.ref p, e1, .inl ⟨rfl, xs, .of hH⟩, ?_⟩
      refine he.s.step R e hx fun d s1 v io1 F1 H1 l1 R1 r1 e2 hx1 => ?_
      split at e2
      · rename_i l2 hl2
        obtain ⟨q, ys, e3, hF1, hH1, r2⟩ := R.sameO R1 hl hl2
        rw [e1] at e3
        cases e3
        split at e2
        · rename_i hz
          cases e2
          exact ⟨p, ys, v, rfl, rfl, hH1, by rw [reps_len r2]; exact hz, hq _ _ rfl .non io1 F1 _ l1 (R1.setO hl2 e1 hF1 (reps_app r2 (reps_one r1))) rfl⟩
        · cases e2
      · cases e2
    · cases e⟩
/-- x.extend(e), e a new list -/
def mExtO (i : Nat) (m : M D) : M D := fun s => match getO s i with
  | some _ => bnd m (fun d s' => match d, getO s' i with
    | .lst l', some l => if l.length + l'.length ≤ sizeLine then some (.ok .non (setO s' i (l ++ l'))) else none
    | _, _ => none) s
  | none => none
theorem de_extO (i : Nat) {x : Str} {npos apos : Pos} (he : DE X W e te me) (hi : X.N[i]? = some x := by rfl) (hv : Vis X.env.scope x := by first | exact Or.inl rfl | exact Or.inr (Or.inl rfl)) (hd : (x == ("__debug__" : Str)) = false := by decide) (hcd : (x == ("__classdict__" : Str)) = false := by decide)
    (hbase : attributeBase (.Name x npos) "extend" X.env (eval (.Name x npos) X.env) = eval (.Name x npos) X.env := by rfl) (hline : (apos.endLine == pos.line) = true := by rfl)
    (hfew : ((backTo pos (starEach [e] X.env)).all (fun x => !x.1) && (backToKw pos (keywordEach [] X.env)).all (fun x => x.1.isSome)
      && decide (([e] : List Expr).length + ([] : List Keyword).length + (if ([] : List Keyword).isEmpty then 0 else 1) < 30)) = true := by rfl)
    (hs : starEach [e] X.env = (false, eval e X.env) :: starEach [] X.env := by rfl) (hpl : (backTo pos (starEach [] X.env)).any (·.1) = false := by rfl) :
    DE X W (.Call (.Attribute (.Name x npos) "extend" apos) [e] [] pos) (tBM X.K "list" rExtend (tVar i) (tCons te tNil)) (mExtO i me) :=
  ⟨pe_bm PySem.F.plainAttrs_list PySem.F.slot_list_extend PySem.F.type_list_extend mt_extend (pe_var hi hv hd hcd) (pa_cons he.p pa_nil hs) hbase hfew hline hs hpl, by
    intro en io F H σ s o Q R e hx hq
    unfold mExtO at e
    split at e
    · rename_i l hl
      obtain ⟨_, p, xs, e1, hF, hH, r⟩ := R.getO hl
      refine ⟨.ref p, e1, .inl ⟨rfl, xs, .of hH⟩, ?_⟩
      refine he.s.step R e hx fun d s1 v io1 F1 H1 l1 R1 r1 e2 hx1 => ?_
      split at e2
      · rename_i l' l2 hl2
        obtain ⟨q, ys, e3, hF1, hH1, r2⟩ := R.sameO R1 hl hl2
        rw [e1] at e3
        cases e3
        obtain ⟨q, zs, rfl, hq', rz⟩ := r1
        split at e2
        · rename_i hz
          cases e2
          exact ⟨p, q, ys, zs, rfl, rfl, hH1, R1.h.ex q _ hq', by rw [reps_len r2, reps_len rz]; exact hz, hq _ _ rfl .non io1 F1 _ l1 (R1.setO hl2 e1 hF1 (reps_app r2 rz)) rfl⟩
        · cases e2
      · cases e2
    · cases e⟩
/-- an operation whose first operand is the slot's list -/
def mOwn (i : Nat) (f : List D → D → Option D) (m : M D) : M D := fun s => match getO s i with
  | some _ => bnd m (fun d s' => match getO s' i with
    | some l => match f l d with
      | some z => some (.ok z s')
      | none => none
    | none => none) s
  | none => none
def OwnD (K : PySem.W.Frag) (r : R2) (f : List D → D → Option D) : Prop := ∀ (en : Ent) (io : List Addr) (F H : Hp) (σ : St) (s : A) (p : Addr) (xs : List V) (l : List D) (y : V) (dy d : D) (Q : VK), Rel K en io F H σ s → H p = some (.lst xs) → reps K io F l xs → rep K io F dy y → f l dy = some d →
  (∀ v io' F' H', Le io F io' F' → Rel K en io' F' H' σ s → rep K io' F' d v → Q v H') → r (.ref p) y H Q
theorem sem_own {i : Nat} {r : R2} {f : List D → D → Option D} (hb : SemE K mg W tb mb) (ho : OwnD K r f) : SemE K mg W (tOp r (tVar i) tb) (mOwn i f mb) := by
  intro en io F H σ s o Q R e hx hq
  unfold mOwn at e
  split at e
  · rename_i l hl
    obtain ⟨_, p, xs, e1, hF, hH, r⟩ := R.getO hl
    refine ⟨.ref p, e1, ?_⟩
    refine hb.step R e hx fun d s1 v io1 F1 H1 l1 R1 r1 e2 hx1 => ?_
    split at e2
    · rename_i l2 hl2
      obtain ⟨q, ys, e3, hF1, hH1, r2⟩ := R.sameO R1 hl hl2
      rw [e1] at e3
      cases e3
      split at e2
      · rename_i z hz
        cases e2
        exact ho en io1 F1 H1 σ s1 p ys l2 v d z Q R1 hH1 r2 r1 hz fun w io2 F2 H2 l3 R2 r3 => hq _ _ rfl w io2 F2 H2 (l1.trans l3) R2 r3
      · cases e2
    · cases e2
  · cases e
def ixO (l : List D) : D → Option D
  | .int i => atI l i
  | _ => none
theorem own_ix : OwnD K (rIx K) ixO := fun en io F H σ s p xs l y dy d Q R hH r ry e k => by
  match dy, e with
  | .int i, e =>
    obtain ⟨v, h1, h2⟩ := atI_reps r e
    exact .inl ⟨p, xs, i, v, rfl, ry, .of hH, h1, k _ io F H (Le.refl _ _) R h2⟩
theorem de_ixO (i : Nat) {x : Str} {npos : Pos} (hb : DE X W b tb mb) (hi : X.N[i]? = some x := by rfl) (hv : Vis X.env.scope x := by first | exact Or.inl rfl | exact Or.inr (Or.inl rfl)) (hd : (x == ("__debug__" : Str)) = false := by decide) (hcd : (x == ("__classdict__" : Str)) = false := by decide)
    (hs : PlainIx b := by exact fun _ _ => rfl) : DE X W (.Subscript (.Name x npos) b pos) (tOp (rIx X.K) (tVar i) tb) (mOwn i ixO mb) := ⟨pe_ix ix_seq (pe_var hi hv hd hcd) hb.p hs, sem_own hb.s own_ix⟩
def eqO (l : List D) (d : D) : Option D := eqD (.lst l) d
def neO (l : List D) (d : D) : Option D := neD (.lst l) d
theorem own_dp {io : List Addr} {F H : Hp} {p : Addr} {xs : List V} {l : List D} {q : PyData} (ex : Ex F H) (hH : H p = some (.lst xs)) (r : reps K io F l xs) (h : toP (.lst l) = some q) : Dp K H (.ref p) q := by
  unfold toP at h
  obtain ⟨ps, e1, rfl⟩ := Option.map_eq_some_iff.mp h
  exact .lst (.of hH) (reps_dp ex l xs ps e1 r)
theorem own_eq : OwnD K (rEqD K) eqO := fun en io F H σ s p xs l y dy d Q R hH r ry e k => by
  obtain ⟨b, e1, rfl⟩ := Option.map_eq_some_iff.mp e
  obtain ⟨p', q, h1, h2, h3, h4, rfl⟩ := eqd_some e1
  exact ⟨p', q, own_dp R.h.ex hH r h1, rep_dp R.h.ex _ _ _ h2 ry, h3, h4, k _ io F H (Le.refl _ _) R rfl⟩
theorem own_ne : OwnD K (rNeD K) neO := fun en io F H σ s p xs l y dy d Q R hH r ry e k => by
  obtain ⟨b, e1, rfl⟩ := Option.map_eq_some_iff.mp e
  obtain ⟨p', q, h1, h2, h3, h4, rfl⟩ := eqd_some e1
  exact ⟨p', q, own_dp R.h.ex hH r h1, rep_dp R.h.ex _ _ _ h2 ry, h3, h4, k _ io F H (Le.refl _ _) R rfl⟩
theorem dt_eqO (i : Nat) {x : Str} {npos : Pos} (hu : X.A.units + 64 < cLine) (hb : DE X W b tb mb) (hi : X.N[i]? = some x := by rfl) (hv : Vis X.env.scope x := by first | exact Or.inl rfl | exact Or.inr (Or.inl rfl)) (hd : (x == ("__debug__" : Str)) = false := by decide) (hcd : (x == ("__classdict__" : Str)) = false := by decide) :
    DT X W (.Compare (.Name x npos) [.Eq] [b] pos) (tTest (tOp (rEqD X.K) (tVar i) tb)) (mTst (mOwn i eqO mb)) := ⟨pt_cmpR (op_eqD hu) (pe_var hi hv hd hcd) hb.p (nomark _), sem_tst (sem_own hb.s own_eq)⟩
theorem dt_neO (i : Nat) {x : Str} {npos : Pos} (hu : X.A.units + 64 < cLine) (hb : DE X W b tb mb) (hi : X.N[i]? = some x := by rfl) (hv : Vis X.env.scope x := by first | exact Or.inl rfl | exact Or.inr (Or.inl rfl)) (hd : (x == ("__debug__" : Str)) = false := by decide) (hcd : (x == ("__classdict__" : Str)) = false := by decide) :
    DT X W (.Compare (.Name x npos) [.NotEq] [b] pos) (tTest (tOp (rNeD X.K) (tVar i) tb)) (mTst (mOwn i neO mb)) := ⟨pt_cmpR (op_neD hu) (pe_var hi hv hd hcd) hb.p (nomark _), sem_tst (sem_own hb.s own_ne)⟩
/-- len(x) -/
def mLenO (i : Nat) : M D := fun s => match getO s i with
  | some l => some (.ok (.int l.length) s)
  | none => none
theorem de_lenO (i : Nat) {x f : Str} {npos p : Pos} (hg : Gl X f) (hm : X.mg f = none) (hb : bootBuiltins f = some (.builtin "len")) (hi : X.N[i]? = some x := by rfl) (hv : Vis X.env.scope x := by first | exact Or.inl rfl | exact Or.inr (Or.inl rfl)) (hd : (x == ("__debug__" : Str)) = false := by decide) (hcd : (x == ("__classdict__" : Str)) = false := by decide)
    (hn : f ≠ "__name__" := by decide) (hdb : (f == ("__debug__" : Str)) = false := by decide) (hs : starEach [Expr.Name x npos] X.env = (false, eval (.Name x npos) X.env) :: starEach [] X.env := by rfl) (hpl : (backTo pos (starEach [] X.env)).any (·.1) = false := by rfl) :
    DE X W (.Call (.Name f p) [.Name x npos] [] pos) (tCB (r_len X.K) (tCons (tVar i) tNil)) (mLenO i) := ⟨pe_callB call_len hg hm hb (pa_cons (pe_var hi hv hd hcd) pa_nil hs) hn hdb hs hpl, by
  intro en io F H σ s o Q R e hx hq
  unfold mLenO at e
  split at e
  · rename_i l hl
    cases e
    obtain ⟨_, p, xs, e1, hF, hH, r⟩ := R.getO hl
    exact ⟨.ref p, e1, .ref p, l.length, rfl, .inl ⟨xs, .of hH, (reps_len r).symm⟩, hq _ _ rfl _ io F H (Le.refl _ _) R rfl⟩
  · cases e⟩
/-- x[k] = e -/
def mSetIxO (i : Nat) (mv mk : M D) : M Fl := bnd mv fun d => fun s => match getO s i with
  | some _ => bnd mk (fun k s' => match k, getO s' i with
    | .int k, some l => match ixN l.length k with
      | some j => some (.ok .nx (setO s' i (l.set j d)))
      | none => none
    | _, _ => none) s
  | none => none
theorem ds_setIxO (i : Nat) {x : Str} {npos spos : Pos} (he : DE X W e te me) (hk : DE X W b tb mb) (hi : X.N[i]? = some x := by rfl) (hv : Vis X.env.scope x := by first | exact Or.inl rfl | exact Or.inr (Or.inl rfl)) (hd : (x == ("__debug__" : Str)) = false := by decide) (hcd : (x == ("__classdict__" : Str)) = false := by decide)
    (ha : ∀ v, assign (.Subscript (.Name x npos) b spos) X.env v = (do
      let ov ← holding [v] (eval (.Name x npos) X.env)
      let iv ← holding [v, ov] (eval b X.env)
      standAt spos
      holding [v, ov, iv] (setItem ov iv v)
      release [v, ov, iv] []) := by intro _; rfl)
    (hs : swapsWithSole [.Subscript (.Name x npos) b spos] e pos.line X.env = pure false := by rfl) (hw : swappedStores [.Subscript (.Name x npos) b spos] e X.env = pure none := by rfl)
    (h1 : (assignEach [.Subscript (.Name x npos) b spos] X.env).map (·.2) = [assign (.Subscript (.Name x npos) b spos) X.env] := by rfl) :
    DS X W (.Assign [.Subscript (.Name x npos) b spos] e pos) (tAsg te (gSub (tVar i) tb rSetL)) (mSetIxO i me mb) := ⟨ps_asg he.p (pg_sub (pe_var hi hv hd hcd) hk.p set_list ha) hs hw h1, by
  intro en io F H σ s o E R e hx hq
  refine he.s.step R e hx fun d s1 v io1 F1 H1 l1 R1 r1 e1 hx1 => ?_
  split at e1
  · rename_i l hl
    obtain ⟨_, p, xs, g1, hF, hH, r⟩ := R1.getO hl
    refine ⟨.ref p, g1, ?_⟩
    refine hk.s.step R1 e1 hx1 fun dk s2 vk io2 F2 H2 l2 R2 r2 e2 hx2 => ?_
    split at e2
    · rename_i k l2' hl2
      obtain ⟨q, ys, e3, hF1, hH1, r3⟩ := R1.sameO R2 hl hl2
      rw [g1] at e3
      cases e3
      split at e2
      · rename_i j hj
        cases e2
        exact ⟨p, ys, k, j, rfl, r2, hH1, by rw [reps_len r3]; exact hj, hq _ _ rfl io2 F2 _ σ (l1.trans l2) (R2.setO hl2 g1 hF1 (reps_set j r3 (rep_le l2 _ _ r1)))⟩
      · cases e2
    · cases e2
  · cases e1⟩
/-- x.pop() -/
def mPopO (i : Nat) : M D := fun s => match getO s i with
  | some l => match l.getLast? with
    | some d => some (.ok d (setO s i l.dropLast))
    | none => none
  | none => none
theorem de_popO (i : Nat) {x : Str} {npos apos : Pos} (hi : X.N[i]? = some x := by rfl) (hv : Vis X.env.scope x := by first | exact Or.inl rfl | exact Or.inr (Or.inl rfl)) (hd : (x == ("__debug__" : Str)) = false := by decide) (hcd : (x == ("__classdict__" : Str)) = false := by decide)
    (hbase : attributeBase (.Name x npos) "pop" X.env (eval (.Name x npos) X.env) = eval (.Name x npos) X.env := by rfl) (hline : (apos.endLine == pos.line) = true := by rfl) :
    DE X W (.Call (.Attribute (.Name x npos) "pop" apos) [] [] pos) (tBM0 X.K "list" rPop (tVar i)) (mPopO i) := ⟨pe_bm0 PySem.F.plainAttrs_list PySem.F.slot_list_pop PySem.F.type_list_pop mt_pop (pe_var hi hv hd hcd) hbase hline, by
  intro en io F H σ s o Q R e hx hq
  unfold mPopO at e
  split at e
  · rename_i l hl
    split at e
    · rename_i d hd
      cases e
      obtain ⟨_, p, xs, e1, hF, hH, r⟩ := R.getO hl
      rw [List.getLast?_eq_getElem?] at hd
      obtain ⟨v, hv, rv⟩ := reps_get r hd
      refine ⟨.ref p, e1, .inl ⟨rfl, xs, .of hH⟩, p, xs, v, rfl, rfl, hH, by rw [reps_len r]; exact hv, ?_⟩
      exact hq _ _ rfl v io F _ (Le.refl _ _) (R.setO hl e1 hF (reps_dropLast r)) rv
    · cases e
  · cases e⟩
end
end Z
/-! Z7: lists of the own heap; enumerate and zip of texts; a text turned round -/
namespace Z
open PySem L2 PySem.Spec
open Classical
section
variable {X : Cx} {W : WX} {pos : Pos} {K : PySem.W.Frag} {mg : Str → Option Value} {tg a b c e elt iter : Expr} {es ifs : List Expr} {ta tb tc te : TE} {ma mb mc me : M D} {tA tB' : TT} {mA mB : M Bool} {tl : TA} {ml : M (List D)} {en : Ent} {io : List Addr} {F H : Hp} {σ : St} {s : A}
def getH (s : A) (d : D) : Option (List D) := match d with
  | .ref r => match s.hp[r]? with
    | some (.lst l) => some l
    | _ => none
  | _ => none
def setH (s : A) (d : D) (l : List D) : A := match d with
  | .ref r => { s with hp := s.hp.set r (.lst l) }
  | _ => s
theorem Rel.getH (R : Rel K en io F H σ s) {d : D} {v : V} {l : List D} (h : getH s d = some l) (r : rep K io F d v) : ∃ p xs, v = .ref p ∧ F p = none ∧ H p = some (.lst xs) ∧ reps K io F l xs ∧
    ∀ l' ys, reps K io F l' ys → Rel K en io F (upd H p (.lst ys)) σ (setH s d l') := by
  match d, h with
  | .ref k, h =>
    unfold Z.getH at h
    simp only at h
    split at h
    · rename_i l' h'
      cases h
      obtain ⟨p, rfl, hp⟩ := r
      obtain ⟨hF, xs, hH, rx⟩ := R.h.ids k p _ hp h'
      exact ⟨p, xs, rfl, hF, hH, rx, fun l' ys ry => R.hput h' hp hF ⟨hF, ys, upd_same, ry⟩⟩
    · cases h
def mIxH (ma mb : M D) : M D := bnd ma fun o => bnd mb fun k s => match k, getH s o with
  | .int i, some l => match atI l i with
    | some d => some (.ok d s)
    | none => none
  | _, _ => none
theorem de_ixH (ha : DE X W a ta ma) (hb : DE X W b tb mb) (hs : PlainIx b := by exact fun _ _ => rfl) : DE X W (.Subscript a b pos) (tOp (rIx X.K) ta tb) (mIxH ma mb) := ⟨pe_ix ix_seq ha.p hb.p hs, by
  intro en io F H σ s o Q R e hx hq
  refine ha.s.step R e hx fun d s1 v io1 F1 H1 l1 R1 r1 e1 hx1 => ?_
  refine hb.s.step R1 e1 hx1 fun d2 s2 v2 io2 F2 H2 l2 R2 r2 e2 hx2 => ?_
  split at e2
  · rename_i i l hl
    split at e2
    · rename_i z hz
      cases e2
      obtain ⟨p, xs, rfl, hF, hH, rx, _⟩ := R2.getH hl (rep_le l2 _ _ r1)
      obtain ⟨w, h1, h2⟩ := atI_reps rx hz
      exact .inl ⟨p, xs, i, w, rfl, r2, .of hH, h1, hq _ _ rfl w io2 F2 H2 (l1.trans l2) R2 h2⟩
    · cases e2
  · cases e2⟩
def mSetIxH (mv mo mk : M D) : M Fl := bnd mv fun d => bnd mo fun o => bnd mk fun k s => match k, getH s o with
  | .int i, some l => match ixN l.length i with
    | some j => some (.ok .nx (setH s o (l.set j d)))
    | none => none
  | _, _ => none
theorem ds_setIxH {spos : Pos} (he : DE X W e te me) (ho : DE X W a ta ma) (hk : DE X W b tb mb)
    (ha : ∀ v, assign (.Subscript a b spos) X.env v = (do
      let ov ← holding [v] (eval a X.env)
      let iv ← holding [v, ov] (eval b X.env)
      standAt spos
      holding [v, ov, iv] (setItem ov iv v)
      release [v, ov, iv] []) := by intro _; rfl)
    (hs : swapsWithSole [.Subscript a b spos] e pos.line X.env = pure false := by rfl) (hw : swappedStores [.Subscript a b spos] e X.env = pure none := by rfl)
    (h1 : (assignEach [.Subscript a b spos] X.env).map (·.2) = [assign (.Subscript a b spos) X.env] := by rfl) :
    DS X W (.Assign [.Subscript a b spos] e pos) (tAsg te (gSub ta tb rSetL)) (mSetIxH me ma mb) := ⟨ps_asg he.p (pg_sub ho.p hk.p set_list ha) hs hw h1, by
  intro en io F H σ s o E R e hx hq
  refine he.s.step R e hx fun d s1 v io1 F1 H1 l1 R1 r1 e1 hx1 => ?_
  refine ho.s.step R1 e1 hx1 fun d2 s2 v2 io2 F2 H2 l2 R2 r2 e2 hx2 => ?_
  refine hk.s.step R2 e2 hx2 fun d3 s3 v3 io3 F3 H3 l3 R3 r3 e3 hx3 => ?_
  split at e3
  · rename_i i l hl
    split at e3
    · rename_i j hj
      cases e3
      obtain ⟨p, xs, rfl, hF, hH, rx, hput⟩ := R3.getH hl (rep_le l3 _ _ r2)
      exact ⟨p, xs, i, j, rfl, r3, hH, by rw [reps_len rx]; exact hj, hq _ _ rfl io3 F3 _ σ ((l1.trans l2).trans l3) (hput _ _ (reps_set j rx (rep_le (l2.trans l3) _ _ r1)))⟩
    · cases e3
  · cases e3⟩
def mAppH (mo me : M D) : M D := bnd mo fun o => fun s => match getH s o with
  | some _ => bnd me (fun d s' => match getH s' o with
    | some l => if l.length < sizeLine then some (.ok .non (setH s' o (l ++ [d]))) else none
    | none => none) s
  | none => none
theorem de_appH {apos : Pos} (ho : DE X W a ta ma) (he : DE X W e te me)
    (hbase : attributeBase a "append" X.env (eval a X.env) = eval a X.env := by rfl) (hline : (apos.endLine == pos.line) = true := by rfl)
    (hfew : ((backTo pos (starEach [e] X.env)).all (fun x => !x.1) && (backToKw pos (keywordEach [] X.env)).all (fun x => x.1.isSome)
      && decide (([e] : List Expr).length + ([] : List Keyword).length + (if ([] : List Keyword).isEmpty then 0 else 1) < 30)) = true := by rfl)
    (hs : starEach [e] X.env = (false, eval e X.env) :: starEach [] X.env := by rfl) (hpl : (backTo pos (starEach [] X.env)).any (·.1) = false := by rfl) :
    DE X W (.Call (.Attribute a "append" apos) [e] [] pos) (tBM X.K "list" rAppend ta (tCons te tNil)) (mAppH ma me) :=
  ⟨pe_bm PySem.F.plainAttrs_list PySem.F.slot_list_append PySem.F.type_list_append mt_append ho.p (pa_cons he.p pa_nil hs) hbase hfew hline hs hpl, by
    intro en io F H σ s o Q R e hx hq
    refine ho.s.step R e hx fun d s1 v io1 F1 H1 l1 R1 r1 e1 hx1 => ?_
    split at e1
    · rename_i l hl
      obtain ⟨p, xs, rfl, hF, hH, r, _⟩ := R1.getH hl r1
      refine ⟨.inl ⟨rfl, xs, .of hH⟩, ?_⟩
      refine he.s.step R1 e1 hx1 fun d2 s2 v2 io2 F2 H2 l2 R2 r2 e2 hx2 => ?_
      split at e2
      · rename_i l2' hl2
        obtain ⟨q, ys, e3, hF2, hH2, r3, hput⟩ := R2.getH hl2 (rep_le l2 _ _ r1)
        cases e3
        split at e2
        · rename_i hz
          cases e2
          exact ⟨p, ys, v2, rfl, rfl, hH2, by rw [reps_len r3]; exact hz, hq _ _ rfl .non io2 F2 _ (l1.trans l2) (hput _ _ (reps_app r3 (reps_one r2))) rfl⟩
        · cases e2
      · cases e2
    · cases e1⟩
/-- o.pop(0) -/
def mPop0H (mo : M D) (mk : M D) : M D := bnd mo fun o => fun s => match getH s o with
  | some _ => bnd mk (fun k s' => match k, getH s' o with
    | .int 0, some (d :: l) => some (.ok d (setH s' o l))
    | _, _ => none) s
  | none => none
theorem de_pop0H {apos : Pos} (ho : DE X W a ta ma) (he : DE X W e te me)
    (hbase : attributeBase a "pop" X.env (eval a X.env) = eval a X.env := by rfl) (hline : (apos.endLine == pos.line) = true := by rfl)
    (hfew : ((backTo pos (starEach [e] X.env)).all (fun x => !x.1) && (backToKw pos (keywordEach [] X.env)).all (fun x => x.1.isSome)
      && decide (([e] : List Expr).length + ([] : List Keyword).length + (if ([] : List Keyword).isEmpty then 0 else 1) < 30)) = true := by rfl)
    (hs : starEach [e] X.env = (false, eval e X.env) :: starEach [] X.env := by rfl) (hpl : (backTo pos (starEach [] X.env)).any (·.1) = false := by rfl) :
    DE X W (.Call (.Attribute a "pop" apos) [e] [] pos) (tBM X.K "list" rPopAt ta (tCons te tNil)) (mPop0H ma me) :=
  ⟨pe_bm PySem.F.plainAttrs_list PySem.F.slot_list_pop PySem.F.type_list_pop mt_popAt ho.p (pa_cons he.p pa_nil hs) hbase hfew hline hs hpl, by
    intro en io F H σ s o Q R e hx hq
    refine ho.s.step R e hx fun d s1 v io1 F1 H1 l1 R1 r1 e1 hx1 => ?_
    split at e1
    · rename_i l hl
      obtain ⟨p, xs, rfl, hF, hH, r, _⟩ := R1.getH hl r1
      refine ⟨.inl ⟨rfl, xs, .of hH⟩, ?_⟩
      refine he.s.step R1 e1 hx1 fun d2 s2 v2 io2 F2 H2 l2 R2 r2 e2 hx2 => ?_
      split at e2
      · rename_i d3 l3 hl2
        obtain ⟨q, ys, e3, hF2, hH2, r3, hput⟩ := R2.getH hl2 (rep_le l2 _ _ r1)
        cases e3
        cases e2
        obtain ⟨y, t, rfl, ry, rt⟩ := r3
        refine ⟨p, y :: t, 0, 0, y, rfl, by rw [show v2 = _ from r2], hH2, by decide, by decide, ?_, rfl, hq _ _ rfl y io2 F2 _ (l1.trans l2) (hput _ _ rt) ry⟩
        have : ixN (y :: t).length 0 = some 0 := by
          unfold ixN
          rw [if_pos (by decide), if_pos (by rw [List.length_cons]; omega)]
          rfl
        exact (ixN_seq this).1
      · cases e2
    · cases e1⟩
/-- o != [..], o == [..] : the left one a list of the own heap -/
def mCmpH (neg : Bool) (ma mb : M D) : M D := bnd ma fun o => bnd mb fun d s => match getH s o with
  | some l => match eqd (.lst l) d with
    | some k => some (.ok (.bl (if neg then !k else k)) s)
    | none => none
  | none => none
theorem sem_neH (ha : SemE K mg W ta ma) (hb : SemE K mg W tb mb) : SemE K mg W (tOp (rNeD K) ta tb) (mCmpH true ma mb) := by
  intro en io F H σ s o Q R e hx hq
  refine ha.step R e hx fun d s1 v io1 F1 H1 l1 R1 r1 e1 hx1 => ?_
  refine hb.step R1 e1 hx1 fun d2 s2 v2 io2 F2 H2 l2 R2 r2 e2 hx2 => ?_
  split at e2
  · rename_i l hl
    split at e2
    · rename_i k hk
      cases e2
      obtain ⟨p, xs, rfl, hF, hH, rx, _⟩ := R2.getH hl (rep_le l2 _ _ r1)
      obtain ⟨p', q, h1, h2, h3, h4, rfl⟩ := eqd_some hk
      exact ⟨p', q, own_dp R2.h.ex hH rx h1, rep_dp R2.h.ex _ _ _ h2 r2, h3, h4, hq _ _ rfl _ io2 F2 H2 (l1.trans l2) R2 rfl⟩
    · cases e2
  · cases e2
theorem dt_neH (hu : X.A.units + 64 < cLine) (ha : DE X W a ta ma) (hb : DE X W b tb mb) : DT X W (.Compare a [.NotEq] [b] pos) (tTest (tOp (rNeD X.K) ta tb)) (mTst (mCmpH true ma mb)) := ⟨pt_cmpR (op_neD hu) ha.p hb.p (nomark _), sem_tst (sem_neH ha.s hb.s)⟩

/-! ### a text turned round -/
def tRevS (te : TE) : TE := fun σ H Q => te σ H fun x H1 => ∃ z : Str, x = .str z ∧ z.length ≤ sizeLine ∧ Q (.str ⟨z.cps.toList.reverse.toArray⟩) H1
theorem pe_revS {k : Nat} {p1 p2 p3 : Pos} (he : PE X e te) : PE X (.Subscript e (.Slice none none (some (.UnaryOp .USub (.Constant (.int 1) k p1) p2)) p3) pos) (tRevS te) := by
  refine ⟨fun pins s σ H Q I h => ?_⟩
  refine PyProof.Rows.Subscript_ (thn (he.run pins s σ H _ I h) fun v s1 ⟨x, H1, I1, r1, q1⟩ => ?_)
  obtain ⟨z, rfl, hz, q⟩ := q1
  obtain ⟨t, rfl⟩ := r1
  have hst : PO X (some (.UnaryOp .USub (.Constant (.int 1) k p1) p2)) (tPart (tUn (rU fun i => .int (-i)) (tC (.int 1)))) := po_some (pe_un un_neg pe_int)
  refine wpAny_Slice (thn (po_none.run pins s1 σ H1 (fun o H2 => o = none ∧ H2 = H1) I1 ⟨rfl, rfl⟩) fun vl s2 ⟨l, H2, I2, pl, el, e2⟩ => ?_)
  subst el e2
  refine thn (po_none.run pins s2 σ H2 (fun o H3 => o = none ∧ H3 = H2) I2 ⟨rfl, rfl⟩) fun vu s3 ⟨u, H3, I3, pu, eu, e3⟩ => ?_
  subst eu e3
  refine thn (hst.run pins s3 σ H3 (fun o H4 => o = some (-1) ∧ H4 = H3) I3 ⟨1, rfl, -1, rfl, rfl, rfl⟩) fun vs s4 ⟨o, H4, I4, ps, eo, e4⟩ => ?_
  subst eo e4
  have I5 : Inv X pins σ H4 { s4 with heap := s4.heap.push { cls := .type "slice", data := .fields #[vl, vu, vs] } } := I4.kept (t' := s4.toks) fun b ob q => Heap.get?_push_of_some _ q
  obtain ⟨l, rfl, el⟩ := IsPart.raw pl
  obtain ⟨u, rfl, eu⟩ := IsPart.raw pu
  obtain ⟨st, rfl, est⟩ := IsPart.raw ps
  have hl0 : l = none := by cases l with | none => rfl | some x => cases el
  have hu0 : u = none := by cases u with | none => rfl | some x => cases eu
  subst hl0 hu0
  obtain ⟨sv, stk, rfl⟩ : ∃ a b, st = some (a, b) := by cases st with | none => cases est | some x => exact ⟨x.1, x.2, rfl⟩
  have hsv : sv = -1 := Option.some.inj est
  subst hsv
  show wpAny (model X.prog X.w) X.A (PyProof.Rows.subscriptTail e (.Slice none none (some (.UnaryOp .USub (.Constant (.int 1) k p1) p2)) p3) (.str z t) (.ref s4.heap.objs.size)) (EP X pins σ Q) X.xe _
  refine PyProof.Rows.tail_any (T := "str") (ops := [.str z t, .ref s4.heap.objs.size]) (typeIs_str _ _ _) PySem.F.slot_str_getitem.lookup ?_ (by with_unfolding_all rfl)
  refine wpAny_getItem_str_slice (l := none) (u := none) (st := some (-1, stk)) ⟨_, Heap.get?_push_size _ rfl, rfl, rfl⟩ rfl ?_
  have hp : slicePicked z none none (some (-1, stk)) = (List.range z.length).reverse := by
    show Builtin.Str.strSliceIndices none none (-1) z.length = _
    unfold Builtin.Str.strSliceIndices
    show sliceRange ((z.length : Int) - 1) (-1) (-1) = _
    rw [PySem.W.krv_sliceRange, PySem.W.krv_range]
  unfold sliceMade
  rw [hp, List.filterMap_reverse, show (List.range z.length).filterMap (z.cps[·]?) = z.cps.toList from PySem.W.krv_all z.cps]
  rw [if_neg (by intro hh; rw [Bool.and_eq_true] at hh; exact absurd hh.1 (by show ¬ (((-1 : Int) == 1) = true); decide))]
  refine ⟨?_, .str _, H4, I5.tok _, ⟨_, rfl⟩, q⟩
  show z.cps.toList.reverse.toArray.size ≤ sizeLine
  rw [List.size_toArray, List.length_reverse, Array.length_toList]
  exact hz
def revS : D → Option D
  | .str x => if x.length ≤ sizeLine then some (.str x.reverse) else none
  | _ => none
theorem de_revS {k : Nat} {p1 p2 p3 : Pos} (he : DE X W e te me) : DE X W (.Subscript e (.Slice none none (some (.UnaryOp .USub (.Constant (.int 1) k p1) p2)) p3) pos) (tRevS te) (mUn revS me) := ⟨pe_revS he.p, by
  intro en io F H σ s o Q R e hx hq
  refine he.s.step R e hx fun d s1 v io1 F1 H1 l1 R1 r1 e1 hx1 => ?_
  obtain ⟨z, e2, e3⟩ := lft_some e1
  match d, e2 with
  | .str x, e2 =>
    have e2' : (if x.length ≤ sizeLine then some (D.str x.reverse) else none) = some z := e2
    by_cases hc : x.length ≤ sizeLine
    · rw [if_pos hc] at e2'
      cases e2'
      exact ⟨_, r1, by rw [str_len]; exact hc, hq _ _ e3 _ io1 F1 H1 l1 R1 rfl⟩
    · rw [if_neg hc] at e2'
      cases e2'⟩

/-! ### walks that give new pairs -/
def ItP (n : Nat) (f : Nat → List V) : It := ⟨fun i _ => i < n, fun i H v H' => ∃ T, v = .ref T ∧ H T = none ∧ H' = upd H T (.tup (f i)), fun i _ => i = n⟩
theorem turn_P {P : Program} {w : World} {elts : List Expr} {kk : Nat} {tpos : Pos} {I : Addr} {fp wr : List Addr} {n : Nat} {Pt : Nat → Array Value → Prop} {Sx : Nat → Heap → Prop} {Mid : Nat → Addr → Heap → Prop} {f : Nat → List V}
    (hw : ∀ A : Around, A.handled = none → WalksT P w A I fp wr n Pt Sx Mid) (hI : I ∈ fp) (hobj : ∀ i h, Sx i h → ∀ b ∈ fp, ∃ o, h.get? b = some o ∧ ∀ v, o.data ≠ .cell v) (hv : ∀ i vals, i < n → Pt i vals → Vals (f i) vals.toList ∧ (f i).length ≤ 2)
    (hfr : ∀ i h h', Sx i h → (∀ b ∈ fp, ∀ o, h.get? b = some o → h'.get? b = some o) → Sx i h')
    (hself : ∀ (A : Around) i (s : Shared) (Q : Value → Shared → Prop) (E : Value → Shared → Prop), Sx i s.heap → Q (.ref I) s → wpAny (model P w) A (pyIter (.ref I)) Q E s) :
    Turn P w K (.Tuple elts kk tpos) (ItP n f) fp I Sx where
  mem := hI
  obj := hobj
  keep := hfr
  item := by
    intro X hP hw' hK hc i pins s σ H E Iv hf st hg
    subst hP hw' hK
    have hh := Iv.ok.hd hc
    have Wk := hw X.A hh
    have hsub := Wk.sub
    refine Wk.item i s _ _ hg st fun T vals h' tk hp hT hu hm hk => ?_
    refine ⟨.ref T, rfl, Wk.go elts kk tpos i T { s with heap := h', toks := tk } _ _ hm fun h'' st'' hk'' => ?_⟩
    obtain ⟨hv1, hv2⟩ := hv i vals hg hp
    have hap := Wk.apart i T h' hm
    obtain ⟨o, ho, hcl, nn, hd⟩ := hu
    have new : ObjOk X.prog X.w (upd H T (.tup (f i))) h'' T (.tup (f i)) :=
      ⟨Nat.le_trans hv2 (by decide), vals.toList, hv1, ⟨o, hk'' T o hap ho, hcl, nn, hd⟩⟩
    have I1 : Inv X pins σ (upd H T (.tup (f i))) { s with heap := h'', toks := tk } :=
      Iv.turnedNew (ch := fp) (fun b ob hb q => hk'' b ob (fun z => hb (hsub b z)) (hk b ob (fun z => hb (hsub b z)) q)) hf hT new
    refine ⟨.ref T, _, I1, rfl, ⟨T, rfl, Iv.hok.fresh hT, rfl⟩, st'', fun b hb => ?_⟩
    obtain ⟨ob, hob, _⟩ := hobj i _ st b hb
    rw [upd_ne (Nat.ne_of_lt (Nat.lt_of_lt_of_le (Heap.lt_size hob) hT))]
    exact (hf b hb).1
  done := by
    intro X hP hw' hK hc i pins s σ H E Iv hf st hg
    subst hP hw' hK
    have hh := Iv.ok.hd hc
    have Wk := hw X.A hh
    have hsub := Wk.sub
    have hg' : i = n := hg
    subst hg'
    exact Wk.done s _ _ st fun h' tk hk => ⟨rfl, Iv.turnedL (ch := fp) (fun b ob hb q => hk b ob (fun z => hb (hsub b z)) q) hf⟩
  self := hself
end
/-- what a text's iterator is -/
def StrIt (x : Str) (t : Tok) (it : Addr) (i : Nat) (h : Heap) : Prop := h.IsStrIter it (PySem.strIterType x) x t i
theorem draws_str {P : Program} {w : World} {A : Around} (hh : A.handled = none) (it : Addr) (x : Str) (t : Tok) : Draws P w A it [it] x.cps.size (fun i v => ∃ c u, x.cps[i]? = some c ∧ v = .str ⟨#[c]⟩ u) (StrIt x t it) := by
  unfold StrIt PySem.strIterType
  cases ha : x.cps.all (· < 128)
  · exact Draws.strWide hh it x t
  · exact Draws.strAscii hh it x t
theorem strIt_new {x : Str} {t : Tok} {it : Addr} {h : Heap} (e : h.get? it = some { cls := .type (PySem.strIterType x), data := .fields #[.str x t, .int 0 0] }) : StrIt x t it 0 h := ⟨_, e, rfl, rfl⟩
theorem strIt_obj {x : Str} {t : Tok} {it : Addr} {i : Nat} {h : Heap} (e : StrIt x t it i h) : ∃ o, h.get? it = some o ∧ ∀ v, o.data ≠ .cell v := by
  obtain ⟨o, e1, c, d⟩ := e
  exact ⟨o, e1, fun v z => by rw [d] at z; cases z⟩
theorem strIt_keep {x : Str} {t : Tok} {it : Addr} {i : Nat} {h h' : Heap} (e : StrIt x t it i h) (k : ∀ o, h.get? it = some o → h'.get? it = some o) : StrIt x t it i h' := by
  obtain ⟨o, e1, c, d⟩ := e
  exact ⟨o, k o e1, c, d⟩
def enS (x : Str) (i : Nat) : List V := [.int (i : Nat), .str ⟨#[x.cps.getD i 0]⟩]
def iEnS (ta : TA) : TI := fun σ H R => ta σ H fun vs H1 => ∃ x : Str, vs = [.str x] ∧ R (ItP x.cps.size (enS x)) H1
theorem pi_enS {elts : List Expr} {kk : Nat} {tpos p : Pos} {X : Cx} {e : Expr} {ta : TA} {pos : Pos} (hg : Gl X "enumerate") (hm : X.mg "enumerate" = none) (ha : PA X [e] ta) (hs : starEach [e] X.env = [(false, eval e X.env)] := by rfl) :
    PI X (.Tuple elts kk tpos) (.Call (.Name "enumerate" p) [e] [] pos) (iEnS ta) := by
  refine ⟨fun pins s σ H R I h => ?_⟩
  refine PyProof.Rows.Call_ (ld_blt I hg hm PyProof.Rows.boot_enumerate (PyProof.Rows.callWith_type1 (thn (ha.run pos pins s σ H _ I h) fun us s1 ⟨vs, H1, I1, r1, q1⟩ => ?_) hs rfl))
  obtain ⟨x, ex, q⟩ := q1
  subst ex
  cases r1 with
  | cons r rr =>
    cases rr
    obtain ⟨t, rfl⟩ := r
    refine call_enumerate_str fun h' he hit hsz hk => wpAny_pyIter_enum he ?_
    have I2 : Inv X pins σ H1 { s1 with heap := h' } := I1.kept (t' := s1.toks) hk
    have ne : s1.heap.objs.size + 1 ≠ s1.heap.objs.size := Nat.succ_ne_self _
    have T : Turn X.prog X.w X.K (.Tuple elts kk tpos) (ItP x.cps.size (enS x)) [s1.heap.objs.size + 1, s1.heap.objs.size] (s1.heap.objs.size + 1) (fun i h => (∃ old, IsEnum h (s1.heap.objs.size + 1) s1.heap.objs.size ((0 : Int) + (i : Int)) old) ∧ StrIt x t s1.heap.objs.size i h) := by
      refine turn_P (wr := [s1.heap.objs.size + 1, s1.heap.objs.size]) (fun A hA => WalksT.enumFrom 0 (draws_str (A := A.in1) hA _ x t) _ ne (by simp [ne]) (by simp)) (by simp) (fun i h st b hb => ?_) (fun i vals hi hp => ?_) (fun i h h' st k => ?_) (fun A i s Q E st h => ?_)
      · obtain ⟨⟨old, he⟩, hs⟩ := st
        have e' : b = s1.heap.objs.size + 1 ∨ b = s1.heap.objs.size := by simpa using hb
        rcases e' with z | z
        · rw [z]; exact ⟨_, he, fun v q => nomatch q⟩
        · rw [z]; exact strIt_obj hs
      · obtain ⟨tk, y, ⟨c, u, hc, rfl⟩, rfl⟩ := hp
        refine ⟨.cons ⟨tk, by rw [Int.zero_add]⟩ (.cons ⟨u, ?_⟩ .nil), Nat.le_refl 2⟩
        have : x.cps.getD i 0 = c := by rw [Array.getD_eq_getD_getElem?, hc]; rfl
        rw [this]
      · obtain ⟨⟨old, he⟩, hs⟩ := st
        exact ⟨⟨old, k _ (by simp) _ he⟩, strIt_keep hs fun o q => k _ (by simp) o q⟩
      · obtain ⟨⟨old, he⟩, _⟩ := st
        exact wpAny_pyIter_enum he h
    refine ⟨s1.heap.objs.size + 1, [s1.heap.objs.size + 1, s1.heap.objs.size], _, _, H1, rfl, I2, T, ⟨⟨.none, he⟩, hit⟩, fun b hb => ?_, q⟩
    have e' : b = s1.heap.objs.size + 1 ∨ b = s1.heap.objs.size := by simpa using hb
    have hle : s1.heap.objs.size ≤ b := by
      rcases e' with z | z
      · rw [z]; exact Nat.le_add_right _ _
      · rw [z]; exact Nat.le_refl _
    exact I1.fpOk hle (I1.hok.fresh hle)
def ziS (x y : Str) (i : Nat) : List V := [.str ⟨#[x.cps.getD i 0]⟩, .str ⟨#[y.cps.getD i 0]⟩]
def iZiS (ta : TA) : TI := fun σ H R => ta σ H fun vs H1 => ∃ x y : Str, vs = [.str x, .str y] ∧ R (ItP (min x.cps.size y.cps.size) (ziS x y)) H1
theorem pi_ziS {elts : List Expr} {kk : Nat} {tpos p : Pos} {X : Cx} {e e2 : Expr} {ta : TA} {pos : Pos} (hg : Gl X "zip") (hm : X.mg "zip" = none) (ha : PA X [e, e2] ta)
    (hs : starEach [e, e2] X.env = (false, eval e X.env) :: starEach [e2] X.env := by rfl) (hpl : (backTo pos (starEach [e2] X.env)).any (·.1) = false := by rfl) :
    PI X (.Tuple elts kk tpos) (.Call (.Name "zip" p) [e, e2] [] pos) (iZiS ta) := by
  refine ⟨fun pins s σ H R I h => ?_⟩
  refine PyProof.Rows.Call_ (ld_blt I hg hm PyProof.Rows.boot_zip (PyProof.Rows.callWith_type1 (thn (ha.run pos pins s σ H _ I h) fun us s1 ⟨vs, H1, I1, r1, q1⟩ => ?_) hs hpl))
  obtain ⟨x, y, ex, q⟩ := q1
  subst ex
  cases r1 with
  | cons r rr =>
    cases rr with
    | cons r' rr =>
    cases rr
    obtain ⟨t, rfl⟩ := r
    obtain ⟨t', rfl⟩ := r'
    refine zip_begins2 (begins_text x t) (begins_text y t') trivial trivial fun h' hz hTI hTO h1 h2 hsz hk => PySem.wpAny_pyIter_zip hz ?_
    have I2 : Inv X pins σ H1 { s1 with heap := h' } := I1.kept (t' := s1.toks) hk
    obtain ⟨N, hN⟩ : ∃ N, N = s1.heap.objs.size := ⟨_, rfl⟩
    rw [← hN] at hz hTI hTO h1 h2 ⊢
    have S := zip_sep2 (N := N) (fp1 := []) (fp2 := []) (fun b hb => nomatch hb) (fun b hb => nomatch hb)
    have T : Turn X.prog X.w X.K (.Tuple elts kk tpos) (ItP (min x.cps.size y.cps.size) (ziS x y)) ((N + 4) :: (N + 2) :: (N + 3) :: ([N] ++ [N + 1])) (N + 4)
        (fun i h => IsZip h (N + 4) (N + 2) (N + 3) .none ∧ IsTupOf2 h (N + 2) (.ref N) (.ref (N + 1)) ∧ (∃ a1 a2, IsTupOf2 h (N + 3) a1 a2) ∧ StrIt x t N i h ∧ StrIt y t' (N + 1) i h) := by
      refine turn_P (fun A hA => WalksT.zipD2 S (draws_str (A := A.in1) hA _ x t) (draws_str (A := A.in1) hA _ y t')) (by simp) (fun i h st b hb => ?_) (fun i vals hi hp => ?_) (fun i h h' st k => ?_) (fun A i s Q E st h => ?_)
      · obtain ⟨hz, hTI, ⟨a1, a2, hTO⟩, hs1, hs2⟩ := st
        have e' : b = N + 4 ∨ b = N + 2 ∨ b = N + 3 ∨ b = N ∨ b = N + 1 := by simpa using hb
        rcases e' with z | z | z | z | z
        · rw [z]; exact ⟨_, hz, fun v q => nomatch q⟩
        · rw [z]; exact ⟨_, hTI, fun v q => nomatch q⟩
        · rw [z]; exact ⟨_, hTO, fun v q => nomatch q⟩
        · rw [z]; exact strIt_obj hs1
        · rw [z]; exact strIt_obj hs2
      · obtain ⟨a, b, ⟨c, u, hc, rfl⟩, ⟨c', u', hc', rfl⟩, rfl⟩ := hp
        refine ⟨.cons ⟨u, ?_⟩ (.cons ⟨u', ?_⟩ .nil), Nat.le_refl 2⟩
        · have : x.cps.getD i 0 = c := by rw [Array.getD_eq_getD_getElem?, hc]; rfl
          rw [this]
        · have : y.cps.getD i 0 = c' := by rw [Array.getD_eq_getD_getElem?, hc']; rfl
          rw [this]
      · obtain ⟨hz, hTI, ⟨a1, a2, hTO⟩, hs1, hs2⟩ := st
        exact ⟨k _ (by simp) _ hz, k _ (by simp) _ hTI, ⟨a1, a2, k _ (by simp) _ hTO⟩, strIt_keep hs1 fun o q => k _ (by simp) o q, strIt_keep hs2 fun o q => k _ (by simp) o q⟩
      · exact PySem.wpAny_pyIter_zip st.1 h
    refine ⟨N + 4, _, _, _, H1, rfl, I2, T, ⟨hz, hTI, ⟨_, _, hTO⟩, strIt_new h1, strIt_new h2⟩, fun b hb => ?_, q⟩
    have e' : b = N + 4 ∨ b = N + 2 ∨ b = N + 3 ∨ b = N ∨ b = N + 1 := by simpa using hb
    have hle : s1.heap.objs.size ≤ b := by
      rw [← hN]
      rcases e' with z | z | z | z | z <;> rw [z] <;> first | exact Nat.le_refl _ | exact Nat.le_add_right _ _
    exact I1.fpOk hle (I1.hok.fresh hle)
/-- what they are as data -/
def enumD (l : List D) : List D := l.zipIdx.map fun p => .tup [.int (p.2 : Nat), p.1]
def zipD (l l' : List D) : List D := (l.zip l').map fun p => .tup [p.1, p.2]
def enSF : List D → Option (List D)
  | [.str x] => some (enumD (x.map fun c => .str [c]))
  | _ => none
def ziSF : List D → Option (List D)
  | [.str x, .str y] => some (zipD (x.map fun c => .str [c]) (y.map fun c => .str [c]))
  | _ => none
section
variable {X : Cx} {W : WX} {pos : Pos} {K : PySem.W.Frag} {mg : Str → Option Value} {tg a b c e elt iter : Expr} {es ifs : List Expr} {ta tb tc te : TE} {ma mb mc me : M D} {tA tB' : TT} {mA mB : M Bool} {tl : TA} {ml : M (List D)} {en : Ent} {io : List Addr} {F H : Hp} {σ : St} {s : A}
theorem walk_P {n : Nat} {f : Nat → List V} {ds : List D} (hn : ds.length = n) (h : ∀ i d, ds[i]? = some d → ∃ l, d = .tup l ∧ ∀ io F, reps K io F l (f i)) : WalkD K (ItP n f) io F ds := fun i en2 io2 F2 H2 σ2 s2 l2 R2 => ⟨fun d hd => by
  have hl := (List.getElem?_eq_some_iff.mp hd).1
  obtain ⟨l, rfl, hr⟩ := h i d hd
  refine ⟨by show i < n; omega, fun y H3 hy => ?_⟩
  obtain ⟨T, rfl, hT, rfl⟩ := hy
  obtain ⟨R3, l3⟩ := R2.new hT (.tup (f i))
  exact ⟨_, l3, R3, T, f i, rfl, .inl (.inl upd_same), hr _ _⟩, fun hi => by show i = n; omega⟩
theorem di_enS {elts : List Expr} {kk : Nat} {tpos p : Pos} (hg : Gl X "enumerate") (hm : X.mg "enumerate" = none) (ha : DA X W [e] tl ml) (hs : starEach [e] X.env = [(false, eval e X.env)] := by rfl) :
    DI X W (.Tuple elts kk tpos) (.Call (.Name "enumerate" p) [e] [] pos) (iEnS tl) (mItA enSF ml) := ⟨pi_enS hg hm ha.p hs, by
  intro en io F H σ s o Q R e hx hq
  refine ha.s.step R e hx fun d s1 v io1 F1 H1 l1 R1 r1 e1 hx1 => ?_
  obtain ⟨z, e2, e3⟩ := lft_some e1
  match d, e2 with
  | [.str x], e2 =>
    obtain ⟨v, rfl, r⟩ := reps1 r1
    cases e2
    refine ⟨⟨x.toArray⟩, by rw [show v = _ from r], hq _ _ e3 _ io1 F1 H1 l1 R1 (walk_P ?_ fun i d hd => ?_)⟩
    · unfold enumD
      simp
    · unfold enumD at hd
      rw [List.getElem?_map, List.getElem?_zipIdx, List.getElem?_map] at hd
      obtain ⟨⟨q, j⟩, h1, rfl⟩ := Option.map_eq_some_iff.mp hd
      obtain ⟨q', h2, h3⟩ := Option.map_eq_some_iff.mp h1
      obtain ⟨c, h4, rfl⟩ := Option.map_eq_some_iff.mp h2
      cases h3
      refine ⟨_, rfl, fun io F => ⟨_, _, rfl, ?_, _, _, rfl, ?_, rfl⟩⟩
      · show V.int _ = V.int _
        simp
      · show V.str ⟨#[x.toArray.getD i 0]⟩ = V.str ⟨[c].toArray⟩
        rw [Array.getD_eq_getD_getElem?, List.getElem?_toArray, h4]
        rfl⟩
theorem di_ziS {elts : List Expr} {kk : Nat} {tpos p : Pos} {e2 : Expr} (hg : Gl X "zip") (hm : X.mg "zip" = none) (ha : DA X W [e, e2] tl ml) (hs : starEach [e, e2] X.env = (false, eval e X.env) :: starEach [e2] X.env := by rfl) (hpl : (backTo pos (starEach [e2] X.env)).any (·.1) = false := by rfl) :
    DI X W (.Tuple elts kk tpos) (.Call (.Name "zip" p) [e, e2] [] pos) (iZiS tl) (mItA ziSF ml) := ⟨pi_ziS hg hm ha.p hs hpl, by
  intro en io F H σ s o Q R e hx hq
  refine ha.s.step R e hx fun d s1 v io1 F1 H1 l1 R1 r1 e1 hx1 => ?_
  obtain ⟨z, e2, e3⟩ := lft_some e1
  match d, e2 with
  | [.str x, .str y], e2 =>
    obtain ⟨v, w, rfl, r, r'⟩ := reps2 r1
    cases e2
    refine ⟨⟨x.toArray⟩, ⟨y.toArray⟩, by rw [show v = _ from r, show w = _ from r'], hq _ _ e3 _ io1 F1 H1 l1 R1 (walk_P ?_ fun i d hd => ?_)⟩
    · unfold zipD
      simp
    · unfold zipD at hd
      rw [List.getElem?_map, List.zip_map, List.getElem?_map] at hd
      obtain ⟨⟨q, j⟩, h1, rfl⟩ := Option.map_eq_some_iff.mp hd
      obtain ⟨⟨c, c'⟩, h2, h3⟩ := Option.map_eq_some_iff.mp h1
      cases h3
      rw [List.getElem?_zip_eq_some] at h2
      refine ⟨_, rfl, fun io F => ⟨_, _, rfl, ?_, _, _, rfl, ?_, rfl⟩⟩
      · show V.str ⟨#[x.toArray.getD i 0]⟩ = V.str ⟨[c].toArray⟩
        rw [Array.getD_eq_getD_getElem?, List.getElem?_toArray, h2.1]
        rfl
      · show V.str ⟨#[y.toArray.getD i 0]⟩ = V.str ⟨[c'].toArray⟩
        rw [Array.getD_eq_getD_getElem?, List.getElem?_toArray, h2.2]
        rfl⟩
end
end Z
/-! Z8: defs by name; the end of a law -/
namespace Z
open PySem L2
/-- what a def of the text is -/
structure Dfn (K : PySem.W.Frag) (mg : Str → Option Value) (x qual : Str) (st : Stmt) (ps : List Str) (f : Addr) (fd : FuncData) : Prop where
  mg : mg x = some (.ref f)
  fn : Fun K x qual st f fd
  bd : Binds K fd ps []
/-- a def that does what n says, by at most k calls one in another -/
structure Cal (P : Program) (w : World) (K : PySem.W.Frag) (mg : Str → Option Value) (base : Heap) (x qual : Str) (st : Stmt) (ps : List Str) (k np : Nat) (n : Fn) : Prop where
  ex : ∃ f fd, Dfn K mg x qual st ps f fd ∧ FnG P w K mg base k f fd ps (spD K mg np n)
section
variable {P : Program} {w : World} {K : PySem.W.Frag} {mg : Str → Option Value} {base : Heap} {x qual : Str} {st : Stmt} {ps : List Str} {k np : Nat} {n n' : Fn}
theorem Cal.imp (c : Cal P w K mg base x qual st ps k np n) (h : ∀ ds hp r, ds.length = np → n' ds hp = some r → n ds hp = some r) : Cal P w K mg base x qual st ps k np n' := by
  obtain ⟨f, fd, d, o⟩ := c.ex
  exact ⟨f, fd, d, okD_imp o h⟩
theorem Cal.mono (c : Cal P w K mg base x qual st ps k np n) {j : Nat} (h : k ≤ j) : Cal P w K mg base x qual st ps j np n := by
  obtain ⟨f, fd, d, o⟩ := c.ex
  exact ⟨f, fd, d, o.mono h⟩
/-- THE RULE for a def -/
theorem calD {f : Addr} {fd : FuncData} {N : List Str} {m : M Fl} (d : Dfn K mg x qual st ps f fd) (S : FnScope N ps (defScope st)) (hp : ps.length = np)
    (hb : ∀ (cdv : Value) (A : Around) (outer : List Env) (s : Shared) (H : Hp) (E : XK), RoomG k (A.deeper (PyProof.Rows.envOfC qual (defScope st) s.heap.objs.size f cdv)) →
      ∃ t, DSs (cxOf (L2.CX P w) P w K mg base N qual (defScope st) f cdv A outer s H E) (fun c d _ H => E c d H) (defBody st) t m) :
    Cal P w K mg base x qual st ps (k + 1) np (fnOf N.length m) := by
  subst hp
  exact ⟨f, fd, d, okD d.fn S hb⟩
end
section
variable {X : Cx} {W : WX} {pos : Pos} {e : Expr} {es : List Expr} {te : TE} {me : M D} {tl : TA} {ml : M (List D)}
theorem de_callC {x qual : Str} {st : Stmt} {ps : List Str} {k np : Nat} {n : Fn} {p : Pos} (c : Cal X.prog X.w X.K X.mg X.base x qual st ps k np n) (hr : RoomG k X.A) (tk : Takes X W) (ha : DA X W (e :: es) tl ml) (hg : Gl X x := by rfl)
    (hdb : (x == ("__debug__" : Str)) = false := by decide) (he : starEach (e :: es) X.env = (false, eval e X.env) :: starEach es X.env := by rfl) (hpl : (backTo pos (starEach es X.env)).any (·.1) = false := by rfl) :
    DE X W (.Call (.Name x p) (e :: es) [] pos) (tCallSD (spD X.K X.mg np n) [] (fun σ c d H => W c d σ H) tl) (mCall np n ml) := by
  obtain ⟨f, fd, d, o⟩ := c.ex
  exact de_call o hr hg d.mg d.fn.kp d.bd tk ha hdb he hpl
end
/-! ### == of plain things -/
def eqSc : D → D → Option D
  | .non, .non => some (.bl true)
  | .int i, .int j => some (.bl (decide (i = j)))
  | .str x, .str y => some (.bl (decide (x = y)))
  | .bl a, .bl b => some (.bl (decide (a = b)))
  | _, _ => none
def neSc : D → D → Option D
  | .non, .non => some (.bl false)
  | .int i, .int j => some (.bl (!decide (i = j)))
  | .str x, .str y => some (.bl (!decide (x = y)))
  | .bl a, .bl b => some (.bl (!decide (a = b)))
  | _, _ => none
theorem strDec (x y : List Nat) : decide (V.str ⟨x.toArray⟩ = V.str ⟨y.toArray⟩) = decide (x = y) := by
  by_cases h : x = y
  · subst h
    simp
  · rw [decide_eq_false h, decide_eq_false]
    intro z
    injection z with z
    apply h
    have z1 : x.toArray = y.toArray := congrArg Str.cps z
    simpa using congrArg Array.toList z1
theorem intDec (x y : Int) : decide (V.int x = V.int y) = decide (x = y) := by
  by_cases h : x = y
  · subst h
    simp
  · rw [decide_eq_false h, decide_eq_false]
    intro z
    injection z with z
    exact h z
theorem blDec (x y : Bool) : decide (V.bl x = V.bl y) = decide (x = y) := by
  by_cases h : x = y
  · subst h
    simp
  · rw [decide_eq_false h, decide_eq_false]
    intro z
    injection z with z
    exact h z
theorem o_eqS {X : Cx} : OpOk X (compareOp .Eq) rEq eqSc := ⟨op_eq, opd_val fun io F H x y dx dy d Q ex rx ry e k => by
  match dx, dy, e with
  | .non, .non, e =>
    cases e
    cases (show x = _ from rx)
    cases (show y = _ from ry)
    exact ⟨rfl, k _ fun _ _ _ => rfl⟩
  | .int i, .int j, e =>
    cases e
    cases (show x = _ from rx)
    cases (show y = _ from ry)
    exact ⟨rfl, by rw [intDec]; exact k _ fun _ _ _ => rfl⟩
  | .str i, .str j, e =>
    cases e
    cases (show x = _ from rx)
    cases (show y = _ from ry)
    exact ⟨rfl, by rw [strDec]; exact k _ fun _ _ _ => rfl⟩
  | .bl i, .bl j, e =>
    cases e
    cases (show x = _ from rx)
    cases (show y = _ from ry)
    exact ⟨rfl, by rw [blDec]; exact k _ fun _ _ _ => rfl⟩⟩
theorem o_neS {X : Cx} : OpOk X (compareOp .NotEq) rNe neSc := ⟨op_ne, opd_val fun io F H x y dx dy d Q ex rx ry e k => by
  match dx, dy, e with
  | .non, .non, e =>
    cases e
    cases (show x = _ from rx)
    cases (show y = _ from ry)
    exact ⟨rfl, k _ fun _ _ _ => rfl⟩
  | .int i, .int j, e =>
    cases e
    cases (show x = _ from rx)
    cases (show y = _ from ry)
    exact ⟨rfl, by rw [intDec]; exact k _ fun _ _ _ => rfl⟩
  | .str i, .str j, e =>
    cases e
    cases (show x = _ from rx)
    cases (show y = _ from ry)
    exact ⟨rfl, by rw [strDec]; exact k _ fun _ _ _ => rfl⟩
  | .bl i, .bl j, e =>
    cases e
    cases (show x = _ from rx)
    cases (show y = _ from ry)
    exact ⟨rfl, by rw [blDec]; exact k _ fun _ _ _ => rfl⟩⟩

/-! ### the same with the written part by name (within a comprehension's block it must not hang on the block) -/
section
variable {X : Cx} {W : WX} {pos : Pos} {a b c e tg : Expr} {es : List Expr} {ta tb tc te : TE} {ma mb mc me : M D} {tl : TA} {ml : M (List D)}
theorem k_eqD (K : PySem.W.Frag) (hu : X.A.units + 64 < cLine) (hK : X.K = K := by rfl) : OpOk X (compareOp .Eq) (rEqD K) eqD := by subst hK; exact o_eqD hu
theorem k_neD (K : PySem.W.Frag) (hu : X.A.units + 64 < cLine) (hK : X.K = K := by rfl) : OpOk X (compareOp .NotEq) (rNeD K) neD := by subst hK; exact o_neD hu
theorem k_inL (K : PySem.W.Frag) (hK : X.K = K := by rfl) : OpOk X (compareOp .In) (rIn K false) inL := by subst hK; exact o_inL
theorem k_notInL (K : PySem.W.Frag) (hK : X.K = K := by rfl) : OpOk X (compareOp .NotIn) (rIn K true) notInL := by subst hK; exact o_notInL
theorem k_ix (K : PySem.W.Frag) (hK : X.K = K := by rfl) : IxOk X (rIx K) ixF := by subst hK; exact o_ix
theorem kb_len (K : PySem.W.Frag) (hK : X.K = K := by rfl) : CallOk X (.builtin "len") (r_len K) lenF := by subst hK; exact b_len
theorem k_slL (K : PySem.W.Frag) (hK : X.K = K := by rfl) : SlOk X (rSlL K) slL := by subst hK; exact o_slL
theorem ki_lst (K : PySem.W.Frag) (he : DE X W e te me) (hK : X.K = K := by rfl) : DI X W tg e (iList K te) (mIt itL me) := by subst hK; exact di_lst he
theorem ki_tup (K : PySem.W.Frag) (he : DE X W e te me) (hK : X.K = K := by rfl) : DI X W tg e (iTup K te) (mIt itT me) := by subst hK; exact di_tup he
theorem ke_revL (K : PySem.W.Frag) {k : Nat} {p1 p2 p3 : Pos} (he : DE X W e te me) (hK : X.K = K := by rfl) : DE X W (.Subscript e (.Slice none none (some (.UnaryOp .USub (.Constant (.int 1) k p1) p2)) p3) pos) (tRevL K te) (mUn revL me) := by subst hK; exact de_revL he
theorem kg_tup (K : PySem.W.Frag) {k : Nat} {t : TGs} {gs : List D → M Unit} {n : Nat} (hc : X.calm = true) (h : DGs X W es t gs) (hK : X.K = K := by rfl)
    (hn : (assignEach es X.env).length = n := by rfl) (hst : (assignEach es X.env).findIdx? (·.1) = none := by rfl) : DG X W (.Tuple es k pos) (gTup K n t) (gT gs n) := by subst hK; exact dg_tup hc h hn hst
theorem ke_ixH (K : PySem.W.Frag) (ha : DE X W a ta ma) (hb : DE X W b tb mb) (hK : X.K = K := by rfl) (hs : PlainIx b := by exact fun _ _ => rfl) : DE X W (.Subscript a b pos) (tOp (rIx K) ta tb) (mIxH ma mb) := by subst hK; exact de_ixH ha hb hs
theorem ke_join (K : PySem.W.Frag) {apos : Pos} (ho : DE X W a ta ma) (he : DE X W b tb mb) (hK : X.K = K := by rfl) (hs : starEach [b] X.env = [(false, eval b X.env)] := by rfl) (hbase : attributeBase a "join" X.env (eval a X.env) = eval a X.env := by rfl) (hline : (apos.endLine == pos.line) = true := by rfl) :
    DE X W (.Call (.Attribute a "join" apos) [b] [] pos) (tM1 (r_join K) ta tb) (mJoin ma mb) := by subst hK; exact de_join ho he hs hbase hline
theorem ke_call (K : PySem.W.Frag) (mg : Str → Option Value) {x qual : Str} {st : Stmt} {ps : List Str} {k np : Nat} {n : Fn} {p : Pos} (c : Cal X.prog X.w X.K X.mg X.base x qual st ps k np n) (hr : RoomG k X.A) (tk : Takes X W) (ha : DA X W (e :: es) tl ml) (hK : X.K = K := by rfl) (hM : X.mg = mg := by rfl) (hg : Gl X x := by rfl)
    (hdb : (x == ("__debug__" : Str)) = false := by decide) (he : starEach (e :: es) X.env = (false, eval e X.env) :: starEach es X.env := by rfl) (hpl : (backTo pos (starEach es X.env)).any (·.1) = false := by rfl) :
    DE X W (.Call (.Name x p) (e :: es) [] pos) (tCallSD (spD K mg np n) [] (fun σ c d H => W c d σ H) tl) (mCall np n ml) := by subst hK hM; exact de_callC c hr tk ha hg hdb he hpl
end
theorem dfn_fd {K : PySem.W.Frag} {mg : Str → Option Value} {x qual qual' : Str} {st st' : Stmt} {ps ps' : List Str} {f : Addr} {fd fd' : FuncData} (a : Dfn K mg x qual st ps f fd) (b : Dfn K mg x qual' st' ps' f fd') : fd = fd' := by
  obtain ⟨_, _, _, _, _, _, _, _, _, _, l, _⟩ := a.fn.ex
  obtain ⟨_, _, _, _, _, _, _, _, _, _, l', _⟩ := b.fn.ex
  rw [l] at l'
  injection l' with l'
  injection l' with _ _ l' _
  injection l'
open PyProof.Rows in
theorem law_callG {P : Program} {w : World} {K : PySem.W.Frag} {mg mb : Str → Option Value} {k : Nat} {fa a : Addr} {fd : FuncData} {x : Str} {sp : Sp} {s₁ : Shared} {vs : List Value} {ns : List Int}
    (KX : K.In s₁.heap) (hns : s₁.heap.Ns mainGlobals mg) (hb : s₁.heap.Ns builtinsNs mb) (hbb : ∀ x : Str, x ≠ "__name__" → mb x = bootBuiltins x) (hlim : s₁.heap.NoLimit) (hg : s₁.gens = #[])
    (ha : s₁.heap.get? a = some { cls := .type "list", data := .seq vs.toArray }) (hi : IntsAre vs ns) (hl : ns.length ≤ sizeLine) (hr : RoomG k callerA)
    (F : ∀ base : Heap, K.In base → base.Ns mainGlobals mg → FnG P w K mg base k fa fd [x] sp) (hbind : ∀ (s : Shared) (u : Value), BindsTo s fd ⟨[u], []⟩ [(x, u)])
    (hsp : ∀ H : Hp, Only H → SqL K H a (ns.map V.int) → sp [.ref a] H (fun v _ => v = .bl true) fun _ _ _ => False)
    (hCX : ∀ H e s', L2.CX P w [] H s₁ (fun _ _ _ => False) e s' → False) :
    codeAny (model P w) callerA (.call (.ref fa) ⟨[.ref a], []⟩) (fun r s' => r = .ok (.ret (.bool true)) ∧ OldK s₁.heap s'.heap ∧ s'.os = s₁.os ∧ AllBare s'.gens) s₁ := by
  have rv := vals_ints hi
  have lenV := hi.length
  -- from an abstract heap in which nothing but the script may be tracked
  have core : ∀ H : Hp, Only H → SqL K H a (ns.map V.int) → HOk P w H s₁.heap → (∀ b, H b ≠ none → b = a) → (H a ≠ none → K.lookup a = none) →
      codeAny (model P w) callerA (.call (.ref fa) ⟨[.ref a], []⟩) (fun r s' => r = .ok (.ret (.bool true)) ∧ OldK s₁.heap s'.heap ∧ s'.os = s₁.os ∧ AllBare s'.gens) s₁ := by
    intro H hO hS hok hA hK
    have base_of : ∀ {b : Addr} {o : Obj}, s₁.heap.get? b = some o → H b = none → (hidT s₁.heap H).get? b = some o := fun e n => hidT_get e n
    have noA : ∀ {b : Addr} {o : Obj} {es : Array DictEntry} {ep : Nat}, s₁.heap.get? b = some o → o.data = .dict es ep → H b = none := fun {b o es ep} e d => by
      cases q : H b with
      | none => rfl
      | some u =>
        have e' : b = a := hA b (by rw [q]; simp)
        subst e'
        rw [ha] at e; cases e
        have d' : Data.seq vs.toArray _ = Data.dict es ep := d
        cases d'
    have nsK : ∀ {b : Addr} {m : Str → Option Value}, s₁.heap.Ns b m → (hidT s₁.heap H).Ns b m := fun {b m} ⟨o, es, ep, e, d, r⟩ => ⟨o, es, ep, base_of e (noA e d), d, r⟩
    have hKb : K.In (hidT s₁.heap H) := fun b o e => base_of (KX b o e) (by
      cases q : H b with
      | none => rfl
      | some u =>
        have e' : b = a := hA b (by rw [q]; simp)
        subst e'
        rw [hK (by rw [q]; simp)] at e; cases e)
    have hM : Mod K mg (hidT s₁.heap H) := ⟨hKb, nsK hns, ⟨mb, nsK hb, hbb⟩, let ⟨mc, h1, h2⟩ := hlim; ⟨mc, nsK h1, h2⟩⟩
    have e0 : Env0 P w K mg (hidT s₁.heap H) callerA [] s₁ H := ⟨rfl, hM, fun b o e => of_hidT e, Nat.le_of_eq (hidT_size _ _), trivial, fun b hb => absurd (show b ∈ ([] : List Addr) from hb) (by simp), hok, .of_eq hg⟩
    refine codeAny_mono ((F _ hKb (nsK hns)).run callerA [] s₁ H ⟨[.ref a], []⟩ [.ref a] [.ref a] _ _ hr e0 (hbind s₁ (.ref a)) (.cons rfl .nil) (hsp H hO hS)) fun r s' h => ?_
    cases r with
    | error e => exact (hCX H e s' h).elim
    | ok fl =>
      cases fl with
      | next => exact False.elim h
      | brk => exact False.elim h
      | cont => exact False.elim h
      | ret u =>
        obtain ⟨v, H', os, bare, un, hok', r', q⟩ := h
        have q' : v = .bl true := q
        subst q'
        obtain rfl : u = Value.bool true := r'
        refine ⟨rfl, OldK.of_keep fun b o e => ?_, os, bare⟩
        cases q : H b with
        | none => exact un.keep b o e q (by intro z; exact absurd (show b ∈ ([] : List Addr) from z) (by simp)) (by simp)
        | some u =>
          rcases hO b with z | ⟨ob, xs, z⟩
          · rw [q] at z; cases z
          · have z2 := un.frzs b ob _ z
            obtain ⟨e1, _⟩ := hok b _ z
            obtain ⟨e2, _⟩ := hok' b _ z2
            rw [e] at e1; cases e1
            exact e2
  cases hk : K.lookup a with
  | some o =>
    -- the script is one of the module's own objects
    have e := KX a o hk
    rw [ha] at e
    cases e
    refine core (fun _ => none) (fun _ => .inl rfl) (.inr ⟨_, vs.toArray, _, hk, rfl, rfl, rfl, by rw [List.size_toArray, lenV]; exact hl, by simpa using rv⟩) (fun b u z => by have z' : (none : Option HO) = some u := z; cases z') (fun b z => absurd rfl z) fun z => absurd rfl z
  | none =>
    refine core (fun b => if b = a then some (.frz { cls := .type "list", data := .seq vs.toArray } (.lst (ns.map V.int))) else none) (fun b => ?_) (.inl (.inr ⟨{ cls := .type "list", data := .seq vs.toArray }, if_pos rfl⟩)) (fun b u z => ?_) (fun b z => ?_) fun _ => hk
    · by_cases hb : b = a
      · exact .inr ⟨_, _, if_pos hb⟩
      · exact .inl (if_neg hb)
    · by_cases hb : b = a
      · have z' := (if_pos hb).symm.trans z
        cases z'
        subst hb
        exact ⟨ha, by rw [List.length_map]; exact hl, vs, _, rv, ha⟩
      · have z' := (if_neg hb).symm.trans z
        cases z'
    · by_cases hb : b = a
      · exact hb
      · exact absurd (if_neg hb) z
/-- the end: the law's def gives True at every list of ints -/
theorem endD {l : PySem.W.OpenLaw} {k : Nat} {q : Program} {loose : List Str} {XP : (Str → Option Value) → Heap → Prop} {YP : World → Heap → Prop} {d : DefRec} {K : Params → PySem.W.Frag} {n : Fn} {qual x : Str} {st : Stmt} (hn : l.most = some 63) (hdf : d.params.defaults = []) (hr : RoomG k callerA)
    (hY : ∀ (w : World) (h : Heap), YP w h → (K w.params).In h)
    (F : ∀ (w : World) (mg : Str → Option Value) (fa : Addr) (h : Heap), (K w.params).In h → h.Ns mainGlobals mg → mg d.name = some (.ref fa) →
      ∃ fd : FuncData, (∀ (s : Shared) (u : Value), BindsTo s fd ⟨[u], []⟩ [("script", u)]) ∧ ∀ base : Heap, (K w.params).In base → base.Ns mainGlobals mg → FnG l.prog w (K w.params) mg base k fa fd ["script"] (spD (K w.params) mg 1 n))
    (hlaw : ∀ ns : List Int, ns.length ≤ 63 → ∃ hp, n [.fz (ns.map D.int)] [] = some (.ok (.bl true) hp)) :
    PySem.W.WalkO q loose XP YP l.row.toRowW d [] (fun f vs => PySem.call f vs) := by
  refine Att.attach_call hn hdf fun w s₀ s₁ mg mb fa o pm cd doc a vs ns G Y ho hd hcd hmg hobj hints hlen hg => ?_
  have KX := hY w _ Y
  obtain ⟨fd, hb, hF⟩ := F w mg fa _ KX G.T.g hmg
  refine law_callG (x := "script") (sp := fun vs H Q E => ∃ (a : Addr) (ns : List Int), vs = [.ref a] ∧ ns.length ≤ 63 ∧ SqL (K w.params) H a (ns.map V.int) ∧ ∀ H', Q (.bl true) H') KX G.T.g G.T.b G.T.builtins G.T.nolimit hg hobj hints (Nat.le_trans hlen (by decide)) hr (fun base b1 b2 => (hF base b1 b2).imp fun vs H Q E hs => ?_) hb (fun H hO hS => ⟨a, ns, rfl, hlen, hS, fun _ => rfl⟩) (fun H e s' z => by
      obtain ⟨_, _, _, _, _, _, _, _, _, _, _, _, f⟩ := z
      exact f)
  obtain ⟨a, ns, rfl, hl, hS, hq⟩ := hs
  obtain ⟨hp, e⟩ := hlaw ns hl
  refine ⟨[], H, [.fz (ns.map D.int)], [], _, ⟨Ex.refl H, rfl, fun i j p h => by simp at h, fun i p o h => by simp at h⟩, ⟨.ref a, [], rfl, ⟨a, ns.map V.int, rfl, hS, ?_⟩, rfl⟩, rfl, e, fun v io' F' H' st hv => by rw [show v = .bl true from hv]; exact hq H'⟩
  clear hS e hl
  induction ns with
  | nil => rfl
  | cons z r ih => exact ⟨_, _, rfl, rfl, ih⟩
end Z
/-! Z9: calls by keywords; isinstance; more of the built-ins -/
namespace Z
open PySem L2 PySem.Spec
open Classical
/-! ### f(k = e, ..) -/
structure DK (X : Cx) (W : WX) (kws : List Keyword) (t : TA) (m : M (List D)) : Prop where
  p : PK X kws t
  s : SemA X.K X.mg W t m
section
variable {X : Cx} {W : WX} {pos kpos : Pos} {K : PySem.W.Frag} {mg : Str → Option Value} {a b c e : Expr} {es : List Expr} {kws : List Keyword} {ta tb tc te : TE} {ma mb mc me : M D} {tl tk : TA} {ml mk : M (List D)} {en : Ent} {io : List Addr} {F H : Hp} {σ : St} {s : A} {nm : Option Str}
theorem dk_nil : DK X W [] tNil mNil := ⟨pk_nil, (da_nil (X := X) (W := W)).s⟩
theorem sem_cons (h : SemE K mg W te me) (g : SemA K mg W tl ml) : SemA K mg W (tCons te tl) (mCons me ml) := by
  intro en io F H σ s o Q R e hx hq
  refine h.step R e hx fun d s1 v io1 F1 H1 l1 R1 r1 e1 hx1 => ?_
  refine g.step R1 e1 hx1 fun ds s2 vs io2 F2 H2 l2 R2 r2 e2 hx2 => ?_
  cases e2
  exact hq _ _ rfl (v :: vs) io2 F2 H2 (l1.trans l2) R2 ⟨v, vs, rfl, rep_le l2 _ _ r1, r2⟩
theorem dk_cons (h : DE X W e te me) (g : DK X W kws tl ml) : DK X W (⟨nm, e, kpos⟩ :: kws) (tCons te tl) (mCons me ml) := ⟨pk_cons h.p g.p, sem_cons h.s g.s⟩
/-- the places of the parameters among the keywords -/
def perm {α : Type} (π : List Nat) (l : List α) : List α := π.filterMap (l[·]?)
def gPerm {α : Type} (n : Nat) (π : List Nat) (us ws : List α) : List α := if us.length = 0 ∧ ws.length = n then perm π ws else []
theorem reps_perm {io : List Addr} {F : Hp} {ds : List D} {vs : List V} (r : reps K io F ds vs) : ∀ π : List Nat, reps K io F (perm π ds) (perm π vs)
  | [] => rfl
  | i :: π => by
    have ih := reps_perm r π
    unfold perm at ih ⊢
    rw [List.filterMap_cons, List.filterMap_cons]
    cases h : ds[i]? with
    | none =>
      have hl := reps_len r
      have : vs[i]? = none := by
        rw [List.getElem?_eq_none_iff] at h ⊢
        omega
      rw [this]
      exact ih
    | some d =>
      obtain ⟨v, h1, h2⟩ := reps_get r h
      rw [h1]
      exact ⟨v, _, rfl, h2, ih⟩
theorem vals_perm {zs : List V} {ws : List Value} (r : Vals zs ws) : ∀ π : List Nat, Vals (perm π zs) (perm π ws)
  | [] => .nil
  | i :: π => by
    have ih := vals_perm r π
    unfold perm at ih ⊢
    rw [List.filterMap_cons, List.filterMap_cons]
    have hl := r.length
    cases h : zs[i]? with
    | none =>
      have : ws[i]? = none := by
        rw [List.getElem?_eq_none_iff] at h ⊢
        omega
      rw [this]
      exact ih
    | some d =>
      obtain ⟨v, h1, h2⟩ := r.get h
      rw [h1]
      exact .cons h2 ih
theorem kb_perm {x qual : Str} {st : Stmt} {f : Addr} {fd : FuncData} {ps ks : List Str} (F : Fun K x qual st f fd) (n : Nat) (π : List Nat) (hn : 0 < ps.length)
    (h : ∀ (kV doc pm : Value) (an : Option Addr) (cdv ct : Value) (ws : List Value), ws.length = n → bindArgs (PySem.W.fnOf x qual (defArgs st) (defBody st) (defScope st) .none kV doc pm an cdv ct) ⟨[], ks.zip ws⟩ = pure (ps.zip (perm π ws))) :
    KBinds K fd ps ks (gPerm n π) (gPerm n π) := by
  obtain ⟨oc, od, kV, doc, pm, an, cdv, ct, osl, rfl, lk, hcd⟩ := F.ex
  refine ⟨fun s us ws _ hl => ?_, fun {vs us zs ws} r rz => ?_⟩
  · unfold gPerm at hl ⊢
    by_cases hc : us.length = 0 ∧ ws.length = n
    · rw [if_pos hc]
      have : us = [] := List.eq_nil_of_length_eq_zero hc.1
      subst this
      exact .of_eq (h kV doc pm an cdv ct ws hc.2)
    · rw [if_neg hc] at hl
      exfalso
      have : (0 : Nat) = ps.length := hl
      omega
  · unfold gPerm
    have h1 := r.length
    have h2 := rz.length
    by_cases hc : us.length = 0 ∧ ws.length = n
    · rw [if_pos hc, if_pos (by omega)]
      exact vals_perm rz π
    · rw [if_neg hc, if_neg (by omega)]
      exact .nil
def mPerm (n : Nat) (π : List Nat) (m : M (List D)) : M (List D) := bnd m fun l => if l.length = n then ret (perm π l) else fun _ => none
def tCallKD (sp : Sp) (gV : List V → List V → List V) (E : St → XK) (tk : TA) : TE := fun σ H Q => tk σ H fun zs H2 => sp (gV [] zs) H2 Q (E σ)
theorem de_callK0 {k np : Nat} {f : Addr} {fd : FuncData} {ps ks : List Str} {n : Fn} {x : Str} {p : Pos} {nk : Nat} {π : List Nat} (Fk : FnG X.prog X.w X.K X.mg X.base k f fd ps (spD X.K X.mg np n)) (hr : RoomG k X.A) (hg : Gl X x) (hm : X.mg x = some (.ref f)) (hk : PySem.W.keepIn X.K (.ref f) = true)
    (hb : KBinds X.K fd ps ks (gPerm nk π) (gPerm nk π)) (tk' : Takes X W) (hkw : DK X W kws tk mk) (hdb : (x == ("__debug__" : Str)) = false := by decide)
    (hall : (backToKw pos (keywordEach kws X.env)).all (·.1.isSome) = true := by rfl) (hks : (backToKw pos (keywordEach kws X.env)).filterMap (·.1) = ks := by rfl)
    (hpl : ((backTo pos (starEach [] X.env)).any (·.1) || (backToKw pos (keywordEach kws X.env)).any (·.1.isNone)) = false := by rfl) :
    DE X W (.Call (.Name x p) [] kws pos) (tCallKD (spD X.K X.mg np n) (gPerm nk π) (fun σ c d H => W c d σ H) tk) (mCall np n (mPerm nk π mk)) := by
  refine ⟨⟨fun pins s σ H Q I h => ?_⟩, ?_⟩
  · refine wpAny_Call_Name_kw (ld_glob I hg hm ?_ hdb)
    refine PySem.W.callWith_KW0 (h₀ := X.base) I.ok.mod.kin hk hall (thn (hkw.p.run pos pins s σ H _ I h) fun ws s2 ⟨zs, H2, I2, rz, q2⟩ => ⟨I2.kIn, ?_⟩) hpl
    rw [hks]
    have r2 := hb.rel .nil rz
    have hl : (gPerm nk π [] ws).length = ps.length := by rw [← r2.length]; exact Fk.len _ _ _ _ q2
    refine wpAny_call (codeAny_mono (Fk.run X.A X.stack s2 H2 ⟨[], ks.zip ws⟩ (gPerm nk π [] ws) (gPerm nk π [] zs) Q _ hr I2.env0 (hb.to s2 [] ws I2.kIn hl) r2 q2) fun r s' hq => ?_)
    cases r with
    | error e => exact passAt tk' σ pins H2 s2 e s' I2 hq
    | ok fl =>
      cases fl with
      | ret u => exact I2.after hq
      | next => exact False.elim hq
      | brk => exact False.elim hq
      | cont => exact False.elim hq
  · intro en io F H σ s o Q R e hx hq
    refine hkw.s.step (k := fun l => bnd (if l.length = nk then ret (perm π l) else fun _ => none) fun ds s => if ds.length = np then ofFR (n ds s.hp) s else none) R (by
      have : mCall np n (mPerm nk π mk) s = some o := e
      unfold mCall mPerm at this
      rw [← this]
      unfold bnd
      cases mk s with
      | none => rfl
      | some q =>
        cases q with
        | ok a s' => rfl
        | ex a s' => rfl) hx fun d s1 v io1 F1 H1 l1 R1 r1 e1 hx1 => ?_
    by_cases hc : d.length = nk
    · rw [if_pos hc] at e1
      have hv := reps_len r1
      have eg : gPerm nk π [] v = perm π v := if_pos ⟨rfl, by omega⟩
      show spD _ _ _ _ (gPerm nk π [] v) H1 Q _
      rw [eg]
      exact sem_call R1 (reps_perm r1 π) hx1 e1 fun d2 s2 e2 w io2 F2 H2 l2 R2 r2 => hq d2 s2 e2 w io2 F2 H2 (l1.trans l2) R2 r2
    · rw [if_neg hc] at e1
      cases e1
theorem de_callKC {x qual : Str} {st : Stmt} {ps ks : List Str} {k np : Nat} {n : Fn} {p : Pos} (nk : Nat) (π : List Nat) (c : Cal X.prog X.w X.K X.mg X.base x qual st ps k np n) (hr : RoomG k X.A) (tk' : Takes X W) (hn : 0 < ps.length)
    (hbd : ∀ (kV doc pm : Value) (an : Option Addr) (cdv ct : Value) (ws : List Value), ws.length = nk → bindArgs (PySem.W.fnOf x qual (defArgs st) (defBody st) (defScope st) .none kV doc pm an cdv ct) ⟨[], ks.zip ws⟩ = pure (ps.zip (perm π ws)))
    (hkw : DK X W kws tk mk) (hg : Gl X x := by rfl) (hdb : (x == ("__debug__" : Str)) = false := by decide)
    (hall : (backToKw pos (keywordEach kws X.env)).all (·.1.isSome) = true := by rfl) (hks : (backToKw pos (keywordEach kws X.env)).filterMap (·.1) = ks := by rfl)
    (hpl : ((backTo pos (starEach [] X.env)).any (·.1) || (backToKw pos (keywordEach kws X.env)).any (·.1.isNone)) = false := by rfl) :
    DE X W (.Call (.Name x p) [] kws pos) (tCallKD (spD X.K X.mg np n) (gPerm nk π) (fun σ c d H => W c d σ H) tk) (mCall np n (mPerm nk π mk)) := by
  obtain ⟨f, fd, d, o⟩ := c.ex
  exact de_callK0 o hr hg d.mg d.fn.kp (kb_perm d.fn nk π hn hbd) tk' hkw hdb hall hks hpl
/-! ### isinstance(x, T) -/
def tyD : D → Option String
  | .non => some "NoneType"
  | .bl _ => some "bool"
  | .int _ => some "int"
  | .str _ => some "str"
  | .lst _ => some "list"
  | .fz _ => some "list"
  | .tup _ => some "tuple"
  | .ref _ => none
  | .exc _ _ => none
  | .cls _ => none
def isiD (T : String) (d : D) : Option D := match tyD d with
  | some t => (kitB t T).map .bl
  | none => none
def tIsi (K : PySem.W.Frag) (T : String) (te : TE) : TE := tCB (rIsi K) (tCons te (tCons (tC (.ty T)) tNil))
theorem tyx_of {io : List Addr} (ex : Ex F H) {d : D} {v : V} {t : String} (h : tyD d = some t) (r : rep K io F d v) : TyX K H v (.type t) := by
  match d, h with
  | .non, h => cases h; rw [show v = _ from r]; exact .base .non
  | .bl b, h => cases h; rw [show v = _ from r]; exact .base (.bl b)
  | .int i, h => cases h; rw [show v = _ from r]; exact .base (.int i)
  | .str x, h => cases h; rw [show v = _ from r]; exact .base (.str _)
  | .lst l, h =>
    cases h
    obtain ⟨p, xs, rfl, h1, _⟩ := r
    exact .base (.lst (ex p _ h1))
  | .fz l, h =>
    cases h
    obtain ⟨p, xs, rfl, h1, _⟩ := r
    rcases ex.l h1 with h2 | ⟨o, its, n, e1, e2, _⟩
    · rcases h2 with h2 | ⟨o, h2⟩
      · exact .base (.lst h2)
      · exact .base (.frz h2)
    · exact .kList e1 e2
  | .tup l, h =>
    cases h
    obtain ⟨p, xs, rfl, h1, _⟩ := r
    rcases ex.t h1 with h2 | ⟨o, its, n, e1, e2, _⟩
    · rcases h2 with h2 | ⟨o, h2⟩
      · exact .base (.tup h2)
      · exact .fTuple h2
    · exact .kTuple e1 e2
theorem de_isi {x : Str} {T : String} {p p2 : Pos} (hg : Gl X "isinstance") (hm : X.mg "isinstance" = none) (hgT : Gl X x) (hmT : X.mg x = none) (hvT : bootBuiltins x = some (.type T)) (he : DE X W e te me) (hv : bootBuiltins "isinstance" = some (.builtin "isinstance") := by decide +kernel) (hn : x ≠ "__name__" := by decide) (hd : (x == ("__debug__" : Str)) = false := by decide)
    (hs : starEach [e, .Name x p2] X.env = (false, eval e X.env) :: starEach [.Name x p2] X.env := by rfl) (hs2 : starEach [.Name x p2] X.env = (false, eval (.Name x p2) X.env) :: starEach [] X.env := by rfl) (hpl : (backTo pos (starEach [.Name x p2] X.env)).any (·.1) = false := by rfl) :
    DE X W (.Call (.Name "isinstance" p) [e, .Name x p2] [] pos) (tIsi X.K T te) (mUn (isiD T) me) := by
  refine ⟨pe_callB call_isi hg hm hv (pa_cons he.p (pa_cons (pe_bltn (v := .ty T) hgT hmT hvT rfl hn hd) pa_nil hs2) hs) (by decide) (by decide) hs hpl, ?_⟩
  intro en io F H σ s o Q R e' hx hq
  refine he.s.step R e' hx fun d s1 v io1 F1 H1 l1 R1 r1 e1 hx1 => ?_
  obtain ⟨z, e2, e3⟩ := lft_some e1
  unfold isiD at e2
  cases ht : tyD d with
  | none => rw [ht] at e2; cases e2
  | some t =>
    rw [ht] at e2
    obtain ⟨b, hb, rfl⟩ := Option.map_eq_some_iff.mp e2
    exact ⟨v, .ty T, .type t, .type T, b, rfl, .ty T, tyx_of R1.h.ex ht r1, kit_ty hb, hq _ _ e3 _ io1 F1 H1 l1 R1 rfl⟩
/-! ### built-ins on texts and lists -/
def decS (i : Int) : List Nat := (Str.ofString (toString i)).cps.toList
def strF : List D → Option D
  | [.int i] => if i.natAbs.log2 < 1920 then some (.str (decS i)) else none
  | _ => none
theorem b_str : CallOk X (.type "str") (fun xs H Q => ∃ i, xs = [.int i] ∧ i.natAbs.log2 < 1920 ∧ Q (.str (toString i)) H) strF := ⟨call_str_int, calld_val fun io F H vs ds d Q ex rx e k => by
  match ds, e with
  | [.int i], e =>
    obtain ⟨v, rfl, r⟩ := reps1 rx
    have e' : (if i.natAbs.log2 < 1920 then some (D.str (decS i)) else none) = some d := e
    by_cases hc : i.natAbs.log2 < 1920
    · rw [if_pos hc] at e'
      cases e'
      exact ⟨i, by rw [show v = _ from r], hc, k _ fun _ _ _ => rfl⟩
    · rw [if_neg hc] at e'
      cases e'⟩
def intSF : List D → Option D
  | [.str x] => if x.length ≤ 640 then (PySem.intText? ⟨x.toArray⟩).map .int else none
  | _ => none
theorem b_intS : CallOk X (.type "int") (fun xs H Q => ∃ a n, xs = [.str a] ∧ PySem.intText? a = some n ∧ a.length ≤ 640 ∧ Q (.int n) H) intSF := ⟨call_int_str, calld_val fun io F H vs ds d Q ex rx e k => by
  match ds, e with
  | [.str x], e =>
    obtain ⟨v, rfl, r⟩ := reps1 rx
    have e' : (if x.length ≤ 640 then (PySem.intText? ⟨x.toArray⟩).map D.int else none) = some d := e
    by_cases hc : x.length ≤ 640
    · rw [if_pos hc] at e'
      obtain ⟨n, hn, rfl⟩ := Option.map_eq_some_iff.mp e'
      exact ⟨_, n, by rw [show v = _ from r], hn, by rw [str_len]; exact hc, k _ fun _ _ _ => rfl⟩
    · rw [if_neg hc] at e'
      cases e'⟩
/-- a list of truth values; of numbers -/
def blsD : List D → Option (List Bool)
  | [] => some []
  | .bl b :: l => (blsD l).map (b :: ·)
  | _ => none
def intsD : List D → Option (List Int)
  | [] => some []
  | .int b :: l => (intsD l).map (b :: ·)
  | _ => none
theorem bls_reps {io : List Addr} {F : Hp} : ∀ {l : List D} {xs : List V} {bs : List Bool}, blsD l = some bs → reps K io F l xs → xs = bs.map V.bl
  | [], xs, bs, h, r => by
    cases h
    exact r
  | .bl b :: l, xs, bs, h, r => by
    obtain ⟨v, t, rfl, r1, r2⟩ := r
    have h' : (blsD l).map (b :: ·) = some bs := h
    obtain ⟨cs, h1, rfl⟩ := Option.map_eq_some_iff.mp h'
    rw [bls_reps h1 r2, show v = _ from r1]
    rfl
theorem ints_reps {io : List Addr} {F : Hp} : ∀ {l : List D} {xs : List V} {bs : List Int}, intsD l = some bs → reps K io F l xs → xs = bs.map V.int
  | [], xs, bs, h, r => by
    cases h
    exact r
  | .int b :: l, xs, bs, h, r => by
    obtain ⟨v, t, rfl, r1, r2⟩ := r
    have h' : (intsD l).map (b :: ·) = some bs := h
    obtain ⟨cs, h1, rfl⟩ := Option.map_eq_some_iff.mp h'
    rw [ints_reps h1 r2, show v = _ from r1]
    rfl
def allF : List D → Option D
  | [.lst l] => (blsD l).map fun bs => .bl (bs.all id)
  | _ => none
def anyF : List D → Option D
  | [.lst l] => (blsD l).map fun bs => .bl (bs.any id)
  | _ => none
def sumF : List D → Option D
  | [.lst l] => (intsD l).map fun bs => .int bs.sum
  | _ => none
theorem b_all (hc : X.calm = true) : CallOk X (.builtin "all") (rAll X.K) allF := ⟨cr_all hc, calld_val fun io F H vs ds d Q ex rx e k => by
  match ds, e with
  | [.lst l], e =>
    obtain ⟨v, rfl, p, xs, rfl, h, r⟩ := reps1 rx
    obtain ⟨bs, h1, rfl⟩ := Option.map_eq_some_iff.mp (show (blsD l).map (fun bs => D.bl (bs.all id)) = some d from e)
    exact ⟨p, bs, rfl, .inl (.of (bls_reps h1 r ▸ ex p _ h)), k _ fun _ _ _ => rfl⟩⟩
theorem b_any (hc : X.calm = true) : CallOk X (.builtin "any") (rAny X.K) anyF := ⟨cr_any hc, calld_val fun io F H vs ds d Q ex rx e k => by
  match ds, e with
  | [.lst l], e =>
    obtain ⟨v, rfl, p, xs, rfl, h, r⟩ := reps1 rx
    obtain ⟨bs, h1, rfl⟩ := Option.map_eq_some_iff.mp (show (blsD l).map (fun bs => D.bl (bs.any id)) = some d from e)
    exact ⟨p, bs, rfl, .inl (.of (bls_reps h1 r ▸ ex p _ h)), k _ fun _ _ _ => rfl⟩⟩
theorem b_sum (hc : X.calm = true) : CallOk X (.builtin "sum") (rSum X.K) sumF := ⟨cr_sum hc, calld_val fun io F H vs ds d Q ex rx e k => by
  match ds, e with
  | [.lst l], e =>
    obtain ⟨v, rfl, p, xs, rfl, h, r⟩ := reps1 rx
    obtain ⟨bs, h1, rfl⟩ := Option.map_eq_some_iff.mp (show (intsD l).map (fun bs => D.int bs.sum) = some d from e)
    exact ⟨p, bs, rfl, .inl (.of (ints_reps h1 r ▸ ex p _ h)), k _ fun _ _ _ => rfl⟩⟩
/-- list(xs) -/
def listF : List D → Option D
  | [.lst l] => some (.lst l)
  | [.fz l] => some (.lst l)
  | [.tup l] => some (.lst l)
  | _ => none
abbrev r_list (K : PySem.W.Frag) : List V → Hp → VK → Prop := fun xs H Q => ∃ p ys, xs = [.ref p] ∧ (SqL K H p ys ∨ SqT K H p ys) ∧ ∀ l, H l = none → Q (.ref l) (upd H l (.lst ys))
theorem b_list : CallOk X (.type "list") (r_list X.K) listF := ⟨call_list_of, fun en io F H σ s vs ds d Q R rx e k => by
  have fin : ∀ (l : List D) (p : Addr) (xs : List V), d = .lst l → vs = [.ref p] → (SqL X.K H p xs ∨ SqT X.K H p xs) → reps X.K io F l xs → r_list X.K vs H Q := fun l p xs ed ev hs hr => by
    subst ed
    refine ⟨p, xs, ev, hs, fun q hq => ?_⟩
    obtain ⟨R2, l2⟩ := R.new hq (.lst xs)
    exact k _ io _ _ l2 R2 ⟨q, _, rfl, upd_same, reps_le l2 _ _ hr⟩
  match ds, e with
  | [.lst l], e =>
    obtain ⟨v, rfl, p, xs, rfl, h, r⟩ := reps1 rx
    cases e
    exact fin l p xs rfl rfl (.inl (.of (R.h.ex p _ h))) r
  | [.fz l], e =>
    obtain ⟨v, rfl, p, xs, rfl, h, r⟩ := reps1 rx
    cases e
    exact fin l p xs rfl rfl (.inl (R.h.ex.l h)) r
  | [.tup l], e =>
    obtain ⟨v, rfl, p, xs, rfl, h, r⟩ := reps1 rx
    cases e
    exact fin l p xs rfl rfl (.inr (R.h.ex.t h)) r⟩
/-! ### text.split(sep) -/
def splitD (a : List Nat) : D → Option D
  | .str b => if b.length ≠ 0 ∧ a.length + 2 ≤ sizeLine then some (.lst ((Txt.split ⟨a.toArray⟩ ⟨b.toArray⟩).map fun y => .str y.cps.toList)) else none
  | _ => none
def mSplit (ma mb : M D) : M D := bnd ma fun d => match d with
  | .str x => bnd mb fun e => lft (splitD x e)
  | _ => fun _ => none
abbrev rSplit : V → List V → Hp → VK → Prop := fun x xs H Q => ∃ a b, x = .str a ∧ xs = [.str b] ∧ (b.length == 0) = false ∧ a.length + 2 ≤ sizeLine ∧ rNewStrs (Txt.split a b) H Q
theorem reps_strs {io : List Addr} {F : Hp} : ∀ l : List Str, reps K io F (l.map fun y => .str y.cps.toList) (l.map V.str)
  | [] => rfl
  | y :: l => ⟨_, _, rfl, rfl, reps_strs l⟩
theorem de_split {apos : Pos} (ho : DE X W a ta ma) (he : DE X W b tb mb) (hs : starEach [b] X.env = [(false, eval b X.env)] := by rfl) (hbase : attributeBase a "split" X.env (eval a X.env) = eval a X.env := by rfl) (hline : (apos.endLine == pos.line) = true := by rfl) :
    DE X W (.Call (.Attribute a "split" apos) [b] [] pos) (tM1 rSplit ta tb) (mSplit ma mb) := ⟨pe_split ho.p he.p hs hbase hline, by
  intro en io F H σ s o Q R e hx hq
  refine ho.s.step R e hx fun d s1 v io1 F1 H1 l1 R1 r1 e1 hx1 => ?_
  cases d with
  | str x =>
    refine ⟨⟨_, r1⟩, he.s.step R1 e1 hx1 fun d2 s2 v2 io2 F2 H2 l2 R2 r2 e2 hx2 => ?_⟩
    obtain ⟨z, e3, e4⟩ := lft_some e2
    match d2, e3 with
    | .str y, e3 =>
      have e' : (if y.length ≠ 0 ∧ x.length + 2 ≤ sizeLine then some (D.lst ((Txt.split ⟨x.toArray⟩ ⟨y.toArray⟩).map fun y => .str y.cps.toList)) else none) = some z := e3
      by_cases hc : y.length ≠ 0 ∧ x.length + 2 ≤ sizeLine
      · rw [if_pos hc] at e'
        cases e'
        refine ⟨⟨x.toArray⟩, ⟨y.toArray⟩, rep_le l2 (.str x) _ r1, by rw [show v2 = _ from r2], ?_, by rw [str_len]; exact hc.2, fun p hp => ?_⟩
        · rw [str_len]
          exact beq_eq_false_iff_ne.mpr hc.1
        · obtain ⟨R3, l3⟩ := R2.new hp (.lst ((Txt.split ⟨x.toArray⟩ ⟨y.toArray⟩).map V.str))
          exact hq _ _ e4 _ io2 _ _ ((l1.trans l2).trans l3) R3 ⟨p, _, rfl, upd_same, reps_strs _⟩
      · rw [if_neg hc] at e'
        cases e'
  | _ => cases e1⟩
end
section
variable {X : Cx} {W : WX} {pos : Pos} {e : Expr} {te : TE} {me : M D} {kws : List Keyword} {tk : TA} {mk : M (List D)}
theorem ke_isi (K : PySem.W.Frag) {x : Str} {T : String} {p p2 : Pos} (hg : Gl X "isinstance") (hm : X.mg "isinstance" = none) (hgT : Gl X x) (hmT : X.mg x = none) (hvT : bootBuiltins x = some (.type T)) (he : DE X W e te me) (hK : X.K = K := by rfl) (hv : bootBuiltins "isinstance" = some (.builtin "isinstance") := by decide +kernel) (hn : x ≠ "__name__" := by decide) (hd : (x == ("__debug__" : Str)) = false := by decide)
    (hs : starEach [e, .Name x p2] X.env = (false, eval e X.env) :: starEach [.Name x p2] X.env := by rfl) (hs2 : starEach [.Name x p2] X.env = (false, eval (.Name x p2) X.env) :: starEach [] X.env := by rfl) (hpl : (backTo pos (starEach [.Name x p2] X.env)).any (·.1) = false := by rfl) :
    DE X W (.Call (.Name "isinstance" p) [e, .Name x p2] [] pos) (tIsi K T te) (mUn (isiD T) me) := by subst hK; exact de_isi hg hm hgT hmT hvT he hv hn hd hs hs2 hpl
theorem kb_all (K : PySem.W.Frag) (hc : X.calm = true) (hK : X.K = K := by rfl) : CallOk X (.builtin "all") (rAll K) allF := by subst hK; exact b_all hc
theorem kb_any (K : PySem.W.Frag) (hc : X.calm = true) (hK : X.K = K := by rfl) : CallOk X (.builtin "any") (rAny K) anyF := by subst hK; exact b_any hc
theorem kb_sum (K : PySem.W.Frag) (hc : X.calm = true) (hK : X.K = K := by rfl) : CallOk X (.builtin "sum") (rSum K) sumF := by subst hK; exact b_sum hc
theorem kb_list (K : PySem.W.Frag) (hK : X.K = K := by rfl) : CallOk X (.type "list") (r_list K) listF := by subst hK; exact b_list
theorem ke_callK (K : PySem.W.Frag) (mg : Str → Option Value) {x qual : Str} {st : Stmt} {ps ks : List Str} {k np : Nat} {n : Fn} {p : Pos} (nk : Nat) (π : List Nat) (c : Cal X.prog X.w X.K X.mg X.base x qual st ps k np n) (hr : RoomG k X.A) (tk' : Takes X W) (hn : 0 < ps.length)
    (hbd : ∀ (kV doc pm : Value) (an : Option Addr) (cdv ct : Value) (ws : List Value), ws.length = nk → bindArgs (PySem.W.fnOf x qual (defArgs st) (defBody st) (defScope st) .none kV doc pm an cdv ct) ⟨[], ks.zip ws⟩ = pure (ps.zip (perm π ws)))
    (hkw : DK X W kws tk mk) (hK : X.K = K := by rfl) (hM : X.mg = mg := by rfl) (hg : Gl X x := by rfl) (hdb : (x == ("__debug__" : Str)) = false := by decide)
    (hall : (backToKw pos (keywordEach kws X.env)).all (·.1.isSome) = true := by rfl) (hks : (backToKw pos (keywordEach kws X.env)).filterMap (·.1) = ks := by rfl)
    (hpl : ((backTo pos (starEach [] X.env)).any (·.1) || (backToKw pos (keywordEach kws X.env)).any (·.1.isNone)) = false := by rfl) :
    DE X W (.Call (.Name x p) [] kws pos) (tCallKD (spD K mg np n) (gPerm nk π) (fun σ c d H => W c d σ H) tk) (mCall np n (mPerm nk π mk)) := by subst hK hM; exact de_callKC nk π c hr tk' hn hbd hkw hg hdb hall hks hpl
end
section
variable {X : Cx} {W : WX} {pos : Pos} {a b c e : Expr} {ta tb te : TE} {ma mb me : M D} {tl : TA} {ml : M (List D)}
/-- x, y, z = a, b, c -/
def mPar3 (i j k : Nat) (m : M (List D)) : M Fl := bnd m fun l => match l with
  | [d, e, f] => fun s => some (.ok .nx { s with sl := ((s.sl.set i (some (.val d))).set j (some (.val e))).set k (some (.val f)) })
  | _ => fun _ => none
theorem reps3 {K : PySem.W.Frag} {io : List Addr} {F : Hp} {d d' d2 : D} {vs : List V} (r : reps K io F [d, d', d2] vs) : ∃ x y z, vs = [x, y, z] ∧ rep K io F d x ∧ rep K io F d' y ∧ rep K io F d2 z := by
  obtain ⟨x, t, rfl, h, h2⟩ := r
  obtain ⟨y, z, rfl, h3, h4⟩ := reps2 h2
  exact ⟨x, y, z, rfl, h, h3, h4⟩
theorem ds_par3 (i j k : Nat) {x y z : Str} {px py pz pt : Pos} {kt k2 pt2} (hc : X.calm = true) (hN : X.N.Nodup) (ha : DA X W [a, b, c] tl ml) (hi : X.N[i]? = some x := by rfl) (hj : X.N[j]? = some y := by rfl) (hk : X.N[k]? = some z := by rfl) (hij : i ≠ j := by decide) (hik : i ≠ k := by decide) (hjk : j ≠ k := by decide)
    (hx : X.env.scope.names.lookup x = some .local := by rfl) (hy : X.env.scope.names.lookup y = some .local := by rfl) (hz : X.env.scope.names.lookup z = some .local := by rfl)
    (hw : swappedStores [.Tuple [.Name x px, .Name y py, .Name z pz] kt pt] (.Tuple [a, b, c] k2 pt2) X.env = pure (some [x, y, z]) := by rfl)
    (hs : swapsWithSole [.Tuple [.Name x px, .Name y py, .Name z pz] kt pt] (.Tuple [a, b, c] k2 pt2) pos.line X.env = pure false := by rfl) :
    DS X W (.Assign [.Tuple [.Name x px, .Name y py, .Name z pz] kt pt] (.Tuple [a, b, c] k2 pt2) pos) (tPar3 i j k tl) (mPar3 i j k ml) := ⟨ps_par3 hc hN hi hj hk hij hik hjk hx hy hz ha.p hw hs, by
  intro en io F H σ s o E R e hx hq
  refine ha.s.step R e hx fun d s1 v io1 F1 H1 l1 R1 r1 e1 hx1 => ?_
  match d, e1 with
  | [d, d2, d3], e1 =>
    cases e1
    obtain ⟨x1, x2, x3, rfl, r, r', r''⟩ := reps3 r1
    exact ⟨x1, x2, x3, rfl, hq _ _ rfl io1 F1 H1 _ l1 (((R1.setv r).setv r').setv r'')⟩⟩
/-- sep.join(xs), xs a list of the own heap -/
def mJoinH (ma mb : M D) : M D := bnd ma fun d => match d with
  | .str s => bnd mb fun o st => match getH st o with
    | some l => match joinD s (.lst l) with
      | some z => some (.ok z st)
      | none => none
    | none => none
  | _ => fun _ => none
theorem de_joinH {apos : Pos} (ho : DE X W a ta ma) (he : DE X W b tb mb) (hs : starEach [b] X.env = [(false, eval b X.env)] := by rfl) (hbase : attributeBase a "join" X.env (eval a X.env) = eval a X.env := by rfl) (hline : (apos.endLine == pos.line) = true := by rfl) :
    DE X W (.Call (.Attribute a "join" apos) [b] [] pos) (tM1 (r_join X.K) ta tb) (mJoinH ma mb) := ⟨pe_join ho.p he.p hs hbase hline, by
  intro en io F H σ s o Q R e hx hq
  refine ho.s.step R e hx fun d s1 v io1 F1 H1 l1 R1 r1 e1 hx1 => ?_
  cases d with
  | str sp =>
    refine ⟨⟨_, r1⟩, he.s.step R1 e1 hx1 fun d2 s2 v2 io2 F2 H2 l2 R2 r2 e2 hx2 => ?_⟩
    have e3 : (match getH s2 d2 with | some l => (match joinD sp (.lst l) with | some z => some (O.ok z s2) | none => none) | none => none) = some o := e2
    cases hg : getH s2 d2 with
    | none => rw [hg] at e3; cases e3
    | some l =>
      rw [hg] at e3
      cases hz : joinD sp (.lst l) with
      | none =>
        simp only [hz] at e3
        cases e3
      | some z =>
        simp only [hz] at e3
        cases e3
        obtain ⟨l', ys, hl, hys, hc, rfl⟩ := joinD_some hz
        cases hl
        obtain ⟨p, xs, rfl, hF, hH, rx, _⟩ := R2.getH hg r2
        have ex := strs_reps hys rx
        refine ⟨⟨sp.toArray⟩, p, ys.map fun y => (⟨y.toArray⟩ : Str), rep_le l2 (.str sp) _ r1, rfl, .inl (.of (by rw [← ex]; exact hH)), ?_, ?_⟩
        · rw [List.length_map, str_len, List.map_map]
          have : (fun x : Str => x.length) ∘ (fun y : List Nat => (⟨y.toArray⟩ : Str)) = fun y => y.length := by
            funext y
            exact str_len y
          rw [this]
          exact hc
        · have ej := SX.join_S sp ys
          rw [joinL_eq] at ej
          have ej' : Txt.join ⟨sp.toArray⟩ (ys.map fun y => (⟨y.toArray⟩ : Str)) = ⟨(joinL sp ys).toArray⟩ := ej
          rw [ej']
          exact hq _ _ rfl _ io2 F2 H2 (l1.trans l2) R2 rfl
  | _ => cases e1⟩
end
theorem ke_joinH {X : Cx} {W : WX} {pos : Pos} {a b : Expr} {ta tb : TE} {ma mb : M D} (K : PySem.W.Frag) {apos : Pos} (ho : DE X W a ta ma) (he : DE X W b tb mb) (hK : X.K = K := by rfl) (hs : starEach [b] X.env = [(false, eval b X.env)] := by rfl) (hbase : attributeBase a "join" X.env (eval a X.env) = eval a X.env := by rfl) (hline : (apos.endLine == pos.line) = true := by rfl) :
    DE X W (.Call (.Attribute a "join" apos) [b] [] pos) (tM1 (r_join K) ta tb) (mJoinH ma mb) := by subst hK; exact de_joinH ho he hs hbase hline
/-- a, b, .. = a list of that length -/
def gL (gs : List D → M Unit) (n : Nat) (d : D) : M Unit := match d with
  | .lst l => if l.length = n then gs l else fun _ => none
  | _ => fun _ => none
theorem kg_lst {X : Cx} {W : WX} {pos : Pos} (K : PySem.W.Frag) {es : List Expr} {k : Nat} {t : TGs} {gs : List D → M Unit} {n : Nat} (hc : X.calm = true) (h : DGs X W es t gs) (hK : X.K = K := by rfl)
    (hn : (assignEach es X.env).length = n := by rfl) (hst : (assignEach es X.env).findIdx? (·.1) = none := by rfl) : DG X W (.Tuple es k pos) (gUnl K n t) (gL gs n) := by
  subst hK
  refine ⟨pg_unl hc h.p hn hst, ?_⟩
  intro en io F H σ s d v o Q R r e hx hq
  match d, e with
  | .lst l, e =>
    obtain ⟨a, xs, rfl, h1, h2⟩ := r
    have e' : (if l.length = n then gs l else fun _ => none) s = some o := e
    by_cases hl : l.length = n
    · rw [if_pos hl] at e'
      exact ⟨a, xs, rfl, .of (R.h.ex a _ h1), by rw [reps_len h2]; exact hl, h.s en io F H σ s l xs o Q R h2 e' hx hq⟩
    · rw [if_neg hl] at e'
      cases e'
/-- a def that nothing is known of -/
theorem cal_none {P : Program} {w : World} {K : PySem.W.Frag} {mg : Str → Option Value} {base : Heap} {x qual : Str} {st : Stmt} {ps : List Str} {k np : Nat} {f : Addr} {fd : FuncData} (d : Dfn K mg x qual st ps f fd) : Cal P w K mg base x qual st ps k np (fun _ _ => none) :=
  ⟨f, fd, d, ⟨fun _ _ _ _ ⟨_, _, _, _, _, _, _, _, h, _⟩ => (by cases h), fun _ _ _ _ _ _ _ _ _ _ _ _ _ ⟨_, _, _, _, _, _, _, _, h, _⟩ => (by cases h)⟩⟩
end Z
/-! Z10: repr of lists -/
namespace Z
open PySem L2 PySem.Spec
open Classical
def reprF : List D → Option D
  | [d] => match toP d with
    | some p => if p.showable = true ∧ p.hasDict = false ∧ p.depth ≤ 60 ∧ p.shown.length ≤ sizeLine then some (.str p.shown.cps.toList) else none
    | none => none
  | _ => none
abbrev rRepr (K : PySem.W.Frag) : List V → Hp → VK → Prop := fun xs H Q => ∃ (x : V) (d : PyData), xs = [x] ∧ Dp K H x d ∧ d.showable = true ∧ d.hasDict = false ∧ d.depth ≤ 60 ∧ d.shown.length ≤ sizeLine ∧ Q (.str d.shown) H
section
variable {X : Cx}
theorem call_reprL {k : Nat} (hr : RoomG k X.A) (hk : 30 ≤ k) : CallR X (.builtin "repr") (rRepr X.K) := by
  intro pins s σ H xs us Q I r h
  obtain ⟨x, d, rfl, hd, h1, h2, h3, h4, q⟩ := h
  have hu := hr.units
  have kp : ∀ tk, Inv X pins σ H { s with toks := tk } := fun tk => I.kept (t' := tk) fun _ _ e => e
  cases r with
  | cons rv rn =>
    cases rn
    rename_i u
    have refs : ∀ a, x = .ref a → wpAny (model X.prog X.w) X.A (call (.builtin "repr") [u]) (fun v s' => EP X pins σ Q v s') X.xe s := fun a ea => by
      subst ea
      obtain rfl : u = Value.ref a := rv
      obtain ⟨as, r1⟩ := Dp.reads I d _ (.ref a) hd rfl
      exact repr_of_reads' (h₀ := s.heap) r1 h1 (fun z => by rw [h2] at z; cases z) (hr.g hk) (by omega) (fun _ _ e => e) (fun h' u tk hk => ⟨.str _, H, I.kept (t' := tk) hk, ⟨_, rfl⟩, q⟩) h4
    cases hd with
    | non =>
      obtain rfl : u = Value.none := rv
      exact P.repr_of_none ⟨.str _, H, kp _, ⟨_, rfl⟩, q⟩
    | bl b =>
      obtain rfl : u = Value.bool b := rv
      exact P.repr_of_bool ⟨.str _, H, kp _, ⟨_, rfl⟩, by cases b <;> exact q⟩
    | int i =>
      obtain ⟨t, rfl⟩ : ∃ t, u = Value.int i t := rv
      exact P.repr_of_int (of_decide_eq_true h1) ⟨.str _, H, kp _, ⟨_, rfl⟩, q⟩
    | str y =>
      obtain ⟨t, rfl⟩ : ∃ t, u = Value.str y t := rv
      exact P.repr_of_str ⟨.str _, H, kp _, ⟨_, rfl⟩, q⟩ h4
    | lst h0 hds => exact refs _ rfl
    | tup h0 hds => exact refs _ rfl
theorem b_repr {k : Nat} (hr : RoomG k X.A) (hk : 30 ≤ k) : CallOk X (.builtin "repr") (rRepr X.K) reprF := ⟨call_reprL hr hk, calld_val fun io F H vs ds d Q ex rx e k => by
  match ds, e with
  | [x], e =>
    obtain ⟨v, rfl, r⟩ := reps1 rx
    have e' : (match toP x with | some p => if p.showable = true ∧ p.hasDict = false ∧ p.depth ≤ 60 ∧ p.shown.length ≤ sizeLine then some (D.str p.shown.cps.toList) else none | none => none) = some d := e
    cases hp : toP x with
    | none => rw [hp] at e'; cases e'
    | some p =>
      rw [hp] at e'
      by_cases hc : p.showable = true ∧ p.hasDict = false ∧ p.depth ≤ 60 ∧ p.shown.length ≤ sizeLine
      · simp only [if_pos hc] at e'
        cases e'
        exact ⟨v, p, rfl, rep_dp ex _ _ _ hp r, hc.1, hc.2.1, hc.2.2.1, hc.2.2.2, k _ fun _ _ _ => rfl⟩
      · simp only [if_neg hc] at e'
        cases e'⟩
theorem kb_repr (K : PySem.W.Frag) {k : Nat} (hr : RoomG k X.A) (hk : 30 ≤ k) (hK : X.K = K := by rfl) : CallOk X (.builtin "repr") (rRepr K) reprF := by subst hK; exact b_repr hr hk
end
end Z
/-! Z11: dicts of the own heap (keys: numbers and texts) -/
namespace Z
open PySem L2 PySem.Spec
open Classical
theorem kk_inj {a b : KK} : kk a = kk b ↔ a = b := by
  constructor
  · intro h
    cases a with
    | inl i =>
      cases b with
      | inl j => injection h with h; rw [h]
      | inr s => cases h
    | inr s =>
      cases b with
      | inl j => cases h
      | inr t =>
        injection h with h
        have := congrArg Str.cps h
        have : s = t := by simpa using congrArg Array.toList this
        rw [this]
  · rintro rfl
    rfl
def keyD : D → Option KK
  | .int i => some (.inl i)
  | .str s => some (.inr s)
  | _ => none
theorem keyD_rep {K : PySem.W.Frag} {io : List Addr} {F : Hp} {d : D} {k : KK} {v : V} (h : keyD d = some k) (r : rep K io F d v) : v = kV (kk k) := by
  cases d with
  | int i => cases h; exact r
  | str s => cases h; exact r
  | _ => cases h
noncomputable def getK (kvs : List (KK × D)) (k : KK) : Option D := (kvs.find? fun p => decide (p.1 = k)).map (·.2)
noncomputable def putKD (kvs : List (KK × D)) (k : KK) (d : D) : List (KK × D) := if (kvs.any fun p => decide (p.1 = k)) = true then kvs.map (fun p => if p.1 = k then (p.1, d) else p) else kvs ++ [(k, d)]
theorem kreps_cons {K : PySem.W.Frag} {io : List Addr} {F : Hp} {p : KK × D} {kvs : List (KK × D)} {ws : List (Key × V)} (h : KReps kk K io F (p :: kvs) ws) : ∃ v t, ws = (kk p.1, v) :: t ∧ rep K io F p.2 v ∧ KReps kk K io F kvs t := by
  obtain ⟨h1, h2⟩ := h
  cases ws with
  | nil => cases h1
  | cons w t =>
    obtain ⟨k, v⟩ := w
    rw [List.map_cons, List.map_cons] at h1
    injection h1 with h3 h4
    obtain ⟨x, r, e, r1, r2⟩ := h2
    rw [List.map_cons] at e
    injection e with e1 e2
    have h3' : k = kk p.1 := h3
    subst h3'
    exact ⟨v, t, rfl, by rw [show v = x from e1]; exact r1, h4, by rw [e2]; exact r2⟩
theorem kreps_mk {K : PySem.W.Frag} {io : List Addr} {F : Hp} {p : KK × D} {kvs : List (KK × D)} {v : V} {t : List (Key × V)} (r : rep K io F p.2 v) (h : KReps kk K io F kvs t) : KReps kk K io F (p :: kvs) ((kk p.1, v) :: t) :=
  ⟨by rw [List.map_cons, List.map_cons, h.1], ⟨v, t.map (·.2), rfl, r, h.2⟩⟩
theorem kreps_get {K : PySem.W.Frag} {io : List Addr} {F : Hp} (k : KK) : ∀ {kvs : List (KK × D)} {ws : List (Key × V)}, KReps kk K io F kvs ws → (∃ d v, getK kvs k = some d ∧ valV ws (kk k) = some v ∧ rep K io F d v) ∨ (getK kvs k = none ∧ valV ws (kk k) = none)
  | [], ws, h => by
    obtain ⟨h1, _⟩ := h
    cases ws with
    | nil => exact .inr ⟨rfl, rfl⟩
    | cons w t => cases h1
  | p :: kvs, ws, h => by
    obtain ⟨v, t, rfl, r, h'⟩ := kreps_cons h
    by_cases e : p.1 = k
    · refine .inl ⟨p.2, v, ?_, valV_pos (p := (kk p.1, v)) (by rw [e]), r⟩
      unfold getK
      rw [List.find?_cons, decide_eq_true e]
      rfl
    · have e2 : getK (p :: kvs) k = getK kvs k := by
        unfold getK
        rw [List.find?_cons, decide_eq_false e]
      rw [e2, valV_neg (p := (kk p.1, v)) (fun z => e (kk_inj.mp z))]
      exact kreps_get k h'
theorem kreps_any {K : PySem.W.Frag} {io : List Addr} {F : Hp} (k : KK) : ∀ {kvs : List (KK × D)} {ws : List (Key × V)}, KReps kk K io F kvs ws → (ws.any fun p => decide (p.1 = kk k)) = (kvs.any fun p => decide (p.1 = k))
  | [], ws, h => by
    obtain ⟨h1, _⟩ := h
    cases ws with
    | nil => rfl
    | cons w t => cases h1
  | p :: kvs, ws, h => by
    obtain ⟨v, t, rfl, r, h'⟩ := kreps_cons h
    rw [List.any_cons, List.any_cons, kreps_any k h']
    congr 1
    rw [decide_eq_decide]
    exact kk_inj
theorem kreps_map {K : PySem.W.Frag} {io : List Addr} {F : Hp} (k : KK) {d : D} {v : V} (rd : rep K io F d v) : ∀ {kvs : List (KK × D)} {ws : List (Key × V)}, KReps kk K io F kvs ws → KReps kk K io F (kvs.map fun p => if p.1 = k then (p.1, d) else p) (ws.map fun p => if p.1 = kk k then (p.1, v) else p)
  | [], ws, h => by
    obtain ⟨h1, _⟩ := h
    cases ws with
    | nil => exact ⟨rfl, rfl⟩
    | cons w t => cases h1
  | p :: kvs, ws, h => by
    obtain ⟨u, t, rfl, r, h'⟩ := kreps_cons h
    have ih := kreps_map k rd h'
    rw [List.map_cons, List.map_cons]
    by_cases e : p.1 = k
    · rw [if_pos e, if_pos (kk_inj.mpr e)]
      exact kreps_mk (p := (p.1, d)) rd ih
    · rw [if_neg e, if_neg (fun z => e (kk_inj.mp z))]
      exact kreps_mk r ih
theorem kreps_snoc {K : PySem.W.Frag} {io : List Addr} {F : Hp} {k : KK} {d : D} {v : V} (rd : rep K io F d v) : ∀ {kvs : List (KK × D)} {ws : List (Key × V)}, KReps kk K io F kvs ws → KReps kk K io F (kvs ++ [(k, d)]) (ws ++ [(kk k, v)])
  | [], ws, h => by
    obtain ⟨h1, _⟩ := h
    cases ws with
    | nil => exact kreps_mk (p := (k, d)) rd ⟨rfl, rfl⟩
    | cons w t => cases h1
  | p :: kvs, ws, h => by
    obtain ⟨u, t, rfl, r, h'⟩ := kreps_cons h
    exact kreps_mk r (kreps_snoc rd h')
theorem kreps_put {K : PySem.W.Frag} {io : List Addr} {F : Hp} {k : KK} {d : D} {v : V} (rd : rep K io F d v) {kvs : List (KK × D)} {ws : List (Key × V)} (h : KReps kk K io F kvs ws) : KReps kk K io F (putKD kvs k d) (putK ws (kk k) v) := by
  unfold putKD putK
  have e := kreps_any k h
  by_cases hc : (kvs.any fun p => decide (p.1 = k)) = true
  · rw [if_pos hc, if_pos (by rw [← hc, ← e])]
    have := kreps_map k rd h
    exact this
  · rw [if_neg hc, if_neg (by intro z; apply hc; rw [← e, ← z])]
    exact kreps_snoc rd h
section
variable {X : Cx} {W : WX} {pos : Pos} {K : PySem.W.Frag} {mg : Str → Option Value} {a b c e : Expr} {ta tb te : TE} {ma mb me : M D} {en : Ent} {io : List Addr} {F H : Hp} {σ : St} {s : A}
def getDk (s : A) (d : D) : Option (List (KK × D)) := match d with
  | .ref r => match s.hp[r]? with
    | some (.dk l) => some l
    | _ => none
  | _ => none
def setDk (s : A) (d : D) (l : List (KK × D)) : A := match d with
  | .ref r => { s with hp := s.hp.set r (.dk l) }
  | _ => s
theorem Rel.getDk (R : Rel K en io F H σ s) {d : D} {v : V} {l : List (KK × D)} (h : getDk s d = some l) (r : rep K io F d v) : ∃ p ws, v = .ref p ∧ F p = none ∧ H p = some (.dK ws) ∧ KReps kk K io F l ws ∧
    ∀ l' ws', KReps kk K io F l' ws' → Rel K en io F (upd H p (.dK ws')) σ (setDk s d l') := by
  match d, h with
  | .ref k, h =>
    unfold Z.getDk at h
    simp only at h
    split at h
    · rename_i l' h'
      cases h
      obtain ⟨p, rfl, hp⟩ := r
      obtain ⟨hF, ws, hH, rx⟩ := R.h.ids k p _ hp h'
      exact ⟨p, ws, rfl, hF, hH, rx, fun l' ws' ry => R.hput h' hp hF ⟨hF, ws', upd_same, ry⟩⟩
    · cases h
/-- to be read: locked or not -/
def getDr (s : A) (d : D) : Option (List (KK × D)) := match d with
  | .ref r => match s.hp[r]? with
    | some (.dk l) => some l
    | some (.dkL l) => some l
    | _ => none
  | _ => none
theorem Rel.getDr (R : Rel K en io F H σ s) {d : D} {v : V} {l : List (KK × D)} (h : getDr s d = some l) (r : rep K io F d v) : ∃ p ws, v = .ref p ∧ Rd H p (.dK ws) ∧ KReps kk K io F l ws := by
  match d, h with
  | .ref k, h =>
    unfold Z.getDr at h
    simp only at h
    obtain ⟨p, rfl, hp⟩ := r
    split at h
    · rename_i l' h'
      cases h
      obtain ⟨hF, ws, hH, rx⟩ := R.h.ids k p _ hp h'
      exact ⟨p, ws, rfl, .inl hH, rx⟩
    · rename_i l' h'
      cases h
      obtain ⟨ob, ws, _, hH, rx⟩ := R.h.ids k p _ hp h'
      exact ⟨p, ws, rfl, .inr ⟨ob, hH⟩, rx⟩
    · cases h
/-- {} -/
def mDNew : M D := fun s => some (.ok (.ref s.hp.length) { s with hp := s.hp ++ [.dk []] })
theorem de_dnew : DE X W (.Dict [] [] pos) tDNewK mDNew := ⟨pe_dnewK, by
  intro en io F H σ s o Q R e hx hq
  cases e
  intro p hp
  obtain ⟨R2, l2, r2⟩ := R.hnew (ho := .dK []) (o := .dk []) hp ⟨R.h.ex.none_of hp, [], upd_same, rfl, rfl⟩
  exact hq _ _ rfl _ _ _ _ l2 R2 r2⟩
/-- d[k] -/
noncomputable def mDGet (mo mk : M D) : M D := bnd mo fun o => bnd mk fun k s => match keyD k, getDr s o with
  | some k, some l => match getK l k with
    | some d => some (.ok d s)
    | none => none
  | _, _ => none
theorem de_dget (hu : X.A.units + 64 < cLine) (ho : DE X W a ta ma) (hi : DE X W b tb mb) (hs : NoSl b := by exact fun _ _ => rfl) : DE X W (.Subscript a b pos) (tDGet ta tb) (mDGet ma mb) := ⟨pe_dget (by omega) ho.p hi.p hs, by
  intro en io F H σ s o Q R e hx hq
  refine ho.s.step R e hx fun d s1 v io1 F1 H1 l1 R1 r1 e1 hx1 => ?_
  refine hi.s.step R1 e1 hx1 fun d2 s2 v2 io2 F2 H2 l2 R2 r2 e2 hx2 => ?_
  split at e2
  · rename_i k l hk hl
    split at e2
    · rename_i z hz
      cases e2
      obtain ⟨p, ws, rfl, hH, rx⟩ := R2.getDr hl (rep_le l2 _ _ r1)
      have ek := keyD_rep hk r2
      rcases kreps_get k rx with ⟨d, w, g1, g2, g3⟩ | ⟨g1, _⟩
      · rw [hz] at g1
        cases g1
        exact ⟨p, w, rfl, .inl ⟨ws, kk k, hH, ek, g2.symm⟩, hq _ _ rfl w io2 F2 H2 (l1.trans l2) R2 g3⟩
      · rw [hz] at g1
        cases g1
    · cases e2
  · cases e2⟩
/-- d[k] = v -/
noncomputable def mDPut (mv mo mk : M D) : M Fl := bnd mv fun v => bnd mo fun o => bnd mk fun k s => match keyD k, getDk s o with
  | some k, some l => if l.length < sizeLine then some (.ok .nx (setDk s o (putKD l k v))) else none
  | _, _ => none
theorem ds_dput {spos : Pos} (hu : X.A.units + 64 < cLine) (he : DE X W e te me) (ho : DE X W a ta ma) (hi : DE X W b tb mb) (hs : swapsWith e (some (.Subscript a b spos)) pos.line X.env = pure false := by rfl) :
    DS X W (.Assign [.Subscript a b spos] e pos) (sDPut ta tb te) (mDPut me ma mb) := ⟨ps_dput (by omega) ho.p hi.p he.p hs, by
  intro en io F H σ s o E R e' hx hq
  refine he.s.step R e' hx fun d s1 v io1 F1 H1 l1 R1 r1 e1 hx1 => ?_
  refine ho.s.step R1 e1 hx1 fun d2 s2 v2 io2 F2 H2 l2 R2 r2 e2 hx2 => ?_
  refine hi.s.step R2 e2 hx2 fun d3 s3 v3 io3 F3 H3 l3 R3 r3 e3 hx3 => ?_
  split at e3
  · rename_i k l hk hl
    by_cases hc : l.length < sizeLine
    · rw [if_pos hc] at e3
      cases e3
      obtain ⟨p, ws, rfl, hF, hH, rx, hput⟩ := R3.getDk hl (rep_le l3 _ _ r2)
      have ek := keyD_rep hk r3
      have hlen : ws.length = l.length := by
        have := congrArg List.length rx.1
        simpa using this
      exact ⟨p, _, rfl, .inl ⟨ws, kk k, hH, ek, by rw [hlen]; exact hc, rfl⟩, hq _ _ rfl io3 F3 _ σ ((l1.trans l2).trans l3) (hput _ _ (kreps_put (rep_le (l2.trans l3) _ _ r1) rx))⟩
    · rw [if_neg hc] at e3
      cases e3
  · cases e3⟩
/-- k in d, k not in d -/
noncomputable def mDIn (neg : Bool) (mk mo : M D) : M D := bnd mk fun k => bnd mo fun o s => match keyD k, getDr s o with
  | some k, some l => some (.ok (.bl (if neg then !(getK l k).isSome else (getK l k).isSome)) s)
  | _, _ => none
theorem kreps_some {ws : List (Key × V)} {l : List (KK × D)} (k : KK) (r : KReps kk K io F l ws) : (valV ws (kk k)).isSome = (getK l k).isSome := by
  rcases kreps_get k r with ⟨d, w, g1, g2, _⟩ | ⟨g1, g2⟩
  · rw [g1, g2]
    rfl
  · rw [g1, g2]
    rfl
theorem sem_din (neg : Bool) (hi : SemE K mg W ta ma) (ho : SemE K mg W tb mb) : SemE K mg W (if neg then tDNotIn ta tb else tDIn ta tb) (mDIn neg ma mb) := by
  intro en io F H σ s o Q R e hx hq
  have go : ∀ t : TE, t = (fun σ H Q => ta σ H fun y H1 => tb σ H1 fun x H2 => ∃ a r, x = .ref a ∧ DGet H2 a y r ∧ Q (.bl (if neg then !r.isSome else r.isSome)) H2) → t σ H Q := by
    rintro t rfl
    refine hi.step R e hx fun d s1 v io1 F1 H1 l1 R1 r1 e1 hx1 => ?_
    refine ho.step R1 e1 hx1 fun d2 s2 v2 io2 F2 H2 l2 R2 r2 e2 hx2 => ?_
    split at e2
    · rename_i k l hk hl
      cases e2
      obtain ⟨p, ws, rfl, hH, rx⟩ := R2.getDr hl r2
      have ek := keyD_rep hk (rep_le l2 _ _ r1)
      refine ⟨p, valV ws (kk k), rfl, .inl ⟨ws, kk k, hH, ek, rfl⟩, hq _ _ rfl _ io2 F2 H2 (l1.trans l2) R2 ?_⟩
      rw [kreps_some k rx]
      rfl
    · cases e2
  cases neg with
  | true => exact go _ rfl
  | false => exact go _ rfl
theorem dt_din (hu : X.A.units + 64 < cLine) (hi : DE X W a ta ma) (ho : DE X W b tb mb) (hm : behindInMarks .In b = false := by rfl) : DT X W (.Compare a [.In] [b] pos) (tB (tDIn ta tb)) (mTst (mDIn false ma mb)) :=
  ⟨pt_cmp (pc_din (by omega) hi.p ho.p) hm, by have := sem_tst (sem_din false hi.s ho.s); exact this⟩
theorem dt_dnotin (hu : X.A.units + 64 < cLine) (hi : DE X W a ta ma) (ho : DE X W b tb mb) (hm : behindInMarks .NotIn b = false := by rfl) : DT X W (.Compare a [.NotIn] [b] pos) (tB (tDNotIn ta tb)) (mTst (mDIn true ma mb)) :=
  ⟨pt_cmp (pc_dnotin (by omega) hi.p ho.p) hm, by have := sem_tst (sem_din true hi.s ho.s); exact this⟩
end
end Z
/-! Z12: a dict that is locked -/
namespace Z
open PySem L2 PySem.Spec
open Classical
/-- F without p -/
noncomputable def drp1 (F : Hp) (p : Addr) : Hp := fun b => if b = p then none else F b
theorem drp1_ne {F : Hp} {p b : Addr} (h : b ≠ p) : drp1 F p b = F b := if_neg h
theorem drp1_same {F : Hp} {p : Addr} : drp1 F p p = none := if_pos rfl
section
variable {K : PySem.W.Frag} {io : List Addr} {F : Hp} {p : Addr} {ob : Obj} {ws : List (Key × V)}
theorem drp1_sqL (hp : F p = some (.frz ob (.dK ws))) {a : Addr} {xs : List V} (h : SqL K F a xs) : SqL K (drp1 F p) a xs := by
  rcases h with h | h
  · rcases h with h | ⟨o, h⟩
    · exact .inl (.inl (by rw [drp1_ne (fun z => by subst z; rw [hp] at h; cases h)]; exact h))
    · exact .inl (.inr ⟨o, by rw [drp1_ne (fun z => by subst z; rw [hp] at h; cases h)]; exact h⟩)
  · exact .inr h
theorem drp1_sqT (hp : F p = some (.frz ob (.dK ws))) {a : Addr} {xs : List V} (h : SqT K F a xs) : SqT K (drp1 F p) a xs := by
  rcases h with h | h
  · rcases h with h | ⟨o, h⟩
    · exact .inl (.inl (by rw [drp1_ne (fun z => by subst z; rw [hp] at h; cases h)]; exact h))
    · exact .inl (.inr ⟨o, by rw [drp1_ne (fun z => by subst z; rw [hp] at h; cases h)]; exact h⟩)
  · exact .inr h
mutual
theorem rep_drp (hp : F p = some (.frz ob (.dK ws))) : ∀ (d : D) (v : V), rep K io F d v → rep K io (drp1 F p) d v
  | .non, v, r => r
  | .bl b, v, r => r
  | .int i, v, r => r
  | .str s, v, r => r
  | .lst l, v, r => by
    obtain ⟨a, xs, e, h, r⟩ := r
    exact ⟨a, xs, e, by rw [drp1_ne (fun z => by subst z; rw [hp] at h; cases h)]; exact h, reps_drp hp l xs r⟩
  | .tup l, v, r => by
    obtain ⟨a, xs, e, h, r⟩ := r
    exact ⟨a, xs, e, drp1_sqT hp h, reps_drp hp l xs r⟩
  | .fz l, v, r => by
    obtain ⟨a, xs, e, h, r⟩ := r
    exact ⟨a, xs, e, drp1_sqL hp h, reps_drp hp l xs r⟩
  | .ref i, v, r => r
  | .exc c d, v, r => by
    obtain ⟨a, C, dd, w, e, k, h1, h2, r⟩ := r
    exact ⟨a, C, dd, w, e, k, by rw [drp1_ne (fun z => by subst z; rw [hp] at h1; cases h1)]; exact h1, by rw [drp1_ne (fun z => by subst z; rw [hp] at h2; cases h2)]; exact h2, rep_drp hp d w r⟩
  | .cls c, v, r => r
theorem reps_drp (hp : F p = some (.frz ob (.dK ws))) : ∀ (l : List D) (xs : List V), reps K io F l xs → reps K io (drp1 F p) l xs
  | [], xs, r => r
  | d :: l, xs, r => by
    obtain ⟨x, t, e, r1, r2⟩ := r
    exact ⟨x, t, e, rep_drp hp d x r1, reps_drp hp l t r2⟩
end
end
/-- the entry, p locked -/
noncomputable def enL (en : Ent) (p : Addr) (u : HO) : Ent := { H := en.H, F := fun b => if b = p ∧ en.H p ≠ none then some u else en.F b, io := en.io }
section
variable {K : PySem.W.Frag} {en : Ent} {io : List Addr} {F H : Hp} {σ : St} {s : A} {p : Addr} {i : Nat} {kvs : List (KK × D)} {ws : List (Key × V)}
theorem Rel.lock (R : Rel K en io F H σ s) (hs : s.hp[i]? = some (.dk kvs)) (hi : io[i]? = some p) (hH : H p = some (.dK ws)) (hF : F p = none) (rx : KReps kk K io F kvs ws) (ob : Obj) :
    Rel K (enL en p (.frz ob (.dK ws))) io (upd F p (.frz ob (.dK ws))) (upd H p (.frz ob (.dK ws))) σ { s with hp := s.hp.set i (.dkL kvs) } ∧ Le io F io (upd F p (.frz ob (.dK ws))) := by
  have l : Le io F io (upd F p (.frz ob (.dK ws))) := ⟨fun _ _ h => h, Ex.new hF⟩
  have pin : p ∈ io := List.mem_of_getElem? hi
  have hlt := (List.getElem?_eq_some_iff.mp hs).1
  refine ⟨⟨⟨R.h.ex.up, by rw [List.length_set]; exact R.h.len, R.h.nd, fun j b o e1 e2 => ?_⟩, ⟨R.k.pre, R.k.new, fun b o e hb => ?_, fun b hb => ?_, fun b hb => ?_, fun a o e => ?_⟩, R.len, fun j d e => ?_, fun j o e => ?_, R.sep⟩, l⟩
  · by_cases hj : j = i
    · subst hj
      rw [hi] at e1
      cases e1
      rw [List.getElem?_set_self hlt] at e2
      cases e2
      exact ⟨ob, ws, upd_same, upd_same, rx.1, reps_le l _ _ rx.2⟩
    · have hb : b ≠ p := fun z => hj (R.h.nd j i b e1 (by rw [z]; exact hi))
      rw [List.getElem?_set_ne (Ne.symm hj)] at e2
      exact (R.h.ids j b o e1 e2).le l (fun z => by rw [upd_ne hb]; exact z) (fun u hu => by rw [upd_ne hb]; exact hu)
  · have hb2 : b ≠ p := fun z => by
      subst z
      by_cases hl2 : en.io.length ≤ i
      · have := R.k.new i b hi hl2
        have e' : en.H b = some o := e
        rw [this] at e'
        cases e'
      · have hl' : i < en.io.length := by omega
        have e2 := R.k.pre i en.io[i] (List.getElem?_eq_getElem hl')
        rw [hi] at e2
        cases e2
        exact hb (List.getElem_mem hl')
    rw [upd_ne hb2]
    exact R.k.frm b o e hb
  · by_cases hb2 : b = p
    · subst hb2
      rw [upd_same]
      exact fun z => nomatch z
    · rw [upd_ne hb2]
      exact R.k.liv b hb
  · by_cases hb2 : b = p
    · subst hb2
      rw [upd_same]
      exact (if_pos ⟨rfl, hb⟩).symm
    · rw [upd_ne hb2]
      have : (enL en p (.frz ob (.dK ws))).F b = en.F b := if_neg fun z => hb2 z.1
      rw [this]
      exact R.k.grow b hb
  · by_cases hc : a = p ∧ en.H p ≠ none
    · have e' : some (HO.frz ob (.dK ws)) = some o := by rw [← e]; exact (if_pos hc).symm
      rw [hc.1, upd_same]
      exact e'
    · have e' : en.F a = some o := by rw [← e]; exact (if_neg hc).symm
      have e2 := R.k.ex a o e'
      rw [upd_ne (fun z => by subst z; rw [hF] at e2; cases e2)]
      exact e2
  · obtain ⟨v, e1, r⟩ := R.val j d e
    exact ⟨v, e1, rep_le l d v r⟩
  · obtain ⟨q, e1, c, hq, hn⟩ := R.own j o e
    have hqp : q ≠ p := fun z => hq (by rw [z]; exact pin)
    exact ⟨q, e1, c.le l (fun z => by rw [upd_ne hqp]; exact z) (fun u hu => by rw [upd_ne hqp]; exact hu), hq, hn⟩
theorem cont_drp {ob : Obj} {u : HO} (hp : F p = some (.frz ob (.dK ws))) {b : Addr} {o : AO} (hb : b ≠ p) (c : Cont K io F H b o) : Cont K io (drp1 F p) (upd H p u) b o := by
  cases o with
  | dead => exact fun z => c (by rw [← z, upd_ne hb])
  | lst l => obtain ⟨a, xs, e, r⟩ := c; exact ⟨by rw [drp1_ne hb]; exact a, xs, by rw [upd_ne hb]; exact e, reps_drp hp _ _ r⟩
  | dk l => obtain ⟨a, xs, e, r1, r⟩ := c; exact ⟨by rw [drp1_ne hb]; exact a, xs, by rw [upd_ne hb]; exact e, r1, reps_drp hp _ _ r⟩
  | dt l => obtain ⟨a, xs, e, r1, r⟩ := c; exact ⟨by rw [drp1_ne hb]; exact a, xs, by rw [upd_ne hb]; exact e, r1, reps_drp hp _ _ r⟩
  | dkL l => obtain ⟨ob', xs, f, e, r1, r⟩ := c; exact ⟨ob', xs, by rw [drp1_ne hb]; exact f, by rw [upd_ne hb]; exact e, r1, reps_drp hp _ _ r⟩
  | ins n l => obtain ⟨a, C, dx, xs, e, m, r1, r⟩ := c; exact ⟨by rw [drp1_ne hb]; exact a, C, dx, xs, by rw [upd_ne hb]; exact e, m, r1, reps_drp hp _ _ r⟩
theorem Rel.unlock {ob : Obj} (R : Rel K (enL en p (.frz ob (.dK ws))) io F H σ s) (hs : s.hp[i]? = some (.dkL kvs)) (hi : io[i]? = some p) (hp : F p = some (.frz ob (.dK ws))) (hen : en.F p = none) :
    Rel K en io (drp1 F p) (upd H p (.dK ws)) σ { s with hp := s.hp.set i (.dk kvs) } := by
  have pin : p ∈ io := List.mem_of_getElem? hi
  have hlt := (List.getElem?_eq_some_iff.mp hs).1
  refine ⟨⟨fun a o e => ?_, by rw [List.length_set]; exact R.h.len, R.h.nd, fun j b o e1 e2 => ?_⟩, ⟨R.k.pre, R.k.new, fun b o e hb => ?_, fun b hb => ?_, fun b hb => ?_, fun a o e => ?_⟩, R.len, fun j d e => ?_, fun j o e => ?_, R.sep⟩
  · have ha : a ≠ p := fun z => by
      subst z
      rw [drp1_same] at e
      cases e
    rw [drp1_ne ha] at e
    rw [upd_ne ha]
    exact R.h.ex a o e
  · by_cases hj : j = i
    · subst hj
      rw [hi] at e1
      cases e1
      rw [List.getElem?_set_self hlt] at e2
      cases e2
      obtain ⟨ob', ws', f, _, rx⟩ := R.h.ids j p _ hi hs
      rw [hp] at f
      cases f
      exact ⟨drp1_same, ws, upd_same, rx.1, reps_drp hp _ _ rx.2⟩
    · have hb : b ≠ p := fun z => hj (R.h.nd j i b e1 (by rw [z]; exact hi))
      rw [List.getElem?_set_ne (Ne.symm hj)] at e2
      exact cont_drp hp hb (R.h.ids j b o e1 e2)
  · have hb2 : b ≠ p := fun z => by
      subst z
      by_cases hl2 : en.io.length ≤ i
      · have := R.k.new i b hi hl2
        have e' : en.H b = some o := e
        have t' : en.H b = none := this
        rw [t'] at e'
        cases e'
      · have hl' : i < en.io.length := by omega
        have e2 := R.k.pre i en.io[i] (List.getElem?_eq_getElem hl')
        rw [hi] at e2
        cases e2
        exact hb (List.getElem_mem hl')
    rw [upd_ne hb2]
    exact R.k.frm b o e hb
  · by_cases hb2 : b = p
    · subst hb2
      rw [upd_same]
      exact fun z => nomatch z
    · rw [upd_ne hb2]
      exact R.k.liv b hb
  · by_cases hb2 : b = p
    · subst hb2
      rw [drp1_same]
      exact hen.symm
    · rw [drp1_ne hb2]
      have := R.k.grow b hb
      rw [this]
      exact if_neg fun z => hb2 z.1
  · have ha : a ≠ p := fun z => by
      subst z
      rw [hen] at e
      cases e
    have e2 : (enL en p (.frz ob (.dK ws))).F a = some o := by
      rw [← e]
      exact if_neg fun z => ha z.1
    rw [drp1_ne ha]
    exact R.k.ex a o e2
  · obtain ⟨v, e1, r⟩ := R.val j d e
    exact ⟨v, e1, rep_drp hp d v r⟩
  · obtain ⟨q, e1, c, hq, hn⟩ := R.own j o e
    have hqp : q ≠ p := fun z => hq (by rw [z]; exact pin)
    exact ⟨q, e1, cont_drp hp hqp c, hq, hn⟩
theorem le_drp {io' : List Addr} {F' : Hp} {u : HO} (h : F p = none) (l : Le io (upd F p u) io' F') : Le io F io' (drp1 F' p) := ⟨l.pre, fun a o e => by
  have ha : a ≠ p := fun z => by
    subst z
    rw [h] at e
    cases e
  rw [drp1_ne ha]
  exact l.ex a o (by rw [upd_ne ha]; exact e)⟩
end
section
variable {X : Cx} {W : WX} {pos : Pos} {K : PySem.W.Frag} {mg : Str → Option Value} {tg e : Expr} {g : TG} {gm : D → M Unit} {t : TS} {m : M Fl} {sts : List Stmt}
/-- the keys of the locked dict in slot j -/
def mKeysL (j : Nat) : M (List D) := fun s => match s.sl[j]? with
  | some (some (.val (.ref r))) => match s.hp[r]? with
    | some (.dkL kvs) => some (.ok (kvs.map fun p => kD p.1) s)
    | _ => none
  | _ => none
theorem kV_kD {io : List Addr} {F : Hp} (k : KK) : rep K io F (kD k) (kV (kk k)) := by
  cases k with
  | inl i => rfl
  | inr s => rfl
theorem sem_keysL (j : Nat) : SemI K mg W (iKeys (tVar j)) (mKeysL j) := by
  intro en io F H σ s o Q R e hx hq
  unfold mKeysL at e
  split at e
  · rename_i r h
    split at e
    · rename_i kvs hk
      cases e
      obtain ⟨v, e1, p, rfl, hp⟩ := R.val j _ h
      obtain ⟨ob, ws, f, hH, rx⟩ := R.h.ids r p _ hp hk
      refine ⟨_, e1, p, ob, rfl, .inl ⟨ws, hH, hq _ _ rfl _ io F H (Le.refl _ _) R fun i en2 io2 F2 H2 σ2 s2 l2 R2 => ?_⟩⟩
      have hH2 : H2 p = some (.frz ob (.dK ws)) := R2.h.ex p _ (l2.ex p _ f)
      have hlen : ws.length = kvs.length := by
        have := congrArg List.length rx.1
        simpa using this
      refine ⟨fun d hd => ?_, fun hi => ⟨hH2, by rw [List.length_map] at hi; omega⟩⟩
      rw [List.getElem?_map] at hd
      obtain ⟨q, hq1, rfl⟩ := Option.map_eq_some_iff.mp hd
      have hl := (List.getElem?_eq_some_iff.mp hq1).1
      refine ⟨⟨hH2, by omega⟩, fun y H3 hy => ?_⟩
      obtain ⟨rfl, k, v, hkv, rfl⟩ := hy
      have hk2 : k = kk q.1 := by
        have h1 : (ws.map (·.1))[i]? = some k := by rw [List.getElem?_map, hkv]; rfl
        rw [rx.1, List.getElem?_map, hq1] at h1
        injection h1 with h1
        exact h1.symm
      subst hk2
      exact ⟨F2, Le.refl _ _, R2, kV_kD q.1⟩
    · cases e
  · cases e
/-- for k in d, d a dict of the own heap in slot j -/
def mForK (j : Nat) (gm : D → M Unit) (m : M Fl) : M Fl := fun s => match s.sl[j]? with
  | some (some (.val (.ref r))) => match s.hp[r]? with
    | some (.dk kvs) => match mFor (mKeysL j) gm m { s with hp := s.hp.set r (.dkL kvs) } with
      | some (.ok f s') => match s'.hp[r]? with
        | some (.dkL kvs') => some (.ok f { s' with hp := s'.hp.set r (.dk kvs') })
        | _ => none
      | _ => none
    | _ => none
  | _ => none
theorem sem_forK (j : Nat) (hg : SemG K mg W g gm) (hb : SemS K mg W t m) : SemS K mg W (tLock (tFor (iKeys (tVar j)) g t)) (mForK j gm m) := by
  intro en io F H σ s o E R e hx hq
  unfold mForK at e
  split at e
  · rename_i r h
    split at e
    · rename_i kvs hk
      split at e
      · rename_i f s' hf
        split at e
        · rename_i kvs' hk'
          cases e
          obtain ⟨v, e1, p, rfl, hp⟩ := R.val j _ h
          obtain ⟨hF, ws, hH, rx⟩ := R.h.ids r p _ hp hk
          have hen : en.F p = none := by
            cases q : en.F p with
            | none => rfl
            | some u => rw [R.k.ex p u q] at hF; cases hF
          refine ⟨p, .dK ws, hH, trivial, fun od => ?_⟩
          obtain ⟨R1, l1⟩ := R.lock hk hp hH hF rx od
          refine sem_for (sem_keysL j) hg hb _ io _ _ σ _ _ _ R1 hf trivial fun f2 s2 e2 io2 F2 H2 σ2 l2 R2 => ?_
          cases e2
          have hp2 : F2 p = some (.frz od (.dK ws)) := l2.ex p _ upd_same
          have hio2 : io2[r]? = some p := l2.pre r p hp
          have R3 := R2.unlock hk' hio2 hp2 hen
          have l3 := le_drp hF l2
          have fin := hq _ _ rfl io2 _ _ σ2 l3 R3
          have hH2 : H2 p = some (.frz od (.dK ws)) := R2.h.ex p _ hp2
          cases f with
          | nx => exact ⟨hH2, fin⟩
          | bk => exact ⟨hH2, fin⟩
          | ct => exact ⟨hH2, fin⟩
          | rt d => exact fun v rv => ⟨hH2, fin v (rep_drp hp2 d v rv)⟩
        · cases e
      · cases e
    · cases e
  · cases e
theorem ds_forK (j : Nat) (hp : PassesOwn (model X.prog X.w) X.A X.env X.xe) (hc : X.calm = true) (he : DE X W e (tVar j) (mVar j)) (hg : DG X W tg g gm) (hb : DSs X W sts t m)
    (hs : ∀ x, foldedSetIterable e X.env x = pure x := by intro _; rfl) : DS X W (.For tg e sts [] pos) (tLock (tFor (iKeys (tVar j)) g t)) (mForK j gm m) := ⟨ps_lock (ps_for hp hc (pi_keys he.p) hg.p hb.p hs), sem_forK j hg.s hb.s⟩
end
end Z
/-! Z13: the package's own errors: made, with super().__init__(..) -/
namespace Z
open PySem PySem.W PySem.Calls PyProof.Rows L2
open Classical
/-! ### the text of an error's __init__ -/
def xcA (p1 p2 : Pos) : Arguments := { posonlyargs := [], args := [{ arg := "self", annotation := none, pos := p1 }, { arg := "value", annotation := none, pos := p2 }], vararg := none, kwonlyargs := [], kw_defaults := [], kwarg := none, defaults := [] }
def xcB (msg : Str) (j : Nat) (p0 p1 p2 p3 p4 p5 q1 q2 q3 q4 : Pos) : List Stmt :=
  [.Expr (.Call (.Attribute (.Call (.Name "super" p0) [] [] p1) "__init__" p2) [.Constant (.str msg) j p3] [] p4) p5, .Assign [.Attribute (.Name "self" q1) "value" q2] (.Name "value" q3) q4]
def xcS : Scope := { kind := .function, names := [(PySem.Str.ofString "self", .local), (PySem.Str.ofString "value", .local), (PySem.Str.ofString "__class__", .free), (PySem.Str.ofString "super", .globalImplicit)], isGenerator := false, isCoroutine := false, more := [] }
/-- what the written part says of the error class c, at C, and of its __init__ -/
structure XcK (P : Program) (K : Frag) (c : EC) (C : Addr) : Prop where
  nC : nsIn K mainGlobals c.nm = some (some (.ref C))
  o : OexC K C
  ga : findIn K (.ref C) "__getattribute__" = some (some (.builtin "BaseException.__getattribute__"))
  gg : findIn K (.ref C) "__getattr__" = some none
  noV : findIn K (.ref C) "value" = some none
  hd : hasDictIn K C = true
  su : ks_superIn K C C "__init__" = some (some (.builtin "ValueError.__init__"))
  sV : subIn K (.ref C) (.type "ValueError") = some true
  mC : mroIn K C (.ref C) = some true
  mO : mroIn K C (.type "object") = some true
  cA : findIn K (.ref C) "__class__" = some (some (.builtin "object.__class__"))
  cG : specialIn K (.builtin "object.__class__") "__get__" = some (some (.builtin "getset_descriptor.__get__"))
  cT : takesIn K (.builtin "object.__class__") = some true
  xi : excInitIn K C [.type "ValueError", .type "Exception", .type "BaseException", .type "object"] "ValueError.__new__" = true
  sup : nsIn K mainGlobals "super" = some none
  tp : nsIn K cStatics "thirdparty.any" = some none
  top : (P.main.scope.names.lookup ("super" : Str)).isSome = false
  fn : ∃ (fI cc cda : Addr) (qual : Str) (oc doc pm ct ccl cl : Value) (od an cdd cld : Option Addr) (osl ccs csl : Array (Option Value)) (vs : Array Value) (file : Str) (tf : Tok) (msg : Str) (j : Nat) (p1 p2 r0 r1 r2 r3 r4 r5 q1 q2 q3 q4 : Pos),
    findIn K (.ref C) "__init__" = some (some (.ref fI)) ∧ typeIn K (.ref fI) = some (.type "function") ∧
    K.lookup fI = some ⟨oc, od, .func (fnX "__init__" qual (xcA p1 p2) (xcB msg j r0 r1 r2 r3 r4 r5 q1 q2 q3 q4) xcS [("__class__", cc)] .none .none doc pm an (.ref cda) ct), osl⟩ ∧ codeIn K (.ref cda) qual = true ∧
    K.lookup cda = some ⟨ccl, cdd, .fields vs, ccs⟩ ∧ vs[2]? = some (.str file tf) ∧ ((P.main.file : Str) == file) = true ∧ K.lookup cc = some ⟨cl, cld, .cell (some (.ref C)), csl⟩ ∧ (r2.endLine == r4.line) = true
/-- what __init__ leaves of a fresh error at x -/
structure XEnd (h h' : Heap) (x C dx t1 : Addr) (v : Value) : Prop where
  keep : ∀ b o, b ≠ x → h.get? b = some o → h'.get? b = some o
  obj : h'.get? x = some { cls := .ref C, dict := some dx, data := .fields #[.ref t1, .none, .none, .none, .bool false, .none] }
  dbig : h.objs.size ≤ dx
  dne : dx ≠ x
  ns : h'.Ns1 dx (fun y => if y = "value" then some v else none)
/-- a made error -/
structure XMade (h h' : Heap) (e C d : Addr) (v : Value) : Prop where
  keep : ∀ b o, h.get? b = some o → h'.get? b = some o
  new : h.objs.size ≤ e
  obj : ∃ oe vs, h'.get? e = some oe ∧ oe.cls = .ref C ∧ oe.dict = some d ∧ oe.data = .fields vs ∧ vs[1]? = some .none
  dbig : h.objs.size ≤ d
  dne : d ≠ e
  ns : h'.Ns1 d (fun y => if y = "value" then some v else none)
section
variable {P : Program} {w : World} {A : Around} {R : Result → Shared → Prop} {s : Shared} {K : Frag} {mg : Str → Option Value} {base : Heap} {c : EC} {C : Addr}
theorem cls_of (T : OexC K C) : ∃ cd, clsIn K C = some cd ∧ PySem.HandSPX.refsVE cd.mro = true ∧ cd.hasDict = true ∧ ∃ bm, cd.mro = .ref C :: bm := by
  obtain ⟨nm, q, N, bs, bm, sn, sub, ab, col, dd, k0, k1, k2, k3, k5, hC, hbm⟩ := T.cls
  refine ⟨_, by unfold clsIn; rw [hC], hbm, rfl, _, rfl⟩
theorem xc_init (T : XcK P K c C) (M : Mod K mg base) {fI : Addr} (hfI : findIn K (.ref C) "__init__" = some (some (.ref fI))) {x t0 : Addr} {v : Value} {args : Args} (ha : args = ⟨[.ref x, v], []⟩ ∨ args = ⟨[.ref x], [(("value" : Str), v)]⟩) (kb : ∀ b o, base.get? b = some o → s.heap.get? b = some o) (hx : s.heap.get? x = some (PySem.HandSPX.excO C t0)) (hnx : base.get? x = none) (hroom : A.depth < recursionLimit)
    (hq : ∀ h' tk dx t1, XEnd s.heap h' x C dx t1 v → R (.ok (.ret .none)) { s with heap := h', toks := tk }) :
    codeAny (model P w) A (.call (.ref fI) args) R s := by
  obtain ⟨fI', cc, cda, qual, oc, doc, pm, ct, ccl, cl, od, an, cdd, cld, osl, ccs, csl, vs, file, tf, msg, j, p1, p2, r0, r1, r2, r3, r4, r5, q1, q2, q3, q4, f1, f2, f3, f4, f5, f6, f7, f8, f9⟩ := T.fn
  rw [f1] at hfI
  cases hfI
  obtain ⟨cd, hcl, hmro, hdct, bm, hbm⟩ := cls_of T.o
  have X : K.In s.heap := M.kin.keeps kb
  obtain ⟨mb, hbn, hbb⟩ := M.blt
  refine ks_codeAny_call_defAt (fd := fnX "__init__" qual (xcA p1 p2) (xcB msg j r0 r1 r2 r3 r4 r5 q1 q2 q3 q4) xcS [("__class__", cc)] .none .none doc pm an (.ref cda) ct) (body := xcB msg j r0 r1 r2 r3 r4 r5 q1 q2 q3 q4) (binds := [("self", .ref x), ("value", v)])
    hroom (X _ _ f3) rfl (M.nolimit.keeps kb) (codeRec_of X f4) rfl (by rcases ha with rfl | rfl <;> exact BindsTo.of_eq (by first | rfl | with_unfolding_all rfl)) (show ∀ x ∈ xcS.names, x.2 ≠ .cell by decide) (locs rfl) (fun h₁ hns k₁ => ?_) rfl rfl rfl
  have X₁ : K.In h₁ := X.keeps k₁
  have kb₁ : ∀ b o, base.get? b = some o → h₁.get? b = some o := fun b o e => k₁ b o (kb b o e)
  have hx₁ := k₁ _ _ hx
  have hxL : s.heap.objs.size ≠ x := Nat.ne_of_gt (Heap.lt_size hx)
  obtain ⟨hp, g, d, tk, os⟩ := s
  show PySem.wpAt (model P w) (A.deeper (ksEnv qual xcS hp.objs.size fI (.ref cda) cc)) (.func (xcB msg j r0 r1 r2 r3 r4 r5 q1 q2 q3 q4) (ksEnv qual xcS hp.objs.size fI (.ref cda) cc)) (execs (xcB msg j r0 r1 r2 r3 r4 r5 q1 q2 q3 q4) (ksEnv qual xcS hp.objs.size fI (.ref cda) cc)) _ _ _
  generalize hA2 : A.deeper (ksEnv qual xcS hp.objs.size fI (.ref cda) cc) = A2
  generalize hL : hp.objs.size = L at *
  unfold xcB
  have hev : ∃ pl, eval (.Call (.Attribute (.Call (.Name "super" r0) [] [] r1) "__init__" r2) [.Constant (.str msg) j r3] [] r4) (ksEnv qual xcS L fI (.ref cda) cc) = (do
      let ov ← attributeBase (.Call (.Name "super" r0) [] [] r1) "__init__" (ksEnv qual xcS L fI (.ref cda) cc) (eval (.Call (.Name "super" r0) [] [] r1) (ksEnv qual xcS L fI (.ref cda) cc))
      standAt r2.atName
      let (f, first) ← holding [ov] (getMethod ov "__init__" pl)
      callWith r4 f first (backTo r4 (starEach [.Constant (.str msg) j r3] (ksEnv qual xcS L fI (.ref cda) cc))) []) := by
    refine ⟨(do return (← importBound (.Call (.Name "super" r0) [] [] r1) (ksEnv qual xcS L fI (.ref cda) cc)).getD true), ?_⟩
    show (do
      let ov ← attributeBase (.Call (.Name "super" r0) [] [] r1) "__init__" (ksEnv qual xcS L fI (.ref cda) cc) (eval (.Call (.Name "super" r0) [] [] r1) (ksEnv qual xcS L fI (.ref cda) cc))
      standAt r2.atName
      methodCall _ _ r2 r4 _ ov _ (backTo r4 (starEach [.Constant (.str msg) j r3] (ksEnv qual xcS L fI (.ref cda) cc))) []) = _
    unfold methodCall methodCallPos
    simp only [f9, Bool.or_true, if_true, pure_bind]
    rfl
  obtain ⟨pl, hev⟩ := hev
  refine ks_wpAt_execs_cons (ks_wpAt_Expr_any (ks_wpAt_MethodCall ?_ hev))
  obtain ⟨oD, hD1, hD2⟩ : ∃ oD, h₁.get? C = some oD ∧ oD.data = .cls cd := by
    unfold clsIn at hcl
    split at hcl
    · rename_i c' d' cd' sl' ho
      cases hcl
      exact ⟨_, X₁ _ _ ho, rfl⟩
    · cases hcl
  have I0 : PySem.W.InstAt h₁ x (PySem.HandSPX.excO C t0) C none := ⟨hx₁, rfl, rfl, trivial⟩
  refine ks_wpAt_super_base (env := ksEnv qual xcS L fI (.ref cda) cc) rfl rfl (by decide) rfl (X₁ _ _ f3) rfl rfl rfl (X₁ _ _ f5) rfl f6 f7 T.top ?_
  refine ks_loadName_global rfl rfl (loadGlobal_builtin (env := ksEnv qual xcS L fI (.ref cda) cc) (M.glob.keeps kb₁) (mg_none_of M.kin M.glob T.sup) (hbn.keeps kb₁) ((hbb _ (by decide +kernel)).trans (by first | boot_by_name | rfl | kernel_rfl)) ⟨rfl, ?_⟩)
  refine wpAny_loadName_free rfl rfl rfl ⟨_, X₁ _ _ f8, rfl⟩ ?_
  refine wpAny_loadName_local rfl rfl hns (by first | rfl | with_unfolding_all rfl | kernel_rfl) ?_
  refine ks_wpAny_isType_cls hD1 hD2 ⟨rfl, ?_⟩
  refine ks_wpAny_call_super hD1 hD2 I0.at_ I0.cls (fun c e => by cases e) (looks_mroIn X₁ T.mC) (fun h₂ e₂ k₂ => ?_)
  have X₂ : K.In h₂ := X₁.keeps k₂
  have hx₂ := k₂ _ _ hx₁
  have I2 : PySem.W.InstAt h₂ x (PySem.HandSPX.excO C t0) C none := ⟨hx₂, rfl, rfl, trivial⟩
  have hsu : alongIn K "__init__" ((cd.mro.dropWhile (· != .ref C)).drop 1) = some (some (.builtin "ValueError.__init__")) := by
    have := T.su
    unfold ks_superIn at this
    rw [hcl] at this
    exact this
  have neC : x ≠ C := ks_ne X₂ I2 hcl
  refine kxs_getMethod kxs_ValueError e₂ (looks_opaque X₂ T.tp) (l₀ := cd.mro) (fun A Q E s k q => wpAny_bind ((looks_clsIn X₂ hcl) A _ E s k (wpAny_pure q))) rfl X₂ hsu (I2.type.andThen (looks_subIn X₂ T.sV)) neC (by decide) ?_
  refine kxs_callWith (i := "ValueError.__init__") (x := x) rfl ?_
  refine evalArgs_plain (spliced_cons (wpAny_Constant_str (k := j) (pos := r3) (spliced_nil ⟨Heap.get?_push_at rfl rfl, ?_⟩)))
  -- ValueError.__init__, bound
  have kk : ∀ b o, hp.get? b = some o → (h₂.push (kxs_mw "ValueError.__init__" x)).get? b = some o := fun b o e => Heap.get?_push_of_some _ (k₂ _ _ (k₁ _ _ e))
  have hsz : hp.objs.size < h₂.objs.size := by
    obtain ⟨oL, _, _, hoL, _⟩ := hns
    rw [hL]
    exact Heap.lt_size (k₂ _ _ hoL)
  have un : h₂.objs.size ≠ x := Nat.ne_of_gt (Heap.lt_size hx₂)
  have F0 : Fr (hideAll hp [x]) L (h₂.push (kxs_mw "ValueError.__init__" x)) (fun y => [(("self" : Str), Value.ref x), (("value" : Str), v)].reverse.lookup y) :=
    ⟨(hns.keeps k₂).keeps fun b o e => Heap.get?_push_of_some _ e, fun b o e => kk b o (of_hideAll _ e), by rw [hideAll_size, hL]; exact Nat.le_refl _⟩
  have N0 : News (hideAll hp [x]) L (h₂.push (kxs_mw "ValueError.__init__" x)) [(h₂.objs.size, kxs_mw "ValueError.__init__" x), (x, excObj C t0 none .none)] := fun p hp' => by
    have : p = (h₂.objs.size, kxs_mw "ValueError.__init__" x) ∨ p = (x, excObj C t0 none .none) := by simpa using hp'
    rcases this with rfl | rfl
    · refine ⟨Heap.get?_push_at rfl rfl, fun z => ?_, ?_⟩
      · have z' : h₂.objs.size = L := z
        rw [hL, z'] at hsz
        exact Nat.lt_irrefl _ hsz
      · cases q : (hideAll hp [x]).get? h₂.objs.size with
        | none => rfl
        | some o =>
          exact absurd (Nat.lt_trans (Heap.lt_size (of_hideAll _ q)) hsz) (Nat.lt_irrefl _)
    · exact ⟨Heap.get?_push_of_some _ hx₂, Ne.symm hxL, hideAll_none _ (by simp)⟩
  have X0 : K.In (hideAll hp [x]) := fun b o e => hideAll_get _ (kb b o (M.kin b o e)) (by
    intro z
    have z' : b = x := by simpa using z
    have := M.kin b o e
    rw [z', hnx] at this
    cases this)
  refine kxs_call (t := t0) (dv := none) (c2 := .none) F0 X0 N0 PySem.F.excBase_ValueError T.xi List.mem_cons_self (.tail un (.head fun _ h => nomatch h)) (by show 1 ≤ sizeLine; rw [sizeLine_eq]; decide) (fun t' h₄ F4 N4 _ => ?_)
  have hx₄ : h₄.get? x = some (excObj C t' none .none) := (N4 (x, excObj C t' none .none) (by simp)).1
  have k₄ : ∀ b o, b ≠ x → hp.get? b = some o → h₄.get? b = some o := fun b o hb e => F4.keep b o (hideAll_get _ e (by simpa using hb))
  have X₄ : K.In h₄ := X0.keeps F4.keep
  refine ks_wpAt_execs_cons (ks_wpAt_Assign_Attr (wpAt_of_wpAny (wpAny_Name (wpAny_loadName_local rfl rfl F4.ns (by first | rfl | with_unfolding_all rfl | kernel_rfl) ?_) (by decide))))
  refine wpAny_Name (wpAny_loadName_local rfl rfl F4.ns (by first | rfl | with_unfolding_all rfl | kernel_rfl) ?_) (by decide)
  refine set_plain X₄ (ox := excObj C t' none .none) (od := none) ⟨hx₄, rfl, rfl, trivial⟩ T.o.sa ?_
  refine PySem.HandSPX.exc_osa X₄ hx₄ hcl hmro hdct T.noV (fun h₅ tk₅ dx k₅ dn dne hx₅ hn₅ => ?_)
  refine wpAt_of_wpAny (wpAny_execs_nil ?_)
  refine hq h₅ tk₅ dx t' ⟨fun b o hb e => k₅ b o hb (k₄ b o hb e), hx₅, ?_, dne, hn₅⟩
  obtain ⟨oL, _, _, hoL, _⟩ := F4.ns
  have := Heap.lt_size hoL
  show hp.objs.size ≤ dx
  rw [hL]
  exact Nat.le_of_lt (Nat.lt_of_lt_of_le this dn)
end
end Z
/-! Z14: raise, try .. except, the value and the class of an error -/
namespace Z
open PySem PySem.Spec PyProof.Rows L2
open Classical
section
variable {P : Program} {w : World} {A : Around} {R : Result → Shared → Prop} {s : Shared} {K : PySem.W.Frag} {mg : Str → Option Value} {base : Heap} {c : EC} {C : Addr}
theorem xc_made (T : XcK P K c C) (M : L2.Mod K mg base) {v : Value} (kb : ∀ b o, base.get? b = some o → s.heap.get? b = some o) (hroom : A.depth + 1 < recursionLimit)
    (hq : ∀ h' tk e d, XMade s.heap h' e C d v → R (.ok (.ret (.ref e))) { s with heap := h', toks := tk }) :
    codeAny (model P w) A (.call (.ref C) ⟨[v], []⟩) R s := by
  obtain ⟨nm, q, N, bs, bm, sn, sub, ab, col, dd, k0, k1, k2, k3, k5, hC, hbm⟩ := T.o.cls
  have hfn := T.fn
  obtain ⟨fI, _, _, _, _, _, _, _, _, _, _, _, _, _, _, _, _, _, _, _, _, _, _, _, _, _, _, _, _, _, _, _, _, _, hi, ht, _⟩ := hfn
  have X : K.In s.heap := M.kin.keeps kb
  obtain ⟨hp, g, dr, tk, os⟩ := s
  have k : ∀ b o, hp.get? b = some o → ((hp.push (PySem.W.kdv_tup [v])).push (PySem.HandSPX.excO C hp.objs.size)).get? b = some o := fun b o e => Heap.get?_push_of_some _ (Heap.get?_push_of_some _ e)
  have hget : ((hp.push (PySem.W.kdv_tup [v])).push (PySem.HandSPX.excO C hp.objs.size)).get? (hp.objs.size + 1) = some (PySem.HandSPX.excO C hp.objs.size) := by heap_get
  have hnx : base.get? (hp.objs.size + 1) = none := by
    cases e : base.get? (hp.objs.size + 1) with
    | none => rfl
    | some o =>
      have z : hp.get? (hp.objs.size + 1) = some o := kb _ _ e
      exact absurd (Nat.lt_of_succ_lt (Heap.lt_size z)) (Nat.lt_irrefl _)
  refine PySem.HandSPX.call_own F.excBase_ValueError (fun Y => PySem.HandSPX.refsVE_contains Y bm hbm) (X _ _ hC) (PySem.W.looks_findIn X hi) (fun self => PySem.W.bind_fn X self ht) (by show 1 ≤ sizeLine; rw [sizeLine_eq]; decide) ?_
  refine xc_init (s := ⟨(hp.push (PySem.W.kdv_tup [v])).push (PySem.HandSPX.excO C hp.objs.size), g, dr, tk, os⟩) T M hi (.inl rfl) (fun b o e => k b o (kb b o e)) hget hnx hroom fun h' tk' dx t1 E => ?_
  have old : ∀ b o, hp.get? b = some o → h'.get? b = some o := fun b o e => E.keep b o (Nat.ne_of_lt (Nat.lt_succ_of_lt (Heap.lt_size e))) (k b o e)
  have z : hp.objs.size + 1 + 1 ≤ dx := by
    have dn := E.dbig
    first
      | (simpa only [Heap.size_push] using dn)
      | exact dn
  exact ⟨rfl, hq h' tk' (hp.objs.size + 1) dx ⟨old, Nat.le_succ _, ⟨_, _, E.obj, rfl, rfl, rfl, rfl⟩, Nat.le_trans (Nat.le_trans (Nat.le_succ _) (Nat.le_succ _)) z, E.dne, E.ns⟩⟩
theorem relO_val {v : V} {v' : Value} (r : RelV v v') (f : Str) : RelO (List.lookup f [(("value" : Str), v)]) (if f = "value" then some v' else none) := by
  by_cases hw : f = "value"
  · subst hw
    rw [if_pos rfl]
    have q : List.lookup ("value" : Str) [(("value" : Str), v)] = some v := by simp [List.lookup]
    rw [q]
    exact r
  · rw [if_neg hw]
    have qw : (f == ("value" : Str)) = false := by simpa using hw
    have q2 : List.lookup f [(("value" : Str), v)] = none := by simp [List.lookup, qw]
    rw [q2]
    trivial
end
section
variable {X : Cx} {W : WX} {pos : Pos} {K : PySem.W.Frag} {mg : Str → Option Value} {a b e : Expr} {es : List Expr} {ta tb te : TE} {ma mb me : M D} {tl : TA} {ml : M (List D)} {t u : TS} {m n : M Fl} {st : Stmt} {sts : List Stmt}
/-- X(e) -/
def tMkX (C : Addr) (ta : TA) : L2.St → Hp → XK → Prop := fun σ H Q => ta σ H fun vs H1 => ∃ v, vs = [v] ∧ ∀ d, H1 d = none → Q (.ref C) (some d) (upd H1 d (.xd [(("value" : Str), v)]))
theorem pmk_xc {c : EC} {C : Addr} {x : Str} {p : Pos} {k : Nat} (T : XcK X.prog X.K c C) (hr : RoomG k X.A) (hk : 1 ≤ k) (hM : X.mg x = some (.ref C)) (ha : PA X [a] tl) (hg : Gl X x := by rfl) (hdb : (x == ("__debug__" : Str)) = false := by decide)
    (he : starEach (a :: []) X.env = (false, eval a X.env) :: starEach [] X.env := by rfl) (hpl : (backTo pos (starEach [] X.env)).any (·.1) = false := by rfl) :
    PMk X (.Call (.Name x p) [a] [] pos) (tMkX C tl) := by
  intro pins s σ H Q I h
  refine wpAny_Call_Name_kw (ld_glob I hg hM ?_ hdb)
  refine PySem.W.callWith_K (h₀ := X.base) I.ok.mod.kin T.o.kC (thn (ha.run pos pins s σ H _ I h) fun us s1 hh => ?_) he hpl
  obtain ⟨vs, H1, I1, r1, v, ev, q1⟩ := hh
  subst ev
  refine ⟨I1.kIn, ?_⟩
  cases r1 with
  | cons rv rn =>
    rename_i v' us'
    cases rn
    show wpAny _ _ (call (.ref C) [v']) _ _ _
    have hb := I1.bk
    obtain ⟨hp, g, dr, tk, os⟩ := s1
    refine wpAny_call (xc_made T I1.ok.mod hb (by have := hr.r.dp; omega) fun h' tk' e d M => ?_)
    show MkP X pins σ Q (.ref e) ⟨h', g, dr, tk', os⟩
    obtain ⟨oe, fv, hoe, hc, hd, hdat, h1⟩ := M.obj
    have hns := M.ns
    obtain ⟨G', g1, g2⟩ := restrict h' fun b => decide (b ≠ e)
    have gk : ∀ b, b ≠ e → G'.get? b = h'.get? b := fun b hb => g1 b (decide_eq_true hb)
    have ge : G'.get? e = none := g2 e (by simp)
    have old : ∀ b o, hp.get? b = some o → G'.get? b = some o := fun b o q => (gk b (Nat.ne_of_lt (Nat.lt_of_lt_of_le (Heap.lt_size q) M.new))).trans (M.keep b o q)
    have ob : ObjOk X.prog X.w (upd H1 d (.xd [(("value" : Str), v)])) G' d (.xd [(("value" : Str), v)]) :=
      ⟨_, hns.at (fun o q => (gk d M.dne).trans q), fun f => relO_val rv f⟩
    have J : Inv X pins σ (upd H1 d (.xd [(("value" : Str), v)])) ⟨G', g, dr, tk', os⟩ := I1.laid (t' := tk') old M.dbig ob
    refine ⟨e, oe, fv, ⟨G', g, dr, tk', os⟩, _, .ref C, some d, rfl, J, fun b o q => ?_, ge, hoe, ⟨hc, hd⟩, hdat, h1, ?_, rfl, I1.bare, raises_own T.o.exC T.o.tyC, q1 d (I1.hok.fresh M.dbig)⟩
    · by_cases hb : b = e
      · have q' : G'.get? b = some o := q
        rw [hb, ge] at q'; cases q'
      · exact (gk b hb).symm.trans q
    · rw [upd_ne (Ne.symm M.dne)]
      exact I1.hok.fresh M.new
/-- raise X(e) -/
def mRaise (c : EC) (ml : M (List D)) : M Fl := bnd ml fun l => match l with
  | [d] => fun s => some (.ex ⟨c, d⟩ s)
  | _ => fun _ => none
theorem ds_raise {c : EC} {C : Addr} {x : Str} {p pos2 : Pos} {k : Nat} (hc : X.calm = true) (T : XcK X.prog X.K c C) (hr : RoomG k X.A) (hk : 1 ≤ k) (tk : Takes X W) (hM : X.mg x = some (.ref C)) (ha : DA X W [a] tl ml) (hg : Gl X x := by rfl) (hdb : (x == ("__debug__" : Str)) = false := by decide)
    (he : starEach (a :: []) X.env = (false, eval a X.env) :: starEach [] X.env := by rfl) (hpl : (backTo pos (starEach [] X.env)).any (·.1) = false := by rfl) :
    DS X W (.Raise (some (.Call (.Name x p) [a] [] pos)) none pos2) (fun _ σ H => tMkX C tl σ H fun cls d H' => W cls d σ H') (mRaise c ml) := ⟨ps_raise hc tk (pmk_xc T hr hk hM ha.p hg hdb he hpl), by
  intro en io F H σ s o E R e hx hq
  refine ha.s.step R e hx fun l s1 v io1 F1 H1 l1 R1 r1 e1 hx1 => ?_
  match l, e1 with
  | [d], e1 =>
    cases e1
    obtain ⟨y, rfl, r⟩ := reps1 r1
    refine ⟨y, rfl, fun dd hdd => ?_⟩
    obtain ⟨R2, l2⟩ := R1.new hdd (.xd [(("value" : Str), y)])
    exact hx1 (.ref C) (some dd) io1 _ _ σ l2 R2 ⟨T.nC, ⟨C, rfl⟩, dd, y, rfl, upd_same, rep_le l2 _ _ r⟩⟩
end
/-! ### try .. except X as n -/
section
variable {X : Cx} {pins : List (Addr × Obj)} {σ : L2.St} {H : Hp} {s : Shared} {a C dd : Addr} {oe : Obj}
theorem xco_ok {P : Program} {w : World} {h : Heap} (ha : h.get? a = some oe) (hz : Zc (.ref C) (some dd) oe) (hd : ∃ vs, oe.data = .fields vs) : ObjOk P w H h a (xco C dd a) := by
  obtain ⟨vs, hd⟩ := hd
  exact ⟨⟨oe, vs, ha, hz, hd⟩, ⟨oe, ha⟩, fun h1 h2 z k => by
    obtain ⟨oe, vs, e, r⟩ := z
    exact ⟨oe, vs, k _ e, r⟩⟩
theorem xco_at {P : Program} {w : World} {h : Heap} (hok : HOk P w H h) (e : H a = some (xco C dd a)) : ∃ (oe : Obj) (vs : Array Value), h.get? a = some oe ∧ Zc (.ref C) (some dd) oe ∧ oe.data = .fields vs := by
  have x : ObjOk P w H h a (xco C dd a) := hok a _ e
  exact x.1
/-- the caught error is tracked from now on -/
theorem inv_suite (J : L2.Inv X pins σ H s) (h0 : X.s_0.heap.get? a = none) (ha : s.heap.get? a = some oe) (hz : Zc (.ref C) (some dd) oe) (hd : ∃ vs, oe.data = .fields vs) (na : H a = none) (nL : a ≠ X.env.locals) (nP : ∀ p ∈ X.pn ++ pins, p.1 ≠ a) :
    L2.Inv (X.suite a (X.pn ++ pins)) [] σ (upd H a (xco C dd a)) s := by
  have nC : ∀ x c, X.env.cells.lookup x = some c → c ≠ a := fun x c e z => by
    obtain ⟨v, o, ho, hv⟩ := J.cell x c e
    obtain ⟨vs, hd⟩ := hd
    rw [z, ha] at ho
    cases ho
    rw [hd] at hv
    cases hv
  refine ⟨J.ok.suite _ _, J.os, J.bare, ⟨J.base.keep, J.base.slot, fun b o e n hx => ?_, J.base.there, fun b xs h => ?_, fun b o u h => ?_, fun b ps h => ?_⟩, J.loc, J.cell, ?_, fun x c e => ?_, fun p hp => ?_, fun b u e => ?_, J.len⟩
  · rw [upd_ne (fun z => by rw [z, h0] at e; cases e)]
    exact J.base.free b o e n hx
  · have q := J.base.tups b xs h
    rw [upd_ne (ne_of_none q na)]
    exact q
  · have q := J.base.frzs b o u h
    rw [upd_ne (ne_of_none q na)]
    exact q
  · obtain ⟨m, q⟩ := J.base.tbls b ps h
    exact ⟨m, by rw [upd_ne (ne_of_none q na)]; exact q⟩
  · rw [upd_ne (Ne.symm nL)]
    exact J.free
  · rw [upd_ne (nC x c e)]
    exact J.freeC x c e
  · have hp' : p ∈ X.pn ++ pins := by rw [List.append_nil] at hp; exact hp
    obtain ⟨e, n, r⟩ := J.pin p hp'
    exact ⟨e, by rw [upd_ne (nP p hp')]; exact n, r⟩
  · by_cases hb : b = a
    · subst hb
      rw [upd_same] at e
      cases e
      exact xco_ok ha hz hd
    · rw [upd_ne hb] at e
      exact (J.hok b u e).stay (fun _ _ _ q => q) (fun c q => by rw [upd_ne (ne_of_none q na)]; exact q) fun c xs q => by rw [upd_ne (ne_of_none q na)]; exact q
theorem inv_unsuite {pn' : List (Addr × Obj)} (I : L2.Inv (X.suite a (X.pn ++ pins)) pn' σ H s) (ok : X.Ok) : L2.Inv X pins σ H s :=
  ⟨ok, I.os, I.bare, I.base, I.loc, I.cell, I.free, I.freeC, fun p hp => I.pin p (List.mem_append_left _ hp), I.hok, I.len⟩
end
/-- what the clause wishes of an error -/
def wT (K : PySem.W.Frag) (c : Value) (i : Nat) (ts : TS) (Wout : WX) (D : Ends) : WX := fun cls d σ H =>
  ∃ b, PySem.W.exmOne K cls c = some b ∧
    (b = true → ∃ C dd, cls = .ref C ∧ d = some dd ∧ ∀ a, H a = none → ts { nx := fun σ' H' => D.nx (σ'.set i none) H', rt := D.rt, bk := fun σ' H' => D.bk (σ'.set i none) H', ct := fun σ' H' => D.ct (σ'.set i none) H' } (σ.set i (some (.ref a))) (upd H a (xco C dd a))) ∧
    (b = false → Wout cls d σ H)
section
variable {X : Cx} {x n : Str} {c : Value} {i : Nat} {body suite : List Stmt} {b₀ : Stmt} {np pos pos' : Pos} {tb : WX → TS} {ts : TS} {Wout : WX} {mb ms : M Fl}
def xeT (X : Cx) (x n : Str) (np pos' : Pos) (suite : List Stmt) (pins : List (Addr × Obj)) (D : Ends) : Value → Shared → Prop := fun e s₁ => wpAny (model X.prog X.w) X.A (noteFrame e X.env) (fun _ s₂ => wpAny (model X.prog X.w) X.A (setFlight e none) (fun _ s₃ =>
    wpAny (model X.prog X.w) X.A (handleBy e X.env [.ExceptHandler (some (.Name x np)) (some n) suite pos']) (SP X pins D) X.xe s₃) X.xe s₂) X.xe s₁
theorem try_takes (hs : X.stack = X.env :: X.outer) (hf : X.env.frame = some X.env.locals) (hex : X.ex = []) (hN : X.N.Nodup) (hi : X.N[i]? = some n) (hln : X.env.kindOf n = some .local) (hc : Names X x c) (tk : Takes X Wout)
    (hsu : ∀ (a : Addr) (pn : List (Addr × Obj)), PSs (X.suite a pn) (b₀ :: suite) ts) (pins : List (Addr × Obj)) (D : Ends) : Takes (X.tr (X.pn ++ pins) (xeT X x n np pos' (b₀ :: suite) pins D)) (wT X.K c i ts Wout D) := by
  intro u s' xx
  obtain ⟨a, B, sI, pins', σ', H', cls, d, rfl, J', nb, up, sky, na, os, ag, b, hb1, hyes, hno⟩ := xx
  have ok : X.Ok := J'.ok.ofTry
  have hfr : X.A.frames = some (X.env :: X.outer) := by rw [ok.frames, hs]
  have hloc : Loc X.env.scope n := .inl hln
  have J : L2.Inv X pins σ' H' sI := J'.ofTry ok
  have sky' : Sky B (X.env :: X.outer) a (Zc cls d) X.env.locals s'.heap := by rw [← hs]; exact sky
  show wpAny (model X.prog X.w) X.A (noteFrame (.ref a) X.env) _ _ _
  refine Sky.land Zc.steady hfr hf sky' fun h3 fl3 up3 => ?_
  have J3 : L2.Inv X pins σ' H' { s' with heap := h3 } := J.landed nb fl3.1 (up.trans up3) os ag
  obtain ⟨oe3, vs3, he3, hz3, hd3⟩ := fl3.there
  have notFr : a ∉ frs (X.env :: X.outer) := fun hm => by
    obtain ⟨_, o', e', hnf⟩ := fl3.2.2.1.mem hm
    rw [he3] at e'; cases e'
    exact hnf _ hd3
  have notFs : a ∉ frs X.stack := by rw [hs]; exact notFr
  have nL : a ≠ X.env.locals := fun z => notFr (List.mem_filterMap.mpr ⟨X.env, List.mem_cons_self, by rw [hf, z]⟩)
  have nF : a ∉ X.fs := fun hm => by
    obtain ⟨e, he, q⟩ := List.mem_filterMap.mp hm
    exact notFr (List.mem_filterMap.mpr ⟨e, List.mem_cons_of_mem _ he, q⟩)
  have notI : ∀ o, sI.heap.get? a = some o → False := fun o e => by
    have := nb a o e notFs
    rw [fl3.2.1] at this
    cases this
  have new0 : X.s_0.heap.get? a = none := by
    cases q : X.s_0.heap.get? a with
    | none => rfl
    | some o =>
      obtain ⟨o', e'⟩ := J.base.there a o q (by rw [hex]; exact fun z => nomatch z)
      exact (notI o' e').elim
  have nP : ∀ p ∈ X.pn ++ pins, p.1 ≠ a := fun p hp z => by
    have := (J.pin p hp).1
    rw [z] at this
    exact notI _ this
  have S3 := J3.suite he3 hd3 na nL nF
  refine wpAny_handleBy_cons (codeAny_handlers_test ?_) (by intro q; cases q)
  have LT : PySem.W.Looks (model X.prog X.w) h3 (typeOf (.ref a)) cls := fun A Q E s k q => wpAny_typeOf_ref (k _ _ he3) (by rw [hz3.1]; exact q)
  have LM := PySem.W.exm_one (M := model X.prog X.w) (J3.kIn) LT hb1
  have test : ∀ {Q : Value → Shared → Prop} {E : Value → Shared → Prop}, Q c { s' with heap := h3 } → wpAny (model X.prog X.w) (X.A.mark (some (.ref a))) (eval (.Name x np) X.env) Q E { s' with heap := h3 } := fun {Q E} q => by
    obtain ⟨hg, hdbg, hm | ⟨hm, hv, hnn⟩⟩ := hc
    · exact ld_glob (X := X.suite a ((a, oe3) :: (X.pn ++ pins))) S3 hg hm q hdbg
    · exact ld_blt (X := X.suite a ((a, oe3) :: (X.pn ++ pins))) S3 hg hm hv q hnn hdbg
  refine test (LM.here ?_)
  cases b with
  | true =>
    obtain ⟨C, dd, rfl, rfl, hyes2⟩ := hyes rfl
    refine codeAny_handlers_suite_as ?_
    refine HandSPX.lands_againZ fl3 fun h4 fl4 up4 => ?_
    have J4 : L2.Inv X pins σ' H' { s' with heap := h4 } := J.landed nb fl4.1 ((up.trans up3).trans up4) os ag
    obtain ⟨oe4, vs4, he4, hz4, hd4⟩ := fl4.there
    have S4 := inv_suite J4 new0 he4 hz4 ⟨_, hd4⟩ na nL nP
    refine store_ok (X := X.suite a (X.pn ++ pins)) (v := .ref a) S4 hN hi hloc rfl (fun s5 S5 => ?_) (.inr hln)
    refine wpAny_mono ((hsu a (X.pn ++ pins)).run [] s5 _ _ _ S5 (hyes2 a na)) (fun f s6 hsp => ?_) (fun _ _ z => False.elim z)
    have end_ : ∀ {σ6 : L2.St} {H6 : Hp} {Q : Shared → Prop}, L2.Inv (X.suite a (X.pn ++ pins)) [] σ6 H6 s6 → (∀ s7, L2.Inv X pins (σ6.set i none) H6 s7 → Q s7) →
        wpAny (model X.prog X.w) X.A (do bindName X.env n .none; unbindBehindTheSuite X.env n pos') (fun _ s7 => Q s7) X.xe s6 := fun {σ6 H6 Q} S6 hq => gone_ok (inv_unsuite S6 ok) hN hi hln hq
    cases f with
    | next =>
      obtain ⟨σ6, H6, S6, q6⟩ := hsp
      exact end_ S6 fun s7 J7 => ⟨_, _, J7, q6⟩
    | brk =>
      obtain ⟨σ6, H6, S6, q6⟩ := hsp
      exact end_ S6 fun s7 J7 => ⟨_, _, J7, q6⟩
    | cont =>
      obtain ⟨σ6, H6, S6, q6⟩ := hsp
      exact end_ S6 fun s7 J7 => ⟨_, _, J7, q6⟩
    | ret u =>
      obtain ⟨v6, σ6, H6, S6, r6, q6⟩ := hsp
      exact end_ S6 fun s7 J7 => ⟨_, _, _, J7, r6, q6⟩
  | false =>
    show wpAny _ X.A (handleBy (.ref a) X.env []) _ _ _
    refine wpAny_handleBy_nil ?_
    obtain ⟨k1, k2, k3, oe, vs, T, oT, ts', he, hz, hd, h1, hr⟩ := id fl3
    unfold PySem.passOn
    refine wpAny_bind (wpAny_field he hd h1 ?_)
    rw [if_neg (show ¬ ((Value.ref T == Value.none) = true) from by simp)]
    have fin : wpAny (model X.prog X.w) X.A (setFlight (.ref a) X.env.frame) (fun _ s4 => wpAny (model X.prog X.w) X.A (throw (.ref a) : Sem Flow) (SP X pins D) X.xe s4) X.xe { s' with heap := h3 } := by
      rw [hf]
      refine HandSPX.setFlight_upZ fl3 fun h4 hh4 up4 => wpAny_throw (tk _ _ ?_)
      exact ⟨a, B, sI, pins, σ', H', cls, d, rfl, J, nb, (up.trans up3).trans up4, .inr (.inr (by rw [hs]; exact hh4)), na, os, ag, hno rfl⟩
    first
      | exact wpAny_bind (wpAny_pure (wpAny_bind fin))
      | exact wpAny_bind fin
theorem ps_tryT (hs : X.stack = X.env :: X.outer) (hf : X.env.frame = some X.env.locals) (hex : X.ex = []) (hN : X.N.Nodup) (hi : X.N[i]? = some n) (hln : X.env.kindOf n = some .local) (hc : Names X x c) (tk : Takes X Wout)
    (hb : ∀ (W : WX) (pn : List (Addr × Obj)) (xe : Value → Shared → Prop), Takes (X.tr pn xe) W → PassesOwn (model X.prog X.w) X.A X.env xe → PSs (X.tr pn xe) body (tb W))
    (hsu : ∀ (a : Addr) (pn : List (Addr × Obj)), PSs (X.suite a pn) (b₀ :: suite) ts) :
    PS X (.Try body [.ExceptHandler (some (.Name x np)) (some n) (b₀ :: suite) pos'] [] [] pos) (fun D σ H => tb (wT X.K c i ts Wout D) D σ H) := by
  refine ⟨fun pins s σ H D I h => ?_⟩
  have ok := I.ok
  refine wpAny_Try_except ?_
  refine wpAny_mono ((hb (wT X.K c i ts Wout D) (X.pn ++ pins) (xeT X x n np pos' (b₀ :: suite) pins D) (try_takes hs hf hex hN hi hln hc tk hsu pins D) PassesOwn.looking).run [] s σ H D (I.toTry _) h) (fun f s1 hsp => ?_) (fun e s1 he => he)
  cases f with
  | next =>
    obtain ⟨σ', H', J', q⟩ := hsp
    exact wpAny_execs_nil ⟨σ', H', J'.ofTry ok, q⟩
  | brk =>
    obtain ⟨σ', H', J', q⟩ := hsp
    exact ⟨σ', H', J'.ofTry ok, q⟩
  | cont =>
    obtain ⟨σ', H', J', q⟩ := hsp
    exact ⟨σ', H', J'.ofTry ok, q⟩
  | ret u =>
    obtain ⟨v, σ', H', J', r, q⟩ := hsp
    exact ⟨v, σ', H', J'.ofTry ok, r, q⟩
/-- try: body, except .. as (slot i): suite; cat: which errors are caught -/
def mTry (cat : EC → Bool) (i : Nat) (mb ms : M Fl) : M Fl := fun s => match mb s with
  | some (.ok f s') => some (.ok f s')
  | some (.ex e s') => if cat e.c = true then (match ms { s' with sl := s'.sl.set i (some (.val (.exc e.c e.v))) } with
      | some (.ok f s2) => some (.ok f { s2 with sl := s2.sl.set i none })
      | _ => none) else some (.ex e s')
  | none => none
theorem ds_tryT (i : Nat) (cat : EC → Bool) (hs : X.stack = X.env :: X.outer) (hf : X.env.frame = some X.env.locals) (hex : X.ex = []) (hN : X.N.Nodup) (hc : Names X x c) (tk : Takes X Wout)
    (hcat : ∀ (e : EC) C, PySem.W.nsIn X.K mainGlobals e.nm = some (some (.ref C)) → PySem.W.exmOne X.K (.ref C) c = some (cat e))
    (hb : ∀ (W : WX) (pn : List (Addr × Obj)) (xe : Value → Shared → Prop), Takes (X.tr pn xe) W → PassesOwn (model X.prog X.w) X.A X.env xe → DSs (X.tr pn xe) W body (tb W) mb)
    (hsu : ∀ (a : Addr) (pn : List (Addr × Obj)), DSs (X.suite a pn) (fun _ _ _ _ => False) (b₀ :: suite) ts ms) (hi : X.N[i]? = some n := by rfl) (hln : X.env.kindOf n = some .local := by rfl) :
    DS X Wout (.Try body [.ExceptHandler (some (.Name x np)) (some n) (b₀ :: suite) pos'] [] [] pos) (fun D σ H => tb (wT X.K c i ts Wout D) D σ H) (mTry cat i mb ms) :=
  ⟨ps_tryT hs hf hex hN hi hln hc tk (fun W pn xe t p => (hb W pn xe t p).p) (fun a pn => (hsu a pn).p), by
    intro en io F H σ s o E R e hx hq
    have B := (hb (wT X.K c i ts Wout E) (X.pn ++ []) (xeT X x n np pos' (b₀ :: suite) [] E) (try_takes hs hf hex hN hi hln hc tk (fun a pn => (hsu a pn).p) [] E) PassesOwn.looking).s
    unfold mTry at e
    split at e
    · rename_i f s' h1
      cases e
      exact B en io F H σ s _ E R h1 trivial fun f2 s2 e2 => hq f2 s2 e2
    · rename_i ex s' h1
      refine B en io F H σ s _ E R h1 (fun cls dd io' F' H' σ' l R' xr => ?_) fun f2 s2 e2 => by cases e2
      obtain ⟨hn, ⟨C, rfl⟩, d, v, rfl, hF, rv⟩ := id xr
      refine ⟨cat ex.c, hcat _ _ hn, fun hb1 => ⟨C, d, rfl, rfl, fun a ha => ?_⟩, fun hb1 => ?_⟩
      · rw [if_pos hb1] at e
        split at e
        · rename_i f s2 h2
          cases e
          obtain ⟨R2, l2⟩ := R'.new ha (xco C d a)
          have hda : d ≠ a := fun z => by
            have := R'.h.ex _ _ hF
            rw [z, ha] at this
            cases this
          have R3 := R2.setv (i := i) (d := .exc ex.c ex.v) (v := .ref a) ⟨a, C, d, v, rfl, hn, upd_same, by rw [upd_ne hda]; exact hF, rep_le l2 _ _ rv⟩
          refine (hsu a []).s en io' _ _ (σ'.set i (some (.ref a))) _ _ _ R3 h2 trivial fun f4 s4 e4 io4 F4 H4 σ4 l4 R4 => ?_
          cases e4
          have fin := hq _ _ rfl io4 F4 H4 (σ4.set i none) ((l.trans l2).trans l4) (R4.forget none)
          cases f with
          | nx => exact fin
          | rt d => exact fin
          | bk => exact fin
          | ct => exact fin
        · cases e
      · rw [if_neg (by rw [hb1]; exact Bool.false_ne_true)] at e
        cases e
        exact hx _ _ io' F' H' σ' l R' xr
    · cases e⟩
end
end Z
/-! Z15: an error's value and class -/
namespace Z
open PySem PySem.Spec PyProof.Rows L2
open Classical
/-- all error classes of the text -/
def XTab (P : Program) (K : PySem.W.Frag) : Prop := ∀ (c : EC) (C : Addr), PySem.W.nsIn K mainGlobals c.nm = some (some (.ref C)) → XcK P K c C
section
variable {X : Cx} {pins : List (Addr × Obj)} {σ : L2.St} {H : Hp} {s : Shared} {a C dd : Addr} {fs : List (Str × V)} {c : EC}
theorem exc_look (I : L2.Inv X pins σ H s) (ha : H a = some (xco C dd a)) (hd : H dd = some (.xd fs)) : ∃ oe od, PySem.W.InstAt s.heap a oe C (some od) ∧ ∀ f v, fs.lookup f = some v → ∃ u, PySem.W.lookIn f od = some (some u) ∧ RelV v u := by
  obtain ⟨oe, vs, he, hz, hdt⟩ := xco_at I.hok ha
  have hx : ObjOk X.prog X.w H s.heap dd (.xd fs) := I.hok dd _ hd
  obtain ⟨mA, hns, hr⟩ := hx
  obtain ⟨od, ho, hl⟩ := lookIn_ns hns
  refine ⟨oe, od, ⟨he, hz.1, by unfold PySem.W.notCls; rw [hdt] <;> rfl, by rw [hz.2]; exact ho⟩, fun f v e => ?_⟩
  obtain ⟨u, hu, ru⟩ := RelO.some_of (v := v) (o := mA f) (by rw [← e]; exact hr f)
  exact ⟨u, by rw [hl, hu], ru⟩
theorem kit_exc (I : L2.Inv X pins σ H s) (T : XcK X.prog X.K c C) (ha : H a = some (xco C dd a)) (hd : H dd = some (.xd fs)) : ∃ Pr : Heap → Prop, PySem.W.KitX X.K (.ref a) (.ref C) Pr ∧ Pr s.heap := by
  obtain ⟨oe, od, J, _⟩ := exc_look I ha hd
  obtain ⟨cd, hcl, _⟩ := cls_of T.o
  exact ⟨_, PySem.W.kitx_exc (by rw [hcl]; rfl) T.ga T.gg T.o.exC T.cA T.cG T.cT T.mO, J⟩
/-- isinstance(e, c) -/
def rIsX (P : Program) (K : PySem.W.Frag) : List V → Hp → VK → Prop := fun xs H Q => ∃ (a C dd : Addr) (fs : List (Str × V)) (c : EC) (cl : V) (u : Value) (b : Bool), xs = [.ref a, cl] ∧ ClsV cl u ∧ H a = some (xco C dd a) ∧ H dd = some (.xd fs) ∧ XcK P K c C ∧ PySem.W.kitOne K (.ref C) u = some b ∧ Q (.bl b) H
/-- isinstance(e, (c1, c2, ..)) -/
def rIsXT (P : Program) (K : PySem.W.Frag) : List V → Hp → VK → Prop := fun xs H Q => ∃ (a C dd tp : Addr) (fs : List (Str × V)) (c : EC) (cs : List V) (us : List Value) (b : Bool), xs = [.ref a, .ref tp] ∧ H tp = some (.tup cs) ∧ Paired ClsV cs us ∧ H a = some (xco C dd a) ∧ H dd = some (.xd fs) ∧ XcK P K c C ∧ PySem.W.kitAny K (.ref C) us = some b ∧ Q (.bl b) H
theorem call_isX : CallR X (.builtin "isinstance") (rIsX X.prog X.K) := by
  intro pins s σ H xs us Q I r h
  obtain ⟨a, C, dd, fs, c, cl, u, b, rfl, k, ha, hd, T, e, q⟩ := h
  obtain ⟨u1, u2, rfl, r1, r2⟩ := vals2 r
  have e2 := k.eq r2
  subst e2
  cases (show u1 = Value.ref a from r1)
  obtain ⟨Pr, Z, p⟩ := kit_exc I T ha hd
  exact PySem.W.kia_one Z I.kIn p e (fun z => nomatch z) fun tk => ⟨.bl b, H, I.tok tk, rfl, q⟩
theorem call_isXT : CallR X (.builtin "isinstance") (rIsXT X.prog X.K) := by
  intro pins s σ H xs us Q I r h
  obtain ⟨a, C, dd, tp, fs, c, cs, ws, b, rfl, hT, k, ha, hd, T, e, q⟩ := h
  obtain ⟨u1, u2, rfl, r1, r2⟩ := vals2 r
  cases (show u1 = Value.ref a from r1)
  cases (show u2 = Value.ref tp from r2)
  obtain ⟨Pr, Z, p⟩ := kit_exc I T ha hd
  obtain ⟨_, its, rv, o, h1, h2, n, h3⟩ := (show ObjOk X.prog X.w H s.heap tp (.tup cs) from I.hok tp _ hT)
  have e3 := ClsV.all k rv
  subst e3
  obtain ⟨oc, od, dt, sl⟩ := o
  simp only at h2 h3
  subst h2 h3
  exact PySem.W.kia_tup Z I.kIn p h1 e (fun z => nomatch z) fun tk => ⟨.bl b, H, I.tok tk, rfl, q⟩
end
section
variable {X : Cx} {W : WX} {pos : Pos} {K : PySem.W.Frag} {mg : Str → Option Value} {a b e : Expr} {es : List Expr} {ta tb te : TE} {ma mb me : M D} {tl : TA} {ml : M (List D)}
def isXF (cat : EC → Bool) (d : D) : Option D := match d with
  | .exc c _ => some (.bl (cat c))
  | _ => none
/-- isinstance(e, X), X a class of the text or a built-in one -/
theorem de_isX (cat : EC → Bool) (cl : V) (u : Value) {x : Str} {p p2 : Pos} (hg : Gl X "isinstance") (hm : X.mg "isinstance" = none) (T : XTab X.prog X.K) (hcl : PE X (.Name x p2) (tC cl)) (hk : ClsV cl u)
    (hcat : ∀ (c : EC) C, PySem.W.nsIn X.K mainGlobals c.nm = some (some (.ref C)) → PySem.W.kitOne X.K (.ref C) u = some (cat c)) (he : DE X W e te me) (hv : bootBuiltins "isinstance" = some (.builtin "isinstance") := by decide +kernel)
    (hs : starEach [e, .Name x p2] X.env = (false, eval e X.env) :: starEach [.Name x p2] X.env := by rfl) (hs2 : starEach [.Name x p2] X.env = (false, eval (.Name x p2) X.env) :: starEach [] X.env := by rfl) (hpl : (backTo pos (starEach [.Name x p2] X.env)).any (·.1) = false := by rfl) :
    DE X W (.Call (.Name "isinstance" p) [e, .Name x p2] [] pos) (tCB (rIsX X.prog X.K) (tCons te (tCons (tC cl) tNil))) (mUn (isXF cat) me) := by
  refine ⟨pe_callB call_isX hg hm hv (pa_cons he.p (pa_cons hcl pa_nil hs2) hs) (by decide) (by decide) hs hpl, ?_⟩
  intro en io F H σ s o Q R e' hx hq
  refine he.s.step R e' hx fun d s1 v io1 F1 H1 l1 R1 r1 e1 hx1 => ?_
  obtain ⟨z, e2, e3⟩ := lft_some e1
  match d, e2 with
  | .exc c d, e2 =>
    cases e2
    obtain ⟨a, C, dd, w, rfl, hn, hF, hd, _⟩ := r1
    exact ⟨a, C, dd, _, c, cl, u, cat c, rfl, hk, R1.h.ex _ _ hF, R1.h.ex _ _ hd, T c C hn, hcat c C hn, hq _ _ e3 _ io1 F1 H1 l1 R1 rfl⟩
/-- names of classes -/
def tL (cs : List V) : TA := fun _ H Q => Q cs H
theorem pcl_nil : PA X [] (tL []) := pa_nil
theorem pcl_cons {x : Str} {p : Pos} {v : V} {cs : List V} (h : PE X (.Name x p) (tC v)) (g : PA X es (tL cs)) (hs : starEach (.Name x p :: es) X.env = (false, eval (.Name x p) X.env) :: starEach es X.env := by rfl) : PA X (.Name x p :: es) (tL (v :: cs)) := pa_cons h g hs
theorem de_isXT (cat : EC → Bool) (cs : List V) (us : List Value) {k : Nat} {p p2 : Pos} (hg : Gl X "isinstance") (hm : X.mg "isinstance" = none) (T : XTab X.prog X.K) (hcl : PA X es (tL cs)) (hk : Paired ClsV cs us) (hlen : cs.length ≤ 100)
    (hcat : ∀ (c : EC) C, PySem.W.nsIn X.K mainGlobals c.nm = some (some (.ref C)) → PySem.W.kitAny X.K (.ref C) us = some (cat c)) (he : DE X W e te me) (hv : bootBuiltins "isinstance" = some (.builtin "isinstance") := by decide +kernel)
    (hs : starEach [e, .Tuple es k p2] X.env = (false, eval e X.env) :: starEach [.Tuple es k p2] X.env := by rfl) (hs2 : starEach [.Tuple es k p2] X.env = (false, eval (.Tuple es k p2) X.env) :: starEach [] X.env := by rfl) (hpl : (backTo pos (starEach [.Tuple es k p2] X.env)).any (·.1) = false := by rfl) :
    DE X W (.Call (.Name "isinstance" p) [e, .Tuple es k p2] [] pos) (tCB (rIsXT X.prog X.K) (tCons te (tCons (tTup (tL cs)) tNil))) (mUn (isXF cat) me) := by
  refine ⟨pe_callB call_isXT hg hm hv (pa_cons he.p (pa_cons (pe_tup hcl) pa_nil hs2) hs) (by decide) (by decide) hs hpl, ?_⟩
  intro en io F H σ s o Q R e' hx hq
  refine he.s.step R e' hx fun d s1 v io1 F1 H1 l1 R1 r1 e1 hx1 => ?_
  obtain ⟨z, e2, e3⟩ := lft_some e1
  match d, e2 with
  | .exc c d, e2 =>
    cases e2
    obtain ⟨a, C, dd, w, rfl, hn, hF, hd, _⟩ := r1
    refine ⟨by rw [sizeLine_eq]; omega, fun tp htp => ?_⟩
    have ha := R1.h.ex _ _ hF
    have hd' := R1.h.ex _ _ hd
    exact ⟨a, C, dd, tp, _, c, cs, us, cat c, rfl, upd_same, hk, by rw [upd_ne (ne_of_none ha htp)]; exact ha, by rw [upd_ne (ne_of_none hd' htp)]; exact hd', T c C hn, hcat c C hn, hq _ _ e3 _ io1 F1 _ l1 (R1.junk htp _) rfl⟩
/-- e.value -/
def tVal (P : Program) (K : PySem.W.Frag) (te : TE) : TE := fun σ H Q => te σ H fun x H1 => ∃ (a C dd : Addr) (c : EC) (v : V), x = .ref a ∧ H1 a = some (xco C dd a) ∧ XcK P K c C ∧ H1 dd = some (.xd [(("value" : Str), v)]) ∧ Q v H1
theorem pe_val (he : PE X e te) (hb : attributeBase e "value" X.env (eval e X.env) = eval e X.env := by rfl) : PE X (.Attribute e "value" pos) (tVal X.prog X.K te) := by
  refine ⟨fun pins s σ H Q I h => ?_⟩
  refine attr_of hb (thn (he.run pins s σ H _ I h) fun u s1 hh => ?_)
  obtain ⟨x, H1, I1, rx, a, C, dd, c, v, rfl, ha, T, hd, q⟩ := hh
  obtain rfl : u = Value.ref a := rx
  obtain ⟨oe, od, J, hl⟩ := exc_look I1 ha hd
  obtain ⟨u, hu, ru⟩ := hl "value" v (by simp [List.lookup])
  exact HandSPX.exc_get I1.kIn J T.ga T.gg T.o.exC (PySem.W.findObj_own T.hd T.noV rfl hu) (handed_of ru) ⟨v, H1, I1.tok _, ru, q⟩
def valF (d : D) : Option D := match d with
  | .exc _ d => some d
  | _ => none
theorem de_val (T : XTab X.prog X.K) (he : DE X W e te me) (hb : attributeBase e "value" X.env (eval e X.env) = eval e X.env := by rfl) : DE X W (.Attribute e "value" pos) (tVal X.prog X.K te) (mUn valF me) := ⟨pe_val he.p hb, by
  intro en io F H σ s o Q R e' hx hq
  refine he.s.step R e' hx fun d s1 v io1 F1 H1 l1 R1 r1 e1 hx1 => ?_
  obtain ⟨z, e2, e3⟩ := lft_some e1
  match d, e2 with
  | .exc c d, e2 =>
    cases e2
    obtain ⟨a, C, dd, w, rfl, hn, hF, hd, r⟩ := r1
    exact ⟨a, C, dd, c, w, rfl, R1.h.ex _ _ hF, T c C hn, R1.h.ex _ _ hd, hq _ _ e3 _ io1 F1 H1 l1 R1 r⟩⟩
/-! ### facts about classes -/
theorem kit_own {C T : Addr} {b : Bool} (h2 : PySem.W.isClsIn K T = true) (h3 : PySem.W.typeIn K (.ref T) = some (.type "type")) (h4 : PySem.W.subIn K (.ref C) (.ref T) = some b) (hs : PySem.W.subIn K (.ref T) (.ref T) = some true) : PySem.W.kitOne K (.ref C) (.ref T) = some b := by
  unfold PySem.W.kitOne
  by_cases e : (Value.ref C == Value.ref T) = true
  · rw [if_pos e]
    have : C = T := Value.ref.inj (beq_iff_eq.mp e)
    rw [this, hs] at h4
    exact h4
  · rw [if_neg e]
    have e2 : ((PySem.W.clsIn K T).isSome && PySem.W.typeIn K (.ref T) == some (.type "type")) = true := by
      have h2' : (PySem.W.clsIn K T).isSome = true := h2
      rw [h2', h3] <;> rfl
    show (if ((PySem.W.clsIn K T).isSome && PySem.W.typeIn K (.ref T) == some (.type "type")) = true then PySem.W.subIn K (.ref C) (.ref T) else none) = some b
    rw [if_pos e2]
    exact h4
theorem kit_bt {C : Addr} {T : String} {b : Bool} (hm : PySem.W.kitMeta T = true) (h4 : PySem.W.subIn K (.ref C) (.type T) = some b) : PySem.W.kitOne K (.ref C) (.type T) = some b := by
  unfold PySem.W.kitOne
  rw [if_neg (by intro z; cases beq_iff_eq.mp z)]
  show (if PySem.W.kitMeta T = true then PySem.W.subIn K (.ref C) (.type T) else none) = some b
  rw [if_pos hm]
  exact h4
theorem exm_own {C T : Addr} {b : Bool} (h1 : PySem.W.subIn K (.ref T) (.type "BaseException") = some true) (h2 : PySem.W.isClsIn K T = true) (h3 : PySem.W.typeIn K (.ref T) = some (.type "type")) (h4 : PySem.W.subIn K (.ref C) (.ref T) = some b) : PySem.W.exmOne K (.ref C) (.ref T) = some b := by
  have e1 : (PySem.W.subIn K (.ref T) (.type "BaseException") == some true) = true := by rw [h1] <;> rfl
  have e2 : ((PySem.W.clsIn K T).isSome && PySem.W.typeIn K (.ref T) == some (.type "type")) = true := by
    have h2' : (PySem.W.clsIn K T).isSome = true := h2
    rw [h2', h3] <;> rfl
  show (if (PySem.W.subIn K (.ref T) (.type "BaseException") == some true) = true then (if ((PySem.W.clsIn K T).isSome && PySem.W.typeIn K (.ref T) == some (.type "type")) = true then PySem.W.subIn K (.ref C) (.ref T) else none) else none) = some b
  rw [if_pos e1, if_pos e2]
  exact h4
theorem any_cons_t {t c : Value} {r : List Value} (h : PySem.W.kitOne K t c = some true) : PySem.W.kitAny K t (c :: r) = some true := by
  unfold PySem.W.kitAny
  rw [h]
theorem any_cons_f {t c : Value} {r : List Value} {b : Bool} (h : PySem.W.kitOne K t c = some false) (g : PySem.W.kitAny K t r = some b) : PySem.W.kitAny K t (c :: r) = some b := by
  unfold PySem.W.kitAny
  rw [h]
  exact g
/-- an error of one of these classes -/
def catE (l : List EC) (c : EC) : Bool := decide (c ∈ l)
def catAll : EC → Bool := fun _ => true
theorem any_nil' : ∀ (c : EC) C, PySem.W.nsIn K mainGlobals c.nm = some (some (.ref C)) → PySem.W.kitAny K (.ref C) [] = some (catE [] c) := fun c C _ => by
  unfold PySem.W.kitAny catE
  simp
theorem any_cons' {t : EC} {ts : List EC} {u : Value} {us : List Value} (h : ∀ (c : EC) C, PySem.W.nsIn K mainGlobals c.nm = some (some (.ref C)) → PySem.W.kitOne K (.ref C) u = some (catE [t] c))
    (g : ∀ (c : EC) C, PySem.W.nsIn K mainGlobals c.nm = some (some (.ref C)) → PySem.W.kitAny K (.ref C) us = some (catE ts c)) : ∀ (c : EC) C, PySem.W.nsIn K mainGlobals c.nm = some (some (.ref C)) → PySem.W.kitAny K (.ref C) (u :: us) = some (catE (t :: ts) c) := fun c C e => by
  have h1 := h c C e
  have h2 := g c C e
  unfold catE at h1 h2 ⊢
  by_cases q : c = t
  · rw [decide_eq_true (by simp [q])] at h1
    rw [any_cons_t h1, decide_eq_true (by simp [q])]
  · rw [decide_eq_false (by simpa using q)] at h1
    rw [any_cons_f h1 h2]
    simp [q]
end
/-! ### the same with the written part by name -/
section
variable {X : Cx} {W : WX} {pos : Pos} {a b e : Expr} {es : List Expr} {ta tb te : TE} {ma mb me : M D} {tl : TA} {ml : M (List D)}
theorem ke_val (P : Program) (K : PySem.W.Frag) (T : XTab P K) (he : DE X W e te me) (hP : X.prog = P := by rfl) (hK : X.K = K := by rfl) (hb : attributeBase e "value" X.env (eval e X.env) = eval e X.env := by rfl) : DE X W (.Attribute e "value" pos) (tVal P K te) (mUn valF me) := by subst hP hK; exact de_val T he hb
theorem ke_isX (P : Program) (K : PySem.W.Frag) (cat : EC → Bool) (cl : V) (u : Value) {x : Str} {p p2 : Pos} (hg : Gl X "isinstance") (hm : X.mg "isinstance" = none) (T : XTab P K) (hcl : PE X (.Name x p2) (tC cl)) (hk : ClsV cl u)
    (hcat : ∀ (c : EC) C, PySem.W.nsIn K mainGlobals c.nm = some (some (.ref C)) → PySem.W.kitOne K (.ref C) u = some (cat c)) (he : DE X W e te me) (hP : X.prog = P := by rfl) (hK : X.K = K := by rfl) (hv : bootBuiltins "isinstance" = some (.builtin "isinstance") := by decide +kernel)
    (hs : starEach [e, .Name x p2] X.env = (false, eval e X.env) :: starEach [.Name x p2] X.env := by rfl) (hs2 : starEach [.Name x p2] X.env = (false, eval (.Name x p2) X.env) :: starEach [] X.env := by rfl) (hpl : (backTo pos (starEach [.Name x p2] X.env)).any (·.1) = false := by rfl) :
    DE X W (.Call (.Name "isinstance" p) [e, .Name x p2] [] pos) (tCB (rIsX P K) (tCons te (tCons (tC cl) tNil))) (mUn (isXF cat) me) := by subst hP hK; exact de_isX cat cl u hg hm T hcl hk hcat he hv hs hs2 hpl
theorem ke_isXT (P : Program) (K : PySem.W.Frag) (cat : EC → Bool) (cs : List V) (us : List Value) {k : Nat} {p p2 : Pos} (hg : Gl X "isinstance") (hm : X.mg "isinstance" = none) (T : XTab P K) (hcl : PA X es (tL cs)) (hk : Paired ClsV cs us) (hlen : cs.length ≤ 100)
    (hcat : ∀ (c : EC) C, PySem.W.nsIn K mainGlobals c.nm = some (some (.ref C)) → PySem.W.kitAny K (.ref C) us = some (cat c)) (he : DE X W e te me) (hP : X.prog = P := by rfl) (hK : X.K = K := by rfl) (hv : bootBuiltins "isinstance" = some (.builtin "isinstance") := by decide +kernel)
    (hs : starEach [e, .Tuple es k p2] X.env = (false, eval e X.env) :: starEach [.Tuple es k p2] X.env := by rfl) (hs2 : starEach [.Tuple es k p2] X.env = (false, eval (.Tuple es k p2) X.env) :: starEach [] X.env := by rfl) (hpl : (backTo pos (starEach [.Tuple es k p2] X.env)).any (·.1) = false := by rfl) :
    DE X W (.Call (.Name "isinstance" p) [e, .Tuple es k p2] [] pos) (tCB (rIsXT P K) (tCons te (tCons (tTup (tL cs)) tNil))) (mUn (isXF cat) me) := by subst hP hK; exact de_isXT cat cs us hg hm T hcl hk hlen hcat he hv hs hs2 hpl
end
end Z
/-! Z16: list.count, list.index of flat items; islower, isalpha -/
namespace Z
open PySem PySem.Spec PyProof.Rows L2
open Classical
section
variable {X : Cx}
def rCntF (K : PySem.W.Frag) : V → List V → Hp → VK → Prop := fun x xs H Q => ∃ (p : Addr) (ys : List V) (y : V), x = .ref p ∧ xs = [y] ∧ SqL K H p ys ∧ flatV y = true ∧ ys.all flatV = true ∧ Q (.int (ys.countP fun z => eqV z y : Nat)) H
theorem countU {y : V} (fy : flatV y = true) : ∀ {ys : List V} {us : List Value}, Vals ys us → ys.all flatV = true → us.countP (eqU y) = ys.countP fun z => eqV z y
  | _, _, .nil, _ => rfl
  | z :: ys, u :: us, .cons r t, f => by
    rw [List.all_cons, Bool.and_eq_true] at f
    rw [List.countP_cons, List.countP_cons, countU fy t f.2, eqU_of r f.1]
theorem mt_lcountF : MtR X "list.count" (rCntF X.K) := by
  intro pins s σ H x xs v us Q I rx rxs h
  obtain ⟨p, ys, y, rfl, rfl, hs, fy, fys, q⟩ := h
  cases rx
  obtain ⟨u, rfl, ru⟩ := rxs.one
  obtain ⟨its, rv, ⟨⟨cls, dd, data, sl⟩, n, ho, hc, hdn, hd⟩, hlen⟩ := I.list hs
  simp only at hc hd
  subst hc hd
  refine call_meets PySem.F.slot_list_count ⟨_, ho, rfl⟩ PySem.F.entry_list_count (PySem.F.args_list_count_2 _ _)
    (SeqAt.list_countAt p its.toArray n dd sl u (eqU y)) ⟨ho, fun u' hu' => mem_eqAt ru fy rv fys u' (by simpa using hu'), ?_⟩
  refine ⟨.int (ys.countP fun z => eqV z y : Nat), H, I.tok _, ⟨s.toks, ?_⟩, q⟩
  show Value.int ((its.toArray.toList.countP (eqU y) : Nat) : Int) s.toks = _
  rw [show its.toArray.toList = its from rfl, countU fy rv fys]
end
section
variable {X : Cx} {W : WX} {pos : Pos} {K : PySem.W.Frag} {mg : Str → Option Value} {a b e : Expr} {ta tb te : TE} {ma mb me : M D}
theorem reps_count {io : List Addr} {F : Hp} {d : D} {x : V} (hd : flatD d = true) (rd : rep K io F d x) : ∀ {l : List D} {xs : List V}, l.all flatD = true → reps K io F l xs → xs.countP (fun z => eqV z x) = l.countP fun z => eqF z d
  | [], xs, _, r => by
    rw [show xs = [] from r]
    rfl
  | c :: l, _, h, r => by
    obtain ⟨y, t, rfl, r1, r2⟩ := r
    rw [List.all_cons, Bool.and_eq_true] at h
    rw [List.countP_cons, List.countP_cons, rep_eqF h.1 hd r1 rd, reps_count hd rd h.2 r2]
/-- a method of a list with one argument -/
def mML (f : List D → D → Option D) (ma me : M D) : M D := bnd ma fun d => match d with
  | .lst l => bnd me fun e => lft (f l e)
  | _ => fun _ => none
def cntF (l : List D) (e : D) : Option D := if flatD e = true ∧ l.all flatD = true then some (.int (l.countP fun z => eqF z e : Nat)) else none
/-- the place of the first equal item -/
def idx1 (l : List D) (e : D) : Option Nat := match l with
  | [] => none
  | d :: l => if eqF d e = true then some 0 else (idx1 l e).map (· + 1)
def idxF (l : List D) (e : D) : Option D := if flatD e = true ∧ l.all flatD = true then (idx1 l e).map fun j => .int (j : Nat) else none
theorem idx1_some : ∀ {l : List D} {e : D} {j : Nat}, idx1 l e = some j → (∃ z, l[j]? = some z ∧ eqF z e = true) ∧ ∀ (m : Nat) z, m < j → l[m]? = some z → eqF z e = false
  | [], e, j, h => by cases h
  | d :: l, e, j, h => by
    unfold idx1 at h
    by_cases hd : eqF d e = true
    · rw [if_pos hd] at h
      cases h
      exact ⟨⟨d, rfl, hd⟩, fun m z hm => absurd hm (Nat.not_lt_zero _)⟩
    · rw [if_neg hd] at h
      obtain ⟨k, hk, rfl⟩ := Option.map_eq_some_iff.mp h
      obtain ⟨⟨z, h1, h2⟩, h3⟩ := idx1_some hk
      refine ⟨⟨z, by rw [List.getElem?_cons_succ]; exact h1, h2⟩, fun m y hm hy => ?_⟩
      cases m with
      | zero =>
        rw [List.getElem?_cons_zero] at hy
        cases hy
        simpa using hd
      | succ m =>
        rw [List.getElem?_cons_succ] at hy
        exact h3 m y (by omega) hy
theorem ke_countL (K : PySem.W.Frag) {apos : Pos} (ho : DE X W a ta ma) (he : DE X W e te me) (hK : X.K = K := by rfl)
    (hbase : attributeBase a "count" X.env (eval a X.env) = eval a X.env := by rfl) (hline : (apos.endLine == pos.line) = true := by rfl)
    (hfew : ((backTo pos (starEach [e] X.env)).all (fun x => !x.1) && (backToKw pos (keywordEach [] X.env)).all (fun x => x.1.isSome)
      && decide (([e] : List Expr).length + ([] : List Keyword).length + (if ([] : List Keyword).isEmpty then 0 else 1) < 30)) = true := by rfl)
    (hs : starEach [e] X.env = (false, eval e X.env) :: starEach [] X.env := by rfl) (hpl : (backTo pos (starEach [] X.env)).any (·.1) = false := by rfl) :
    DE X W (.Call (.Attribute a "count" apos) [e] [] pos) (tBM K "list" (rCntF K) ta (tCons te tNil)) (mML cntF ma me) := by
  subst hK
  refine ⟨pe_bm PySem.F.plainAttrs_list PySem.F.slot_list_count PySem.F.type_list_count mt_lcountF ho.p (pa_cons he.p pa_nil hs) hbase hfew hline hs hpl, ?_⟩
  intro en io F H σ s o Q R e hx hq
  refine ho.s.step R e hx fun d s1 v io1 F1 H1 l1 R1 r1 e1 hx1 => ?_
  match d, e1 with
  | .lst l, e1 =>
    obtain ⟨p, xs, rfl, hF, r⟩ := r1
    refine ⟨.inl ⟨rfl, xs, .of (R1.h.ex _ _ hF)⟩, ?_⟩
    refine he.s.step R1 e1 hx1 fun d2 s2 v2 io2 F2 H2 l2 R2 r2 e2 hx2 => ?_
    obtain ⟨z, e3, e4⟩ := lft_some e2
    unfold cntF at e3
    split at e3
    · rename_i hc
      cases e3
      have r' := reps_le l2 _ _ r
      refine ⟨p, xs, v2, rfl, rfl, .of (R2.h.ex _ _ (l2.ex _ _ hF)), rep_flat hc.1 r2, reps_flat hc.2 r', ?_⟩
      rw [reps_count hc.1 r2 hc.2 r']
      exact hq _ _ e4 _ io2 F2 H2 (l1.trans l2) R2 rfl
    · cases e3
theorem ke_indexL (K : PySem.W.Frag) {apos : Pos} (ho : DE X W a ta ma) (he : DE X W e te me) (hK : X.K = K := by rfl)
    (hbase : attributeBase a "index" X.env (eval a X.env) = eval a X.env := by rfl) (hline : (apos.endLine == pos.line) = true := by rfl)
    (hfew : ((backTo pos (starEach [e] X.env)).all (fun x => !x.1) && (backToKw pos (keywordEach [] X.env)).all (fun x => x.1.isSome)
      && decide (([e] : List Expr).length + ([] : List Keyword).length + (if ([] : List Keyword).isEmpty then 0 else 1) < 30)) = true := by rfl)
    (hs : starEach [e] X.env = (false, eval e X.env) :: starEach [] X.env := by rfl) (hpl : (backTo pos (starEach [] X.env)).any (·.1) = false := by rfl) :
    DE X W (.Call (.Attribute a "index" apos) [e] [] pos) (tBM K "list" (rIndex K) ta (tCons te tNil)) (mML idxF ma me) := by
  subst hK
  refine ⟨pe_bm PySem.F.plainAttrs_list PySem.F.slot_list_index PySem.F.type_list_index mt_index ho.p (pa_cons he.p pa_nil hs) hbase hfew hline hs hpl, ?_⟩
  intro en io F H σ s o Q R e hx hq
  refine ho.s.step R e hx fun d s1 v io1 F1 H1 l1 R1 r1 e1 hx1 => ?_
  match d, e1 with
  | .lst l, e1 =>
    obtain ⟨p, xs, rfl, hF, r⟩ := r1
    refine ⟨.inl ⟨rfl, xs, .of (R1.h.ex _ _ hF)⟩, ?_⟩
    refine he.s.step R1 e1 hx1 fun d2 s2 v2 io2 F2 H2 l2 R2 r2 e2 hx2 => ?_
    obtain ⟨z, e3, e4⟩ := lft_some e2
    unfold idxF at e3
    split at e3
    · rename_i hc
      obtain ⟨j, hj, rfl⟩ := Option.map_eq_some_iff.mp e3
      have r' := reps_le l2 _ _ r
      obtain ⟨⟨y, hy, hy2⟩, hno⟩ := idx1_some hj
      obtain ⟨w, hw, rw'⟩ := reps_get r' hy
      have fl : ∀ {m : Nat} {y : D}, l[m]? = some y → flatD y = true := fun {m y} h => List.all_eq_true.mp hc.2 _ (List.mem_of_getElem? h)
      refine ⟨p, xs, v2, j, w, rfl, rfl, .of (R2.h.ex _ _ (l2.ex _ _ hF)), rep_flat hc.1 r2, reps_flat hc.2 r', hw, by rw [rep_eqF (fl hy) hc.1 rw' r2]; exact hy2, fun m z' hm hz => ?_, hq _ _ e4 _ io2 F2 H2 (l1.trans l2) R2 rfl⟩
      obtain ⟨d', hd', rd'⟩ := reps_get' r' hz
      rw [rep_eqF (fl hd') hc.1 rd' r2]
      exact hno m d' hm hd'
    · cases e3
/-! ### methods of a text without arguments -/
def islowF (d : D) : Option D := match d with
  | .str x => some (.bl (Txt.islower ⟨x.toArray⟩))
  | _ => none
def isalF (d : D) : Option D := match d with
  | .str x => some (.bl (Txt.isalpha ⟨x.toArray⟩))
  | _ => none
theorem de_islower {apos : Pos} (ho : DE X W a ta ma) (hbase : attributeBase a "islower" X.env (eval a X.env) = eval a X.env := by rfl) (hline : (apos.endLine == pos.line) = true := by rfl) :
    DE X W (.Call (.Attribute a "islower" apos) [] [] pos) (tM0 (fun x xs H Q => ∃ a, x = .str a ∧ xs = [] ∧ True ∧ Q (.bl (Txt.islower a)) H) ta) (mUn islowF ma) :=
  ⟨pe_m0 PySem.F.slot_str_islower PySem.F.type_str_islower mt_islower ho.p hbase hline, by
    intro en io F H σ s o Q R e hx hq
    refine ho.s.step R e hx fun d s1 v io1 F1 H1 l1 R1 r1 e1 hx1 => ?_
    obtain ⟨z, e2, e3⟩ := lft_some e1
    match d, e2 with
    | .str x, e2 =>
      cases e2
      exact ⟨⟨_, r1⟩, _, r1, rfl, trivial, hq _ _ e3 _ io1 F1 H1 l1 R1 rfl⟩⟩
theorem de_isalpha {apos : Pos} (ho : DE X W a ta ma) (hbase : attributeBase a "isalpha" X.env (eval a X.env) = eval a X.env := by rfl) (hline : (apos.endLine == pos.line) = true := by rfl) :
    DE X W (.Call (.Attribute a "isalpha" apos) [] [] pos) (tM0 (fun x xs H Q => ∃ a, x = .str a ∧ xs = [] ∧ True ∧ Q (.bl (Txt.isalpha a)) H) ta) (mUn isalF ma) :=
  ⟨pe_m0 PySem.F.slot_str_isalpha PySem.F.type_str_isalpha mt_isalpha ho.p hbase hline, by
    intro en io F H σ s o Q R e hx hq
    refine ho.s.step R e hx fun d s1 v io1 F1 H1 l1 R1 r1 e1 hx1 => ?_
    obtain ⟨z, e2, e3⟩ := lft_some e1
    match d, e2 with
    | .str x, e2 =>
      cases e2
      exact ⟨⟨_, r1⟩, _, r1, rfl, trivial, hq _ _ e3 _ io1 F1 H1 l1 R1 rfl⟩⟩
end
end Z
/-! Z17: the package's own errors as values, made by position and by name -/
namespace ZX
open PySem PySem.HandSPX Builtin Builtin.ObjectAttr
section
variable {prog : Program} {w : World} {M : Model} {A : Around} {E : Value → Shared → Prop} {R : Result → Shared → Prop} {h : Heap} {g : Array GenState} {d : Drawn} {t : Nat} {os : OsState}
variable {nm q : Str} {C N : Addr} {bs bm bmB : List Value} {hdct : Bool} {sn : List Str} {sub : List Value} {ab : Bool} {col : Option Bool} {dd : Option Addr} {k0 k1 k2 k3 k5 : Option Value} {B newId initId : String} {kw : List (Str × Value)}
theorem xk_check_call {Q : Unit → Shared → Prop} (hC : h.get? C = some (excClassObj nm q C N bs bm hdct sn sub ab col dd k0 k1 k2 k3 k5 newId))
    (hq : Q () ⟨h, g, d, t, os⟩) : wpAny M A (checkBuiltinCall "type.__call__" ⟨[.ref C], kw⟩) Q E ⟨h, g, d, t, os⟩ := by
  have f3 := tc_sub
  have hT : (⟨h, g, d, t, os⟩ : Shared).TypeIs (.ref C) "type" := ⟨_, hC, rfl⟩
  simp only [checkBuiltinCall, tc_kind, tc_split]
  repeat (any_goals (first | assumption | with_reducible refine wpAny_loadPart_at hC ?_ | with_reducible refine wpAny_onRaise ?_ | with_reducible refine wpAny_map ?_ | wp_step))
theorem xk_check_new (F : ExcBaseFacts B newId initId bmB) (hT : ∀ X : String, bm.contains (.type X) = bmB.contains (.type X)) {Q : Unit → Shared → Prop}
    (hC : h.get? C = some (excClassObj nm q C N bs bm hdct sn sub ab col dd k0 k1 k2 k3 k5 newId)) (hq : Q () ⟨h, g, d, t, os⟩) : wpAny M A (checkBuiltinCall newId ⟨[.ref C], kw⟩) Q E ⟨h, g, d, t, os⟩ := by
  have hcont : (Value.ref C :: bm).contains (.type B) = true := by rw [List.contains_cons, hT, F.hasB, Bool.or_true]
  have hstar := F.noStar
  simp only [checkBuiltinCall, F.newKind, F.newSplit, F.newRow]
  repeat (first | refine wpAny_loadPart_at hC ?_ | (refine wpAny_isSubtype_exc hC ?_; rw [hcont]) | refine wpAny_staticBase_exc hC ?_ | refine wpAny_madeBy_exc hC ?_ | simp only [bne_self_eq_false, Bool.false_eq_true, if_false] | wp_step)
  exact hq
theorem xk_new (F : ExcBaseFacts B newId initId bmB) (hT : ∀ X : String, bm.contains (.type X) = bmB.contains (.type X))
    (hC : h.get? C = some (excClassObj nm q C N bs bm hdct sn sub ab col dd k0 k1 k2 k3 k5 newId))
    (hq : R (.ok (.ret (.ref (h.objs.size + 1)))) ⟨(h.push { cls := .type "tuple", data := .seq #[] }).push
      { cls := .ref C, data := .fields #[.ref h.objs.size, .none, .none, .none, .bool false, .none] }, g, d, t, os⟩) :
    codeAny (model prog w) A (.builtin newId ⟨[.ref C], kw⟩) R ⟨h, g, d, t, os⟩ := by
  have hends := F.ends
  have hcB : (Value.ref C :: bm).contains (.type B) = true := by rw [List.contains_cons, hT, F.hasB, Bool.or_true]
  have hcA : (Value.ref C :: bm).contains (.type "AttributeError") = false := by rw [List.contains_cons, hT, F.noAttr]; rfl
  have hcN : (Value.ref C :: bm).contains (.type "NameError") = false := by rw [List.contains_cons, hT, F.noName]; rfl
  refine codeAny_builtinAt F.entry ?_
  unfold Builtin.«BaseException.__new__»
  refine wpAt_bind ?_
  show wpAt _ _ _ (stack >>= _) _ _ _
  refine wpAt_bind (wpAt_stack fun p below => wpAt_of_wpAny ?_)
  wp_walk
  refine wpAt_of_wpAny ?_
  rw [F.owner]
  repeat (first | with_reducible refine wpAny_madeHere_exc F.canon hC ?_ | with_reducible refine wpAny_loadPart_at hC ?_ | (with_reducible refine wpAny_isSubtype_exc hC ?_; first | rw [hcB] | rw [hcA] | rw [hcN]) | wp_step)
  show R _ _
  rw [Heap.size_push]
  exact hq
theorem xk_type_call (F : ExcBaseFacts B newId initId bmB) (hT : ∀ X : String, bm.contains (.type X) = bmB.contains (.type X)) {fI : Addr} {Q : Fin → Shared → Prop}
    (hC : h.get? C = some (excClassObj nm q C N bs bm hdct sn sub ab col dd k0 k1 k2 k3 k5 newId))
    (hi : W.Looks (model prog w) h (typeLookup (.ref C) "__init__") (some (.ref fI))) (hb : ∀ self, W.Looks (model prog w) h (bindSpecial (.ref fI) self) (.ref fI, [self]))
    (hq : codeAny (model prog w) A (.call (.ref fI) ⟨[.ref (h.objs.size + 1)], kw⟩)
      (fun r s' => match r with | .ok (.ret v) => v = .none ∧ Q (.done (.ret (.ref (h.objs.size + 1)))) s' | .ok _ => False | .error e => E e s')
      ⟨(h.push (W.kdv_tup [])).push (excO C h.objs.size), g, d, t, os⟩) :
    wpAny (model prog w) A (Builtin.«type.__call__» ⟨[.ref C], kw⟩) Q E ⟨h, g, d, t, os⟩ := by
  repeat (first | with_reducible refine wpAny_loadPart_at hC ?_ | with_reducible refine wpAny_madeBy_exc hC ?_ | wp_step)
  refine codeAny_call_builtin_code (Code.quiet_builtin _ F.quiet) (xk_check_new F hT hC ?_)
  refine xk_new F hT hC ?_
  show wpAny _ _ _ _ _ _
  have k : ∀ b o, h.get? b = some o → ((h.push (W.kdv_tup [])).push (excO C h.objs.size)).get? b = some o := fun b o e => Heap.get?_push_of_some _ (Heap.get?_push_of_some _ e)
  have hC₁ := k _ _ hC
  have hget : ((h.push (W.kdv_tup [])).push (excO C h.objs.size)).get? (h.objs.size + 1) = some (excO C h.objs.size) := by heap_get
  have hcC : (Value.ref C :: bm).contains (.ref C) = true := by simp
  have i1 := hi.keeps k
  have b1 := (hb (.ref (h.objs.size + 1))).keeps k
  unfold isInstance
  repeat (first | with_reducible refine wpAny_loadPart_at hget ?_ | (with_reducible refine wpAny_isSubtype_exc hC₁ ?_; rw [hcC]) | wp_step)
  show wpAny _ _ (typeLookup (.ref C) _) _ _ _
  refine i1.at ?_
  refine wpAny_holding (wpAny_bind (b1.at ?_))
  refine wpAny_bind (wpAny_call (codeAny_mono hq fun r s' z => ?_))
  rcases r with e | (v | _ | _ | _) <;> first | exact z | exact z.elim | skip
  obtain ⟨rfl, z⟩ := z
  first
    | exact wpAny_pure (wpAny_pure z)
    | (wp_walk; exact z)
theorem xk_call (F : ExcBaseFacts B newId initId bmB) (hT : ∀ X : String, bm.contains (.type X) = bmB.contains (.type X)) {fI : Addr}
    (hC : h.get? C = some (excClassObj nm q C N bs bm hdct sn sub ab col dd k0 k1 k2 k3 k5 newId))
    (hi : W.Looks (model prog w) h (typeLookup (.ref C) "__init__") (some (.ref fI))) (hb : ∀ self, W.Looks (model prog w) h (bindSpecial (.ref fI) self) (.ref fI, [self]))
    (hq : codeAny (model prog w) (A.under (.builtin "type.__call__" ⟨[.ref C], kw⟩)) (.call (.ref fI) ⟨[.ref (h.objs.size + 1)], kw⟩) (W.InitBack (h.objs.size + 1) R)
      ⟨(h.push (W.kdv_tup [])).push (excO C h.objs.size), g, d, t, os⟩) :
    codeAny (model prog w) A (.call (.ref C) ⟨[], kw⟩) R ⟨h, g, d, t, os⟩ := by
  have f1 := tc_lookup
  have f2 := tc_bind (.ref C)
  have hTy : (⟨h, g, d, t, os⟩ : Shared).TypeIs (.ref C) "type" := ⟨_, hC, rfl⟩
  refine codeAny_of_tree ?_
  show wpAny _ _ (callAny (.ref C) _) _ _ _
  repeat (any_goals (first | assumption | with_reducible refine wpAny_loadPart_at hC ?_ | wp_step))
  refine ⟨rfl, ?_⟩
  refine codeAny_call_builtin_at (Code.quiet_builtin _ (by decide +kernel)) entry_typeCall (xk_check_call hC (xk_type_call F hT hC hi hb ?_))
  refine codeAny_mono hq fun r s' z => ?_
  rcases r with e | (v | _ | _ | _) <;> exact z
end
end ZX
namespace Z
open PySem PySem.Spec PyProof.Rows L2
open Classical
section
variable {P : Program} {w : World} {A : Around} {R : Result → Shared → Prop} {s : Shared} {K : PySem.W.Frag} {mg : Str → Option Value} {base : Heap} {c : EC} {C : Addr}
theorem xc_madeK (T : XcK P K c C) (M : L2.Mod K mg base) {v : Value} (kb : ∀ b o, base.get? b = some o → s.heap.get? b = some o) (hroom : A.depth + 1 < recursionLimit)
    (hq : ∀ h' tk e d, XMade s.heap h' e C d v → R (.ok (.ret (.ref e))) { s with heap := h', toks := tk }) :
    codeAny (model P w) A (.call (.ref C) ⟨[], [(("value" : Str), v)]⟩) R s := by
  obtain ⟨nm, q, N, bs, bm, sn, sub, ab, col, dd, k0, k1, k2, k3, k5, hC, hbm⟩ := T.o.cls
  have hfn := T.fn
  obtain ⟨fI, _, _, _, _, _, _, _, _, _, _, _, _, _, _, _, _, _, _, _, _, _, _, _, _, _, _, _, _, _, _, _, _, _, hi, ht, _⟩ := hfn
  have X : K.In s.heap := M.kin.keeps kb
  obtain ⟨hp, g, dr, tk, os⟩ := s
  have k : ∀ b o, hp.get? b = some o → ((hp.push (PySem.W.kdv_tup [])).push (PySem.HandSPX.excO C hp.objs.size)).get? b = some o := fun b o e => Heap.get?_push_of_some _ (Heap.get?_push_of_some _ e)
  have hget : ((hp.push (PySem.W.kdv_tup [])).push (PySem.HandSPX.excO C hp.objs.size)).get? (hp.objs.size + 1) = some (PySem.HandSPX.excO C hp.objs.size) := by heap_get
  have hnx : base.get? (hp.objs.size + 1) = none := by
    cases e : base.get? (hp.objs.size + 1) with
    | none => rfl
    | some o =>
      have z : hp.get? (hp.objs.size + 1) = some o := kb _ _ e
      exact absurd (Nat.lt_of_succ_lt (Heap.lt_size z)) (Nat.lt_irrefl _)
  refine ZX.xk_call F.excBase_ValueError (fun Y => PySem.HandSPX.refsVE_contains Y bm hbm) (X _ _ hC) (PySem.W.looks_findIn X hi) (fun self => PySem.W.bind_fn X self ht) ?_
  refine xc_init (s := ⟨(hp.push (PySem.W.kdv_tup [])).push (PySem.HandSPX.excO C hp.objs.size), g, dr, tk, os⟩) T M hi (.inr rfl) (fun b o e => k b o (kb b o e)) hget hnx hroom fun h' tk' dx t1 E => ?_
  have old : ∀ b o, hp.get? b = some o → h'.get? b = some o := fun b o e => E.keep b o (Nat.ne_of_lt (Nat.lt_succ_of_lt (Heap.lt_size e))) (k b o e)
  have z : hp.objs.size + 1 + 1 ≤ dx := by
    have dn := E.dbig
    first
      | (simpa only [Heap.size_push] using dn)
      | exact dn
  exact ⟨rfl, hq h' tk' (hp.objs.size + 1) dx ⟨old, Nat.le_succ _, ⟨_, _, E.obj, rfl, rfl, rfl, rfl⟩, Nat.le_trans (Nat.le_trans (Nat.le_succ _) (Nat.le_succ _)) z, E.dne, E.ns⟩⟩
end
section
variable {X : Cx} {W : WX} {pos : Pos} {K : PySem.W.Frag} {mg : Str → Option Value} {a b e : Expr} {es : List Expr} {kws : List Keyword} {ta tb te : TE} {ma mb me : M D} {tl tk : TA} {ml mk : M (List D)}
/-- X(e), X(value = e): the error as a value -/
def tMkE (C : Addr) (ta : TA) : TE := fun σ H Q => ta σ H fun vs H1 => ∃ v, vs = [v] ∧ ∀ d e, H1 d = none → H1 e = none → d ≠ e → Q (.ref e) (upd (upd H1 d (.xd [(("value" : Str), v)])) e (xco C d e))
theorem mk_end {pins : List (Addr × Obj)} {σ : L2.St} {H : Hp} {s1 : Shared} {C : Addr} {v : V} {v' : Value} {Q : VK} {h' : Heap} {tk' : Nat} {e d : Addr} (I1 : L2.Inv X pins σ H s1) (rv : RelV v v') (M : XMade s1.heap h' e C d v')
    (q1 : ∀ d e, H d = none → H e = none → d ≠ e → Q (.ref e) (upd (upd H d (.xd [(("value" : Str), v)])) e (xco C d e))) : EP X pins σ Q (.ref e) { s1 with heap := h', toks := tk' } := by
  obtain ⟨hp, g, dr, tk, os⟩ := s1
  obtain ⟨oe, fv, hoe, hc, hd, hdat, h1⟩ := M.obj
  have hns := M.ns
  obtain ⟨G', g1, g2⟩ := restrict h' fun b => decide (b ≠ e)
  have gk : ∀ b, b ≠ e → G'.get? b = h'.get? b := fun b hb => g1 b (decide_eq_true hb)
  have ge : G'.get? e = none := g2 e (by simp)
  have old : ∀ b o, hp.get? b = some o → G'.get? b = some o := fun b o q => (gk b (Nat.ne_of_lt (Nat.lt_of_lt_of_le (Heap.lt_size q) M.new))).trans (M.keep b o q)
  have ob : ObjOk X.prog X.w (upd H d (.xd [(("value" : Str), v)])) G' d (.xd [(("value" : Str), v)]) :=
    ⟨_, hns.at (fun o q => (gk d M.dne).trans q), fun f => relO_val rv f⟩
  have J : L2.Inv X pins σ (upd H d (.xd [(("value" : Str), v)])) ⟨G', g, dr, tk', os⟩ := I1.laid (t' := tk') old M.dbig ob
  have nd : H d = none := I1.hok.fresh M.dbig
  have ne : H e = none := I1.hok.fresh M.new
  have J2 := J.laidN (a := e) (o := xco C d e) (h' := h') (t' := tk') (fun b o q => by
    by_cases hb : b = e
    · rw [hb, ge] at q
      cases q
    · exact (gk b hb).symm.trans q) ge (by rw [upd_ne (Ne.symm M.dne)]; exact ne) (xco_ok hoe ⟨hc, hd⟩ ⟨_, hdat⟩)
  exact ⟨.ref e, _, J2, rfl, q1 d e nd ne M.dne⟩
theorem pe_xc {c : EC} {C : Addr} {x : Str} {p : Pos} {k : Nat} (T : XcK X.prog X.K c C) (hr : RoomG k X.A) (hk : 1 ≤ k) (hM : X.mg x = some (.ref C)) (ha : PA X [a] tl) (hg : Gl X x := by rfl) (hdb : (x == ("__debug__" : Str)) = false := by decide)
    (he : starEach (a :: []) X.env = (false, eval a X.env) :: starEach [] X.env := by rfl) (hpl : (backTo pos (starEach [] X.env)).any (·.1) = false := by rfl) :
    PE X (.Call (.Name x p) [a] [] pos) (tMkE C tl) := by
  refine ⟨fun pins s σ H Q I h => ?_⟩
  refine wpAny_Call_Name_kw (ld_glob I hg hM ?_ hdb)
  refine PySem.W.callWith_K (h₀ := X.base) I.ok.mod.kin T.o.kC (thn (ha.run pos pins s σ H _ I h) fun us s1 hh => ?_) he hpl
  obtain ⟨vs, H1, I1, r1, v, ev, q1⟩ := hh
  subst ev
  refine ⟨I1.kIn, ?_⟩
  cases r1 with
  | cons rv rn =>
    rename_i v' us'
    cases rn
    show wpAny _ _ (call (.ref C) [v']) _ _ _
    exact wpAny_call (xc_made T I1.ok.mod I1.bk (by have := hr.r.dp; omega) fun h' tk' e d M => mk_end I1 rv M q1)
theorem pe_xcK {c : EC} {C : Addr} {x : Str} {p : Pos} {k : Nat} (T : XcK X.prog X.K c C) (hr : RoomG k X.A) (hk : 1 ≤ k) (hM : X.mg x = some (.ref C)) (ha : PK X kws tl) (hg : Gl X x := by rfl) (hdb : (x == ("__debug__" : Str)) = false := by decide)
    (hall : (backToKw pos (keywordEach kws X.env)).all (·.1.isSome) = true := by rfl) (hks : (backToKw pos (keywordEach kws X.env)).filterMap (·.1) = [("value" : Str)] := by rfl)
    (hpl : ((backTo pos (starEach [] X.env)).any (·.1) || (backToKw pos (keywordEach kws X.env)).any (·.1.isNone)) = false := by rfl) :
    PE X (.Call (.Name x p) [] kws pos) (tMkE C tl) := by
  refine ⟨fun pins s σ H Q I h => ?_⟩
  refine wpAny_Call_Name_kw (ld_glob I hg hM ?_ hdb)
  refine PySem.W.callWith_KW0 (h₀ := X.base) I.ok.mod.kin T.o.kC hall (thn (ha.run pos pins s σ H _ I h) fun us s1 hh => ?_) hpl
  obtain ⟨vs, H1, I1, r1, v, ev, q1⟩ := hh
  subst ev
  refine ⟨I1.kIn, ?_⟩
  rw [hks]
  cases r1 with
  | cons rv rn =>
    rename_i v' us'
    cases rn
    show wpAny _ _ (call (.ref C) [] [(("value" : Str), v')]) _ _ _
    exact wpAny_call (xc_madeK T I1.ok.mod I1.bk (by have := hr.r.dp; omega) fun h' tk' e d M => mk_end I1 rv M q1)
def mMkE (c : EC) (ml : M (List D)) : M D := bnd ml fun l => match l with
  | [d] => ret (.exc c d)
  | _ => fun _ => none
theorem sem_mkE {c : EC} {C : Addr} (hn : PySem.W.nsIn K mainGlobals c.nm = some (some (.ref C))) (ha : SemA K mg W tl ml) : SemE K mg W (tMkE C tl) (mMkE c ml) := by
  intro en io F H σ s o Q R e hx hq
  refine ha.step R e hx fun l s1 v io1 F1 H1 l1 R1 r1 e1 hx1 => ?_
  match l, e1 with
  | [d], e1 =>
    cases e1
    obtain ⟨y, rfl, r⟩ := reps1 r1
    refine ⟨y, rfl, fun dd e hdd hee hde => ?_⟩
    obtain ⟨R2, l2⟩ := R1.new hdd (.xd [(("value" : Str), y)])
    obtain ⟨R3, l3⟩ := R2.new (p := e) (by rw [upd_ne (Ne.symm hde)]; exact hee) (xco C dd e)
    refine hq _ _ rfl _ io1 _ _ ((l1.trans l2).trans l3) R3 ⟨e, C, dd, y, rfl, hn, upd_same, ?_, rep_le (l2.trans l3) _ _ r⟩
    rw [upd_ne hde, upd_same]
theorem de_xc {c : EC} {C : Addr} {x : Str} {p : Pos} {k : Nat} (T : XcK X.prog X.K c C) (hr : RoomG k X.A) (hk : 1 ≤ k) (hM : X.mg x = some (.ref C)) (ha : DA X W [a] tl ml) (hg : Gl X x := by rfl) (hdb : (x == ("__debug__" : Str)) = false := by decide)
    (he : starEach (a :: []) X.env = (false, eval a X.env) :: starEach [] X.env := by rfl) (hpl : (backTo pos (starEach [] X.env)).any (·.1) = false := by rfl) :
    DE X W (.Call (.Name x p) [a] [] pos) (tMkE C tl) (mMkE c ml) := ⟨pe_xc T hr hk hM ha.p hg hdb he hpl, sem_mkE T.nC ha.s⟩
theorem de_xcK {c : EC} {C : Addr} {x : Str} {p : Pos} {k : Nat} (T : XcK X.prog X.K c C) (hr : RoomG k X.A) (hk : 1 ≤ k) (hM : X.mg x = some (.ref C)) (ha : DK X W kws tl ml) (hg : Gl X x := by rfl) (hdb : (x == ("__debug__" : Str)) = false := by decide)
    (hall : (backToKw pos (keywordEach kws X.env)).all (·.1.isSome) = true := by rfl) (hks : (backToKw pos (keywordEach kws X.env)).filterMap (·.1) = [("value" : Str)] := by rfl)
    (hpl : ((backTo pos (starEach [] X.env)).any (·.1) || (backToKw pos (keywordEach kws X.env)).any (·.1.isNone)) = false := by rfl) :
    DE X W (.Call (.Name x p) [] kws pos) (tMkE C tl) (mMkE c ml) := ⟨pe_xcK T hr hk hM ha.p hg hdb hall hks hpl, sem_mkE T.nC ha.s⟩
end
end Z
/-! Z18: generators: for in a generator's body -/
namespace ZG
open PySem PySem.Spec PyProof.Rows GenW L2
section
variable {prog : Program} {w : World} {A : Around} {R : GenEnd} {Y : Protocol} {n : Nat} {s₀ s : Shared} {c : Code} {fs : List Frame} {env : Env} {K : Flow → Sem PySem.Fin} {J : Value → Sem PySem.Fin} {gd : Bool → Bool} {lv : List Value → List Value} {tg iter : Expr} {it : Value} {body : List Stmt} {pos : Pos}
theorem seg_For (hs : ∀ x, foldedSetIterable iter env x = pure x)
    (h : wpAny (model prog w) (A.over c fs) (eval iter env) (fun x s1 => wpAny (model prog w) (A.over c fs) (pyIter x) (fun it s2 => ∀ p, Seg (model prog w) A R Y n s₀ (.forLoop tg it body [] env) ((model prog w).den (.forLoop tg it body [] env))
      (.ret (fun r => ((match r with | .ok f => (.pure f : Sem Flow) | .error e => .raise e).onRaise (cameBack env)).wrap K J gd lv) none (gd false) (lv []) c p [] :: fs) s2) (fun x s' => Seg (model prog w) A R Y n s₀ c (J x) fs s') s1) (fun x s' => Seg (model prog w) A R Y n s₀ c (J x) fs s') s) :
    Seg (model prog w) A R Y n s₀ c ((exec (.For tg iter body [] pos) env).wrap K J gd lv) fs s := by
  rw [exec_For]
  refine seg_bind_wrap (wpAny_standAt ?_)
  refine seg_bind_wrap (wpAny_mono h (fun x s1 h1 => ?_) fun _ _ z => z)
  refine seg_bind_wrap (wpAny_of_eq (hs x) ?_)
  refine seg_bind_wrap (wpAny_standAt ?_)
  refine seg_bind_wrap (wpAny_holding (wpAny_mono h1 (fun it s2 h2 => ?_) fun _ _ z => z))
  exact seg_call h2
/-- what an error leaves of a loop's code -/
abbrev loopX (env : Env) : Value → Sem PySem.Fin := fun e => (do noteFrame e env; theTreesLotGoes e : Sem Unit).wrap (fun _ => .raise e) .raise id id
theorem seg_forLoop
    (h : wpAny (model prog w) (A.over (.forLoop tg it body [] env) fs) (pyNext it) (fun r s1 => match r with
      | none => Seg (model prog w) A R Y n s₀ (.block [] env) ((model prog w).den (.block [] env)) fs s1
      | some v => wpAny (model prog w) (A.over (.forLoop tg it body [] env) fs) (letOwnedTupleGo tg it v) (fun _ s2 => wpAny (model prog w) (A.over (.forLoop tg it body [] env) fs) (assign tg env v) (fun _ s3 =>
          Seg (model prog w) A R Y n s₀ (.forLoop tg it body [] env) ((execs body env).wrap (fun f => match f with
            | .next | .cont => .pure (.again (.forLoop tg it body [] env))
            | .brk => .pure (.done .next)
            | .ret v => .pure (.done (.ret v))) (loopX env) id id) fs s3)
          (fun x s' => Seg (model prog w) A R Y n s₀ (.forLoop tg it body [] env) (loopX env x) fs s') s2) (fun x s' => Seg (model prog w) A R Y n s₀ (.forLoop tg it body [] env) (loopX env x) fs s') s1)
      (fun x s' => Seg (model prog w) A R Y n s₀ (.forLoop tg it body [] env) (loopX env x) fs s') s) :
    Seg (model prog w) A R Y n s₀ (.forLoop tg it body [] env) ((model prog w).den (.forLoop tg it body [] env)) fs s := by
  show Seg _ A R Y n s₀ _ ((forTurn tg it body [] env).onRaise (fun x => do noteFrame x env; theTreesLotGoes x)) fs s
  have eJ : (fun e => (do noteFrame e env; theTreesLotGoes e : Sem Unit).bind fun _ => (.raise e : Sem PySem.Fin)) = loopX env := by
    funext e
    exact Sem.bind_eq_wrap _ _
  rw [Sem.onRaise_eq_wrap, eJ]
  unfold forTurn
  refine seg_bind_wrap (wpAny_standAt ?_)
  refine seg_bind_wrap (wpAny_onRaise (wpAny_mono h (fun r s1 h1 => ?_) fun x s' hx => wpAny_standAt hx))
  cases r with
  | none =>
    show Seg _ A R Y n s₀ _ (.pure (.again (.block [] env))) fs s1
    exact seg_again rfl h1
  | some v =>
    refine seg_bind_wrap (wpAny_mono h1 (fun _ s2 h2 => ?_) fun _ _ z => z)
    refine seg_bind_wrap (wpAny_mono h2 (fun _ s3 h3 => ?_) fun _ _ z => z)
    rw [Sem.bind_eq_wrap', Sem.wrap_wrap]
    rw [Sem.wrap_congr (execs body env) _ _ (K' := fun f => match f with
            | .next | .cont => .pure (.again (.forLoop tg it body [] env))
            | .brk => .pure (.done .next)
            | .ret v => .pure (.done (.ret v))) (H := fun e => Sem.wrap Sem.pure (loopX env) id id (Sem.raise e)) (H' := loopX env) (fun f => by cases f <;> rfl) (fun e => rfl)]
    exact h3
end
section
variable {X : Cx} {tg iter : Expr} {body : List Stmt} {wi : TI} {g : TG} {tb : TGn} {pos : Pos}
def tGFor (wi : TI) (g : TG) (tb : TGn) : TGn := fun D ys σ H => wi σ H fun J H1 => ∃ W : Nat → Nat → List V → L2.St → Hp → Prop, (∃ m, W 0 m ys σ H1) ∧ ∀ i m ys σ H, W i m ys σ H →
  (J.stop i H ∧ D.nx ys σ H) ∨ (J.go i H ∧ ∃ N : List V → L2.St → Hp → Prop, (∀ ys' σ' H', N ys' σ' H' → ∃ m', m' < m ∧ W (i + 1) m' ys' σ' H') ∧ ∀ x H', J.yld i H x H' → g x σ H' fun σ2 H2 => tb { D with nx := N, ct := N, bk := D.nx } ys σ2 H2)
theorem gs_for (hp : PassesOwn (model X.prog X.w) X.A X.env X.xe) (hc : X.calm = true) (hi : PI X tg iter wi) (hg : PG X tg g) (hb : GSs X body tb)
    (hs : ∀ x, foldedSetIterable iter X.env x = pure x := by intro _; rfl) : GS X (.For tg iter body [] pos) (tGFor wi g tb) := by
  refine ⟨fun A S ip R n ys s₀ c fs K J gd lv s σ H D g0 hn k hI ht => ?_⟩
  obtain ⟨acc, cc, r, I⟩ := hI
  refine seg_For hs ?_
  rw [g0.over]
  refine wpAny_mono (hi.run _ s σ H _ I ht) (fun v s1 h1 => wpAny_mono h1 (fun itv s2 h2 => ?_) fun x s' hx => k.exc n s₀ x s' hx) fun x s' hx => k.exc n s₀ x s' hx
  obtain ⟨it, fp, tn, Jt, H2, e, I2, T, st2, f2, W, ⟨m0, w0⟩, turn⟩ := h2
  subst e
  intro p
  have gl := fun (kk : Result → Sem PySem.Fin) => gc_loop (k := kk) (c' := .forLoop tg (.ref it) body [] X.env) (l := lv []) (kp := []) (p := p) g0 rfl rfl
  have stat : ∀ {H' : Hp} {acc' : Array Value} {cc' : Nat}, (∀ b ∈ fp, H' b = none) → ∀ b ∈ fp, FpOk X ((S, lstObj acc' cc') :: ip) H' b := fun {H' acc' cc'} hn b hb => by
    obtain ⟨f0, f1, f3, f4, f5, f6⟩ := f2 b hb
    refine ⟨hn b hb, f1, f3, f4, f5, fun q hq => ?_⟩
    rcases List.mem_append.mp hq with hq | hq
    · exact f6 q (List.mem_append_left _ hq)
    · rcases List.mem_cons.mp hq with hq | hq
      · rw [hq]
        exact f6 (S, lstObj acc cc) (List.mem_append_right _ List.mem_cons_self)
      · exact f6 q (List.mem_append_right _ (List.mem_cons_of_mem _ hq))
  have sfp : ∀ b ∈ fp, b ≠ S := fun b hb z => (f2 b hb).2.2.2.2.2 (S, lstObj acc cc) (List.mem_append_right _ List.mem_cons_self) z.symm
  have loop : ∀ (m i n : Nat) (ys : List V) (s₀ s : Shared) (σ : L2.St) (H : Hp), n + ys.length = sizeLine → W i m ys σ H → GI X S ip ys σ H s → tn i s.heap → (∀ b ∈ fp, H b = none) →
      Seg (model X.prog X.w) A R (GY X S) n s₀ (.forLoop tg (.ref it) body [] X.env) ((model X.prog X.w).den (.forLoop tg (.ref it) body [] X.env))
        (.ret (fun r => ((match r with | .ok f => (.pure f : Sem Flow) | .error e => .raise e).onRaise (cameBack X.env)).wrap K J gd lv) none (gd false) (lv []) c p [] :: fs) s := by
    intro m
    induction m using Nat.strongRecOn with
    | ind m ih =>
      intro i n ys s₀ s σ H hn w hI st fr
      have ee : ∀ (n : Nat) (s₀ : Shared) (x : Value) (s' : Shared), X.xe x s' → Seg (model X.prog X.w) A R (GY X S) n s₀ (.forLoop tg (.ref it) body [] X.env) (loopX X.env x)
          (.ret (fun r => ((match r with | .ok f => (.pure f : Sem Flow) | .error e => .raise e).onRaise (cameBack X.env)).wrap K J gd lv) none (gd false) (lv []) c p [] :: fs) s' := fun n s₀ x s' hx => by
        refine seg_wrap ?_
        rw [(gl _).over]
        refine wpAny_bind (wpAny_mono (hp x s' hx) (fun _ s'' hcb => wpAny_theTreesLotGoes ?_) fun y s'' hcb => ?_)
        · exact seg_leaf (.error x) (seg_cameBack g0 k hcb)
        · exact seg_leaf (.error y) (seg_cameBack g0 k hcb)
      refine seg_forLoop ?_
      rw [(gl _).over]
      obtain ⟨acc', cc', r', I'⟩ := hI
      rcases turn i m ys σ H w with ⟨stop, qn⟩ | ⟨go, N, hN, step⟩
      · refine wpAny_mono (T.done X rfl rfl rfl hc i _ s σ H X.xe I' (stat fr) st stop) (fun q s4 hq => ?_) fun x s' hx => ee n s₀ x s' hx
        obtain ⟨hr, I4⟩ := hq
        subst hr
        exact seg_leaf (.ok .next) (k.ok n ys s₀ s4 .next hn ⟨σ, H, ⟨acc', cc', r', I4⟩, qn⟩)
      · refine wpAny_mono (T.item X rfl rfl rfl hc i _ s σ H X.xe I' (stat fr) st go) (fun q s4 hq => ?_) fun x s' hx => ee n s₀ x s' hx
        obtain ⟨u, hr, h4⟩ := hq
        subst hr
        refine wpAny_mono h4 (fun _ s5 h5 => ?_) fun x s' hx => ee n s₀ x s' hx
        obtain ⟨x, H5, I5, r5, y5, st5, fr5⟩ := h5
        have I5' := I5.pinned (stat fr5) (T.obj _ _ st5)
        refine wpAny_mono (hg.run _ s5 σ H5 x u _ I5' r5 (step x H5 y5)) (fun _ s6 h6 => ?_) fun x s' hx => ee n s₀ x s' hx
        obtain ⟨σ6, H6, I6, q6⟩ := h6
        have g5 : ∀ (kk : Result → Sem PySem.Fin), GC X S (ip ++ pinsAt fp s5.heap) A (.forLoop tg (.ref it) body [] X.env) (.ret kk none (gd false) (lv []) c p [] :: fs) id := fun kk =>
          ⟨(gl kk).pn, fun q hq => (List.mem_append.mp hq).elim (fun z => (gl kk).ip q z) fun z => sfp _ (of_pinsAt z).1, (gl kk).apart, (gl kk).over, (gl kk).split, (gl kk).guard, (gl kk).gd⟩
        have out : ∀ {ys' : List V} {σ3 : L2.St} {H3 : Hp} {s3 : Shared}, GI X S (ip ++ pinsAt fp s5.heap) ys' σ3 H3 s3 → GI X S ip ys' σ3 H3 s3 := fun {ys' σ3 H3 s3} ⟨a, c3, rr, I3⟩ =>
          ⟨a, c3, rr, Inv.unpinned (pins := (S, lstObj a c3) :: ip) (pl := pinsAt fp s5.heap) I3⟩
        refine hb.run A S (ip ++ pinsAt fp s5.heap) R n ys s₀ _ _ _ _ id id s6 σ6 H6 { D with nx := N, ct := N, bk := D.nx } (g5 _) hn ⟨fun n' ys' s₀' s3 f hn' hs => ?_, fun n' s₀' x s3 hx => ee n' s₀' x s3 hx⟩ ⟨acc', cc', r', I6⟩ q6
        have again : ∀ {σ3 : L2.St} {H3 : Hp}, GI X S (ip ++ pinsAt fp s5.heap) ys' σ3 H3 s3 → N ys' σ3 H3 → Seg (model X.prog X.w) A R (GY X S) n' s₀' (.forLoop tg (.ref it) body [] X.env) (.pure (.again (.forLoop tg (.ref it) body [] X.env)))
            (.ret (fun r => ((match r with | .ok f => (.pure f : Sem Flow) | .error e => .raise e).onRaise (cameBack X.env)).wrap K J gd lv) none (gd false) (lv []) c p [] :: fs) s3 := fun {σ3 H3} I3 n3 => by
          obtain ⟨m', hm, w3⟩ := hN ys' σ3 H3 n3
          have I3' := I3
          obtain ⟨a3, c3, rr3, J3⟩ := I3
          have pinned : ∀ b ∈ fp, ∀ o, s5.heap.get? b = some o → s3.heap.get? b = some o ∧ H3 b = none := fun b hb o e => by
            have z := J3.pin (b, o) (List.mem_append_right _ (List.mem_cons_of_mem _ (List.mem_append_right _ (mem_pinsAt hb e))))
            exact ⟨z.1, z.2.1⟩
          refine seg_again rfl (ih m' hm (i + 1) n' ys' s₀' s3 σ3 H3 hn' w3 (out I3') (T.keep _ _ _ st5 fun b hb o e => (pinned b hb o e).1) fun b hb => ?_)
          obtain ⟨o, e, d⟩ := T.obj _ _ st5 b hb
          exact (pinned b hb o e).2
        cases f with
        | next =>
          obtain ⟨σ3, H3, I3, n3⟩ := hs
          exact again I3 n3
        | cont =>
          obtain ⟨σ3, H3, I3, n3⟩ := hs
          exact again I3 n3
        | brk =>
          obtain ⟨σ3, H3, I3, q3⟩ := hs
          exact seg_leaf (.ok .next) (k.ok n' ys' s₀' s3 .next hn' ⟨σ3, H3, out I3, q3⟩)
        | ret v =>
          obtain ⟨x3, σ3, H3, I3, r3, q3⟩ := hs
          exact seg_leaf (.ok (.ret v)) (k.ok n' ys' s₀' s3 (.ret v) hn' ⟨x3, σ3, H3, out I3, r3, q3⟩)
  exact loop m0 0 n ys s₀ s2 σ H2 hn w0 ⟨acc, cc, r, I2⟩ st2 fun b hb => (f2 b hb).1
end
end ZG
/-! Z19: generator defs as data: what is handed out is a list that grows -/
namespace Z
open PySem PySem.Spec PyProof.Rows L2 ZG
open Classical
/-- a generator's statement: what is out so far, and then -/
abbrev GM := List D → M (Fl × List D)
def SemGS (K : PySem.W.Frag) (mg : Str → Option Value) (W : WX) (t : TGn) (m : GM) : Prop := ∀ (en : Ent) (io : List Addr) (F H : Hp) (σ : L2.St) (s : A) (o : O (Fl × List D)) (E : GEnds) (ys : List D) (vs : List V), Rel K en io F H σ s → reps K io F ys vs → m ys s = some o → PostX K mg W en io F o →
  (∀ f zs s2, o = .ok (f, zs) s2 → ∀ io' F' H' σ' ws, Le io F io' F' → Rel K en io' F' H' σ' s2 → reps K io' F' zs ws → EndP K io' F' H' σ' (E.at ws) f) → t E vs σ H
structure DGS (X : Cx) (W : WX) (st : Stmt) (t : TGn) (m : GM) : Prop where
  p : GS X st t
  s : SemGS X.K X.mg W t m
structure DGSs (X : Cx) (W : WX) (sts : List Stmt) (t : TGn) (m : GM) : Prop where
  p : GSs X sts t
  s : SemGS X.K X.mg W t m
section
variable {X : Cx} {W : WX} {K : PySem.W.Frag} {mg : Str → Option Value}
theorem SemGS.step {β : Type} {en : Ent} {io : List Addr} {F H : Hp} {σ : L2.St} {s : A} {t : TGn} {m : GM} {k : Fl × List D → M β} {o : O β} {E : GEnds} {ys : List D} {vs : List V} (h : SemGS K mg W t m) (R : Rel K en io F H σ s) (r : reps K io F ys vs) (e : bnd (m ys) k s = some o) (hx : PostX K mg W en io F o)
    (hk : ∀ f zs s1 io' F' H' σ' ws, Le io F io' F' → Rel K en io' F' H' σ' s1 → reps K io' F' zs ws → k (f, zs) s1 = some o → PostX K mg W en io' F' o → EndP K io' F' H' σ' (E.at ws) f) : t E vs σ H := by
  rcases bnd_some e with ⟨⟨f, zs⟩, s', e1, e2⟩ | ⟨x, s', e1, e2⟩
  · exact h en io F H σ s _ E ys vs R r e1 trivial fun f2 zs2 s2 e3 io' F' H' σ' ws l R' r' => by
      cases e3
      exact hk f zs s' io' F' H' σ' ws l R' r' e2 (hx.le _ _ _ l)
  · subst e2
    exact h en io F H σ s _ E ys vs R r e1 hx fun f zs s2 e3 => by cases e3
/-- a statement that hands out nothing -/
def gPl (m : M Fl) : GM := fun ys => bnd m fun f => ret (f, ys)
theorem dg_ps {st : Stmt} {t : TS} {m : M Fl} (h : DS X W st t m) : DGS X W st (tPlain t) (gPl m) := ⟨gs_ps h.p, by
  intro en io F H σ s o E ys vs R r e hx hq
  refine h.s.step (E := E.at vs) R e hx fun f s1 io1 F1 H1 σ1 l1 R1 e1 hx1 => ?_
  cases e1
  exact hq f ys s1 rfl io1 F1 H1 σ1 vs l1 R1 (reps_le l1 _ _ r)⟩
/-- yield -/
def gYield (me : M D) : GM := fun ys s => if ys.length < sizeLine then bnd me (fun d => ret (.nx, ys ++ [d])) s else none
theorem dg_yield {e : Expr} {yp pos : Pos} {te : TE} {me : M D} (he : DE X W e te me) (hco : X.env.scope.isCoroutine = false := by rfl) (hi : interactive X.env = false := by rfl) : DGS X W (.Expr (.Yield (some e) yp) pos) (tGYield te) (gYield me) := ⟨gs_yield he.p hco hi, by
  intro en io F H σ s o E ys vs R r e hx hq
  have e' : (if ys.length < sizeLine then bnd me (fun d => ret (Fl.nx, ys ++ [d])) s else none) = some o := e
  by_cases hl : ys.length < sizeLine
  · rw [if_pos hl] at e'
    refine ⟨by rw [reps_len r]; exact hl, he.s.step R e' hx fun d s1 v io1 F1 H1 l1 R1 r1 e1 hx1 => ?_⟩
    cases e1
    exact hq .nx _ s1 rfl io1 F1 H1 σ _ l1 R1 (reps_app (reps_le l1 _ _ r) (reps_one r1))
  · rw [if_neg hl] at e'
    cases e'⟩
def gNx : GM := fun ys => ret (.nx, ys)
def gSeq (m n : GM) : GM := fun ys => bnd (m ys) fun p => match p.1 with
  | .nx => n p.2
  | f => ret (f, p.2)
theorem dgy_nil : DGSs X W [] tG0 gNx := ⟨gss_nil, by
  intro en io F H σ s o E ys vs R r e hx hq
  cases e
  exact hq _ _ _ rfl io F H σ vs (Le.refl _ _) R r⟩
theorem dgy_cons {st : Stmt} {sts : List Stmt} {t u : TGn} {m n : GM} (h1 : DGS X W st t m) (h2 : DGSs X W sts u n) : DGSs X W (st :: sts) (tGThen t u) (gSeq m n) := ⟨gss_cons h1.p h2.p, by
  intro en io F H σ s o E ys vs R r e hx hq
  refine h1.s.step (E := { E with nx := fun ys' σ' H' => u E ys' σ' H' }) R r e hx fun f zs s1 io1 F1 H1 σ1 ws l1 R1 r1 e1 hx1 => ?_
  cases f with
  | nx => exact h2.s en io1 F1 H1 σ1 s1 o E zs ws R1 r1 e1 hx1 fun f zs2 s2 e2 io2 F2 H2 σ2 ws2 l2 R2 r2 => hq f zs2 s2 e2 io2 F2 H2 σ2 ws2 (l1.trans l2) R2 r2
  | rt d => cases e1; exact hq _ _ _ rfl io1 F1 H1 σ1 ws l1 R1 r1
  | bk => cases e1; exact hq _ _ _ rfl io1 F1 H1 σ1 ws l1 R1 r1
  | ct => cases e1; exact hq _ _ _ rfl io1 F1 H1 σ1 ws l1 R1 r1⟩
theorem dgy_one {st : Stmt} {t : TGn} {m : GM} (h1 : DGS X W st t m) : DGSs X W [st] (tGThen t tG0) (gSeq m gNx) := dgy_cons h1 dgy_nil
/-- for -/
def mGForL (g : D → M Unit) (b : GM) : List D → GM
  | [] => fun ys => ret (.nx, ys)
  | d :: l => fun ys => bnd (g d) fun _ => bnd (b ys) fun p => match p.1 with
    | .nx => mGForL g b l p.2
    | .ct => mGForL g b l p.2
    | .bk => ret (.nx, p.2)
    | .rt d => ret (.rt d, p.2)
def mGFor (mi : M (List D)) (g : D → M Unit) (b : GM) : GM := fun ys => bnd mi fun l => mGForL g b l ys
theorem sem_gfor {w : TI} {g : TG} {gm : D → M Unit} {t : TGn} {m : GM} {mi : M (List D)} (hi : SemI K mg W w mi) (hg : SemG K mg W g gm) (hb : SemGS K mg W t m) : SemGS K mg W (tGFor w g t) (mGFor mi gm m) := by
  intro en io F H σ s o E ys vs R r e hx hq
  refine hi.step R e hx fun ds s1 J io1 F1 H1 l1 R1 wk e1 hx1 => ?_
  refine ⟨fun i k vs σ H => k = ds.length - i ∧ i ≤ ds.length ∧ ∃ io' F' s' ys', Le io1 F1 io' F' ∧ Rel K en io' F' H σ s' ∧ reps K io' F' ys' vs ∧ mGForL gm m (ds.drop i) ys' s' = some o, ⟨_, rfl, Nat.zero_le _, io1, F1, s1, ys, Le.refl _ _, R1, reps_le l1 _ _ r, e1⟩, ?_⟩
  rintro i k vs2 σ2 H2 ⟨rfl, hil, io2, F2, s2, ys2, l2, R2, r2, e2⟩
  have hw := wk i en io2 F2 H2 σ2 s2 l2 R2
  by_cases hlt : i < ds.length
  · obtain ⟨go, yl⟩ := hw.1 ds[i] (List.getElem?_eq_getElem hlt)
    refine .inr ⟨go, fun vs' σ' H' => ∃ io' F' s' ys', Le io1 F1 io' F' ∧ Rel K en io' F' H' σ' s' ∧ reps K io' F' ys' vs' ∧ mGForL gm m (ds.drop (i + 1)) ys' s' = some o, fun vs' σ' H' ⟨a, b, c, y, d⟩ => ⟨ds.length - (i + 1), by omega, rfl, hlt, a, b, c, y, d⟩, fun x H3 hy => ?_⟩
    obtain ⟨F3, l3, R3, r3⟩ := yl x H3 hy
    rw [List.drop_eq_getElem_cons hlt] at e2
    have hx3 := hx1.le _ _ _ (l2.trans l3)
    refine hg.step R3 r3 e2 hx3 fun s4 io4 F4 H4 σ4 l4 R4 e4 hx4 => ?_
    refine hb.step (E := { E with nx := _, ct := _, bk := E.nx }) R4 (reps_le (l3.trans l4) _ _ r2) e4 hx4 fun f zs s5 io5 F5 H5 σ5 ws5 l5 R5 r5 e5 hx5 => ?_
    have lt := ((l2.trans l3).trans l4).trans l5
    cases f with
    | nx => exact ⟨io5, F5, s5, zs, lt, R5, r5, e5⟩
    | ct => exact ⟨io5, F5, s5, zs, lt, R5, r5, e5⟩
    | bk => cases e5; exact hq _ _ _ rfl io5 F5 H5 σ5 ws5 (l1.trans lt) R5 r5
    | rt d => cases e5; exact hq _ _ _ rfl io5 F5 H5 σ5 ws5 (l1.trans lt) R5 r5
  · have hi' : i = ds.length := by omega
    rw [hi', List.drop_length] at e2
    cases e2
    exact .inl ⟨hw.2 hi', hq _ _ _ rfl io2 F2 H2 σ2 vs2 (l1.trans l2) R2 r2⟩
theorem dg_for {tg e : Expr} {sts : List Stmt} {pos : Pos} {w : TI} {g : TG} {gm : D → M Unit} {t : TGn} {m : GM} {mi : M (List D)} (hp : PassesOwn (model X.prog X.w) X.A X.env X.xe) (hc : X.calm = true) (hi : DI X W tg e w mi) (hg : DG X W tg g gm) (hb : DGSs X W sts t m)
    (hs : ∀ x, foldedSetIterable e X.env x = pure x := by intro _; rfl) : DGS X W (.For tg e sts [] pos) (tGFor w g t) (mGFor mi gm m) := ⟨gs_for hp hc hi.p hg.p hb.p hs, sem_gfor hi.s hg.s hb.s⟩
end
/-! ### a generator def -/
inductive GR where
  | ok (zs : List D) (hp : List AO)
  | ex (e : Exn) (hp : List AO)
abbrev GFnD := List D → List AO → Option GR
def gfnOf (N : Nat) (m : GM) : GFnD := fun ds hp => match m [] (entA N ds hp) with
  | some (.ok (.nx, zs) s) => some (.ok zs s.hp)
  | some (.ok (.rt .non, zs) s) => some (.ok zs s.hp)
  | some (.ex e s) => some (.ex e s.hp)
  | _ => none
def GEnd (K : PySem.W.Frag) (mg : Str → Option Value) (io : List Addr) (F H : Hp) (Q : List V → Hp → Prop) (E : XK) : GR → Prop
  | .ok zs hp' => ∀ ws io' F' H', Stp K io F H io' F' H' hp' → reps K io' F' zs ws → Q ws H'
  | .ex e hp' => ∀ cls dd io' F' H', Stp K io F H io' F' H' hp' → XRep K mg io' F' H' e cls dd → E cls dd H'
def spGD (K : PySem.W.Frag) (mg : Str → Option Value) (np : Nat) (n : GFnD) : SpG := fun vs H Q E => ∃ (io : List Addr) (F : Hp) (ds : List D) (hp : List AO) (r : GR),
  HRel K io F H hp ∧ reps K io F ds vs ∧ ds.length = np ∧ n ds hp = some r ∧ GEnd K mg io F H Q E r
structure CalG (P : Program) (w : World) (K : PySem.W.Frag) (mg : Str → Option Value) (base : Heap) (x qual : Str) (st : Stmt) (ps : List Str) (k np : Nat) (n : GFnD) : Prop where
  ex : ∃ f fd, Dfn K mg x qual st ps f fd ∧ GFn P w K mg base k f fd ps (spGD K mg np n)
section
variable {P : Program} {w : World} {K : PySem.W.Frag} {mg : Str → Option Value} {base : Heap} {x qual : Str} {st : Stmt} {ps : List Str} {k np : Nat} {n n' : GFnD}
theorem CalG.imp (c : CalG P w K mg base x qual st ps k np n) (h : ∀ ds hp r, ds.length = np → n' ds hp = some r → n ds hp = some r) : CalG P w K mg base x qual st ps k np n' := by
  obtain ⟨f, fd, d, o⟩ := c.ex
  have im : ∀ vs H Q E, spGD K mg np n' vs H Q E → spGD K mg np n vs H Q E := fun vs H Q E ⟨io, F, ds, hp, r, h1, h2, h3, h4, h5⟩ => ⟨io, F, ds, hp, r, h1, h2, h3, h ds hp r h3 h4, h5⟩
  exact ⟨f, fd, d, ⟨fun vs H Q E q => o.len vs H Q E (im _ _ _ _ q), fun A outer s H args us vs Q E hr he hb hv hs => o.run A outer s H args us vs Q E hr he hb hv (im _ _ _ _ hs)⟩⟩
/-- THE RULE for a generator def -/
theorem calG {f : Addr} {fd : FuncData} {N : List Str} {m : GM} (d : Dfn K mg x qual st ps f fd) (S : GScope N ps (defScope st)) (hp : ps.length = np) (hk : k < 30)
    (hb : ∀ (cdv : Value) (A : Around) (outer : List Env) (s : Shared) (H : Hp) (E : XK) (pn : List (Addr × Obj)), RoomG k (A.deeper (PyProof.Rows.envOfC qual (defScope st) s.heap.objs.size f cdv)) →
      ∃ t, DGSs (gcxOf P w K mg base N qual (defScope st) f cdv A outer s H E pn) (fun c d _ H => E c d H) (defBody st) t m) :
    CalG P w K mg base x qual st ps (k + 1) np (gfnOf N.length m) := by
  subst hp
  obtain ⟨oc, od, kV, doc, pm, an, cdv, ct, osl, rfl, lk, hcd⟩ := id d.fn.ex
  refine ⟨f, _, d, gfn_of lk hcd S (fun vs H Q E h => ?_) fun A outer s H vs Q E pn hr h => ?_⟩
  · obtain ⟨io, F, ds, hp, r, h1, h2, h3, _⟩ := h
    rw [reps_len h2]
    exact h3
  · obtain ⟨t, hd⟩ := hb cdv A outer s H E pn (RoomG.of hr hk)
    obtain ⟨io, F, ds, hp, r, h1, h2, h3, h4, h5⟩ := h
    refine ⟨t, hd.p, ?_⟩
    have R0 := Rel.start (N := N) h1 h2
    unfold gfnOf at h4
    split at h4
    · rename_i zs s1 e
      cases h4
      exact hd.s _ io F H _ _ _ _ [] [] R0 rfl e trivial fun f zs2 s2 e2 io2 F2 H2 σ2 ws l2 R2 r2 => by
        cases e2
        exact h5 ws io2 F2 H2 R2.stpd r2
    · rename_i zs s1 e
      cases h4
      exact hd.s _ io F H _ _ _ _ [] [] R0 rfl e trivial fun f zs2 s2 e2 io2 F2 H2 σ2 ws l2 R2 r2 => by
        cases e2
        exact fun v rv => ⟨rv, h5 ws io2 F2 H2 R2.stpd r2⟩
    · rename_i x s1 e
      cases h4
      exact hd.s _ io F H _ _ _ _ [] [] R0 rfl e (fun cls dd io2 F2 H2 σ2 l2 R2 xr => h5 cls dd io2 F2 H2 R2.stpd xr) fun f zs2 s2 e2 => by cases e2
    · cases h4
end
/-! ### list(g(..)), where nothing fails -/
def mListG (np : Nat) (n : GFnD) (ml : M (List D)) : M D := bnd ml fun ds s => if ds.length = np then (match n ds s.hp with
  | some (.ok zs hp') => if zs.length ≤ sizeLine then some (.ok (.lst zs) { s with hp := hp' }) else none
  | _ => none) else none
section
variable {X : Cx} {W : WX} {pos pos2 : Pos} {e : Expr} {es : List Expr} {tl : TA} {ml : M (List D)}
theorem de_listG {x qual : Str} {st : Stmt} {ps : List Str} {k np : Nat} {n : GFnD} {p p2 : Pos} (c : CalG X.prog X.w X.K X.mg X.base x qual st ps k np n) (hr : RoomG (k + 3) X.A) (hgl : Gl X "list") (hml : X.mg "list" = none) (ha : DA X W (e :: es) tl ml) (hv : bootBuiltins "list" = some (.type "list") := by decide +kernel) (hg : Gl X x := by rfl)
    (hdb : (x == ("__debug__" : Str)) = false := by decide) (he : starEach (e :: es) X.env = (false, eval e X.env) :: starEach es X.env := by rfl) (hpl : (backTo pos2 (starEach es X.env)).any (·.1) = false := by rfl)
    (he2 : starEach [.Call (.Name x p2) (e :: es) [] pos2] X.env = (false, eval (.Call (.Name x p2) (e :: es) [] pos2) X.env) :: starEach [] X.env := by rfl) :
    DE X W (.Call (.Name "list" p) [.Call (.Name x p2) (e :: es) [] pos2] [] pos) (tListG (tCallG (spGD X.K X.mg np n) [] (fun _ _ _ => False) tl)) (mListG np n ml) := by
  obtain ⟨f, fd, d, o⟩ := c.ex
  have G := pgen_call (E := fun _ _ _ => False) (dvs := []) (p := p2) o (hr.r.mono (Nat.le_add_right k 3)) hg d.mg d.fn.kp d.bd .nil ha.p hdb he hpl
  refine ⟨pe_listG (nm := "list") (p := p) (pos := pos) G (fun pins σ H s e s' I z => ?_) (fun cls d H z => False.elim z) hr.r hgl hml hv (by decide) (by decide) he2, ?_⟩
  · obtain ⟨_, _, _, _, _, _, _, _, _, _, _, _, f⟩ := z
    exact False.elim f
  · intro en io F H σ s o Q R e hx hq
    refine ha.s.step R e hx fun ds s1 v io1 F1 H1 l1 R1 r1 e1 hx1 => ?_
    show spGD _ _ _ _ (v ++ []) H1 _ _
    rw [List.append_nil]
    by_cases hl : ds.length = np
    · rw [if_pos hl] at e1
      split at e1
      · rename_i zs hp' h1
        by_cases hz : zs.length ≤ sizeLine
        · rw [if_pos hz] at e1
          cases e1
          refine ⟨io1, F1, ds, s1.hp, _, R1.h, r1, hl, h1, fun ws io' F' H' x rws q hqn => ?_⟩
          obtain ⟨R3, l3⟩ := (R1.stp x).new hqn (.lst ws)
          exact hq _ _ rfl (.ref q) io' _ _ (l1.trans (x.l.trans l3)) R3 ⟨q, ws, rfl, upd_same, reps_le l3 _ _ rws⟩
        · rw [if_neg hz] at e1
          cases e1
      · cases e1
    · rw [if_neg hl] at e1
      cases e1
theorem ke_listG (K : PySem.W.Frag) (mg : Str → Option Value) {x qual : Str} {st : Stmt} {ps : List Str} {k np : Nat} {n : GFnD} {p p2 : Pos} (c : CalG X.prog X.w X.K X.mg X.base x qual st ps k np n) (hr : RoomG (k + 3) X.A) (hgl : Gl X "list") (hml : X.mg "list" = none) (ha : DA X W (e :: es) tl ml) (hK : X.K = K := by rfl) (hM : X.mg = mg := by rfl) (hv : bootBuiltins "list" = some (.type "list") := by decide +kernel) (hg : Gl X x := by rfl)
    (hdb : (x == ("__debug__" : Str)) = false := by decide) (he : starEach (e :: es) X.env = (false, eval e X.env) :: starEach es X.env := by rfl) (hpl : (backTo pos2 (starEach es X.env)).any (·.1) = false := by rfl)
    (he2 : starEach [.Call (.Name x p2) (e :: es) [] pos2] X.env = (false, eval (.Call (.Name x p2) (e :: es) [] pos2) X.env) :: starEach [] X.env := by rfl) :
    DE X W (.Call (.Name "list" p) [.Call (.Name x p2) (e :: es) [] pos2] [] pos) (tListG (tCallG (spGD K mg np n) [] (fun _ _ _ => False) tl)) (mListG np n ml) := by subst hK hM; exact de_listG c hr hgl hml ha hv hg hdb he hpl he2
end
/-! ### try .. except X (no name) -/
/-- try: body, except ..: suite; cat: which errors are caught -/
def mTryO (cat : EC → Bool) (mb ms : M Fl) : M Fl := fun s => match mb s with
  | some (.ok f s') => some (.ok f s')
  | some (.ex e s') => if cat e.c = true then (match ms s' with
      | some (.ok f s2) => some (.ok f s2)
      | _ => none) else some (.ex e s')
  | none => none
section
variable {X : Cx} {x : Str} {c : Value} {body suite : List Stmt} {b₀ : Stmt} {np pos pos' : Pos} {tb : WX → TS} {ts : TS} {Wout : WX} {mb ms : M Fl}
theorem ds_tryO (cat : EC → Bool) (hs : X.stack = X.env :: X.outer) (hf : X.env.frame = some X.env.locals) (hc : Names X x c) (tk : Takes X Wout)
    (hcat : ∀ (e : EC) C, PySem.W.nsIn X.K mainGlobals e.nm = some (some (.ref C)) → PySem.W.exmOne X.K (.ref C) c = some (cat e))
    (hb : ∀ (W : WX) (pn : List (Addr × Obj)) (xe : Value → Shared → Prop), Takes (X.tr pn xe) W → PassesOwn (model X.prog X.w) X.A X.env xe → DSs (X.tr pn xe) W body (tb W) mb)
    (hsu : ∀ (a : Addr) (pn : List (Addr × Obj)), DSs (X.suite a pn) (fun _ _ _ _ => False) (b₀ :: suite) ts ms) :
    DS X Wout (.Try body [.ExceptHandler (some (.Name x np)) none (b₀ :: suite) pos'] [] [] pos) (fun D σ H => tb (wOnly X.K c (fun _ _ _ => ts) Wout D) D σ H) (mTryO cat mb ms) :=
  ⟨ps_try_only hs hf hc tk (fun W pn xe t p => (hb W pn xe t p).p) (fun a oe cls d pn _ _ => (hsu a ((a, oe) :: pn)).p), by
    intro en io F H σ s o E R e hx hq
    have tkk : Takes (X.tr [] (fun e s₁ => wpAny (model X.prog X.w) X.A (noteFrame e X.env) (fun _ s₂ => wpAny (model X.prog X.w) X.A (setFlight e none) (fun _ _ => True) (fun _ _ => False) s₂) (fun _ _ => False) s₁)) (wOnly X.K c (fun _ _ _ => ts) Wout E) := fun u s' xx => by
      obtain ⟨a, B, sI, pins', σ', H', cls, d, rfl, J', nb, up, sky, na, os, ag, _⟩ := xx
      have ok : X.Ok := J'.ok.ofTry
      have hfr : X.A.frames = some (X.env :: X.outer) := by rw [ok.frames, hs]
      have sky' : Sky B (X.env :: X.outer) a (Zc cls d) X.env.locals s'.heap := by rw [← hs]; exact sky
      show wpAny (model X.prog X.w) X.A (noteFrame (.ref a) X.env) _ _ _
      exact Sky.land Zc.steady hfr hf sky' fun h3 fl3 up3 => trivial
    have B := (hb (wOnly X.K c (fun _ _ _ => ts) Wout E) [] _ tkk PassesOwn.looking).s
    unfold mTryO at e
    split at e
    · rename_i f s' h1
      cases e
      exact B en io F H σ s _ E R h1 trivial fun f2 s2 e2 => hq f2 s2 e2
    · rename_i ex s' h1
      refine B en io F H σ s _ E R h1 (fun cls dd io' F' H' σ' l R' xr => ?_) fun f2 s2 e2 => by cases e2
      obtain ⟨hn, ⟨C, rfl⟩, d, v, rfl, hF, rv⟩ := id xr
      refine ⟨cat ex.c, hcat _ _ hn, fun hb1 a ha => ?_, fun hb1 => ?_⟩
      · rw [if_pos hb1] at e
        split at e
        · rename_i f s2 h2
          cases e
          exact (hsu a []).s en io' F' H' σ' s' _ E R' h2 trivial fun f3 s3 e3 io3 F3 H3 σ3 l3 R3 => by
            cases e3
            exact hq _ _ rfl io3 F3 H3 σ3 (l.trans l3) R3
        · cases e
      · rw [if_neg (by rw [hb1]; exact Bool.false_ne_true)] at e
        cases e
        exact hx _ _ io' F' H' σ' l R' xr
    · cases e⟩
end
/-! ### texts compared -/
def gtS : D → D → Option D
  | .str x, .str y => some (.bl (decide (y < x)))
  | _, _ => none
abbrev rGtS : V → V → Hp → VK → Prop := fun x y H Q => ∃ i j, x = .str i ∧ y = .str j ∧ Q (.bl (decide (j.cps.toList < i.cps.toList))) H
theorem o_gtS {X : Cx} : OpOk X (compareOp .Gt) rGtS gtS := ⟨op_gt_str, opd_val fun io F H x y dx dy d Q ex rx ry e k => by
  match dx, dy, e with
  | .str i, .str j, e =>
    cases e
    exact ⟨_, _, rx, ry, k _ fun _ _ _ => rfl⟩⟩
end Z
/-! Z20: sorted(l), l a list of pairs: a number and a text -/
namespace ZS
open PySem PyProof.Rows Srt SrtO
section
variable {prog : Program} {w : World} {A : Around} {E : Value → Shared → Prop} {s : Shared}
/-- a tuple of a number and a text -/
def IsNT (h : Heap) (v : Value) (k : Int × List Nat) : Prop := ∃ a o t x u n, v = .ref a ∧ h.get? a = some o ∧ o.cls = .type "tuple" ∧ o.data = .seq #[.int k.1 t, .str x u] n ∧ x.cps.toList = k.2
theorem IsNT.keeps {h h' : Heap} {v : Value} {k : Int × List Nat} (p : IsNT h v k) (kk : ∀ b o, h.get? b = some o → o.cls = .type "tuple" → h'.get? b = some o) : IsNT h' v k := by
  obtain ⟨a, o, t, x, u, n, e, ho, hc, hd, hx⟩ := p
  exact ⟨a, o, t, x, u, n, e, kk _ _ ho hc, hc, hd, hx⟩
def ntB (p q : Int × List Nat) : Bool := if p.1 = q.1 then decide (p.2 < q.2) else decide (p.1 < q.1)
theorem ntB_iff {p q : Int × List Nat} : ntB p q = true ↔ p.1 < q.1 ∨ (p.1 = q.1 ∧ p.2 < q.2) := by
  unfold ntB
  by_cases e : p.1 = q.1
  · rw [if_pos e, decide_eq_true_eq]
    constructor
    · intro h; exact .inr ⟨e, h⟩
    · intro h
      rcases h with h | h
      · omega
      · exact h.2
  · rw [if_neg e, decide_eq_true_eq]
    constructor
    · intro h; exact .inl h
    · intro h
      rcases h with h | h
      · exact h
      · exact absurd h.1 e
theorem ntB_no {p q : Int × List Nat} : ntB p q = false ↔ ¬ (p.1 < q.1 ∨ (p.1 = q.1 ∧ p.2 < q.2)) := by
  rw [← ntB_iff]
  cases ntB p q <;> simp
theorem swo_nt (k : Value → Int × List Nat) : Swo fun v u => ntB (k v) (k u) := by
  refine ⟨fun x y h => ?_, fun x y z h1 h2 => ?_⟩
  · have a := ntB_iff.mp h
    refine ntB_no.mpr fun b => ?_
    rcases a with a | ⟨a, a2⟩
    · rcases b with b | ⟨b, _⟩ <;> omega
    · rcases b with b | ⟨_, b2⟩
      · omega
      · exact List.lt_asymm a2 b2
  · have a := ntB_no.mp h1
    have b := ntB_no.mp h2
    refine ntB_no.mpr fun c => ?_
    generalize k x = p at *
    generalize k y = q at *
    generalize k z = r at *
    have key : ∀ u v w : List Nat, ¬ v < u → ¬ w < v → ¬ w < u := fun u v w h1 h2 h3 => h1 (List.lt_of_le_of_lt (List.not_lt.mp h2) h3)
    have a1 : ¬ q.1 < p.1 := fun z => a (.inl z)
    have b1 : ¬ r.1 < q.1 := fun z => b (.inl z)
    rcases c with c | ⟨c, c2⟩
    · omega
    · have e1 : q.1 = p.1 := by omega
      have e2 : r.1 = q.1 := by omega
      exact key p.2 q.2 r.2 (fun z => a (.inr ⟨e1, z⟩)) (fun z => b (.inr ⟨e2, z⟩)) c2
theorem nt_firsts {h : Heap} {k : Value → Int × List Nat} : ∀ {vs : List Value}, (∀ v ∈ vs, IsNT h v (k v)) → ∃ fs : List Value, PySem.W.KatTups h vs fs ∧ fs.length = vs.length ∧ ∀ f ∈ fs, ∃ x t, f = Value.int x t
  | [], _ => ⟨[], PySem.W.KatTups.nil, rfl, fun _ hm => by simp at hm⟩
  | v :: vs, hp => by
    obtain ⟨fs, h1, h2, h3⟩ := nt_firsts (vs := vs) fun v' hm => hp v' (List.mem_cons_of_mem _ hm)
    have hv := hp v (List.mem_cons_self ..)
    generalize k v = kk at hv
    obtain ⟨a, o, t, x, u, n, e, ho, hc, hd, hx⟩ := hv
    subst e
    refine ⟨.int kk.1 t :: fs, PySem.W.KatTups.cons ho hc hd rfl h1, by rw [List.length_cons, List.length_cons, h2], fun f hm => ?_⟩
    rcases List.mem_cons.mp hm with rfl | hm
    · exact ⟨kk.1, t, rfl⟩
    · exact h3 f hm
theorem nt_cmp {vs : List Value} {k : Value → Int × List Nat} (hp : ∀ v ∈ vs, IsNT s.heap v (k v)) : Cmp prog w A s (tuples' true) (fun p => p.1 ∈ vs) (lt2 fun v u => ntB (k v) (k u)) := by
  intro p q hm hm'
  have h1 := hp _ hm
  have h2 := hp _ hm'
  show wpAny (model prog w) A (keyLt' (tuples' true) p.1 q.1) (fun r s' => s' = s ∧ r = ntB (k p.1) (k q.1)) (fun _ _ => False) s
  unfold ntB
  generalize k p.1 = kp at h1 ⊢
  generalize k q.1 = kq at h2 ⊢
  obtain ⟨x, yl⟩ := kp
  obtain ⟨x', yl'⟩ := kq
  obtain ⟨a, o, t, y, u, n, e, ho, hc, hd, hy⟩ := h1
  obtain ⟨a', o', t', y', u', n', e', ho', hc', hd', hy'⟩ := h2
  rw [e, e']
  subst hy hy'
  refine PySem.W.kat_lt ho hd ho' hd' ?_
  show PySem.W.KatLex prog w A true (decide (2 < 2)) _ [(.int x t, .int x' t'), (.str y u, .str y' u')] 0 s
  refine PySem.W.kat_cons (SeqAt.EqAt.int_int x t x' t' prog w _ _ ?_)
  refine PySem.W.kat_go (fun e1 => ?_) (fun e1 => ?_)
  · have ex : x = x' := by simpa using e1
    refine PySem.W.kat_yes (PySem.W.kat_cons (SeqAt.EqAt.str_str y u y' u' prog w _ _ ?_))
    refine PySem.W.kat_go (fun e2 => ?_) (fun e2 => ?_)
    · have ey : y = y' := by simpa using e2
      have e3 : (if x = x' then decide (y.cps.toList < y'.cps.toList) else decide (x < x')) = false := by
        rw [if_pos ex, ey]
        exact decide_eq_false (List.lt_irrefl _)
      exact PySem.W.kat_yes (PySem.W.kat_nil ⟨rfl, e3.symm⟩)
    · have e3 : (if x = x' then decide (y.cps.toList < y'.cps.toList) else decide (x < x')) = decide (y.cps.toList < y'.cps.toList) := if_pos ex
      refine PySem.W.kat_no (PySem.W.kat_one _ _ (PyProof.Rows.lt_str ?_))
      exact (show s = s ∧ decide (y.cps.toList < y'.cps.toList) = (if x = x' then decide (y.cps.toList < y'.cps.toList) else decide (x < x')) from ⟨rfl, e3.symm⟩)
  · have ex : ¬ x = x' := by simpa using e1
    have e3 : (if x = x' then decide (y.cps.toList < y'.cps.toList) else decide (x < x')) = decide (x < x') := if_neg ex
    exact PySem.W.kat_no (oneLt_int ⟨rfl, e3.symm⟩)
theorem nt_sortable {a : Addr} {vs : List Value} {k : Value → Int × List Nat} (h0 : 0 < vs.length) (hp : ∀ v ∈ vs, IsNT s.heap v (k v)) (ha : ∀ o, s.heap.get? a = some o → o.cls ≠ .type "tuple") : SortableO prog w A s a vs fun v u => ntB (k v) (k u) := by
  intro h' keep
  have hp' : ∀ v ∈ vs, IsNT h' v (k v) := fun v hm => (hp v hm).keeps fun b o e c => keep b o (fun z => by subst z; exact ha o e c) e
  obtain ⟨fs, h1, h2, h3⟩ := nt_firsts hp'
  refine ⟨tuples' true, fun Q E hq => ?_, nt_cmp hp'⟩
  refine PySem.W.kat_kind (T := .type "int") h1 (by omega) (fun f hm => ?_) (by rfl) ?_
  · obtain ⟨x, t, rfl⟩ := h3 f hm
    exact PySem.W.Looks.now
  · have e : (Value.type "int" != Value.type "tuple") = true := by first | decide +kernel | rfl | decide
    rw [e]
    exact hq
/-- sorted(l): sorted by k, stable -/
theorem sorted_nt {l : Addr} {vs : List Value} {k : Value → Int × List Nat} {Q : Value → Shared → Prop} (hl : s.heap.IsList l vs.toArray) (hz : vs.length ≤ sizeLine) (hp : ∀ v ∈ vs, IsNT s.heap v (k v))
    (h : ∀ (h' : Heap) (d : Addr) (out : List Value), Srtd (fun v u => ntB (k v) (k u)) out → Stb (fun v u => ntB (k v) (k u)) out vs → (∀ b o, s.heap.get? b = some o → h'.get? b = some o) → s.heap.objs.size ≤ d → (∃ n, h'.get? d = some (seqObj "list" out.toArray n)) → Q (.ref d) { s with heap := h' }) :
    wpAny (model prog w) A (call (.builtin "sorted") [.ref l]) Q E s := by
  refine sorted_ord (swo_nt k) hl hz (fun h2 h₁ a ha kk => ?_) fun out hs hb => ?_
  · refine nt_sortable (s := { s with heap := h₁ }) (by omega) (fun v hm => (hp v hm).keeps fun b o e _ => (kk b o e).2) fun o e => ?_
    have e' : some o = some (seqObj "list" vs.toArray 0) := e.symm.trans ha
    cases e'
    intro c
    exact absurd (Value.type.inj c) (by decide)
  · exact h _ _ out hs hb (fun b o e => sortedAll_old e) (Nat.le_succ _) (sortedAll_at s.heap vs out.toArray)
end
end ZS

namespace Z
open PySem PySem.Spec PyProof.Rows L2 ZS
open Classical
/-! ### sorted, as data -/
def insK (x : Int × List Nat) : List (Int × List Nat) → List (Int × List Nat)
  | [] => [x]
  | y :: l => if ntB y x = true then y :: insK x l else x :: y :: l
def sortK (l : List (Int × List Nat)) : List (Int × List Nat) := l.foldr insK []
theorem insK_perm (x : Int × List Nat) : ∀ l, (insK x l).Perm (x :: l)
  | [] => List.Perm.refl _
  | y :: l => by
    unfold insK
    split
    · exact ((insK_perm x l).cons y).trans (List.Perm.swap x y l)
    · exact List.Perm.refl _
theorem sortK_perm : ∀ l, (sortK l).Perm l
  | [] => List.Perm.refl _
  | x :: l => (insK_perm x (sortK l)).trans ((sortK_perm l).cons x)
theorem swo_ntB : SrtO.Swo ntB := by
  have := swo_nt (fun v : Value => match v with | .int i _ => (i, []) | _ => (0, []))
  refine ⟨fun x y h => ?_, fun x y z h1 h2 => ?_⟩
  · have a := ntB_iff.mp h
    refine ntB_no.mpr fun b => ?_
    rcases a with a | ⟨a, a2⟩
    · rcases b with b | ⟨b, _⟩ <;> omega
    · rcases b with b | ⟨_, b2⟩
      · omega
      · exact List.lt_asymm a2 b2
  · have a := ntB_no.mp h1
    have b := ntB_no.mp h2
    refine ntB_no.mpr fun c => ?_
    have key : ∀ u v w : List Nat, ¬ v < u → ¬ w < v → ¬ w < u := fun u v w h1 h2 h3 => h1 (List.lt_of_le_of_lt (List.not_lt.mp h2) h3)
    have a1 : ¬ y.1 < x.1 := fun q => a (.inl q)
    have b1 : ¬ z.1 < y.1 := fun q => b (.inl q)
    rcases c with c | ⟨c, c2⟩
    · omega
    · have e1 : y.1 = x.1 := by omega
      have e2 : z.1 = y.1 := by omega
      exact key x.2 y.2 z.2 (fun q => a (.inr ⟨e1, q⟩)) (fun q => b (.inr ⟨e2, q⟩)) c2
theorem insK_srtd {x : Int × List Nat} : ∀ {l}, SrtO.Srtd ntB l → SrtO.Srtd ntB (insK x l)
  | [], _ => List.pairwise_singleton _ _
  | y :: l, h => by
    unfold insK
    have hc := List.pairwise_cons.mp h
    by_cases e : ntB y x = true
    · rw [if_pos e]
      refine List.pairwise_cons.mpr ⟨fun z hz => ?_, insK_srtd hc.2⟩
      rcases List.mem_cons.mp ((insK_perm x l).mem_iff.mp hz) with rfl | hz
      · exact swo_ntB.asym _ _ e
      · exact hc.1 z hz
    · rw [if_neg e]
      have e' : ntB y x = false := by simpa using e
      refine List.pairwise_cons.mpr ⟨fun z hz => ?_, h⟩
      rcases List.mem_cons.mp hz with rfl | hz
      · exact e'
      · exact swo_ntB.tr x y z e' (hc.1 z hz)
theorem sortK_srtd : ∀ l, SrtO.Srtd ntB (sortK l)
  | [] => List.Pairwise.nil
  | x :: l => insK_srtd (sortK_srtd l)
theorem ntB_eq {x y : Int × List Nat} (h1 : ntB x y = false) (h2 : ntB y x = false) : x = y := by
  have a := ntB_no.mp h1
  have b := ntB_no.mp h2
  have e1 : x.1 = y.1 := by
    have : ¬ x.1 < y.1 := fun z => a (.inl z)
    have : ¬ y.1 < x.1 := fun z => b (.inl z)
    omega
  have e2 : x.2 = y.2 := List.le_antisymm (List.not_lt.mp fun z => b (.inr ⟨e1.symm, z⟩)) (List.not_lt.mp fun z => a (.inr ⟨e1, z⟩))
  exact Prod.ext e1 e2
/-- sorted rearrangements are one -/
theorem srtd_uniq : ∀ {l m : List (Int × List Nat)}, SrtO.Srtd ntB l → SrtO.Srtd ntB m → l.Perm m → l = m
  | [], m, _, _, h => (List.Perm.eq_nil h.symm).symm
  | x :: l, [], _, _, h => absurd h.length_eq (by simp)
  | x :: l, y :: m, hl, hm, h => by
    have cl := List.pairwise_cons.mp hl
    have cm := List.pairwise_cons.mp hm
    have h1 : ntB x y = false := by
      rcases List.mem_cons.mp (h.mem_iff.mp (List.mem_cons_self (a := x) (l := l))) with e | hx
      · rw [e]
        exact swo_ntB.refl y
      · exact cm.1 x hx
    have h2 : ntB y x = false := by
      rcases List.mem_cons.mp (h.mem_iff.mpr (List.mem_cons_self (a := y) (l := m))) with e | hy
      · rw [e]
        exact swo_ntB.refl x
      · exact cl.1 y hy
    have e := ntB_eq h1 h2
    subst e
    rw [srtd_uniq cl.2 cm.2 h.cons_inv]
def encN (k : Int × List Nat) : D := .tup [.int k.1, .str k.2]
def decNs : List D → Option (List (Int × List Nat))
  | [] => some []
  | .tup [.int i, .str x] :: l => (decNs l).map ((i, x) :: ·)
  | _ => none
theorem decNs_enc : ∀ ks, decNs (ks.map encN) = some ks
  | [] => rfl
  | k :: ks => by
    show (decNs (ks.map encN)).map _ = _
    rw [decNs_enc ks]
    rfl
theorem decNs_some : ∀ {l : List D} {ks}, decNs l = some ks → l = ks.map encN
  | [], ks, h => by
    cases h
    rfl
  | d :: l, ks, h => by
    unfold decNs at h
    split at h
    · rename_i e
      cases e
    · rename_i i x l' e
      cases e
      obtain ⟨ks', h1, rfl⟩ := Option.map_eq_some_iff.mp h
      rw [decNs_some h1]
      rfl
    · cases h
def sortF : List D → Option D
  | [.lst l] => match decNs l with
    | some ks => some (.lst ((sortK ks).map encN))
    | none => none
  | _ => none
/-- sorted(xs), xs a list of pairs of a number and a text -/
def rSortNT (K : PySem.W.Frag) : List V → Hp → VK → Prop := fun vs H Q => ∃ (a : Addr) (zs : List (V × (Int × List Nat))), vs = [V.ref a] ∧ SqL K H a (zs.map (·.1)) ∧ (∀ z ∈ zs, ∃ t, z.1 = V.ref t ∧ SqT K H t [.int z.2.1, .str ⟨z.2.2.toArray⟩]) ∧
  ∀ (os : List (V × (Int × List Nat))) p, os.Perm zs → os.map (·.2) = sortK (zs.map (·.2)) → H p = none → Q (.ref p) (upd H p (.lst (os.map (·.1))))
section
variable {X : Cx}
theorem nt_det {h : Heap} {v : Value} {k k' : Int × List Nat} (a : IsNT h v k) (b : IsNT h v k') : k = k' := by
  obtain ⟨a1, o, t, x, u, n, e, ho, hc, hd, hx⟩ := a
  obtain ⟨a2, o', t', x', u', n', e', ho', hc', hd', hx'⟩ := b
  rw [e] at e'
  cases e'
  rw [ho] at ho'
  cases ho'
  rw [hd] at hd'
  injection hd' with h1 h2
  have h3 := congrArg Array.toList h1
  simp only [List.cons.injEq, Value.int.injEq, Value.str.injEq] at h3
  refine Prod.ext h3.1.1 ?_
  rw [← hx, ← hx', h3.2.1.1]
theorem cr_sortNT : CallR X (.builtin "sorted") (rSortNT X.K) := by
  intro pins s σ H vs us Q I r h
  obtain ⟨a, zs, rfl, hs, hx, q⟩ := h
  obtain ⟨its, rv, hl, hz⟩ := I.list hs
  obtain ⟨u, rfl, ru⟩ := vals1 r
  obtain rfl : u = Value.ref a := ru
  -- what each item is
  have key : ∀ (zs : List (V × (Int × List Nat))) (its : List Value), Vals (zs.map (·.1)) its → (∀ z ∈ zs, ∃ t, z.1 = V.ref t ∧ SqT X.K H t [.int z.2.1, .str ⟨z.2.2.toArray⟩]) →
      ∃ ps : List (Value × (V × (Int × List Nat))), its = ps.map (·.1) ∧ zs = ps.map (·.2) ∧ ∀ p ∈ ps, IsNT s.heap p.1 p.2.2 ∧ ∃ t, p.1 = .ref t ∧ p.2.1 = .ref t := by
    intro zs
    induction zs with
    | nil =>
      intro its rv _
      cases rv
      exact ⟨[], rfl, rfl, fun _ h => by cases h⟩
    | cons z zs ih =>
      intro its rv hx
      cases rv with
      | cons r0 rr =>
        rename_i u us
        obtain ⟨ps, e1, e2, e3⟩ := ih us rr fun z hz => hx z (List.mem_cons_of_mem _ hz)
        obtain ⟨t, ez, ht⟩ := hx z List.mem_cons_self
        obtain ⟨its2, r2, p2, _⟩ := I.tuple ht
        obtain ⟨u1, u2, rfl, ri, rj⟩ := vals2 r2
        obtain ⟨t1, rfl⟩ := ri
        obtain ⟨t2, rfl⟩ := rj
        have r0' : RelV z.1 u := r0
        rw [ez] at r0'
        obtain rfl : u = Value.ref t := r0'
        obtain ⟨o, ho, hc, n, hd⟩ := (show s.heap.IsTuple t _ from p2)
        refine ⟨(.ref t, z) :: ps, by rw [e1]; rfl, by rw [e2]; rfl, fun p hp => ?_⟩
        rcases List.mem_cons.mp hp with rfl | hp
        · exact ⟨⟨t, o, t1, ⟨z.2.2.toArray⟩, t2, n, rfl, ho, hc, hd, rfl⟩, t, rfl, ez⟩
        · exact e3 p hp
  obtain ⟨ps, e1, e2, e3⟩ := key zs its rv hx
  have kd : ∃ k : Value → Int × List Nat, ∀ p ∈ ps, k p.1 = p.2.2 := by
    refine ⟨fun v => if h : ∃ kk, IsNT s.heap v kk then choose h else (0, []), fun p hp => ?_⟩
    have hh : ∃ kk, IsNT s.heap p.1 kk := ⟨_, (e3 p hp).1⟩
    show (if h : ∃ kk, IsNT s.heap p.1 kk then choose h else (0, [])) = _
    rw [dif_pos hh]
    exact nt_det (choose_spec hh) (e3 p hp).1
  obtain ⟨k, hk⟩ := kd
  refine sorted_nt (k := k) hl.isList (by rw [← rv.length]; exact hz) (fun v hv => ?_) fun h' d out h1 h2 kp hd hn => ?_
  · rw [e1] at hv
    obtain ⟨p, hp, rfl⟩ := List.mem_map.mp hv
    rw [hk p hp]
    exact (e3 p hp).1
  · obtain ⟨n, hn⟩ := hn
    -- the outcome, with its keys
    have hv : ∀ v ∈ out, ∃ p ∈ ps, p.1 = v := fun v hv => by
      have := h2.perm.mem_iff.mp hv
      rw [e1] at this
      obtain ⟨p, hp, e⟩ := List.mem_map.mp this
      exact ⟨p, hp, e⟩
    let g : Value → V × (Int × List Nat) := fun v => (backV v, k v)
    have hg : ∀ p ∈ ps, g p.1 = p.2 := fun p hp => by
      obtain ⟨t, et, ev⟩ := (e3 p hp).2
      refine Prod.ext ?_ (hk p hp)
      show backV p.1 = p.2.1
      rw [et, ev]
      rfl
    have hz2 : its.map g = zs := by
      rw [e1, e2, List.map_map]
      exact List.map_congr_left fun p hp => hg p hp
    have perm : (out.map g).Perm zs := by
      rw [← hz2]
      exact h2.perm.map g
    have keys : (out.map g).map (·.2) = sortK (zs.map (·.2)) := by
      refine srtd_uniq ?_ (sortK_srtd _) ?_
      · rw [List.map_map]
        exact SrtO.srtd_map (f := k) h1
      · exact (perm.map _).trans (sortK_perm _).symm
    have h3 : ∀ u ∈ out, ∃ a, u = Value.ref a := fun u hu => by
      obtain ⟨p, hp, rfl⟩ := hv u hu
      obtain ⟨t, et, _⟩ := (e3 p hp).2
      exact ⟨t, et⟩
    have eb : (out.map g).map (·.1) = out.map backV := by rw [List.map_map]; rfl
    refine ⟨.ref d, upd H d (.lst (out.map backV)), I.laid (t' := s.toks) kp hd ⟨?_, out, n, vals_back h3, hn⟩, rfl, ?_⟩
    · rw [List.length_map, h2.perm.length_eq, ← rv.length]
      exact hz
    · have := q (out.map g) d perm keys (I.hok.fresh hd)
      rw [eb] at this
      exact this
theorem b_sortNT : CallOk X (.builtin "sorted") (rSortNT X.K) sortF := ⟨cr_sortNT, fun en io F H σ s vs ds d Q R rx e k => by
  match ds, e with
  | [.lst l], e =>
    obtain ⟨v, rfl, p, xs, rfl, hF, rl⟩ := reps1 rx
    have e' : (match decNs l with | some ks => some (D.lst ((sortK ks).map encN)) | none => none) = some d := e
    cases hd : decNs l with
    | none =>
      rw [hd] at e'
      cases e'
    | some ks =>
      rw [hd] at e'
      cases e'
      have hl := decNs_some hd
      subst hl
      have key : ∀ (ks : List (Int × List Nat)) (xs : List V), reps X.K io F (ks.map encN) xs → ∃ zs : List (V × (Int × List Nat)), zs.map (·.1) = xs ∧ zs.map (·.2) = ks ∧ ∀ z ∈ zs, rep X.K io F (encN z.2) z.1 := by
        intro ks
        induction ks with
        | nil =>
          intro xs r
          rw [show xs = [] from r]
          exact ⟨[], rfl, rfl, fun _ h => by cases h⟩
        | cons k ks ih =>
          intro xs r
          obtain ⟨x, t, rfl, r1, r2⟩ := r
          obtain ⟨zs, h1, h2, h3⟩ := ih t r2
          refine ⟨(x, k) :: zs, by rw [← h1]; rfl, by rw [← h2]; rfl, fun z hz => ?_⟩
          rcases List.mem_cons.mp hz with rfl | hz
          · exact r1
          · exact h3 z hz
      obtain ⟨zs, h1, h2, h3⟩ := key ks xs rl
      refine ⟨p, zs, rfl, ?_, fun z hz => ?_, fun os q hp hk hq => ?_⟩
      · rw [h1]
        exact .of (R.h.ex _ _ hF)
      · obtain ⟨t, ys, e1, e2, e3⟩ := h3 z hz
        obtain ⟨y1, y2, rfl, r1, r2⟩ := reps2 e3
        refine ⟨t, e1, ?_⟩
        have := R.h.ex.t e2
        rw [show y1 = _ from r1, show y2 = _ from r2] at this
        exact this
      · obtain ⟨R2, l2⟩ := R.new hq (.lst (os.map (·.1)))
        refine k (.ref q) io _ _ l2 R2 ⟨q, _, rfl, upd_same, ?_⟩
        have fin : ∀ os : List (V × (Int × List Nat)), (∀ z ∈ os, z ∈ zs) → reps X.K io (upd F q (.lst (os.map (·.1)))) (os.map fun z => encN z.2) (os.map (·.1)) ∨ True := fun _ _ => .inr trivial
        have fin2 : ∀ (F' : Hp) (os : List (V × (Int × List Nat))), (∀ z ∈ os, rep X.K io F' (encN z.2) z.1) → reps X.K io F' ((os.map (·.2)).map encN) (os.map (·.1)) := by
          intro F' os
          induction os with
          | nil => intro _; rfl
          | cons z os ih => intro h; exact ⟨_, _, rfl, h z List.mem_cons_self, ih fun y hy => h y (List.mem_cons_of_mem _ hy)⟩
        have := fin2 (upd F q (.lst (os.map (·.1)))) os fun z hz => rep_le l2 _ _ (h3 z (hp.mem_iff.mp hz))
        rw [hk, h2] at this
        exact this⟩
theorem kb_sortNT (K : PySem.W.Frag) (hK : X.K = K := by rfl) : CallOk X (.builtin "sorted") (rSortNT K) sortF := by subst hK; exact b_sortNT
end
end Z
/-! Z21: {k: v, ..}; d[k] op= v; len and pop() of lists of the own heap -/
namespace Z
open PySem PySem.Spec PyProof.Rows L2
open Classical
section
variable {X : Cx} {W : WX} {pos : Pos} {K : PySem.W.Frag} {mg : Str → Option Value} {a b e value : Expr} {es : List Expr} {ta tb te tv : TE} {ma mb me mv : M D} {tl : TA} {ml : M (List D)}
/-- len(o) -/
def mLenH (mo : M D) : M D := bnd mo fun o s => match getH s o with
  | some l => some (.ok (.int l.length) s)
  | none => none
theorem de_lenH {f : Str} {p : Pos} (hg : Gl X f) (hm : X.mg f = none) (ho : DE X W a ta ma) (hb : bootBuiltins f = some (.builtin "len") := by decide +kernel)
    (hn : f ≠ "__name__" := by decide) (hdb : (f == ("__debug__" : Str)) = false := by decide) (hs : starEach [a] X.env = (false, eval a X.env) :: starEach [] X.env := by rfl) (hpl : (backTo pos (starEach [] X.env)).any (·.1) = false := by rfl) :
    DE X W (.Call (.Name f p) [a] [] pos) (tCB (r_len X.K) (tCons ta tNil)) (mLenH ma) := ⟨pe_callB call_len hg hm hb (pa_cons ho.p pa_nil hs) hn hdb hs hpl, by
  intro en io F H σ s o Q R e hx hq
  refine ho.s.step R e hx fun d s1 v io1 F1 H1 l1 R1 r1 e1 hx1 => ?_
  split at e1
  · rename_i l hl
    cases e1
    obtain ⟨p, xs, rfl, hF, hH, r, _⟩ := R1.getH hl r1
    exact ⟨.ref p, l.length, rfl, .inl ⟨xs, .of hH, (reps_len r).symm⟩, hq _ _ rfl _ io1 F1 H1 l1 R1 rfl⟩
  · cases e1⟩
theorem ke_lenH (K : PySem.W.Frag) {f : Str} {p : Pos} (hg : Gl X f) (hm : X.mg f = none) (ho : DE X W a ta ma) (hK : X.K = K := by rfl) (hb : bootBuiltins f = some (.builtin "len") := by decide +kernel)
    (hn : f ≠ "__name__" := by decide) (hdb : (f == ("__debug__" : Str)) = false := by decide) (hs : starEach [a] X.env = (false, eval a X.env) :: starEach [] X.env := by rfl) (hpl : (backTo pos (starEach [] X.env)).any (·.1) = false := by rfl) :
    DE X W (.Call (.Name f p) [a] [] pos) (tCB (r_len K) (tCons ta tNil)) (mLenH ma) := by subst hK; exact de_lenH hg hm ho hb hn hdb hs hpl
/-- o.pop() -/
def mPopH (mo : M D) : M D := bnd mo fun o s => match getH s o with
  | some l => match l.getLast? with
    | some d => some (.ok d (setH s o l.dropLast))
    | none => none
  | none => none
theorem de_popH {apos : Pos} (ho : DE X W a ta ma) (hbase : attributeBase a "pop" X.env (eval a X.env) = eval a X.env := by rfl) (hline : (apos.endLine == pos.line) = true := by rfl) :
    DE X W (.Call (.Attribute a "pop" apos) [] [] pos) (tBM0 X.K "list" rPop ta) (mPopH ma) := ⟨pe_bm0 PySem.F.plainAttrs_list PySem.F.slot_list_pop PySem.F.type_list_pop mt_pop ho.p hbase hline, by
  intro en io F H σ s o Q R e hx hq
  refine ho.s.step R e hx fun d s1 v io1 F1 H1 l1 R1 r1 e1 hx1 => ?_
  split at e1
  · rename_i l hl
    split at e1
    · rename_i d2 hd
      cases e1
      obtain ⟨p, xs, rfl, hF, hH, r, hput⟩ := R1.getH hl r1
      rw [List.getLast?_eq_getElem?] at hd
      obtain ⟨y, hy, ry⟩ := reps_get r hd
      exact ⟨.inl ⟨rfl, xs, .of hH⟩, p, xs, y, rfl, rfl, hH, by rw [reps_len r]; exact hy, hq _ _ rfl y io1 F1 _ l1 (hput _ _ (reps_dropLast r)) ry⟩
    · cases e1
  · cases e1⟩
theorem ke_popH (K : PySem.W.Frag) {apos : Pos} (ho : DE X W a ta ma) (hK : X.K = K := by rfl) (hbase : attributeBase a "pop" X.env (eval a X.env) = eval a X.env := by rfl) (hline : (apos.endLine == pos.line) = true := by rfl) :
    DE X W (.Call (.Attribute a "pop" apos) [] [] pos) (tBM0 K "list" rPop ta) (mPopH ma) := by subst hK; exact de_popH ho hbase hline
/-- d[k] op= v -/
noncomputable def mDAug (f : D → D → Option D) (mo mk mv : M D) : M Fl := bnd mo fun o => bnd mk fun k => fun s => match keyD k, getDk s o with
  | some kk, some l => match getK l kk with
    | some x => bnd mv (fun y s' => match f x y, getDk s' o with
      | some z, some l' => if l'.length < sizeLine then some (.ok .nx (setDk s' o (putKD l' kk z))) else none
      | _, _ => none) s
    | none => none
  | _, _ => none
theorem ds_daugI {spos : Pos} (hu : X.A.units + 64 < cLine) (ho : DE X W a ta ma) (hi : DE X W b tb mb) (hv : DE X W value tv mv)
    (ha : ∀ ov iv new, augStore b ov iv new = (do holding [new, ov, iv] (setItem ov iv new); release [new, ov, iv] []; pure .next) := by intros; rfl) :
    DS X W (.AugAssign (.Subscript a b spos) .Add value pos) (sDAug ta tb tv rAdd) (mDAug addI ma mb mv) := ⟨ps_daug (by omega) ho.p hi.p hv.p in_add ha, by
  intro en io F H σ s o E R e' hx hq
  refine ho.s.step R e' hx fun d1 s1 v1 io1 F1 H1 l1 R1 r1 e1 hx1 => ?_
  refine hi.s.step R1 e1 hx1 fun d2 s2 v2 io2 F2 H2 l2 R2 r2 e2 hx2 => ?_
  split at e2
  · rename_i k l hk hl
    split at e2
    · rename_i x hxx
      obtain ⟨p, ws, rfl, hF, hH, rx, hput⟩ := R2.getDk hl (rep_le l2 _ _ r1)
      have ek := keyD_rep hk r2
      rcases kreps_get k rx with ⟨d, w, g1, g2, g3⟩ | ⟨g1, _⟩
      · rw [hxx] at g1
        cases g1
        refine ⟨p, w, rfl, .inl ⟨ws, kk k, .inl hH, ek, g2.symm⟩, ?_⟩
        refine hv.s.step R2 e2 hx2 fun d3 s3 v3 io3 F3 H3 l3 R3 r3 e3 hx3 => ?_
        split at e3
        · rename_i z l' hz hl'
          split at e3
          · rename_i hc
            cases e3
            obtain ⟨p', ws', e5, hF', hH', rx', hput'⟩ := R3.getDk hl' (rep_le (l2.trans l3) _ _ r1)
            cases e5
            unfold addI fI at hz
            split at hz
            · rename_i i j
              cases hz
              have hlen : ws'.length = l'.length := by
                have := congrArg List.length rx'.1
                simpa using this
              refine ⟨i, j, (show w = .int i from g3), (show v3 = .int j from r3), _, .inl ⟨ws', kk k, hH', ek, by rw [hlen]; exact hc, rfl⟩, hq _ _ rfl io3 F3 _ σ ((l1.trans l2).trans l3) (hput' _ _ (kreps_put (show rep X.K io3 F3 (.int (i + j)) (.int (i + j)) from rfl) rx'))⟩
            · cases hz
          · cases e3
        · cases e3
      · rw [hxx] at g1
        cases g1
    · cases e2
  · cases e2⟩
/-! ### {k: v, ..} with texts for keys -/
/-- the values; ks: the keys -/
noncomputable def mDDisp (ks : List (List Nat)) (ml : M (List D)) : M D := bnd mDNew fun o => bnd ml fun vs => fun s => match getDk s o with
  | some [] => if vs.length = ks.length ∧ ks.Nodup ∧ ks.length ≤ 15 then some (.ok o (setDk s o ((ks.map Sum.inr).zip vs))) else none
  | _ => none
structure DP (X : Cx) (W : WX) (pos : Pos) (keys : List (Option Expr)) (values : List Expr) (trs : List (TE × TE)) (ks : List (List Nat)) (ml : M (List D)) : Prop where
  p : PPs X pos keys values trs
  s : ∀ (en : Ent) (io : List Addr) (F H : Hp) (σ : L2.St) (s : A) (o : O (List D)) (Q : List (V × V) → Hp → Prop), Rel X.K en io F H σ s → ml s = some o → PostX X.K X.mg W en io F o →
    (∀ ds s', o = .ok ds s' → ∀ vs io' F' H', Le io F io' F' → Rel X.K en io' F' H' σ s' → reps X.K io' F' ds vs → Q ((ks.map fun k => V.str ⟨k.toArray⟩).zip vs) H') → tPairs trs σ H Q
theorem dp_nil : DP X W pos [] [] [] [] mNil := ⟨pps_nil, fun en io F H σ s o Q R e hx hq => by
  cases e
  exact hq _ _ rfl [] io F H (Le.refl _ _) R rfl⟩
theorem dp_cons {k v : Expr} {keys : List (Option Expr)} {values : List Expr} {trs : List (TE × TE)} {ks : List (List Nat)} (c : List Nat) (hk : PE X k (tC (.str ⟨c.toArray⟩))) (hv : DE X W v tv mv) (hr : DP X W pos keys values trs ks ml) :
    DP X W pos (some k :: keys) (v :: values) ((tC (.str ⟨c.toArray⟩), tv) :: trs) (c :: ks) (mCons mv ml) := ⟨pps_cons hk hv.p hr.p, fun en io F H σ s o Q R e hx hq => by
  show tv σ H fun y H2 => tPairs trs σ H2 fun ps H3 => Q ((V.str ⟨c.toArray⟩, y) :: ps) H3
  refine hv.s.step R e hx fun d s1 v1 io1 F1 H1 l1 R1 r1 e1 hx1 => ?_
  rcases bnd_some e1 with ⟨a, s', g1, g2⟩ | ⟨x, s', g1, g2⟩
  · cases g2
    exact hr.s en io1 F1 H1 σ s1 _ _ R1 g1 trivial fun ds s2 e2 vs io2 F2 H2 l2 R2 r2 => by
      cases e2
      exact hq _ _ rfl (v1 :: vs) io2 F2 H2 (l1.trans l2) R2 ⟨v1, vs, rfl, rep_le l2 _ _ r1, r2⟩
  · subst g2
    exact hr.s en io1 F1 H1 σ s1 _ _ R1 g1 hx1 fun ds s2 e2 => by cases e2⟩
theorem putK_new {κ : Type} [DecidableEq κ] {v : V} {k : Key} : ∀ {acc : List (Key × V)}, k ∉ acc.map (·.1) → putK acc k v = acc ++ [(k, v)] := by
  intro acc h
  unfold putK
  rw [if_neg]
  intro z
  rw [List.any_eq_true] at z
  obtain ⟨p, hp, e⟩ := z
  refine h (List.mem_map.mpr ⟨p, hp, ?_⟩)
  simpa using e
theorem mergeK_new : ∀ {more acc : List (Key × V)}, ((acc ++ more).map (·.1)).Nodup → mergeK acc more = acc ++ more
  | [], acc, _ => by
    rw [List.append_nil]
    rfl
  | (k, v) :: more, acc, h => by
    have hk : k ∉ acc.map (·.1) := by
      intro z
      rw [List.map_append, List.nodup_append] at h
      exact h.2.2 k z k (by simp) rfl
    show mergeK (putK acc k v) more = _
    rw [putK_new (κ := Key) hk, mergeK_new (by rw [List.append_assoc]; exact h), List.append_assoc]
    rfl
theorem zip_map1 {α β γ δ : Type} (f : α → β) (h : β → γ) : ∀ (ks : List α) (vs : List δ), (ks.map fun k => h (f k)).zip vs = ((ks.map f).zip vs).map fun p => (h p.1, p.2)
  | [], vs => by simp
  | k :: ks, [] => by simp
  | k :: ks, v :: vs => by
    show (h (f k), v) :: (ks.map fun k => h (f k)).zip vs = (h (f k), v) :: ((ks.map f).zip vs).map fun p => (h p.1, p.2)
    rw [zip_map1 f h ks vs]
theorem de_ddisp {keys : List (Option Expr)} {values : List Expr} {trs : List (TE × TE)} {ks : List (List Nat)} (h : DP X W pos keys values trs ks ml) (hall : keys.all (·.isSome) = true := by rfl) (hl : keys.length = values.length := by rfl) (h0 : keys ≠ [] := by exact List.cons_ne_nil _ _)
    (h15 : keys.length ≤ 15 := by decide) : DE X W (.Dict keys values pos) (tDisp trs) (mDDisp ks ml) := ⟨pe_disp h.p hall hl h0 h15, by
  intro en io F H σ s o Q R e hx hq p hp
  obtain ⟨R2, l2, r2⟩ := R.hnew (ho := .dK []) (o := .dk []) hp ⟨R.h.ex.none_of hp, [], upd_same, rfl, rfl⟩
  have e' : bnd ml (fun vs => fun s' : A => match getDk s' (.ref s.hp.length) with
    | some [] => if vs.length = ks.length ∧ ks.Nodup ∧ ks.length ≤ 15 then some (.ok (D.ref s.hp.length) (setDk s' (.ref s.hp.length) ((ks.map Sum.inr).zip vs))) else none
    | _ => none) { s with hp := s.hp ++ [.dk []] } = some o := e
  have step : ∀ ds s3 vs io3 F3 H3, Le (io ++ [p]) F io3 F3 → Rel X.K en io3 F3 H3 σ s3 → reps X.K io3 F3 ds vs → (match getDk s3 (.ref s.hp.length) with
    | some [] => if ds.length = ks.length ∧ ks.Nodup ∧ ks.length ≤ 15 then some (O.ok (D.ref s.hp.length) (setDk s3 (.ref s.hp.length) ((ks.map Sum.inr).zip ds))) else none
    | _ => none) = some o → H3 p = some (.dK []) ∧ ∃ kvs : List (Key × V), ((ks.map fun k => V.str ⟨k.toArray⟩).zip vs) = kvs.map (fun kv => (kV kv.1, kv.2)) ∧ kvs.length ≤ 15 ∧ Q (.ref p) (upd H3 p (.dK (mergeK [] kvs))) := by
    intro ds s3 vs io3 F3 H3 l3 R3 r3 e3
    split at e3
    · rename_i hd
      split at e3
      · rename_i hc
        cases e3
        obtain ⟨p', ws, ep, hF, hH, rx, hput⟩ := R3.getDk hd (rep_le l3 _ _ r2)
        cases ep
        have hws : ws = [] := by
          have := rx.1
          exact List.map_eq_nil_iff.mp this
        subst hws
        have hvl : vs.length = ks.length := by rw [reps_len r3]; exact hc.1
        refine ⟨hH, (ks.map fun k => kk (Sum.inr k)).zip vs, ?_, ?_, ?_⟩
        · exact zip_map1 (fun k => kk (Sum.inr k)) kV ks vs
        · rw [List.length_zip, List.length_map]
          omega
        · have nd : ((ks.map fun k => kk (Sum.inr k)).zip vs).map (·.1) = ks.map fun k => kk (Sum.inr k) := List.map_fst_zip (by rw [List.length_map]; omega)
          rw [mergeK_new (by
            rw [List.nil_append, nd]
            refine List.Pairwise.map _ (fun a b hab hk => hab ?_) hc.2.1
            have : (⟨a.toArray⟩ : Str) = ⟨b.toArray⟩ := Sum.inr.inj hk
            have := congrArg (fun x : Str => x.cps.toList) this
            simpa using this), List.nil_append]
          refine hq _ _ rfl (.ref p) io3 F3 _ (l2.trans l3) (hput _ _ ⟨?_, ?_⟩) (rep_le l3 _ _ r2)
          · rw [nd]
            have : (((ks.map Sum.inr).zip ds).map fun p : KK × D => kk p.1) = (ks.map Sum.inr).map kk := by
              have h1 := congrArg (List.map kk) (List.map_fst_zip (l₁ := (ks.map Sum.inr : List KK)) (l₂ := ds) (by rw [List.length_map]; omega))
              rw [List.map_map] at h1
              exact h1
            rw [this, List.map_map]
            rfl
          · rw [List.map_snd_zip (by rw [List.length_map]; omega), List.map_snd_zip (by rw [List.length_map]; omega)]
            exact r3
      · cases e3
    · cases e3
  rcases bnd_some e' with ⟨a, s', g1, g2⟩ | ⟨x, s', g1, g2⟩
  · exact h.s en _ F _ σ _ _ _ R2 g1 trivial fun ds s2 e2 vs io2 F2 H2 l3 R3 r3 => by
      cases e2
      exact step a s' vs io2 F2 H2 l3 R3 r3 g2
  · subst g2
    exact h.s en _ F _ σ _ _ _ R2 g1 (hx.le _ _ _ l2) fun ds s2 e2 => by cases e2⟩
/-! ### min of a list of numbers -/
def minI : List Int → Int
  | [] => 0
  | [x] => x
  | x :: y :: l => if x < minI (y :: l) then x else minI (y :: l)
theorem minI_is : ∀ {l : List Int}, l ≠ [] → minI l ∈ l ∧ ∀ a ∈ l, minI l ≤ a
  | [], h => absurd rfl h
  | [x], _ => ⟨List.mem_cons_self, fun a ha => by
    rw [List.mem_singleton.mp ha]
    exact Int.le_refl _⟩
  | x :: y :: l, _ => by
    have ih := minI_is (l := y :: l) (List.cons_ne_nil _ _)
    unfold minI
    split
    · refine ⟨List.mem_cons_self, fun a ha => ?_⟩
      rcases List.mem_cons.mp ha with rfl | ha
      · exact Int.le_refl _
      · have := ih.2 a ha
        omega
    · refine ⟨List.mem_cons_of_mem _ ih.1, fun a ha => ?_⟩
      rcases List.mem_cons.mp ha with rfl | ha
      · omega
      · exact ih.2 a ha
def minLF : List D → Option D
  | [.lst l] => match intsD l with
    | some (x :: ns) => some (.int (minI (x :: ns)))
    | _ => none
  | _ => none
theorem b_minL (hc : X.calm = true) : CallOk X (.builtin "min") (rMin X.K) minLF := ⟨cr_min hc, calld_val fun io F H vs ds d Q ex rx e k => by
  match ds, e with
  | [.lst l], e =>
    obtain ⟨v, rfl, p, xs, rfl, h, r⟩ := reps1 rx
    have e' : (match intsD l with | some (x :: ns) => some (D.int (minI (x :: ns))) | _ => none) = some d := e
    split at e'
    · rename_i x ns h1
      cases e'
      refine ⟨p, x :: ns, rfl, .of (ints_reps h1 r ▸ ex p _ h), Nat.succ_pos _, fun m h2 h3 => ?_⟩
      have hm := minI_is (l := x :: ns) (List.cons_ne_nil _ _)
      have e2 : m = minI (x :: ns) := by
        have := h3 _ hm.1
        have := hm.2 _ h2
        omega
      rw [e2]
      exact k _ fun _ _ _ => rfl
    · cases e'⟩
theorem kb_minL (K : PySem.W.Frag) (hc : X.calm = true) (hK : X.K = K := by rfl) : CallOk X (.builtin "min") (rMin K) minLF := by subst hK; exact b_minL hc
end
end Z
/-! Z22: zip of two lists; keys of a dict display -/
namespace Z
open PySem PySem.Spec PyProof.Rows L2
open Classical
def ziLF : List D → Option (List D)
  | [.lst x, .lst y] => some (zipD x y)
  | _ => none
section
variable {X : Cx} {W : WX} {pos : Pos} {K : PySem.W.Frag} {mg : Str → Option Value} {tg a b c e elt iter : Expr} {es ifs : List Expr} {ta tb tc te tv : TE} {ma mb mc me mv mk : M D} {tl : TA} {ml : M (List D)} {en : Ent} {io : List Addr} {F H : Hp} {σ : L2.St} {s : A}
theorem zipD_get {x y : List D} {i : Nat} {d : D} (h : (zipD x y)[i]? = some d) : ∃ p q, x[i]? = some p ∧ y[i]? = some q ∧ d = .tup [p, q] := by
  unfold zipD at h
  rw [List.getElem?_map] at h
  obtain ⟨⟨p, q⟩, h1, rfl⟩ := Option.map_eq_some_iff.mp h
  rw [List.getElem?_zip_eq_some] at h1
  exact ⟨p, q, h1.1, h1.2, rfl⟩
theorem di_ziL {elts : List Expr} {kk : Nat} {tpos p : Pos} {e2 : Expr} (hg : Gl X "zip") (hm : X.mg "zip" = none) (ha : DA X W [e, e2] tl ml) (hs : starEach [e, e2] X.env = (false, eval e X.env) :: starEach [e2] X.env := by rfl) (hpl : (backTo pos (starEach [e2] X.env)).any (·.1) = false := by rfl) :
    DI X W (.Tuple elts kk tpos) (.Call (.Name "zip" p) [e, e2] [] pos) (iZip X.K tl) (mItA ziLF ml) := ⟨pi_zip hg hm ha.p hs hpl, by
  intro en io F H σ s o Q R e hx hq
  refine ha.s.step R e hx fun d s1 v io1 F1 H1 l1 R1 r1 e1 hx1 => ?_
  obtain ⟨z, e2, e3⟩ := lft_some e1
  match d, e2 with
  | [.lst x, .lst y], e2 =>
    obtain ⟨v, w, rfl, r, r'⟩ := reps2 r1
    cases e2
    obtain ⟨p1, xs, rfl, h, hr⟩ := r
    obtain ⟨p2, ys, rfl, h', hr'⟩ := r'
    have hs : SqL X.K F1 p1 xs := .of h
    have hs' : SqL X.K F1 p2 ys := .of h'
    refine ⟨p1, p2, xs, ys, rfl, R1.h.ex.l hs, R1.h.ex.l hs', hq _ _ e3 _ io1 F1 H1 l1 R1 fun i en2 io2 F2 H2 σ2 s2 l2 R2 => ⟨fun d hd => ?_, fun hi => ?_⟩⟩
    · obtain ⟨a, b, g1, g2, rfl⟩ := zipD_get hd
      obtain ⟨u, h1, h2⟩ := reps_get hr g1
      obtain ⟨u', h1', h2'⟩ := reps_get hr' g2
      refine ⟨⟨xs, ys, u, u', R2.h.ex.l (l2.ex.l hs), R2.h.ex.l (l2.ex.l hs'), h1, h1'⟩, fun y H3 hy => ?_⟩
      obtain ⟨T, x', y', rfl, hT, rfl, q1, q2⟩ := hy
      have c1 := q1 xs (R2.h.ex.l (l2.ex.l hs))
      have c2 := q2 ys (R2.h.ex.l (l2.ex.l hs'))
      rw [h1] at c1
      rw [h1'] at c2
      cases c1
      cases c2
      obtain ⟨R3, l3⟩ := R2.new hT (.tup [u, u'])
      exact ⟨_, l3, R3, T, [u, u'], rfl, .inl (.inl upd_same), u, _, rfl, rep_le (l2.trans l3) _ _ h2, u', _, rfl, rep_le (l2.trans l3) _ _ h2', rfl⟩
    · have e1 := reps_len hr
      have e2 := reps_len hr'
      refine ⟨xs, ys, R2.h.ex.l (l2.ex.l hs), R2.h.ex.l (l2.ex.l hs'), ?_⟩
      have : i = min x.length y.length := by
        rw [hi]
        unfold zipD
        rw [List.length_map, List.length_zip]
      omega⟩
theorem ki_ziL (K : PySem.W.Frag) {elts : List Expr} {kk : Nat} {tpos p : Pos} {e2 : Expr} (hg : Gl X "zip") (hm : X.mg "zip" = none) (ha : DA X W [e, e2] tl ml) (hK : X.K = K := by rfl) (hs : starEach [e, e2] X.env = (false, eval e X.env) :: starEach [e2] X.env := by rfl) (hpl : (backTo pos (starEach [e2] X.env)).any (·.1) = false := by rfl) :
    DI X W (.Tuple elts kk tpos) (.Call (.Name "zip" p) [e, e2] [] pos) (iZip K tl) (mItA ziLF ml) := by
  subst hK
  exact di_ziL hg hm ha hs hpl
theorem dp_consE {k v : Expr} {keys : List (Option Expr)} {values : List Expr} {trs : List (TE × TE)} {ks : List (List Nat)} (c : List Nat) (hk : DE X W k (tC (.str ⟨c.toArray⟩)) mk) (hv : DE X W v tv mv) (hr : DP X W pos keys values trs ks ml) :
    DP X W pos (some k :: keys) (v :: values) ((tC (.str ⟨c.toArray⟩), tv) :: trs) (c :: ks) (mCons mv ml) := dp_cons c hk.p hv hr
end
end Z
/-! Z23: objects of the program's own classes: attributes, methods, making -/
namespace Z
open PySem PySem.Spec PyProof.Rows L2
open Classical
def putD (f : Str) (v : D) : List (Str × D) → List (Str × D)
  | [] => [(f, v)]
  | (g, x) :: r => if g = f then (g, v) :: r else (g, x) :: putD f v r
section
variable {K : PySem.W.Frag} {io io' : List Addr} {F F' H : Hp}
theorem freps_cons {p : Str × D} {fs : List (Str × D)} {ws : List (Str × V)} (h : FReps K io F (p :: fs) ws) : ∃ v t, ws = (p.1, v) :: t ∧ rep K io F p.2 v ∧ FReps K io F fs t := by
  obtain ⟨h1, h2⟩ := h
  cases ws with
  | nil => cases h1
  | cons w t =>
    obtain ⟨k, v⟩ := w
    rw [List.map_cons, List.map_cons] at h1
    injection h1 with h3 h4
    obtain ⟨x, r, e, r1, r2⟩ := h2
    rw [List.map_cons] at e
    injection e with e1 e2
    have h3' : k = p.1 := h3
    subst h3'
    exact ⟨v, t, rfl, by rw [show v = x from e1]; exact r1, h4, by rw [e2]; exact r2⟩
theorem freps_mk {p : Str × D} {fs : List (Str × D)} {v : V} {t : List (Str × V)} (r : rep K io F p.2 v) (h : FReps K io F fs t) : FReps K io F (p :: fs) ((p.1, v) :: t) :=
  ⟨by rw [List.map_cons, List.map_cons, h.1], ⟨v, t.map (·.2), rfl, r, h.2⟩⟩
theorem FReps.nil_ws {ws : List (Str × V)} (h : FReps K io F [] ws) : ws = [] := by
  cases ws with
  | nil => rfl
  | cons w t => cases h.1
theorem FReps.len {fs : List (Str × D)} {ws : List (Str × V)} (h : FReps K io F fs ws) : ws.length = fs.length := by
  have := congrArg List.length h.1
  simpa using this
theorem freps_get (f : Str) : ∀ {fs : List (Str × D)} {ws : List (Str × V)}, FReps K io F fs ws → (∃ d v, fs.lookup f = some d ∧ ws.lookup f = some v ∧ rep K io F d v) ∨ (fs.lookup f = none ∧ ws.lookup f = none)
  | [], ws, h => by
    rw [h.nil_ws]
    exact .inr ⟨rfl, rfl⟩
  | p :: fs, ws, h => by
    obtain ⟨v, t, rfl, r, h'⟩ := freps_cons h
    have ih := freps_get f h'
    obtain ⟨g, d⟩ := p
    rw [List.lookup_cons, List.lookup_cons]
    by_cases e : (f == g) = true
    · simp only [e]
      exact .inl ⟨d, v, rfl, rfl, r⟩
    · simp only [Bool.not_eq_true] at e
      simp only [e]
      exact ih
theorem freps_put {f : Str} {d : D} {v : V} (rd : rep K io F d v) : ∀ {fs : List (Str × D)} {ws : List (Str × V)}, FReps K io F fs ws → FReps K io F (putD f d fs) (putF f v ws)
  | [], ws, h => by
    rw [h.nil_ws]
    exact freps_mk (p := (f, d)) rd ⟨rfl, rfl⟩
  | p :: fs, ws, h => by
    obtain ⟨u, t, rfl, r, h'⟩ := freps_cons h
    have ih := freps_put (f := f) rd h'
    obtain ⟨g, x⟩ := p
    unfold putD putF
    by_cases e : g = f
    · rw [if_pos e, if_pos e]
      exact freps_mk (p := (g, d)) rd h'
    · rw [if_neg e, if_neg e]
      exact freps_mk (p := (g, x)) r ih
end
/-- the attributes of an object of the class c -/
def getI (s : A) (c : Str) (d : D) : Option (List (Str × D)) := match d with
  | .ref r => match s.hp[r]? with
    | some (.ins c' fs) => if c' = c then some fs else none
    | _ => none
  | _ => none
def setI (s : A) (c : Str) (d : D) (fs : List (Str × D)) : A := match d with
  | .ref r => { s with hp := s.hp.set r (.ins c fs) }
  | _ => s
section
variable {X : Cx} {W : WX} {pos : Pos} {K : PySem.W.Frag} {mg : Str → Option Value} {a b e o value : Expr} {es : List Expr} {ta tb te tv : TE} {ma mb me mo mv : M D} {tl : TA} {ml : M (List D)} {en : Ent} {io : List Addr} {F H : Hp} {σ : L2.St} {s : A} {c f : Str}
theorem Rel.getI (R : Rel K en io F H σ s) {d : D} {v : V} {fs : List (Str × D)} (h : getI s c d = some fs) (r : rep K io F d v) : ∃ p C dx ws, v = .ref p ∧ F p = none ∧ H p = some (.ins C dx ws) ∧ PySem.W.nsIn K mainGlobals c = some (some (.ref C)) ∧ FReps K io F fs ws ∧
    ∀ fs' ws', FReps K io F fs' ws' → Rel K en io F (upd H p (.ins C dx ws')) σ (setI s c d fs') := by
  match d, h with
  | .ref k, h =>
    unfold Z.getI at h
    simp only at h
    split at h
    · rename_i c' fs' h'
      split at h
      · rename_i hc
        cases h
        subst hc
        obtain ⟨p, rfl, hp⟩ := r
        obtain ⟨hF, C, dx, ws, hH, hn, rx⟩ := R.h.ids k p _ hp h'
        exact ⟨p, C, dx, ws, rfl, hF, hH, hn, rx, fun fs' ws' ry => R.hput h' hp hF ⟨hF, C, dx, ws', upd_same, hn, ry⟩⟩
      · cases h
    · cases h
/-- o.f -/
def mFld (c f : Str) (mo : M D) : M D := bnd mo fun o s => match getI s c o with
  | some fs => match fs.lookup f with
    | some d => some (.ok d s)
    | none => none
  | none => none
theorem de_fld (hc : ∀ C, PySem.W.nsIn X.K mainGlobals c = some (some (.ref C)) → Cls X.K C ∧ NoAttr X.K C f) (he : DE X W e te me) (hb : attributeBase e f X.env (eval e X.env) = eval e X.env := by rfl) :
    DE X W (.Attribute e f pos) (tFld X.K te f) (mFld c f me) := ⟨pe_fld he.p hb, by
  intro en io F H σ s o Q R e hx hq
  refine he.s.step R e hx fun d s1 v io1 F1 H1 l1 R1 r1 e1 hx1 => ?_
  split at e1
  · rename_i fs hfs
    split at e1
    · rename_i z hz
      cases e1
      obtain ⟨p, C, dx, ws, rfl, hF, hH, hn, rx, _⟩ := R1.getI hfs r1
      rcases freps_get f rx with ⟨d', w, g1, g2, g3⟩ | ⟨g1, _⟩
      · rw [hz] at g1
        cases g1
        exact ⟨p, C, dx, ws, w, rfl, hH, (hc C hn).1, (hc C hn).2, g2, hq _ _ rfl w io1 F1 H1 l1 R1 g3⟩
      · rw [hz] at g1
        cases g1
    · cases e1
  · cases e1⟩
/-- o.f = v -/
def mSFld (c f : Str) (mv mo : M D) : M Fl := bnd mv fun v => bnd mo fun o s => match getI s c o with
  | some fs => if fs.length < 1000 then some (.ok .nx (setI s c o (putD f v fs))) else none
  | none => none
theorem ds_fld {pos' : Pos} (hc : ∀ C, PySem.W.nsIn X.K mainGlobals c = some (some (.ref C)) → Cls X.K C ∧ NoAttr X.K C f) (hv : DE X W value tv mv) (ho : DE X W o ta mo) (hs : swapsWith value (some (.Attribute o f pos')) pos.line X.env = pure false := by rfl) :
    DS X W (.Assign [.Attribute o f pos'] value pos) (sFld X.K ta tv f) (mSFld c f mv mo) := ⟨ps_fld ho.p hv.p hs, by
  intro en io F H σ s o E R e hx hq
  refine hv.s.step R e hx fun d s1 v io1 F1 H1 l1 R1 r1 e1 hx1 => ?_
  refine ho.s.step R1 e1 hx1 fun d2 s2 v2 io2 F2 H2 l2 R2 r2 e2 hx2 => ?_
  split at e2
  · rename_i fs hfs
    split at e2
    · rename_i hl
      cases e2
      obtain ⟨p, C, dx, ws, rfl, hF, hH, hn, rx, hput⟩ := R2.getI hfs r2
      exact ⟨p, C, dx, ws, rfl, hH, (hc C hn).1, (hc C hn).2, by rw [rx.len]; exact hl, hq _ _ rfl io2 F2 _ σ (l1.trans l2) (hput _ _ (freps_put (rep_le l2 _ _ r1) rx))⟩
    · cases e2
  · cases e2⟩
/-- o.f op= v -/
def mSFldA (c f : Str) (g : D → D → Option D) (mo mv : M D) : M Fl := bnd mo fun o => fun s => match getI s c o with
  | some fs => match fs.lookup f with
    | some x => bnd mv (fun y s' => match g x y, getI s' c o with
      | some z, some fs' => if fs'.length < 1000 then some (.ok .nx (setI s' c o (putD f z fs'))) else none
      | _, _ => none) s
    | none => none
  | none => none
theorem inop_of {op : Operator} {r : R2} (h : OpR X (inplaceOp op) r) : InOp X op (fun x y H Q => r x y H Q) := fun pins s σ H x y u v Q I rx ry q => h pins s σ H x y u v Q I rx ry q
theorem ds_fldA {op : Operator} {r : R2} {g : D → D → Option D} {tpos : Pos} (hc : ∀ C, PySem.W.nsIn X.K mainGlobals c = some (some (.ref C)) → Cls X.K C ∧ NoAttr X.K C f) (hop : OpOk X (inplaceOp op) r g) (ho : DE X W o ta mo) (hv : DE X W value tv mv) :
    DS X W (.AugAssign (.Attribute o f tpos) op value pos) (sFldAug X.K ta tv (fun x y H Q => r x y H Q) f) (mSFldA c f g mo mv) := ⟨ps_fldaug ho.p hv.p (inop_of hop.p), by
  intro en io F H σ s o E R e' hx hq
  refine ho.s.step R e' hx fun d1 s1 v1 io1 F1 H1 l1 R1 r1 e1 hx1 => ?_
  split at e1
  · rename_i fs hfs
    split at e1
    · rename_i x hxx
      obtain ⟨p, C, dx, ws, rfl, hF, hH, hn, rx, _⟩ := R1.getI hfs r1
      rcases freps_get f rx with ⟨d, w, g1, g2, g3⟩ | ⟨g1, _⟩
      · rw [hxx] at g1
        cases g1
        refine ⟨p, C, dx, ws, w, rfl, hH, (hc C hn).1, (hc C hn).2, g2, ?_⟩
        refine hv.s.step R1 e1 hx1 fun d3 s3 v3 io3 F3 H3 l3 R3 r3 e3 hx3 => ?_
        split at e3
        · rename_i z fs' hz hfs'
          split at e3
          · rename_i hl
            cases e3
            refine hop.s en io3 F3 H3 σ s3 w v3 x d3 z _ R3 (rep_le l3 _ _ g3) r3 hz fun w4 io4 F4 H4 l4 R4 r4 => ?_
            obtain ⟨p', C', dx', ws', e5, hF', hH', hn', rx', hput'⟩ := R4.getI hfs' (rep_le (l3.trans l4) _ _ r1)
            cases e5
            have eC : C' = C := by
              rw [hn] at hn'
              cases hn'
              rfl
            subst eC
            exact ⟨dx', ws', hH', by rw [rx'.len]; exact hl, hq _ _ rfl io4 F4 _ σ ((l1.trans l3).trans l4) (hput' _ _ (freps_put r4 rx'))⟩
          · cases e3
        · cases e3
      · rw [hxx] at g1
        cases g1
    · cases e1
  · cases e1⟩
end
/-- a method that does what n says -/
structure CalM (P : Program) (w : World) (K : PySem.W.Frag) (mg : Str → Option Value) (base : Heap) (c m qual : Str) (st : Stmt) (ps : List Str) (k np : Nat) (n : Fn) : Prop where
  ex : ∃ f fd, (∀ C, PySem.W.nsIn K mainGlobals c = some (some (.ref C)) → Cls K C ∧ Meth K C m f) ∧ Fun K m qual st f fd ∧ Binds K fd ps [] ∧ FnG P w K mg base k f fd ps (spD K mg np n)
section
variable {P : Program} {w : World} {K : PySem.W.Frag} {mg : Str → Option Value} {base : Heap} {c m qual : Str} {st : Stmt} {ps : List Str} {k np : Nat} {n n' : Fn}
theorem CalM.imp (cl : CalM P w K mg base c m qual st ps k np n) (h : ∀ ds hp r, ds.length = np → n' ds hp = some r → n ds hp = some r) : CalM P w K mg base c m qual st ps k np n' := by
  obtain ⟨f, fd, h1, h2, h3, o⟩ := cl.ex
  exact ⟨f, fd, h1, h2, h3, okD_imp o h⟩
theorem calM {f : Addr} {fd : FuncData} {N : List Str} {mm : M Fl} (hm : ∀ C, PySem.W.nsIn K mainGlobals c = some (some (.ref C)) → Cls K C ∧ Meth K C m f) (Fk : Fun K m qual st f fd) (bd : Binds K fd ps []) (S : FnScope N ps (defScope st)) (hp : ps.length = np)
    (hb : ∀ (cdv : Value) (A : Around) (outer : List Env) (s : Shared) (H : Hp) (E : XK), RoomG k (A.deeper (PyProof.Rows.envOfC qual (defScope st) s.heap.objs.size f cdv)) →
      ∃ t, DSs (cxOf (L2.CX P w) P w K mg base N qual (defScope st) f cdv A outer s H E) (fun c d _ H => E c d H) (defBody st) t mm) :
    CalM P w K mg base c m qual st ps (k + 1) np (fnOf N.length mm) := by
  subst hp
  exact ⟨f, fd, hm, Fk, bd, okD Fk S hb⟩
end
/-- o.m(..) -/
def mMeth (c m : Str) (np : Nat) (n : Fn) (mo : M D) (ml : M (List D)) : M D := bnd mo fun o => fun s => match getI s c o with
  | some fs => match fs.lookup m with
    | none => bnd ml (fun ds s' => if ds.length + 1 = np then ofFR (n (o :: ds) s'.hp) s' else none) s
    | some _ => none
  | none => none
/-- what is asked of a method call -/
def tMethD (c m : Str) (sp : Sp) (E : L2.St → XK) (ta : TE) (t : TA) (K : PySem.W.Frag) : TE := fun σ H Q => ta σ H fun x H1 => ∃ a C dx fs, x = .ref a ∧ H1 a = some (.ins C dx fs) ∧ PySem.W.nsIn K mainGlobals c = some (some (.ref C)) ∧ fs.lookup m = none ∧ t σ H1 fun vs H2 => sp (x :: vs) H2 Q (E σ)
section
variable {X : Cx} {W : WX} {pos apos : Pos} {e o : Expr} {es : List Expr} {ta : TE} {mo : M D} {tl : TA} {ml : M (List D)} {c m qual : Str} {st : Stmt} {ps : List Str} {k np : Nat} {n : Fn} {pl : Sem Bool}
theorem sem_meth {t : TA} {ml : M (List D)} (ho : SemE X.K X.mg W ta mo) (ha : SemA X.K X.mg W t ml) : SemE X.K X.mg W (tMethD c m (spD X.K X.mg np n) (fun σ c d H => W c d σ H) ta t X.K) (mMeth c m np n mo ml) := by
  intro en io F H σ s o Q R e hx hq
  refine ho.step R e hx fun d s1 v io1 F1 H1 l1 R1 r1 e1 hx1 => ?_
  split at e1
  · rename_i fs hfs
    split at e1
    · rename_i hno
      obtain ⟨p, C, dx, ws, rfl, hF, hH, hn, rx, _⟩ := R1.getI hfs r1
      rcases freps_get m rx with ⟨d', w, g1, _⟩ | ⟨_, g2⟩
      · rw [hno] at g1
        cases g1
      · refine ⟨p, C, dx, ws, rfl, hH, hn, g2, ?_⟩
        refine ha.step R1 e1 hx1 fun ds s2 vs io2 F2 H2 l2 R2 r2 e2 hx2 => ?_
        exact sem_call (np := np) (n := n) (ds := d :: ds) R2 ⟨_, vs, rfl, rep_le l2 _ _ r1, r2⟩ hx2 e2 fun d2 s3 e3 w io3 F3 H3 l3 R3 r3 => hq d2 s3 e3 w io3 F3 H3 ((l1.trans l2).trans l3) R3 r3
    · cases e1
  · cases e1
theorem de_meth (cl : CalM X.prog X.w X.K X.mg X.base c m qual st ps k np n) (hr : RoomG k X.A) (tk : Takes X W) (ho : DE X W o ta mo) (ha : DA X W (e :: es) tl ml)
    (hst : starEach (e :: es) X.env = (false, eval e X.env) :: starEach es X.env := by rfl) (hpl : (backTo pos (starEach es X.env)).any (·.1) = false := by rfl)
    (ht : eval (.Call (.Attribute o m apos) (e :: es) [] pos) X.env = (do
      let ov ← eval o X.env
      standAt apos.atName
      let (f, first) ← holding [ov] (getMethod ov m pl)
      callWith pos f first (backTo pos (starEach (e :: es) X.env)) (backToKw pos (keywordEach [] X.env))) := by rfl) :
    DE X W (.Call (.Attribute o m apos) (e :: es) [] pos) (tMethD c m (spD X.K X.mg np n) (fun σ c d H => W c d σ H) ta tl X.K) (mMeth c m np n mo ml) := by
  obtain ⟨f, fd, hm, Fk, bd, og⟩ := cl.ex
  refine ⟨⟨fun pins s σ H Q I h => ?_⟩, sem_meth ho.s ha.s⟩
  refine PySem.W.methodCall_KW (pl := pl) (thn (ho.p.run pins s σ H _ I h) fun u s1 ⟨x, H1, I1, rx, a, C, dx, fs, ex, ea, hn, l, q⟩ => ?_) ht
  subst ex
  obtain rfl : u = Value.ref a := rx
  obtain ⟨hcl, hmt⟩ := hm C hn
  refine getmeth_ok I1 ea hcl hmt l ?_
  refine PySem.W.callWith_K (first := [.ref a]) (h₀ := X.base) I.ok.mod.kin hmt.kp (thn (ha.p.run pos pins s1 σ H1 _ I1 q) fun us s2 ⟨vs, H2, I2, r, q2⟩ => ⟨I2.kIn, ?_⟩) hst hpl
  exact run_fnG (args := ⟨.ref a :: us, []⟩) (us := .ref a :: us) (vs := .ref a :: vs) og hr (fun hl => by have := bd s2 (.ref a :: us) I2.kIn (by rw [List.append_nil]; exact hl); rwa [List.append_nil] at this) (passAt tk σ) I2 (.cons rfl r) q2
theorem de_meth0 (cl : CalM X.prog X.w X.K X.mg X.base c m qual st ps k np n) (hr : RoomG k X.A) (tk : Takes X W) (ho : DE X W o ta mo)
    (ht : eval (.Call (.Attribute o m apos) [] [] pos) X.env = (do
      let ov ← eval o X.env
      standAt apos.atName
      let (f, first) ← holding [ov] (getMethod ov m pl)
      callWith pos f first (backTo pos (starEach [] X.env)) (backToKw pos (keywordEach [] X.env))) := by rfl) :
    DE X W (.Call (.Attribute o m apos) [] [] pos) (tMethD c m (spD X.K X.mg np n) (fun σ c d H => W c d σ H) ta tNil X.K) (mMeth c m np n mo mNil) := by
  obtain ⟨f, fd, hm, Fk, bd, og⟩ := cl.ex
  refine ⟨⟨fun pins s σ H Q I h => ?_⟩, sem_meth ho.s da_nil.s⟩
  refine PySem.W.methodCall_KW (pl := pl) (thn (ho.p.run pins s σ H _ I h) fun u s1 ⟨x, H1, I1, rx, a, C, dx, fs, ex, ea, hn, l, q⟩ => ?_) ht
  subst ex
  obtain rfl : u = Value.ref a := rx
  obtain ⟨hcl, hmt⟩ := hm C hn
  refine getmeth_ok I1 ea hcl hmt l ?_
  exact PySem.W.callWith_K0 (first := [.ref a]) I1.kIn hmt.kp (run_fnG (args := ⟨[.ref a], []⟩) (us := [.ref a]) (vs := [.ref a]) og hr (fun hl => by have := bd s1 [.ref a] I1.kIn (by rw [List.append_nil]; exact hl); rwa [List.append_nil] at this) (passAt tk σ) I1 (.cons rfl .nil) q)
end
/-! ### C(..) -/
/-- a class whose __init__ does what n says -/
structure CalK (P : Program) (w : World) (K : PySem.W.Frag) (mg : Str → Option Value) (base : Heap) (c qual : Str) (st : Stmt) (ps : List Str) (k np : Nat) (n : Fn) : Prop where
  ex : ∃ C f fd, mg c = some (.ref C) ∧ PySem.W.nsIn K mainGlobals c = some (some (.ref C)) ∧ Mk K C f ∧ Fun K "__init__" qual st f fd ∧ Binds K fd ps [] ∧ FnG P w K mg base k f fd ps (spD K mg np n)
section
variable {P : Program} {w : World} {K : PySem.W.Frag} {mg : Str → Option Value} {base : Heap} {c qual : Str} {st : Stmt} {ps : List Str} {k np : Nat} {n n' : Fn}
theorem CalK.imp (cl : CalK P w K mg base c qual st ps k np n) (h : ∀ ds hp r, ds.length = np → n' ds hp = some r → n ds hp = some r) : CalK P w K mg base c qual st ps k np n' := by
  obtain ⟨C, f, fd, h1, h2, h3, h4, h5, o⟩ := cl.ex
  exact ⟨C, f, fd, h1, h2, h3, h4, h5, okD_imp o h⟩
theorem calK {C f : Addr} {fd : FuncData} {N : List Str} {mm : M Fl} (h1 : mg c = some (.ref C)) (h2 : PySem.W.nsIn K mainGlobals c = some (some (.ref C))) (h3 : Mk K C f) (Fk : Fun K "__init__" qual st f fd) (bd : Binds K fd ps []) (S : FnScope N ps (defScope st)) (hp : ps.length = np)
    (hb : ∀ (cdv : Value) (A : Around) (outer : List Env) (s : Shared) (H : Hp) (E : XK), RoomG k (A.deeper (PyProof.Rows.envOfC qual (defScope st) s.heap.objs.size f cdv)) →
      ∃ t, DSs (cxOf (L2.CX P w) P w K mg base N qual (defScope st) f cdv A outer s H E) (fun c d _ H => E c d H) (defBody st) t mm) :
    CalK P w K mg base c qual st ps (k + 1) np (fnOf N.length mm) := by
  subst hp
  exact ⟨C, f, fd, h1, h2, h3, Fk, bd, okD Fk S hb⟩
end
def mMake (c : Str) (np : Nat) (n : Fn) (ml : M (List D)) : M D := bnd ml fun ds s => if ds.length + 1 = np then (match n (.ref s.hp.length :: ds) (s.hp ++ [.ins c []]) with
  | some (.ok .non hp') => some (.ok (.ref s.hp.length) { s with hp := hp' })
  | some (.ex e hp') => some (.ex e { s with hp := hp' })
  | _ => none) else none
def tMakeG (C : Addr) (sp : Sp) (E : L2.St → XK) (t : TA) : TE := fun σ H Q => t σ H fun vs H1 => ∀ x dx, H1 x = none → H1 dx = none → dx ≠ x →
  sp (.ref x :: vs) (upd (upd H1 dx (.own x)) x (.ins C dx [])) (fun v H2 => v = .non ∧ Q (.ref x) H2) (E σ)
section
variable {X : Cx} {W : WX} {pos p : Pos} {e : Expr} {es : List Expr} {tl : TA} {ml : M (List D)} {c qual : Str} {st : Stmt} {ps : List Str} {k np : Nat} {n : Fn} {C : Addr}
theorem run_makeG {f : Addr} {fd : FuncData} {sp : Sp} {E : XK} {pins : List (Addr × Obj)} {σ : L2.St} {H : Hp} {s : Shared} {Q : VK} {us : List Value} {vs : List V} (M : Mk X.K C f) (F : FnG X.prog X.w X.K X.mg X.base k f fd ps sp) (hr : RoomG (k + 1) X.A) (hk : k < 30) (hb : Binds X.K fd ps [])
    (hx : PassesAt (L2.CX X.prog X.w) X σ E) (I : Inv X pins σ H s) (r : Vals vs us)
    (h : ∀ x dx, H x = none → H dx = none → dx ≠ x → sp (.ref x :: vs) (upd (upd H dx (.own x)) x (.ins C dx [])) (fun v H2 => v = .non ∧ Q (.ref x) H2) E) :
    wpAny (model X.prog X.w) X.A (call (.ref C) us) (EP X pins σ Q) X.xe s := by
  have hq := h (s.heap.objs.size + 1) s.heap.objs.size (I.hok.fresh (Nat.le_succ _)) (I.hok.fresh (Nat.le_refl _)) (Nat.ne_of_lt (Nat.lt_succ_self _))
  have I2 := Inv.made (C := C) I
  have r2 : Vals (V.ref (s.heap.objs.size + 1) :: vs) (Value.ref (s.heap.objs.size + 1) :: us) := .cons rfl r
  have hl : (Value.ref (s.heap.objs.size + 1) :: us ++ []).length = ps.length := by
    rw [List.append_nil, ← r2.length]
    exact F.len _ _ _ _ hq
  have hbd : BindsTo { s with heap := (s.heap.push PySem.W.emptyDict).push (PySem.W.instObj C s.heap.objs.size) } fd ⟨Value.ref (s.heap.objs.size + 1) :: us, []⟩ (ps.zip (Value.ref (s.heap.objs.size + 1) :: us)) := by
    have := hb _ (Value.ref (s.heap.objs.size + 1) :: us) I2.kIn hl
    rwa [List.append_nil] at this
  refine wpAny_call (make_map (f := f) I.kIn M.makes M.init (beq_iff_eq.mp M.fn) (codeAny_mono (F.run _ X.stack _ _ ⟨Value.ref (s.heap.objs.size + 1) :: us, []⟩ (Value.ref (s.heap.objs.size + 1) :: us) _ _ E (RoomG.of (hr.r.make C us []) hk)
    (I2.env0.make C us []) hbd r2 hq) fun r s' hq' => ?_))
  cases r with
  | error e => exact hx pins _ _ e s' I2 hq'
  | ok fl =>
    cases fl with
    | ret u =>
      obtain ⟨v, H', I3, rv, ev, q3⟩ := I2.after hq'
      subst ev
      exact ⟨rv, ⟨V.ref (s.heap.objs.size + 1), H', I3, rfl, q3⟩⟩
    | next => exact False.elim hq'
    | brk => exact False.elim hq'
    | cont => exact False.elim hq'
theorem sem_make {t : TA} (ha : SemA X.K X.mg W t ml) (hn : PySem.W.nsIn X.K mainGlobals c = some (some (.ref C))) : SemE X.K X.mg W (tMakeG C (spD X.K X.mg np n) (fun σ c d H => W c d σ H) t) (mMake c np n ml) := by
  intro en io F H σ s o Q R e hx hq
  refine ha.step R e hx fun ds s1 vs io1 F1 H1 l1 R1 r1 e1 hx1 => ?_
  intro x dx hxn hdn hne
  split at e1
  · rename_i hl
    obtain ⟨R2, l2⟩ := R1.new hdn (.own x)
    have hx2 : upd H1 dx (.own x) x = none := by rw [upd_ne (Ne.symm hne)]; exact hxn
    obtain ⟨R3, l3, r3⟩ := R2.hnew (ho := .ins C dx []) (o := .ins c []) hx2 ⟨R2.h.ex.none_of hx2, C, dx, [], upd_same, hn, rfl, rfl⟩
    have lt := l2.trans l3
    split at e1
    · rename_i hp' h1
      cases e1
      refine ⟨io1 ++ [x], _, .ref s1.hp.length :: ds, s1.hp ++ [.ins c []], .ok .non hp', R3.h, ⟨.ref x, vs, rfl, r3, reps_le lt _ _ r1⟩, hl, h1, fun v io' F' H' xx rv => ⟨rv, ?_⟩⟩
      exact hq _ _ rfl (.ref x) io' F' H' ((l1.trans lt).trans xx.l) (R3.stp xx) (rep_le xx.l _ _ r3)
    · rename_i ex hp' h1
      cases e1
      refine ⟨io1 ++ [x], _, .ref s1.hp.length :: ds, s1.hp ++ [.ins c []], .ex ex hp', R3.h, ⟨.ref x, vs, rfl, r3, reps_le lt _ _ r1⟩, hl, h1, fun cls dd io' F' H' xx rv => ?_⟩
      exact hx1 cls dd io' F' H' σ (lt.trans xx.l) (R3.stp xx) rv
    · cases e1
  · cases e1
theorem de_make (cl : CalK X.prog X.w X.K X.mg X.base c qual st ps k np n) (hr : RoomG (k + 1) X.A) (hk : k < 30) (tk : Takes X W) (hg : Gl X c) (ha : DA X W (e :: es) tl ml)
    (hdb : (c == ("__debug__" : Str)) = false := by decide) (he : starEach (e :: es) X.env = (false, eval e X.env) :: starEach es X.env := by rfl) (hpl : (backTo pos (starEach es X.env)).any (·.1) = false := by rfl) :
    ∃ C, DE X W (.Call (.Name c p) (e :: es) [] pos) (tMakeG C (spD X.K X.mg np n) (fun σ c d H => W c d σ H) tl) (mMake c np n ml) := by
  obtain ⟨C, f, fd, hm, hn, M, Fk, bd, og⟩ := cl.ex
  refine ⟨C, ⟨fun pins s σ H Q I h => ?_⟩, sem_make ha.s hn⟩
  refine wpAny_Call_Name_kw (ld_glob I hg hm ?_ hdb)
  refine PySem.W.callWith_K (h₀ := X.base) I.ok.mod.kin M.kp (thn (ha.p.run pos pins s σ H _ I h) fun us s1 ⟨vs, H1, I1, r, q⟩ => ⟨I1.kIn, ?_⟩) he hpl
  exact run_makeG M og hr hk bd (passAt tk σ) I1 r q
end
/-! ### a property, read -/
structure CalP (P : Program) (w : World) (K : PySem.W.Frag) (mg : Str → Option Value) (base : Heap) (c m qual : Str) (st : Stmt) (ps : List Str) (k np : Nat) (n : Fn) : Prop where
  ex : ∃ p g fd, (∀ C, PySem.W.nsIn K mainGlobals c = some (some (.ref C)) → Cls K C ∧ PropOf K C m p g) ∧ Fun K m qual st g fd ∧ Binds K fd ps [] ∧ FnG P w K mg base k g fd ps (spD K mg np n)
section
variable {P : Program} {w : World} {K : PySem.W.Frag} {mg : Str → Option Value} {base : Heap} {c m qual : Str} {st : Stmt} {ps : List Str} {k np : Nat} {n n' : Fn}
theorem CalP.imp (cl : CalP P w K mg base c m qual st ps k np n) (h : ∀ ds hp r, ds.length = np → n' ds hp = some r → n ds hp = some r) : CalP P w K mg base c m qual st ps k np n' := by
  obtain ⟨p, f, fd, h1, h2, h3, o⟩ := cl.ex
  exact ⟨p, f, fd, h1, h2, h3, okD_imp o h⟩
theorem calP {p f : Addr} {fd : FuncData} {N : List Str} {mm : M Fl} (hm : ∀ C, PySem.W.nsIn K mainGlobals c = some (some (.ref C)) → Cls K C ∧ PropOf K C m p f) (Fk : Fun K m qual st f fd) (bd : Binds K fd ps []) (S : FnScope N ps (defScope st)) (hp : ps.length = np)
    (hb : ∀ (cdv : Value) (A : Around) (outer : List Env) (s : Shared) (H : Hp) (E : XK), RoomG k (A.deeper (PyProof.Rows.envOfC qual (defScope st) s.heap.objs.size f cdv)) →
      ∃ t, DSs (cxOf (L2.CX P w) P w K mg base N qual (defScope st) f cdv A outer s H E) (fun c d _ H => E c d H) (defBody st) t mm) :
    CalP P w K mg base c m qual st ps (k + 1) np (fnOf N.length mm) := by
  subst hp
  exact ⟨p, f, fd, hm, Fk, bd, okD Fk S hb⟩
end
/-- o.f, f a property -/
def mProp (c : Str) (np : Nat) (n : Fn) (mo : M D) : M D := bnd mo fun o s => match getI s c o with
  | some _ => if 1 = np then (match n [o] s.hp with
    | some (.ok d hp') => some (.ok d { s with hp := hp' })
    | _ => none) else none
  | none => none
def tPropD (c : Str) (sp : Sp) (ta : TE) (K : PySem.W.Frag) : TE := fun σ H Q => ta σ H fun x H1 => ∃ a C dx fs, x = .ref a ∧ H1 a = some (.ins C dx fs) ∧ PySem.W.nsIn K mainGlobals c = some (some (.ref C)) ∧ sp [.ref a] H1 Q fun _ _ _ => False
section
variable {X : Cx} {W : WX} {pos : Pos} {e : Expr} {ta : TE} {me : M D} {c m qual : Str} {st : Stmt} {ps : List Str} {k np : Nat} {n : Fn}
theorem getpropG {C p g a dx : Addr} {fs : List (Str × V)} {fd : FuncData} {sp : Sp} {pins : List (Addr × Obj)} {σ : L2.St} {H : Hp} {s : Shared} {Q : VK} {b : Bool} {E' : Value → Shared → Prop} (I : Inv X pins σ H s) (ea : H a = some (.ins C dx fs)) (c : Cls X.K C) (hp : PropOf X.K C m p g)
    (F : FnG X.prog X.w X.K X.mg X.base k g fd ps sp) (hr : RoomG (k + 1) X.A) (hk : k < 30) (hb : Binds X.K fd ps []) (h : sp [.ref a] H Q fun _ _ _ => False) :
    wpAny (model X.prog X.w) X.A (getAttr (.ref a) m b) (EP X pins σ Q) E' s := by
  obtain ⟨mA, O, _, _, _, _⟩ := ins_get I.hok ea
  obtain ⟨od, J, _⟩ := O.look
  obtain ⟨rest, hrec⟩ := hp.rec_
  have I1 := I.tok (s.toks + 1)
  have hl : ([Value.ref a] ++ []).length = ps.length := F.len _ _ _ _ h
  have hc : (PySem.W.clsIn X.K C).isSome = true := by
    obtain ⟨cd, hc, _⟩ := PySem.W.any_some c.hd
    rw [hc]
    rfl
  refine PySem.W.get_bind I.kIn J (PySem.W.plainGet_of (c.get m)).1 (PySem.W.findObj_data hc hp.at_ hp.get hp.tak) (PySem.W.plainGet_of (c.get m)).2 (wpAny_call (PySem.W.prop_get (s := { s with toks := s.toks + 1 }) I.kIn hrec ?_))
  refine codeAny_mono (F.run X.A.in1 X.stack { s with toks := s.toks + 1 } H ⟨[.ref a], []⟩ [.ref a] [.ref a] Q _ (RoomG.of hr.r.in1 hk) I1.env0.in1 (hb _ [.ref a] I1.kIn hl) (.cons rfl .nil) h) fun r s' hq => ?_
  cases r with
  | error er =>
    obtain ⟨_, _, _, _, _, _, _, _, _, _, _, _, z⟩ := hq
    exact False.elim z
  | ok fl =>
    cases fl with
    | ret u =>
      obtain ⟨v, H', I3, rv, q3⟩ := I1.after hq
      show wpAny _ _ (handedOut u) _ _ _
      rw [PySem.W.handedOut_of (handed_of rv)]
      exact wpAny_pure ⟨v, H', I3, rv, q3⟩
    | next => exact False.elim hq
    | brk => exact False.elim hq
    | cont => exact False.elim hq
theorem de_prop (cl : CalP X.prog X.w X.K X.mg X.base c m qual st ps k np n) (hr : RoomG (k + 1) X.A) (hk : k < 30) (he : DE X W e ta me) (hab : attributeBase e m X.env (eval e X.env) = eval e X.env := by rfl) :
    DE X W (.Attribute e m pos) (tPropD c (spD X.K X.mg np n) ta X.K) (mProp c np n me) := by
  obtain ⟨p, g, fd, hm, Fk, bd, og⟩ := cl.ex
  refine ⟨⟨fun pins s σ H Q I h => ?_⟩, ?_⟩
  · refine attr_of hab (thn (he.p.run pins s σ H _ I h) fun u s1 ⟨x, H1, I1, rx, a, C, dx, fs, ex, ea, hn, q⟩ => ?_)
    subst ex
    obtain rfl : u = Value.ref a := rx
    obtain ⟨hcl, hp⟩ := hm C hn
    exact getpropG I1 ea hcl hp og hr hk bd q
  · intro en io F H σ s o Q R e hx hq
    refine he.s.step R e hx fun d s1 v io1 F1 H1 l1 R1 r1 e1 hx1 => ?_
    split at e1
    · rename_i fs hfs
      obtain ⟨p, C, dx, ws, rfl, hF, hH, hn, rx, _⟩ := R1.getI hfs r1
      split at e1
      · rename_i hnp
        split at e1
        · rename_i z hp' h1
          cases e1
          refine ⟨p, C, dx, ws, rfl, hH, hn, io1, F1, [d], s1.hp, .ok z hp', R1.h, ⟨_, [], rfl, r1, rfl⟩, hnp, h1, fun v io' F' H' x rv => ?_⟩
          exact hq _ _ rfl v io' F' H' (l1.trans x.l) (R1.stp x) rv
        · cases e1
      · cases e1
    · cases e1
end
end Z
/-! Z24: methods with *args, generator methods, C(k = v, ..) -/
namespace Z
open PySem PySem.Spec PyProof.Rows L2
open Classical
/-! ### def m(self, *v) -/
def spS (K : PySem.W.Frag) (mg : Str → Option Value) (np : Nat) (n : Fn) : Sp := fun vs H Q E => ∃ ws rest, vs = ws ++ rest ∧ ws.length = np ∧ rest.length ≤ sizeLine ∧ ∀ p, H p = none → spD K mg (np + 1) n (ws ++ [V.ref p]) (upd H p (.tup rest)) Q E
structure CalS (P : Program) (w : World) (K : PySem.W.Frag) (mg : Str → Option Value) (base : Heap) (c m qual : Str) (st : Stmt) (ps : List Str) (k : Nat) (n : Fn) : Prop where
  ex : ∃ f, (∀ C, PySem.W.nsIn K mainGlobals c = some (some (.ref C)) → Cls K C ∧ Meth K C m f) ∧ FnR P w K mg base (L2.CX P w) k f (spS K mg 1 n)
section
variable {P : Program} {w : World} {K : PySem.W.Frag} {mg : Str → Option Value} {base : Heap} {c m qual : Str} {st : Stmt} {ps : List Str} {k : Nat} {n n' : Fn}
theorem CalS.imp (cl : CalS P w K mg base c m qual st ps k n) (h : ∀ ds hp r, ds.length = 2 → n' ds hp = some r → n ds hp = some r) : CalS P w K mg base c m qual st ps k n' := by
  obtain ⟨f, h1, o⟩ := cl.ex
  exact ⟨f, h1, o.imp fun vs H Q E ⟨ws, rest, a, b, d, e⟩ => ⟨ws, rest, a, b, d, fun p hp => spD_imp h _ _ _ _ (e p hp)⟩⟩
theorem calS {f : Addr} {fd : FuncData} {N : List Str} {p1 pv : Str} {mm : M Fl} (hm : ∀ C, PySem.W.nsIn K mainGlobals c = some (some (.ref C)) → Cls K C ∧ Meth K C m f) (Fk : Fun K m qual st f fd) (S : FnScope N ([p1] ++ [pv]) (defScope st)) (hk : k < 30)
    (h0 : ∀ (kV doc pm : Value) (an : Option Addr) (cdv ct a : Value), bindArgs (PySem.W.fnOf m qual (defArgs st) (defBody st) (defScope st) .none kV doc pm an cdv ct) ⟨[a], []⟩ = (newTuple [] >>= fun t => pure [(p1, a), (pv, t)]))
    (h1 : ∀ (kV doc pm : Value) (an : Option Addr) (cdv ct a r : Value) (rs : List Value), bindArgs (PySem.W.fnOf m qual (defArgs st) (defBody st) (defScope st) .none kV doc pm an cdv ct) ⟨a :: r :: rs, []⟩ = (newTuple (r :: rs) >>= fun t => pure [(p1, a), (pv, t)]))
    (hb : ∀ (cdv : Value) (A : Around) (outer : List Env) (s : Shared) (H : Hp) (E : XK), RoomG k (A.deeper (PyProof.Rows.envOfC qual (defScope st) s.heap.objs.size f cdv)) →
      ∃ t, DSs (cxOf (L2.CX P w) P w K mg base N qual (defScope st) f cdv A outer s H E) (fun c d _ H => E c d H) (defBody st) t mm) :
    CalS P w K mg base c m qual st [p1, pv] (k + 1) (fnOf N.length mm) := by
  obtain ⟨oc, od, kV, doc, pm, an, cdv, ct, osl, rfl, lk, hcd⟩ := Fk.ex
  refine ⟨f, hm, ?_⟩
  have F := StX.fn_star (CX := L2.CX P w) (P := P) (w := w) (mg := mg) (base := base) (k := k) (sp := spD K mg 2 (fnOf N.length mm)) (ps := [p1]) (pv := pv) (N := N) lk hcd S StX.cxUp
    (StX.bind_star1 (B := fun us => bindArgs (PySem.W.fnOf m qual (defArgs st) (defBody st) (defScope st) .none kV doc pm an cdv ct) ⟨us, []⟩) (h0 kV doc pm an cdv ct) (h1 kV doc pm an cdv ct)) (fun A outer s H vs Q E hr hs => ?_)
  · exact F.imp fun vs H Q E h => h
  · obtain ⟨t, hd⟩ := hb cdv A outer s H E (RoomG.of hr hk)
    obtain ⟨io, F, ds, hp, r, h1, h2, h3, h4, h5⟩ := hs
    refine ⟨t, hd.p, ?_⟩
    have R0 := Rel.start (N := N) h1 h2
    unfold fnOf at h4
    split at h4
    · rename_i s1 e
      cases h4
      exact hd.s _ io F H _ _ _ _ R0 e trivial fun f s2 e2 io2 F2 H2 σ2 l2 R2 => by
        cases e2
        exact h5 .non io2 F2 H2 R2.stpd rfl
    · rename_i d s1 e
      cases h4
      exact hd.s _ io F H _ _ _ _ R0 e trivial fun f s2 e2 io2 F2 H2 σ2 l2 R2 => by
        cases e2
        exact fun v rv => h5 v io2 F2 H2 R2.stpd rv
    · rename_i x s1 e
      cases h4
      exact hd.s _ io F H _ _ _ _ R0 e (fun cls dd io2 F2 H2 σ2 l2 R2 xr => h5 cls dd io2 F2 H2 R2.stpd xr) fun f s2 e2 => by cases e2
    · cases h4
end
/-- o.m(..), the arguments in a tuple -/
def mMethS (c m : Str) (n : Fn) (mo : M D) (ml : M (List D)) : M D := bnd mo fun o => fun s => match getI s c o with
  | some fs => match fs.lookup m with
    | none => bnd ml (fun ds s' => if ds.length ≤ sizeLine then ofFR (n [o, .tup ds] s'.hp) s' else none) s
    | some _ => none
  | none => none
section
variable {X : Cx} {W : WX} {pos apos : Pos} {e o : Expr} {es : List Expr} {ta : TE} {mo : M D} {tl : TA} {ml : M (List D)} {c m qual : Str} {st : Stmt} {ps : List Str} {k np : Nat} {n : Fn} {pl : Sem Bool}
theorem sem_methS {t : TA} {ml : M (List D)} (ho : SemE X.K X.mg W ta mo) (ha : SemA X.K X.mg W t ml) : SemE X.K X.mg W (tMethD c m (spS X.K X.mg 1 n) (fun σ c d H => W c d σ H) ta t X.K) (mMethS c m n mo ml) := by
  intro en io F H σ s o Q R e hx hq
  refine ho.step R e hx fun d s1 v io1 F1 H1 l1 R1 r1 e1 hx1 => ?_
  split at e1
  · rename_i fs hfs
    split at e1
    · rename_i hno
      obtain ⟨p, C, dx, ws, rfl, hF, hH, hn, rx, _⟩ := R1.getI hfs r1
      rcases freps_get m rx with ⟨d', w, g1, _⟩ | ⟨_, g2⟩
      · rw [hno] at g1
        cases g1
      · refine ⟨p, C, dx, ws, rfl, hH, hn, g2, ?_⟩
        refine ha.step R1 e1 hx1 fun ds s2 vs io2 F2 H2 l2 R2 r2 e2 hx2 => ?_
        split at e2
        · rename_i hl
          refine ⟨[.ref p], vs, rfl, rfl, by rw [reps_len r2]; exact hl, fun q hqn => ?_⟩
          obtain ⟨R3, l3⟩ := R2.new hqn (.tup vs)
          exact sem_call (np := 2) (n := n) (ds := [d, .tup ds]) (o := o) R3 ⟨_, [.ref q], rfl, rep_le (l2.trans l3) _ _ r1, _, [], rfl, ⟨q, vs, rfl, .inl (.inl upd_same), reps_le l3 _ _ r2⟩, rfl⟩ (hx2.le _ _ _ l3) (by rw [if_pos (show [d, D.tup ds].length = 2 from rfl)]; exact e2) fun d2 s3 e3 w io3 F3 H3 l4 R4 r4 => hq d2 s3 e3 w io3 F3 H3 (((l1.trans l2).trans l3).trans l4) R4 r4
        · cases e2
    · cases e1
  · cases e1
theorem passes_of_takes {X : Cx} {W : WX} (tk : Takes X W) (σ : L2.St) : PassesAt (L2.CX X.prog X.w) X σ (fun c d H => W c d σ H) := passAt tk σ
theorem run_fnRG {f : Addr} {sp : Sp} {pins : List (Addr × Obj)} {σ : L2.St} {H : Hp} {s : Shared} {Q : VK} {E : XK} {us : List Value} {vs : List V} (F : FnR X.prog X.w X.K X.mg X.base (L2.CX X.prog X.w) k f sp) (hr : Room k X.A) (hx : PassesAt (L2.CX X.prog X.w) X σ E)
    (I : Inv X pins σ H s) (r : Vals vs us) (h : sp vs H Q E) : wpAny (model X.prog X.w) X.A (call (.ref f) us []) (EP X pins σ Q) X.xe s := by
  refine wpAny_call (codeAny_mono (F X.A X.stack s H us vs Q E hr I.env0 r h) fun r s' hq => ?_)
  cases r with
  | error e => exact hx pins H s e s' I hq
  | ok fl =>
    cases fl with
    | ret u => exact I.after hq
    | next => exact False.elim hq
    | brk => exact False.elim hq
    | cont => exact False.elim hq
theorem de_methS (cl : CalS X.prog X.w X.K X.mg X.base c m qual st ps k n) (hr : RoomG k X.A) (tk : Takes X W) (ho : DE X W o ta mo) (ha : DA X W (e :: es) tl ml)
    (hst : starEach (e :: es) X.env = (false, eval e X.env) :: starEach es X.env := by rfl) (hpl : (backTo pos (starEach es X.env)).any (·.1) = false := by rfl)
    (ht : eval (.Call (.Attribute o m apos) (e :: es) [] pos) X.env = (do
      let ov ← eval o X.env
      standAt apos.atName
      let (f, first) ← holding [ov] (getMethod ov m pl)
      callWith pos f first (backTo pos (starEach (e :: es) X.env)) (backToKw pos (keywordEach [] X.env))) := by rfl) :
    DE X W (.Call (.Attribute o m apos) (e :: es) [] pos) (tMethD c m (spS X.K X.mg 1 n) (fun σ c d H => W c d σ H) ta tl X.K) (mMethS c m n mo ml) := by
  obtain ⟨f, hm, og⟩ := cl.ex
  refine ⟨⟨fun pins s σ H Q I h => ?_⟩, sem_methS ho.s ha.s⟩
  refine PySem.W.methodCall_KW (pl := pl) (thn (ho.p.run pins s σ H _ I h) fun u s1 ⟨x, H1, I1, rx, a, C, dx, fs, ex, ea, hn, l, q⟩ => ?_) ht
  subst ex
  obtain rfl : u = Value.ref a := rx
  obtain ⟨hcl, hmt⟩ := hm C hn
  refine getmeth_ok I1 ea hcl hmt l ?_
  refine PySem.W.callWith_K (first := [.ref a]) (h₀ := X.base) I.ok.mod.kin hmt.kp (thn (ha.p.run pos pins s1 σ H1 _ I1 q) fun us s2 ⟨vs, H2, I2, r, q2⟩ => ⟨I2.kIn, ?_⟩) hst hpl
  exact run_fnRG (us := .ref a :: us) (vs := .ref a :: vs) og hr.r (passAt tk σ) I2 (.cons rfl r) q2
theorem de_methS0 (cl : CalS X.prog X.w X.K X.mg X.base c m qual st ps k n) (hr : RoomG k X.A) (tk : Takes X W) (ho : DE X W o ta mo)
    (ht : eval (.Call (.Attribute o m apos) [] [] pos) X.env = (do
      let ov ← eval o X.env
      standAt apos.atName
      let (f, first) ← holding [ov] (getMethod ov m pl)
      callWith pos f first (backTo pos (starEach [] X.env)) (backToKw pos (keywordEach [] X.env))) := by rfl) :
    DE X W (.Call (.Attribute o m apos) [] [] pos) (tMethD c m (spS X.K X.mg 1 n) (fun σ c d H => W c d σ H) ta tNil X.K) (mMethS c m n mo mNil) := by
  obtain ⟨f, hm, og⟩ := cl.ex
  refine ⟨⟨fun pins s σ H Q I h => ?_⟩, sem_methS ho.s da_nil.s⟩
  refine PySem.W.methodCall_KW (pl := pl) (thn (ho.p.run pins s σ H _ I h) fun u s1 ⟨x, H1, I1, rx, a, C, dx, fs, ex, ea, hn, l, q⟩ => ?_) ht
  subst ex
  obtain rfl : u = Value.ref a := rx
  obtain ⟨hcl, hmt⟩ := hm C hn
  refine getmeth_ok I1 ea hcl hmt l ?_
  exact PySem.W.callWith_K0 (first := [.ref a]) I1.kIn hmt.kp (run_fnRG (us := [.ref a]) (vs := [.ref a]) og hr.r (passAt tk σ) I1 (.cons rfl .nil) q)
end
/-! ### list(o.m()), m a generator method -/
structure CalGM (P : Program) (w : World) (K : PySem.W.Frag) (mg : Str → Option Value) (base : Heap) (c m qual : Str) (st : Stmt) (ps : List Str) (k np : Nat) (n : GFnD) : Prop where
  ex : ∃ f fd, (∀ C, PySem.W.nsIn K mainGlobals c = some (some (.ref C)) → Cls K C ∧ Meth K C m f) ∧ Fun K m qual st f fd ∧ Binds K fd ps [] ∧ GFn P w K mg base k f fd ps (spGD K mg np n)
section
variable {P : Program} {w : World} {K : PySem.W.Frag} {mg : Str → Option Value} {base : Heap} {c m qual : Str} {st : Stmt} {ps : List Str} {k np : Nat} {n n' : GFnD}
theorem CalGM.imp (cl : CalGM P w K mg base c m qual st ps k np n) (h : ∀ ds hp r, ds.length = np → n' ds hp = some r → n ds hp = some r) : CalGM P w K mg base c m qual st ps k np n' := by
  obtain ⟨f, fd, d, d2, d3, o⟩ := cl.ex
  have im : ∀ vs H Q E, spGD K mg np n' vs H Q E → spGD K mg np n vs H Q E := fun vs H Q E ⟨io, F, ds, hp, r, h1, h2, h3, h4, h5⟩ => ⟨io, F, ds, hp, r, h1, h2, h3, h ds hp r h3 h4, h5⟩
  exact ⟨f, fd, d, d2, d3, ⟨fun vs H Q E q => o.len vs H Q E (im _ _ _ _ q), fun A outer s H args us vs Q E hr he hb hv hs => o.run A outer s H args us vs Q E hr he hb hv (im _ _ _ _ hs)⟩⟩
theorem calGM {f : Addr} {fd : FuncData} {N : List Str} {mm : GM} (hm : ∀ C, PySem.W.nsIn K mainGlobals c = some (some (.ref C)) → Cls K C ∧ Meth K C m f) (Fk : Fun K m qual st f fd) (bd : Binds K fd ps []) (S : GScope N ps (defScope st)) (hp : ps.length = np) (hk : k < 30)
    (hb : ∀ (cdv : Value) (A : Around) (outer : List Env) (s : Shared) (H : Hp) (E : XK) (pn : List (Addr × Obj)), RoomG k (A.deeper (PyProof.Rows.envOfC qual (defScope st) s.heap.objs.size f cdv)) →
      ∃ t, DGSs (gcxOf P w K mg base N qual (defScope st) f cdv A outer s H E pn) (fun c d _ H => E c d H) (defBody st) t mm) :
    CalGM P w K mg base c m qual st ps (k + 1) np (gfnOf N.length mm) := by
  subst hp
  obtain ⟨oc, od, kV, doc, pm, an, cdv, ct, osl, rfl, lk, hcd⟩ := id Fk.ex
  refine ⟨f, _, hm, Fk, bd, gfn_of lk hcd S (fun vs H Q E h => ?_) fun A outer s H vs Q E pn hr h => ?_⟩
  · obtain ⟨io, F, ds, hp, r, h1, h2, h3, _⟩ := h
    rw [reps_len h2]
    exact h3
  · obtain ⟨t, hd⟩ := hb cdv A outer s H E pn (RoomG.of hr hk)
    obtain ⟨io, F, ds, hp, r, h1, h2, h3, h4, h5⟩ := h
    refine ⟨t, hd.p, ?_⟩
    have R0 := Rel.start (N := N) h1 h2
    unfold gfnOf at h4
    split at h4
    · rename_i zs s1 e
      cases h4
      exact hd.s _ io F H _ _ _ _ [] [] R0 rfl e trivial fun f zs2 s2 e2 io2 F2 H2 σ2 ws l2 R2 r2 => by
        cases e2
        exact h5 ws io2 F2 H2 R2.stpd r2
    · rename_i zs s1 e
      cases h4
      exact hd.s _ io F H _ _ _ _ [] [] R0 rfl e trivial fun f zs2 s2 e2 io2 F2 H2 σ2 ws l2 R2 r2 => by
        cases e2
        exact fun v rv => ⟨rv, h5 ws io2 F2 H2 R2.stpd r2⟩
    · rename_i x s1 e
      cases h4
      exact hd.s _ io F H _ _ _ _ [] [] R0 rfl e (fun cls dd io2 F2 H2 σ2 l2 R2 xr => h5 cls dd io2 F2 H2 R2.stpd xr) fun f zs2 s2 e2 => by cases e2
    · cases h4
end
def mListGM (c m : Str) (np : Nat) (n : GFnD) (mo : M D) : M D := bnd mo fun o s => match getI s c o with
  | some fs => match fs.lookup m with
    | none => if 1 = np then (match n [o] s.hp with
      | some (.ok zs hp') => if zs.length ≤ sizeLine then some (.ok (.lst zs) { s with hp := hp' }) else none
      | _ => none) else none
    | some _ => none
  | none => none
def tMethGD (c m : Str) (sp : SpG) (ta : TE) (K : PySem.W.Frag) : TGen := fun σ H cont => ta σ H fun x H1 => ∃ a C dx fs, x = .ref a ∧ H1 a = some (.ins C dx fs) ∧ PySem.W.nsIn K mainGlobals c = some (some (.ref C)) ∧ fs.lookup m = none ∧
  sp [x] H1 cont fun _ _ _ => False
section
variable {X : Cx} {W : WX} {pos pos' apos p : Pos} {o : Expr} {ta : TE} {mo : M D} {c m qual : Str} {st : Stmt} {ps : List Str} {k np : Nat} {n : GFnD} {pl : Sem Bool}
theorem de_listGM (cl : CalGM X.prog X.w X.K X.mg X.base c m qual st ps k np n) (hr : RoomG (k + 3) X.A) (hgl : Gl X "list") (hml : X.mg "list" = none) (ho : DE X W o ta mo) (hv : bootBuiltins "list" = some (.type "list") := by decide +kernel)
    (ht : eval (.Call (.Attribute o m apos) [] [] pos') X.env = (do
      let ov ← eval o X.env
      standAt apos.atName
      let (f, first) ← holding [ov] (getMethod ov m pl)
      callWith pos' f first (backTo pos' (starEach [] X.env)) (backToKw pos' (keywordEach [] X.env))) := by rfl)
    (he2 : starEach [.Call (.Attribute o m apos) [] [] pos'] X.env = (false, eval (.Call (.Attribute o m apos) [] [] pos') X.env) :: starEach [] X.env := by rfl) :
    DE X W (.Call (.Name "list" p) [.Call (.Attribute o m apos) [] [] pos'] [] pos) (tListG (tMethGD c m (spGD X.K X.mg np n) ta X.K)) (mListGM c m np n mo) := by
  obtain ⟨f, fd, hm, Fk, bd, og⟩ := cl.ex
  have G : PGen X k (.Call (.Attribute o m apos) [] [] pos') (tMethGD c m (spGD X.K X.mg np n) ta X.K) (fun _ _ _ => False) := by
    refine ⟨fun pins s σ H cont I h => ?_⟩
    refine PySem.W.methodCall_KW (pl := pl) (thn (ho.p.run pins s σ H _ I h) fun u s1 ⟨x, H1, I1, rx, a, C, dx, fs, ex, ea, hn, l, q⟩ => ?_) ht
    subst ex
    obtain rfl : u = Value.ref a := rx
    obtain ⟨hcl, hmt⟩ := hm C hn
    refine getmeth_ok I1 ea hcl hmt l ?_
    exact PySem.W.callWith_K0 (first := [.ref a]) I1.kIn hmt.kp (run_gfn (us := [.ref a]) (vs := [.ref a]) (dvs := []) og (hr.r.mono (Nat.le_add_right k 3)) bd .nil I1 (.cons rfl .nil) q)
  refine ⟨pe_listG (nm := "list") (p := p) (pos := pos) G (fun pins σ H s e s' I z => ?_) (fun cls d H z => False.elim z) hr.r hgl hml hv (by decide) (by decide) he2, ?_⟩
  · obtain ⟨_, _, _, _, _, _, _, _, _, _, _, _, f⟩ := z
    exact False.elim f
  · intro en io F H σ s o Q R e hx hq
    refine ho.s.step R e hx fun d s1 v io1 F1 H1 l1 R1 r1 e1 hx1 => ?_
    split at e1
    · rename_i fs hfs
      split at e1
      · rename_i hno
        obtain ⟨p, C, dx, ws, rfl, hF, hH, hn, rx, _⟩ := R1.getI hfs r1
        rcases freps_get m rx with ⟨d', w, g1, _⟩ | ⟨_, g2⟩
        · rw [hno] at g1
          cases g1
        · refine ⟨p, C, dx, ws, rfl, hH, hn, g2, ?_⟩
          split at e1
          · rename_i hnp
            split at e1
            · rename_i zs hp' h1
              split at e1
              · cases e1
                refine ⟨io1, F1, [d], s1.hp, .ok zs hp', R1.h, ⟨_, [], rfl, r1, rfl⟩, hnp, h1, fun ws io' F' H' x rws q hqn => ?_⟩
                obtain ⟨R3, l3⟩ := (R1.stp x).new hqn (.lst ws)
                exact hq _ _ rfl (.ref q) io' _ _ (l1.trans (x.l.trans l3)) R3 ⟨q, ws, rfl, upd_same, reps_le l3 _ _ rws⟩
              · cases e1
            · cases e1
          · cases e1
      · cases e1
    · cases e1
end
/-! ### C(k = v, ..) -/
theorem kbn_perm {K : PySem.W.Frag} {x qual : Str} {st : Stmt} {f : Addr} {fd : FuncData} {ps ks : List Str} (F : Fun K x qual st f fd) (π : List Nat)
    (h : ∀ (kV doc pm : Value) (an : Option Addr) (cdv ct u : Value) (ws : List Value), ws.length = ks.length → bindArgs (PySem.W.fnOf x qual (defArgs st) (defBody st) (defScope st) .none kV doc pm an cdv ct) ⟨[u], ks.zip ws⟩ = pure (ps.zip (u :: perm π ws))) :
    KBn K fd ps 1 ks (fun us ws => us ++ perm π ws) (fun us ws => us ++ perm π ws) := by
  obtain ⟨oc, od, kV, doc, pm, an, cdv, ct, osl, rfl, lk, hcd⟩ := F.ex
  refine ⟨fun s us ws _ hl h2 => ?_, fun {vs us zs ws} r rz => r.append (vals_perm rz π)⟩
  match us, hl with
  | [u], _ => exact .of_eq (h kV doc pm an cdv ct u ws h2)
section
variable {X : Cx} {W : WX} {pos p : Pos} {kws : List Keyword} {tk : TA} {mk : M (List D)} {c qual : Str} {st : Stmt} {ps ks : List Str} {k np : Nat} {n : Fn} {C : Addr} {π : List Nat}
def tMakeKG (C : Addr) (nk : Nat) (π : List Nat) (sp : Sp) (E : L2.St → XK) (tk : TA) : TE := fun σ H Q => tk σ H fun zs H1 => zs.length = nk ∧ ∀ x dx, H1 x = none → H1 dx = none → dx ≠ x →
  sp (.ref x :: perm π zs) (upd (upd H1 dx (.own x)) x (.ins C dx [])) (fun v H2 => v = .non ∧ Q (.ref x) H2) (E σ)
theorem de_makeK (cl : CalK X.prog X.w X.K X.mg X.base c qual st ps k np n) (hr : RoomG (k + 1) X.A) (hk : k < 30) (tk' : Takes X W) (hg : Gl X c) (π : List Nat)
    (hbd : ∀ (kV doc pm : Value) (an : Option Addr) (cdv ct u : Value) (ws : List Value), ws.length = ks.length → bindArgs (PySem.W.fnOf "__init__" qual (defArgs st) (defBody st) (defScope st) .none kV doc pm an cdv ct) ⟨[u], ks.zip ws⟩ = pure (ps.zip (u :: perm π ws)))
    (hkw : DK X W kws tk mk) (hdb : (c == ("__debug__" : Str)) = false := by decide)
    (hall : (backToKw pos (keywordEach kws X.env)).all (·.1.isSome) = true := by rfl) (hks : (backToKw pos (keywordEach kws X.env)).filterMap (·.1) = ks := by rfl)
    (hpl : ((backTo pos (starEach [] X.env)).any (·.1) || (backToKw pos (keywordEach kws X.env)).any (·.1.isNone)) = false := by rfl) :
    ∃ C, DE X W (.Call (.Name c p) [] kws pos) (tMakeKG C ks.length π (spD X.K X.mg np n) (fun σ c d H => W c d σ H) tk) (mMake c np n (mPerm ks.length π mk)) := by
  obtain ⟨C, f, fd, hm, hn, M, Fk, bd, og⟩ := cl.ex
  have hb := kbn_perm Fk π hbd
  refine ⟨C, ⟨fun pins s σ H Q I h => ?_⟩, ?_⟩
  · refine wpAny_Call_Name_kw (ld_glob I hg hm ?_ hdb)
    refine PySem.W.callWith_KW0 (h₀ := X.base) I.ok.mod.kin M.kp hall ?_ hpl
    refine thn (hkw.p.run pos pins s σ H _ I h) fun ws s2 ⟨zs, H2, I2, rz, l2, q2⟩ => ⟨I2.kIn, ?_⟩
    rw [hks]
    have hq := q2 (s2.heap.objs.size + 1) s2.heap.objs.size (I2.hok.fresh (Nat.le_succ _)) (I2.hok.fresh (Nat.le_refl _)) (Nat.ne_of_lt (Nat.lt_succ_self _))
    have I3 := Inv.made (C := C) I2
    have r2 : Vals (V.ref (s2.heap.objs.size + 1) :: perm π zs) (Value.ref (s2.heap.objs.size + 1) :: perm π ws) := .cons rfl (vals_perm rz π)
    have hl : ws.length = ks.length := rz.length.symm.trans l2
    refine wpAny_call (make_map (f := f) I2.kIn M.makes M.init (beq_iff_eq.mp M.fn) (codeAny_mono (og.run _ X.stack _ _ ⟨[Value.ref (s2.heap.objs.size + 1)], ks.zip ws⟩ (Value.ref (s2.heap.objs.size + 1) :: perm π ws) _ _ _ (RoomG.of (hr.r.make C [] (ks.zip ws)) hk)
      (I3.env0.make C [] (ks.zip ws)) (hb.to _ [Value.ref (s2.heap.objs.size + 1)] ws I3.kIn rfl hl) r2 hq) fun r s' hq' => ?_))
    cases r with
    | error e => exact passAt tk' σ pins _ _ e s' I3 hq'
    | ok fl =>
      cases fl with
      | ret u =>
        obtain ⟨v, H', I4, rv, ev, q3⟩ := I3.after hq'
        subst ev
        exact ⟨rv, ⟨V.ref (s2.heap.objs.size + 1), H', I4, rfl, q3⟩⟩
      | next => exact False.elim hq'
      | brk => exact False.elim hq'
      | cont => exact False.elim hq'
  · intro en io F H σ s o Q R e hx hq
    have e0 : bnd mk (fun l => bnd (if l.length = ks.length then ret (perm π l) else fun _ => none) fun ds s => if ds.length + 1 = np then (match n (.ref s.hp.length :: ds) (s.hp ++ [.ins c []]) with
      | some (.ok .non hp') => some (.ok (D.ref s.hp.length) { s with hp := hp' })
      | some (.ex e hp') => some (.ex e { s with hp := hp' })
      | _ => none) else none) s = some o := by
      have : mMake c np n (mPerm ks.length π mk) s = some o := e
      unfold mMake mPerm at this
      rw [← this]
      unfold bnd
      cases mk s with
      | none => rfl
      | some q =>
        cases q with
        | ok a s' => rfl
        | ex a s' => rfl
    refine hkw.s.step R e0 hx fun d s1 v io1 F1 H1 l1 R1 r1 e1 hx1 => ?_
    by_cases hc : d.length = ks.length
    · rw [if_pos hc] at e1
      refine ⟨by rw [reps_len r1]; exact hc, ?_⟩
      intro x dx hxn hdn hne
      have e3 : (if (perm π d).length + 1 = np then (match n (.ref s1.hp.length :: perm π d) (s1.hp ++ [.ins c []]) with
        | some (.ok .non hp') => some (.ok (D.ref s1.hp.length) { s1 with hp := hp' })
        | some (.ex e hp') => some (.ex e { s1 with hp := hp' })
        | _ => none) else none) = some o := e1
      split at e3
      · rename_i hl
        obtain ⟨R2, l2⟩ := R1.new hdn (.own x)
        have hx2 : upd H1 dx (.own x) x = none := by rw [upd_ne (Ne.symm hne)]; exact hxn
        obtain ⟨R3, l3, r3⟩ := R2.hnew (ho := .ins C dx []) (o := .ins c []) hx2 ⟨R2.h.ex.none_of hx2, C, dx, [], upd_same, hn, rfl, rfl⟩
        have lt := l2.trans l3
        have r1' := reps_perm r1 π
        split at e3
        · rename_i hp' h1
          cases e3
          refine ⟨io1 ++ [x], _, .ref s1.hp.length :: perm π d, s1.hp ++ [.ins c []], .ok .non hp', R3.h, ⟨.ref x, perm π v, rfl, r3, reps_le lt _ _ r1'⟩, hl, h1, fun v io' F' H' xx rv => ⟨rv, ?_⟩⟩
          exact hq _ _ rfl (.ref x) io' F' H' ((l1.trans lt).trans xx.l) (R3.stp xx) (rep_le xx.l _ _ r3)
        · rename_i ex hp' h1
          cases e3
          refine ⟨io1 ++ [x], _, .ref s1.hp.length :: perm π d, s1.hp ++ [.ins c []], .ex ex hp', R3.h, ⟨.ref x, perm π v, rfl, r3, reps_le lt _ _ r1'⟩, hl, h1, fun cls dd io' F' H' xx rv => ?_⟩
          exact hx1 cls dd io' F' H' σ (lt.trans xx.l) (R3.stp xx) rv
        · cases e3
      · cases e3
    · rw [if_neg hc] at e1
      cases e1
end
end Z
/-! Z25: x = list(e), the slot's own; the body of a class -/
namespace Z
open PySem PySem.Spec PyProof.Rows L2
open Classical
def clsB (s : Stmt) : List Stmt := match s with
  | .ClassDef _ _ _ b _ _ _ _ _ _ _ => b
  | _ => []
section
variable {X : Cx} {W : WX} {pos : Pos} {e : Expr} {tl : TA} {ml : M (List D)}
def seqL : List D → Option (List D)
  | [.lst l] => some l
  | [.tup l] => some l
  | [.fz l] => some l
  | _ => none
def mSetOL (i : Nat) (m : M (List D)) : M Fl := bnd m fun ds s => match seqL ds with
  | some l => if l.length ≤ sizeLine then some (.ok .nx (setO s i l)) else none
  | none => none
theorem ds_setOL (i : Nat) {x : Str} {p pos' lpos : Pos} (hN : X.N.Nodup) (hg : Gl X "list") (hm : X.mg "list" = none) (ha : DA X W [e] tl ml) (hi : X.N[i]? = some x := by rfl) (hx : Loc X.env.scope x := by first | exact Or.inl rfl | exact Or.inr rfl)
    (hv : bootBuiltins "list" = some (.type "list") := by decide +kernel)
    (hs : swapsWith (.Call (.Name "list" p) [e] [] lpos) (some (.Name x pos')) pos.line X.env = pure false := by rfl)
    (hf : X.fn x = true ∨ X.env.scope.names.lookup x = some .local := by first | exact .inl rfl | exact .inr rfl | assumption)
    (hs1 : starEach [e] X.env = (false, eval e X.env) :: starEach [] X.env := by rfl) (hpl : (backTo lpos (starEach [] X.env)).any (·.1) = false := by rfl) :
    DS X W (.Assign [.Name x pos'] (.Call (.Name "list" p) [e] [] lpos) pos) (tAsg (tCB (r_list X.K) tl) (gName i)) (mSetOL i ml) := ⟨ps_set hN hi hx (de_callTy (X := X) b_list hg hm hv ha (by decide) (by decide) hs1 hpl).p hs hf, by
  intro en io F H σ s o E R e hx hq
  refine ha.s.step R e hx fun d s1 v io1 F1 H1 l1 R1 r1 e1 hx1 => ?_
  have fin : ∀ (l : List D) (p : Addr) (xs : List V), seqL d = some l → v = [.ref p] → (SqL X.K H1 p xs ∨ SqT X.K H1 p xs) → reps X.K io1 F1 l xs → (tAsg (tCB (r_list X.K) fun σ H Q => Q v H) (gName i)) E σ H1 := fun l p xs ed ev hs hr => by
    rw [ed] at e1
    subst ev
    by_cases hc : l.length ≤ sizeLine
    · have e2 : some (O.ok Fl.nx (setO s1 i l)) = some o := by rw [← e1]; exact (if_pos hc).symm
      cases e2
      exact ⟨p, xs, rfl, hs, fun q hqn => hq _ _ rfl io1 F1 _ _ l1 (R1.seto (o := .lst l) hqn ⟨R1.h.ex.none_of hqn, xs, upd_same, hr⟩)⟩
    · have e2 : none = some o := by rw [← e1]; exact (if_neg hc).symm
      cases e2
  match d with
  | [.lst l] =>
    obtain ⟨v, rfl, p, xs, rfl, h, r⟩ := reps1 r1
    exact fin l p xs rfl rfl (.inl (.of (R1.h.ex p _ h))) r
  | [.tup l] =>
    obtain ⟨v, rfl, p, xs, rfl, h, r⟩ := reps1 r1
    exact fin l p xs rfl rfl (.inr (R1.h.ex.t h)) r
  | [.fz l] =>
    obtain ⟨v, rfl, p, xs, rfl, h, r⟩ := reps1 r1
    exact fin l p xs rfl rfl (.inl (R1.h.ex.l h)) r
  | [] => simp [seqL] at e1
  | _ :: _ :: _ => simp [seqL] at e1
  | [.non] => simp [seqL] at e1
  | [.bl _] => simp [seqL] at e1
  | [.int _] => simp [seqL] at e1
  | [.str _] => simp [seqL] at e1
  | [.ref _] => simp [seqL] at e1
  | [.exc _ _] => simp [seqL] at e1
  | [.cls _] => simp [seqL] at e1⟩
end
end Z
/-! Z26: the rules of Z23, Z24 with K and mg by name (a context inside a try must not show) -/
namespace Z
open PySem PySem.Spec PyProof.Rows L2
open Classical
section
variable {X : Cx} {W : WX} {pos apos pos' p : Pos} {e o : Expr} {es : List Expr} {ta te : TE} {mo me : M D} {tl : TA} {ml : M (List D)} {c m qual f : Str} {st : Stmt} {ps : List Str} {k np : Nat} {n : Fn} {gn : GFnD} {pl : Sem Bool}
theorem ke_meth (K : PySem.W.Frag) (mg : Str → Option Value) (cl : CalM X.prog X.w X.K X.mg X.base c m qual st ps k np n) (hr : RoomG k X.A) (tk : Takes X W) (ho : DE X W o ta mo) (ha : DA X W (e :: es) tl ml) (hK : X.K = K := by rfl) (hM : X.mg = mg := by rfl)
    (hst : starEach (e :: es) X.env = (false, eval e X.env) :: starEach es X.env := by rfl) (hpl : (backTo pos (starEach es X.env)).any (·.1) = false := by rfl)
    (ht : eval (.Call (.Attribute o m apos) (e :: es) [] pos) X.env = (do
      let ov ← eval o X.env
      standAt apos.atName
      let (f, first) ← holding [ov] (getMethod ov m pl)
      callWith pos f first (backTo pos (starEach (e :: es) X.env)) (backToKw pos (keywordEach [] X.env))) := by rfl) :
    DE X W (.Call (.Attribute o m apos) (e :: es) [] pos) (tMethD c m (spD K mg np n) (fun σ c d H => W c d σ H) ta tl K) (mMeth c m np n mo ml) := by subst hK hM; exact de_meth cl hr tk ho ha hst hpl ht
theorem ke_meth0 (K : PySem.W.Frag) (mg : Str → Option Value) (cl : CalM X.prog X.w X.K X.mg X.base c m qual st ps k np n) (hr : RoomG k X.A) (tk : Takes X W) (ho : DE X W o ta mo) (hK : X.K = K := by rfl) (hM : X.mg = mg := by rfl)
    (ht : eval (.Call (.Attribute o m apos) [] [] pos) X.env = (do
      let ov ← eval o X.env
      standAt apos.atName
      let (f, first) ← holding [ov] (getMethod ov m pl)
      callWith pos f first (backTo pos (starEach [] X.env)) (backToKw pos (keywordEach [] X.env))) := by rfl) :
    DE X W (.Call (.Attribute o m apos) [] [] pos) (tMethD c m (spD K mg np n) (fun σ c d H => W c d σ H) ta tNil K) (mMeth c m np n mo mNil) := by subst hK hM; exact de_meth0 cl hr tk ho ht
theorem ke_methS (K : PySem.W.Frag) (mg : Str → Option Value) (cl : CalS X.prog X.w X.K X.mg X.base c m qual st ps k n) (hr : RoomG k X.A) (tk : Takes X W) (ho : DE X W o ta mo) (ha : DA X W (e :: es) tl ml) (hK : X.K = K := by rfl) (hM : X.mg = mg := by rfl)
    (hst : starEach (e :: es) X.env = (false, eval e X.env) :: starEach es X.env := by rfl) (hpl : (backTo pos (starEach es X.env)).any (·.1) = false := by rfl)
    (ht : eval (.Call (.Attribute o m apos) (e :: es) [] pos) X.env = (do
      let ov ← eval o X.env
      standAt apos.atName
      let (f, first) ← holding [ov] (getMethod ov m pl)
      callWith pos f first (backTo pos (starEach (e :: es) X.env)) (backToKw pos (keywordEach [] X.env))) := by rfl) :
    DE X W (.Call (.Attribute o m apos) (e :: es) [] pos) (tMethD c m (spS K mg 1 n) (fun σ c d H => W c d σ H) ta tl K) (mMethS c m n mo ml) := by subst hK hM; exact de_methS cl hr tk ho ha hst hpl ht
theorem ke_methS0 (K : PySem.W.Frag) (mg : Str → Option Value) (cl : CalS X.prog X.w X.K X.mg X.base c m qual st ps k n) (hr : RoomG k X.A) (tk : Takes X W) (ho : DE X W o ta mo) (hK : X.K = K := by rfl) (hM : X.mg = mg := by rfl)
    (ht : eval (.Call (.Attribute o m apos) [] [] pos) X.env = (do
      let ov ← eval o X.env
      standAt apos.atName
      let (f, first) ← holding [ov] (getMethod ov m pl)
      callWith pos f first (backTo pos (starEach [] X.env)) (backToKw pos (keywordEach [] X.env))) := by rfl) :
    DE X W (.Call (.Attribute o m apos) [] [] pos) (tMethD c m (spS K mg 1 n) (fun σ c d H => W c d σ H) ta tNil K) (mMethS c m n mo mNil) := by subst hK hM; exact de_methS0 cl hr tk ho ht
theorem ke_prop (K : PySem.W.Frag) (mg : Str → Option Value) (cl : CalP X.prog X.w X.K X.mg X.base c m qual st ps k np n) (hr : RoomG (k + 1) X.A) (hk : k < 30) (he : DE X W e ta me) (hK : X.K = K := by rfl) (hM : X.mg = mg := by rfl) (hab : attributeBase e m X.env (eval e X.env) = eval e X.env := by rfl) :
    DE X W (.Attribute e m pos) (tPropD c (spD K mg np n) ta K) (mProp c np n me) := by subst hK hM; exact de_prop cl hr hk he hab
theorem ke_fld (K : PySem.W.Frag) (hc : ∀ C, PySem.W.nsIn K mainGlobals c = some (some (.ref C)) → Cls K C ∧ NoAttr K C f) (he : DE X W e te me) (hK : X.K = K := by rfl) (hb : attributeBase e f X.env (eval e X.env) = eval e X.env := by rfl) :
    DE X W (.Attribute e f pos) (tFld K te f) (mFld c f me) := by subst hK; exact de_fld hc he hb
end
end Z
/-! Z27: classmethods by the class's name, cls(..), list(text), d.get(k, x), insert, `not in` of the slot's own list, a comprehension as the slot's own list -/
namespace Z
open PySem PySem.Spec PyProof.Rows L2
open Classical
/-! ### C.m(..), m a classmethod -/
structure CalC (P : Program) (w : World) (K : PySem.W.Frag) (mg : Str → Option Value) (base : Heap) (c m qual : Str) (st : Stmt) (ps : List Str) (k np : Nat) (n : Fn) : Prop where
  ex : ∃ C mc p g fd, mg c = some (.ref C) ∧ PySem.W.nsIn K mainGlobals c = some (some (.ref C)) ∧ ClX.CRead K C mc ∧ ClX.CMet K C mc m p g ∧ Fun K m qual st g fd ∧ Binds K fd ps [] ∧ FnG P w K mg base k g fd ps (spD K mg np n)
section
variable {P : Program} {w : World} {K : PySem.W.Frag} {mg : Str → Option Value} {base : Heap} {c m qual : Str} {st : Stmt} {ps : List Str} {k np : Nat} {n n' : Fn}
theorem CalC.imp (cl : CalC P w K mg base c m qual st ps k np n) (h : ∀ ds hp r, ds.length = np → n' ds hp = some r → n ds hp = some r) : CalC P w K mg base c m qual st ps k np n' := by
  obtain ⟨C, mc, p, g, fd, h1, h2, h3, h4, h5, h6, o⟩ := cl.ex
  exact ⟨C, mc, p, g, fd, h1, h2, h3, h4, h5, h6, okD_imp o h⟩
theorem calC {C p g : Addr} {mc : Value} {fd : FuncData} {N : List Str} {mm : M Fl} (h1 : mg c = some (.ref C)) (h2 : PySem.W.nsIn K mainGlobals c = some (some (.ref C))) (h3 : ClX.CRead K C mc) (h4 : ClX.CMet K C mc m p g) (Fk : Fun K m qual st g fd) (bd : Binds K fd ps []) (S : FnScope N ps (defScope st)) (hp : ps.length = np)
    (hb : ∀ (cdv : Value) (A : Around) (outer : List Env) (s : Shared) (H : Hp) (E : XK), RoomG k (A.deeper (PyProof.Rows.envOfC qual (defScope st) s.heap.objs.size g cdv)) →
      ∃ t, DSs (cxOf (L2.CX P w) P w K mg base N qual (defScope st) g cdv A outer s H E) (fun c d _ H => E c d H) (defBody st) t mm) :
    CalC P w K mg base c m qual st ps (k + 1) np (fnOf N.length mm) := by
  subst hp
  exact ⟨C, mc, p, g, fd, h1, h2, h3, h4, Fk, bd, okD Fk S hb⟩
end
def mCM (c : Str) (np : Nat) (n : Fn) (ml : M (List D)) : M D := bnd ml fun ds s => if ds.length + 1 = np then ofFR (n (.cls c :: ds) s.hp) s else none
def tCMG (c : Str) (sp : Sp) (E : L2.St → XK) (t : TA) (K : PySem.W.Frag) : TE := fun σ H Q => t σ H fun vs H1 => ∃ C, PySem.W.nsIn K mainGlobals c = some (some (.ref C)) ∧ sp (.ref C :: vs) H1 Q (E σ)
section
variable {X : Cx} {W : WX} {K : PySem.W.Frag} {mg : Str → Option Value} {pos apos p0 : Pos} {e : Expr} {es : List Expr} {tl : TA} {ml : M (List D)} {c m qual : Str} {st : Stmt} {ps : List Str} {k np : Nat} {n : Fn} {pl : Sem Bool}
theorem sem_cm {C : Addr} {t : TA} (ha : SemA X.K X.mg W t ml) (hn : PySem.W.nsIn X.K mainGlobals c = some (some (.ref C))) : SemE X.K X.mg W (tCMG c (spD X.K X.mg np n) (fun σ c d H => W c d σ H) t X.K) (mCM c np n ml) := by
  intro en io F H σ s o Q R e hx hq
  refine ha.step R e hx fun ds s1 vs io1 F1 H1 l1 R1 r1 e1 hx1 => ?_
  exact ⟨C, hn, sem_call (np := np) (n := n) (ds := .cls c :: ds) R1 ⟨_, vs, rfl, ⟨C, rfl, hn⟩, r1⟩ hx1 e1 fun d2 s3 e3 w io3 F3 H3 l3 R3 r3 => hq d2 s3 e3 w io3 F3 H3 (l1.trans l3) R3 r3⟩
theorem de_cmeth (cl : CalC X.prog X.w X.K X.mg X.base c m qual st ps k np n) (hr : RoomG k X.A) (tk : Takes X W) (hg : Gl X c) (ha : DA X W (e :: es) tl ml)
    (hdb : (c == ("__debug__" : Str)) = false := by decide)
    (hst : starEach (e :: es) X.env = (false, eval e X.env) :: starEach es X.env := by rfl) (hpl : (backTo pos (starEach es X.env)).any (·.1) = false := by rfl)
    (ht : eval (.Call (.Attribute (.Name c p0) m apos) (e :: es) [] pos) X.env = (do
      let ov ← eval (.Name c p0) X.env
      standAt apos.atName
      let (f, first) ← holding [ov] (getMethod ov m pl)
      callWith pos f first (backTo pos (starEach (e :: es) X.env)) (backToKw pos (keywordEach [] X.env))) := by rfl) :
    DE X W (.Call (.Attribute (.Name c p0) m apos) (e :: es) [] pos) (tCMG c (spD X.K X.mg np n) (fun σ c d H => W c d σ H) tl X.K) (mCM c np n ml) := by
  obtain ⟨C, mc, p, g, fd, h1, h2, h3, h4, Fk, bd, og⟩ := cl.ex
  refine ⟨⟨fun pins s σ H Q I h => ?_⟩, sem_cm ha.s h2⟩
  have hname : PE X (.Name c p0) (tC (.ref C)) := pe_glob hg h1 rfl hdb
  refine PySem.W.methodCall_KW (pl := pl) (thn (hname.run pins s σ H (fun v H' => v = .ref C ∧ H' = H) I ⟨rfl, rfl⟩) fun u s1 ⟨x, H1, I1, rx, ex, eH⟩ => ?_) ht
  subst ex
  subst eH
  obtain rfl : u = Value.ref C := rx
  refine ClX.getmethcm_ok I1 h3 h4 fun s2 I2 => ?_
  refine ClX.callwith_cm I2 (ClX.base_none I1 (Nat.le_refl _)) h4.fi (thn (ha.p.run pos _ s2 σ H1 _ I2 h) fun us s3 ⟨vs, H2, I3, rv, C', e', q2⟩ => ⟨⟨ClX.pin_at I3, I3.kIn⟩, ?_⟩) hst hpl
  have eC : C' = C := by
    have := e'.symm.trans h2
    injection this with this
    injection this with this
    injection this
  subst eC
  have z : wpAny (model X.prog X.w) X.A (call (.ref s1.heap.objs.size) us) (EP X ((s1.heap.objs.size, PySem.W.methodObj (.ref g) (.ref C')) :: pins) σ Q) X.xe s3 := by
    have r2 : Vals (V.ref C' :: vs) (Value.ref C' :: us) := .cons rfl rv
    have hl : (Value.ref C' :: us).length = ps.length := by
      rw [← r2.length]
      exact og.len _ _ _ _ q2
    refine wpAny_call (PySem.W.method_call (ClX.pin_at I3) (codeAny_mono (og.run X.A X.stack s3 H2 ⟨Value.ref C' :: us, []⟩ (Value.ref C' :: us) (V.ref C' :: vs) Q _ hr I3.env0 ?_ r2 q2) fun r s' hq => ?_))
    · have := bd s3 (Value.ref C' :: us) I3.kIn (by rw [List.append_nil]; exact hl)
      rwa [List.append_nil] at this
    · cases r with
      | error x => exact passAt tk σ _ H2 s3 x s' I3 hq
      | ok fl =>
        cases fl with
        | ret u => exact I3.after hq
        | next => exact False.elim hq
        | brk => exact False.elim hq
        | cont => exact False.elim hq
  exact thn z fun _ _ y => ClX.unpinE y
theorem ke_cmeth (K : PySem.W.Frag) (mg : Str → Option Value) (cl : CalC X.prog X.w X.K X.mg X.base c m qual st ps k np n) (hr : RoomG k X.A) (tk : Takes X W) (hg : Gl X c) (ha : DA X W (e :: es) tl ml) (hK : X.K = K := by rfl) (hM : X.mg = mg := by rfl)
    (hdb : (c == ("__debug__" : Str)) = false := by decide)
    (hst : starEach (e :: es) X.env = (false, eval e X.env) :: starEach es X.env := by rfl) (hpl : (backTo pos (starEach es X.env)).any (·.1) = false := by rfl)
    (ht : eval (.Call (.Attribute (.Name c p0) m apos) (e :: es) [] pos) X.env = (do
      let ov ← eval (.Name c p0) X.env
      standAt apos.atName
      let (f, first) ← holding [ov] (getMethod ov m pl)
      callWith pos f first (backTo pos (starEach (e :: es) X.env)) (backToKw pos (keywordEach [] X.env))) := by rfl) :
    DE X W (.Call (.Attribute (.Name c p0) m apos) (e :: es) [] pos) (tCMG c (spD K mg np n) (fun σ c d H => W c d σ H) tl K) (mCM c np n ml) := by subst hK hM; exact de_cmeth cl hr tk hg ha hdb hst hpl ht
/-! ### cls(..), cls a local name that holds a class -/
def mMakeV (i : Nat) (c : Str) (np : Nat) (n : Fn) (ml : M (List D)) : M D := fun s => match s.sl[i]? with
  | some (some (.val (.cls c'))) => if c' = c then mMake c np n ml s else none
  | _ => none
theorem de_makeV (i : Nat) {x : Str} {p : Pos} (cl : CalK X.prog X.w X.K X.mg X.base c qual st ps k np n) (hr : RoomG (k + 1) X.A) (hk : k < 30) (tk : Takes X W) (ha : DA X W (e :: es) tl ml)
    (hi : X.N[i]? = some x := by rfl) (hv : Vis X.env.scope x := by first | exact Or.inl rfl | exact Or.inr (Or.inl rfl)) (hd : (x == ("__debug__" : Str)) = false := by decide) (hcd : (x == ("__classdict__" : Str)) = false := by decide)
    (he : starEach (e :: es) X.env = (false, eval e X.env) :: starEach es X.env := by rfl) (hpl : (backTo pos (starEach es X.env)).any (·.1) = false := by rfl) :
    ∃ C, DE X W (.Call (.Name x p) (e :: es) [] pos) (fun σ H Q => σ[i]? = some (some (.ref C)) ∧ tMakeG C (spD X.K X.mg np n) (fun σ c d H => W c d σ H) tl σ H Q) (mMakeV i c np n ml) := by
  obtain ⟨C, f, fd, hm, hn, M, Fk, bd, og⟩ := cl.ex
  refine ⟨C, ⟨fun pins s σ H Q I h => ?_⟩, ?_⟩
  · obtain ⟨hs, h⟩ := h
    refine wpAny_Call_Name_kw (thn ((pe_var (pos := p) (i := i) hi hv hd hcd).run pins s σ H (fun v H1 => v = .ref C ∧ H1 = H) I ⟨.ref C, hs, rfl, rfl⟩) fun u s1 ⟨v, H1, I1, r1, ev, eH⟩ => ?_)
    subst ev
    subst eH
    obtain rfl : u = Value.ref C := r1
    refine PySem.W.callWith_K (h₀ := X.base) I1.ok.mod.kin M.kp (thn (ha.p.run pos pins s1 σ H1 _ I1 h) fun us s2 ⟨vs, H2, I2, r, q⟩ => ⟨I2.kIn, ?_⟩) he hpl
    exact run_makeG M og hr hk bd (passAt tk σ) I2 r q
  · intro en io F H σ s o Q R e' hx hq
    unfold mMakeV at e'
    split at e'
    · rename_i c' h
      by_cases hc : c' = c
      · subst hc
        rw [if_pos rfl] at e'
        obtain ⟨v, e1, C', e2, e3⟩ := R.val i _ h
        have eC : C' = C := by
          have := e3.symm.trans hn
          injection this with this
          injection this with this
          injection this
        subst eC
        subst e2
        exact ⟨e1, sem_make ha.s hn en io F H σ s o Q R e' hx hq⟩
      · rw [if_neg hc] at e'
        cases e'
    · cases e'
end
/-! ### list(text) -/
def listSF : List D → Option D
  | [.str x] => if x.length ≤ sizeLine then some (.lst (x.map fun c => .str [c])) else none
  | _ => none
def kLstS (x : V) (H : Hp) (Q : VK) : Prop := ∃ z : List Nat, x = .str ⟨z.toArray⟩ ∧ z.length ≤ sizeLine ∧ ∀ q, H q = none → Q (.ref q) (upd H q (.lst (z.map fun c => V.str ⟨[c].toArray⟩)))
section
variable {X : Cx} {W : WX} {pos : Pos} {K : PySem.W.Frag}
theorem reps_chars {io : List Addr} {F : Hp} : ∀ z : List Nat, reps K io F (z.map fun c => D.str [c]) (z.map fun c => V.str ⟨[c].toArray⟩)
  | [] => rfl
  | c :: z => ⟨_, _, rfl, rfl, reps_chars z⟩
theorem rl_listS (hc : X.calm = true) (pins : List (Addr × Obj)) (s : Shared) (σ : L2.St) (H : Hp) (x : V) (v : Value) (Q : VK) (I : Inv X pins σ H s) (r : RelV x v) (h : kLstS x H Q) :
    wpAny (model X.prog X.w) X.A (call (.type "list") [v]) (EP X pins σ Q) X.xe s := by
  obtain ⟨z, rfl, hz, q⟩ := h
  obtain ⟨t, rfl⟩ := r
  refine PySem.call_list_str (I.ok.hd hc) ⟨z.toArray⟩ t (fun h' tk acc c' hk e hi => ?_) hz
  have hlen : (z.map fun c => V.str ⟨[c].toArray⟩).length = z.length := List.length_map _
  refine ⟨.ref s.heap.objs.size, upd H s.heap.objs.size (.lst (z.map fun c => V.str ⟨[c].toArray⟩)), I.laid hk (Nat.le_refl _) ⟨by rw [hlen]; exact hz, acc.toList, c', ?_, by rw [Array.toArray_toList]; exact e⟩, rfl, q _ (I.hok.fresh (Nat.le_refl _))⟩
  refine vals_of_idx _ _ (by rw [hlen, Array.length_toList]; exact hi.1) fun j u hj => ?_
  obtain ⟨c, t', hc2, rfl⟩ := hi.2 j u (by rw [← Array.getElem?_toList]; exact hj)
  refine ⟨.str ⟨#[c]⟩, ?_, ⟨_, rfl⟩⟩
  have hc3 : z[j]? = some c := by rw [← hc2]; simp
  rw [List.getElem?_map, hc3, Option.map_some]
theorem kb_listS (K : PySem.W.Frag) (hc : X.calm = true := by rfl) (hK : X.K = K := by rfl) : CallOk X (.type "list") (r1 kLstS) listSF := ⟨call_r1 (rl_listS hc), by
  subst hK
  intro en io F H σ s vs ds d Q R rx e k
  match ds, e with
  | [.str z], e =>
    obtain ⟨v, rfl, r⟩ := reps1 rx
    have e' : (if z.length ≤ sizeLine then some (D.lst (z.map fun c => .str [c])) else none) = some d := e
    by_cases hz : z.length ≤ sizeLine
    · rw [if_pos hz] at e'
      cases e'
      refine ⟨z, r, hz, fun q hq => ?_⟩
      obtain ⟨R2, l2⟩ := R.new hq (.lst (z.map fun c => V.str ⟨[c].toArray⟩))
      exact k _ io _ _ l2 R2 ⟨q, _, rfl, upd_same, reps_chars z⟩
    · rw [if_neg hz] at e'
      cases e'⟩
end
/-! ### d.get(k, x) -/
noncomputable def mDGetD (mo mk mx : M D) : M D := bnd mo fun o => fun s => match getDr s o with
  | some _ => bnd mk (fun k => bnd mx fun x => fun s' => match keyD k, getDr s' o with
    | some k, some l => some (.ok ((getK l k).getD x) s')
    | _, _ => none) s
  | none => none
section
variable {X : Cx} {W : WX} {pos apos : Pos} {a b c : Expr} {ta tb tc : TE} {ma mb mc : M D}
theorem de_dgetD (hu : X.A.units + 64 < cLine) (ho : DE X W a ta ma) (hk : DE X W b tb mb) (hx' : DE X W c tc mc) (m : M2 X a "get" apos b c pos := by exact ⟨by rfl, by rfl, by rfl, by rfl⟩) :
    DE X W (.Call (.Attribute a "get" apos) [b, c] [] pos) (tDGet2 ta tb tc) (mDGetD ma mb mc) := ⟨pe_dget2 (by omega) ho.p hk.p hx'.p m, by
  intro en io F H σ s o Q R e hx hq
  refine ho.s.step R e hx fun d s1 v io1 F1 H1 l1 R1 r1 e1 hx1 => ?_
  split at e1
  · rename_i l0 hl0
    obtain ⟨p0, ws0, rfl, hH0, _⟩ := R1.getDr hl0 r1
    refine ⟨p0, rfl, .inl ⟨ws0, hH0⟩, ?_⟩
    refine hk.s.step R1 e1 hx1 fun d2 s2 v2 io2 F2 H2 l2 R2 r2 e2 hx2 => ?_
    refine hx'.s.step R2 e2 hx2 fun d3 s3 v3 io3 F3 H3 l3 R3 r3 e3 hx3 => ?_
    split at e3
    · rename_i k l hkk hl
      cases e3
      obtain ⟨p, ws, ep, hH, rx⟩ := R3.getDr hl (rep_le (l2.trans l3) _ _ r1)
      cases ep
      have ek := keyD_rep hkk r2
      rcases kreps_get k rx with ⟨d, w, g1, g2, g3⟩ | ⟨g1, g2⟩
      · refine ⟨some w, .inl ⟨ws, kk k, hH, ek, g2.symm⟩, ?_⟩
        rw [g1] at hq
        exact hq _ _ rfl w io3 F3 H3 ((l1.trans l2).trans l3) R3 g3
      · refine ⟨none, .inl ⟨ws, kk k, hH, ek, g2.symm⟩, ?_⟩
        rw [g1] at hq
        exact hq _ _ rfl v3 io3 F3 H3 ((l1.trans l2).trans l3) R3 r3
    · cases e3
  · cases e1⟩
theorem ke_dgetD (K : PySem.W.Frag) (hu : X.A.units + 64 < cLine) (ho : DE X W a ta ma) (hk : DE X W b tb mb) (hx' : DE X W c tc mc) (hK : X.K = K := by rfl) (m : M2 X a "get" apos b c pos := by exact ⟨by rfl, by rfl, by rfl, by rfl⟩) :
    DE X W (.Call (.Attribute a "get" apos) [b, c] [] pos) (tDGet2 ta tb tc) (mDGetD ma mb mc) := de_dgetD hu ho hk hx' m
end
/-! ### e not in x, x the slot's own list -/
def notInO (l : List D) (d : D) : Option D := notInL d (.lst l)
def mNotInO (i : Nat) (m : M D) : M D := bnd m fun d s => match getO s i with
  | some l => match notInO l d with
    | some z => some (.ok z s)
    | none => none
  | none => none
section
variable {X : Cx} {W : WX} {pos npos : Pos} {b : Expr} {tb : TE} {mb : M D}
theorem dt_notinO (i : Nat) {x : Str} (hb : DE X W b tb mb) (hi : X.N[i]? = some x := by rfl) (hv : Vis X.env.scope x := by first | exact Or.inl rfl | exact Or.inr (Or.inl rfl)) (hd : (x == ("__debug__" : Str)) = false := by decide) (hcd : (x == ("__classdict__" : Str)) = false := by decide) :
    DT X W (.Compare b [.NotIn] [.Name x npos] pos) (tTest (tOp (rIn X.K true) tb (tVar i))) (mTst (mNotInO i mb)) := ⟨pt_cmpR op_notIn_seq hb.p (pe_var hi hv hd hcd) (by rfl), by
  refine sem_tst ?_
  intro en io F H σ s o Q R e hx hq
  refine hb.s.step R e hx fun d s1 v io1 F1 H1 l1 R1 r1 e1 hx1 => ?_
  split at e1
  · rename_i l hl
    obtain ⟨_, p, xs, e2, hF, hH, r⟩ := R1.getO hl
    split at e1
    · rename_i z hz
      cases e1
      refine ⟨.ref p, e2, ?_⟩
      have hz' : (if flatD d = true ∧ l.all flatD = true then some (D.bl (!l.any fun y => eqF y d)) else none) = some z := hz
      by_cases hc : flatD d = true ∧ l.all flatD = true
      · rw [if_pos hc] at hz'
        cases hz'
        refine ⟨p, xs, rfl, .inl (.of hH), rep_flat hc.1 r1, reps_flat hc.2 r, hq _ _ rfl _ io1 F1 H1 l1 R1 ?_⟩
        show V.bl (if true = true then !inV v xs else _) = _
        rw [if_pos rfl, reps_inV hc.1 r1 hc.2 r]
      · rw [if_neg hc] at hz'
        cases hz'
    · cases e1
  · cases e1⟩
end
end Z
/-! Z28: a comprehension's list becomes the slot's own; insert -/
namespace Z
open PySem PySem.Spec PyProof.Rows L2
open Classical
section
variable {K : PySem.W.Frag} {en : Ent} {io : List Addr} {F H : Hp} {σ : L2.St} {s : A} {p : Addr}
theorem Rel.sideO {xs : List V} {ds : List D} (R : Rel K (en.wi p (.lst xs)) io F H σ s) (hio : p ∉ en.io) (hF : en.F p = none) (hH : en.H p = none) (r : reps K io F ds xs) (i : Nat) :
    Rel K en io F H (σ.set i (some (.ref p))) { s with sl := s.sl.set i (some (.own (.lst ds))) } := by
  have pio := R.sideio hio
  have pF := R.sideF hF
  have pH : H p = some (.lst xs) := R.sideAt hio
  refine ⟨R.h, ⟨R.k.pre, fun i a e hl => ?_, fun b u e hb => ?_, fun b hb => ?_, fun b hb => ?_, R.k.ex⟩, ?_, fun j d e => ?_, fun j u e => ?_, fun j k u u' q e e' e1 e2 => ?_⟩
  · have h := R.k.new i a e hl
    have : a ≠ p := fun z => by
      subst z
      exact pio (List.mem_of_getElem? e)
    have h' : upd en.H p (.lst xs) a = none := h
    rw [upd_ne this] at h'
    exact h'
  · have : b ≠ p := fun z => by
      subst z
      rw [hH] at e
      cases e
    exact R.k.frm b u (by show upd en.H p (.lst xs) b = some u; rw [upd_ne this]; exact e) hb
  · have : b ≠ p := fun z => by
      subst z
      exact hb hH
    exact R.k.liv b (by show upd en.H p (.lst xs) b ≠ none; rw [upd_ne this]; exact hb)
  · have : b ≠ p := fun z => by
      subst z
      exact hb hH
    exact R.k.grow b (by show upd en.H p (.lst xs) b ≠ none; rw [upd_ne this]; exact hb)
  · show (s.sl.set i _).length = (σ.set i _).length
    rw [List.length_set, List.length_set]
    exact R.len
  · have e' : (s.sl.set i (some (.own (.lst ds))))[j]? = some (some (.val d)) := e
    by_cases hj : i = j
    · subst hj
      rw [List.getElem?_set] at e'
      split at e'
      · split at e' <;> cases e'
      · contradiction
    · rw [List.getElem?_set_ne hj] at e'
      rw [List.getElem?_set_ne hj]
      exact R.val j d e'
  · have e' : (s.sl.set i (some (.own (.lst ds))))[j]? = some (some (.own u)) := e
    by_cases hj : i = j
    · subst hj
      rw [List.getElem?_set] at e'
      rw [if_pos rfl] at e'
      split at e'
      · rename_i hl
        cases e'
        refine ⟨p, ?_, ⟨pF, xs, pH, r⟩, pio, hH⟩
        rw [List.getElem?_set, if_pos rfl, if_pos (by rw [← R.len]; exact hl)]
      · cases e'
    · rw [List.getElem?_set_ne hj] at e'
      rw [List.getElem?_set_ne hj]
      obtain ⟨q, e1, c, h1, h2⟩ := R.own j u e'
      have hq := R.sideOwn e' e1
      have h2' : upd en.H p (.lst xs) q = none := h2
      rw [upd_ne hq] at h2'
      exact ⟨q, e1, c, h1, h2'⟩
  · have e3 : (s.sl.set i (some (.own (.lst ds))))[j]? = some (some (.own u)) := e
    have e4 : (s.sl.set i (some (.own (.lst ds))))[k]? = some (some (.own u')) := e'
    by_cases hj : i = j
    · by_cases hk : i = k
      · rw [← hj, ← hk]
      · exfalso
        rw [List.getElem?_set_ne hk] at e4 e2
        have hq := R.sideOwn e4 e2
        subst hj
        rw [List.getElem?_set, if_pos rfl] at e1
        split at e1
        · cases e1
          exact hq rfl
        · cases e1
    · by_cases hk : i = k
      · exfalso
        rw [List.getElem?_set_ne hj] at e3 e1
        have hq := R.sideOwn e3 e1
        subst hk
        rw [List.getElem?_set, if_pos rfl] at e2
        split at e2
        · cases e2
          exact hq rfl
        · cases e2
      · rw [List.getElem?_set_ne hj] at e3 e1
        rw [List.getElem?_set_ne hk] at e4 e2
        exact R.sep j k u u' q e3 e4 e1 e2
end
def mSetLcO (i : Nat) (m : M D) : M Fl := bnd m fun d s => match d with
  | .lst l => some (.ok .nx (setO s i l))
  | _ => none
section
variable {X : Cx} {W : WX} {pos : Pos} {K : PySem.W.Frag} {tg a b c e elt iter : Expr} {es ifs : List Expr} {te : TE} {me : M D} {tA : TT} {mA : M Bool} {g : TG} {gm : D → M Unit} {w : TI} {mi : M (List D)}
theorem ds_setLcO {scope : Scope} {y : Str} {py spos : Pos} (i : Nat) (own : List (Str × Nat)) (hc : X.calm = true) (hN : X.N.Nodup) (hsw : swapsWith (.ListComp elt [⟨tg, iter, ifs, 0⟩] scope pos) (some (.Name y py)) spos.line X.env = pure true) (hi : DI X W tg iter w mi) (ok : BlkOk X.N X.env.scope scope own)
    (hg : ∀ (s : Shared) (H : Hp) (C : Addr) (cl : List (Str × Addr)) (fp : List Addr), DG (X.blk s H scope (compEnvC scope cl C X.env) fp) W0 tg g gm) (hk : GKeep g (own.map (·.2)))
    (ht : ∀ (s : Shared) (H : Hp) (C : Addr) (cl : List (Str × Addr)) (fp : List Addr), DTs (X.blk s H scope (compEnvC scope cl C X.env) fp) W0 ifs tA mA)
    (he : ∀ (s : Shared) (H : Hp) (C : Addr) (cl : List (Str × Addr)) (fp : List Addr), DE (X.blk s H scope (compEnvC scope cl C X.env) fp) W0 elt te me)
    (hy : X.N[i]? = some y := by rfl) (hyl : X.env.scope.names.lookup y = some .local := by rfl) (hs : ∀ x, foldedSetIterable iter X.env x = pure x := by intro _; rfl) :
    DS X W (.Assign [.Name y py] (.ListComp elt [⟨tg, iter, ifs, 0⟩] scope pos) spos) (tAsg (tLc w g tA te (own.map (·.2))) (gName i)) (mSetLcO i (mLc mi gm mA me (own.map (·.2)))) :=
  ⟨ps_setLc hc hN hy hyl hsw hi.p ok (fun s H C cl fp => (hg s H C cl fp).p) (fun s H C cl fp => (ht s H C cl fp).p) (fun s H C cl fp => (he s H C cl fp).p) hs, by
    intro en io F H σ s o E R e hx hq
    have sm := sem_lcS (W := W) hi.s (hg X.s_0 (fun _ => none) 0 [] []).s hk (ht X.s_0 (fun _ => none) 0 [] []).s (he X.s_0 (fun _ => none) 0 [] []).s en io F H σ s
    rcases bnd_some e with ⟨d, s', e1, e2⟩ | ⟨x, s', e1, e2⟩
    · refine sm _ _ R e1 trivial fun dn s2 eo Dd acc io' F' H' l2 R2 eio eF e0 ra => ?_
      cases eo
      cases e2
      exact hq _ _ rfl io' F' H' _ l2 (R2.sideO eio eF e0 ra i)
    · subst e2
      exact sm _ _ R e1 hx fun dn s2 eo => by cases eo⟩
/-- x.insert(k, e), x the slot's own list, k not negative -/
def mInsO (i : Nat) (mk m : M D) : M D := fun s => match getO s i with
  | some _ => bnd mk (fun k => bnd m fun d s' => match k, getO s' i with
    | .int j, some l => if l.length < sizeLine ∧ 0 ≤ j ∧ j < 2 ^ 62 then some (.ok .non (setO s' i (l.take j.toNat ++ [d] ++ l.drop j.toNat))) else none
    | _, _ => none) s
  | none => none
abbrev rIns : V → List V → Hp → VK → Prop := fun x vs H Q => ∃ (l : Addr) (xs : List V) (i : Int) (y : V), x = .ref l ∧ vs = [.int i, y] ∧ H l = some (.lst xs) ∧ xs.length < sizeLine ∧ 0 ≤ i ∧ i < 2 ^ 63 ∧ Q .non (upd H l (.lst (xs.take i.toNat ++ [y] ++ xs.drop i.toNat)))
theorem de_insO (i : Nat) {x : Str} {npos apos : Pos} {tk : TE} {mk : M D} (hk : DE X W a tk mk) (he : DE X W e te me) (hi : X.N[i]? = some x := by rfl) (hv : Vis X.env.scope x := by first | exact Or.inl rfl | exact Or.inr (Or.inl rfl)) (hd : (x == ("__debug__" : Str)) = false := by decide) (hcd : (x == ("__classdict__" : Str)) = false := by decide)
    (hbase : attributeBase (.Name x npos) "insert" X.env (eval (.Name x npos) X.env) = eval (.Name x npos) X.env := by rfl) (hline : (apos.endLine == pos.line) = true := by rfl)
    (hfew : ((backTo pos (starEach [a, e] X.env)).all (fun x => !x.1) && (backToKw pos (keywordEach [] X.env)).all (fun x => x.1.isSome)
      && decide (([a, e] : List Expr).length + ([] : List Keyword).length + (if ([] : List Keyword).isEmpty then 0 else 1) < 30)) = true := by rfl)
    (hs : starEach [a, e] X.env = (false, eval a X.env) :: starEach [e] X.env := by rfl) (hs2 : starEach [e] X.env = (false, eval e X.env) :: starEach [] X.env := by rfl) (hpl : (backTo pos (starEach [e] X.env)).any (·.1) = false := by rfl) :
    DE X W (.Call (.Attribute (.Name x npos) "insert" apos) [a, e] [] pos) (tBM X.K "list" rIns (tVar i) (tCons tk (tCons te tNil))) (mInsO i mk me) :=
  ⟨pe_bm PySem.F.plainAttrs_list PySem.F.slot_list_insert PySem.F.type_list_insert mt_insert (pe_var hi hv hd hcd) (pa_cons hk.p (pa_cons he.p pa_nil hs2) hs) hbase hfew hline hs hpl, by
    intro en io F H σ s o Q R e' hx hq
    unfold mInsO at e'
    split at e'
    · rename_i l hl
      obtain ⟨_, p, xs, e1, hF, hH, r⟩ := R.getO hl
      refine ⟨.ref p, e1, .inl ⟨rfl, xs, .of hH⟩, ?_⟩
      refine hk.s.step R e' hx fun d0 s0 v0 io0 F0 H0 l0 R0 r0 e0 hx0 => ?_
      refine he.s.step R0 e0 hx0 fun d s1 v io1 F1 H1 l1 R1 r1 e2 hx1 => ?_
      split at e2
      · rename_i j l2 hl2
        obtain ⟨q, ys, e3, hF1, hH1, r2⟩ := R.sameO R1 hl hl2
        rw [e1] at e3
        cases e3
        split at e2
        · rename_i hz
          cases e2
          have hv0 : v0 = .int j := r0
          subst hv0
          refine ⟨p, ys, j, v, rfl, rfl, hH1, by rw [reps_len r2]; exact hz.1, hz.2.1, Int.lt_trans hz.2.2 (by decide), ?_⟩
          exact hq _ _ rfl .non io1 F1 _ (l0.trans l1) (R1.setO hl2 e1 hF1 (reps_app (reps_app (reps_take _ r2) (reps_one r1)) (reps_drop _ r2))) rfl
        · cases e2
      · cases e2
    · cases e'⟩
end
end Z
/-! Z29: enumerate of a list, x *= e of numbers -/
namespace Z
open PySem PySem.Spec PyProof.Rows L2
open Classical
def enLF : List D → Option (List D)
  | [.lst x] => some (enumD x)
  | _ => none
section
variable {X : Cx} {W : WX} {pos : Pos} {e : Expr} {tl : TA} {ml : M (List D)}
theorem enumD_get {x : List D} {i : Nat} {d : D} (h : (enumD x)[i]? = some d) : ∃ p, x[i]? = some p ∧ d = .tup [.int (i : Nat), p] := by
  unfold enumD at h
  rw [List.getElem?_map, List.getElem?_zipIdx] at h
  obtain ⟨⟨p, j⟩, h1, rfl⟩ := Option.map_eq_some_iff.mp h
  obtain ⟨q, h2, h3⟩ := Option.map_eq_some_iff.mp h1
  rw [Nat.zero_add] at h3
  cases h3
  exact ⟨_, h2, rfl⟩
theorem di_enL {elts : List Expr} {kk : Nat} {tpos p : Pos} (hg : Gl X "enumerate") (hm : X.mg "enumerate" = none) (ha : DA X W [e] tl ml) (hs : starEach [e] X.env = [(false, eval e X.env)] := by rfl) :
    DI X W (.Tuple elts kk tpos) (.Call (.Name "enumerate" p) [e] [] pos) (iEnum X.K tl) (mItA enLF ml) := ⟨pi_enum hg hm ha.p hs, by
  intro en io F H σ s o Q R e hx hq
  refine ha.s.step R e hx fun d s1 v io1 F1 H1 l1 R1 r1 e1 hx1 => ?_
  obtain ⟨z, e2, e3⟩ := lft_some e1
  match d, e2 with
  | [.lst x], e2 =>
    obtain ⟨v, rfl, r⟩ := reps1 r1
    cases e2
    obtain ⟨p1, xs, rfl, h, hr⟩ := r
    have hs : SqL X.K F1 p1 xs := .of h
    refine ⟨p1, xs, rfl, R1.h.ex.l hs, hq _ _ e3 _ io1 F1 H1 l1 R1 fun i en2 io2 F2 H2 σ2 s2 l2 R2 => ⟨fun d hd => ?_, fun hi => ?_⟩⟩
    · obtain ⟨a, g1, rfl⟩ := enumD_get hd
      obtain ⟨u, h1, h2⟩ := reps_get hr g1
      refine ⟨⟨xs, u, R2.h.ex.l (l2.ex.l hs), h1⟩, fun y H3 hy => ?_⟩
      obtain ⟨T, x', rfl, hT, rfl, q1⟩ := hy
      have c1 := q1 xs (R2.h.ex.l (l2.ex.l hs))
      rw [h1] at c1
      cases c1
      obtain ⟨R3, l3⟩ := R2.new hT (.tup [.int (i : Nat), u])
      exact ⟨_, l3, R3, T, [.int (i : Nat), u], rfl, .inl (.inl upd_same), .int (i : Nat), _, rfl, rfl, u, _, rfl, rep_le (l2.trans l3) _ _ h2, rfl⟩
    · have e1 := reps_len hr
      refine ⟨xs, R2.h.ex.l (l2.ex.l hs), ?_⟩
      have : i = x.length := by
        rw [hi]
        unfold enumD
        rw [List.length_map, List.length_zipIdx]
      omega⟩
theorem ki_enL (K : PySem.W.Frag) {elts : List Expr} {kk : Nat} {tpos p : Pos} (hg : Gl X "enumerate") (hm : X.mg "enumerate" = none) (ha : DA X W [e] tl ml) (hK : X.K = K := by rfl) (hs : starEach [e] X.env = [(false, eval e X.env)] := by rfl) :
    DI X W (.Tuple elts kk tpos) (.Call (.Name "enumerate" p) [e] [] pos) (iEnum K tl) (mItA enLF ml) := by
  subst hK
  exact di_enL hg hm ha hs
theorem o_imulI : OpOk X (inplaceOp .Mult) (rI CMul fun i j => .int (i * j)) (fIc CMul fun i j => .int (i * j)) := ⟨iop_mul, opd_I fun _ _ _ _ => rfl⟩
end
/-! ### C(..), K and mg by name -/
def tMakeN (c : Str) (sp : Sp) (E : L2.St → XK) (t : TA) (K : PySem.W.Frag) : TE := fun σ H Q => t σ H fun vs H1 => ∃ C, PySem.W.nsIn K mainGlobals c = some (some (.ref C)) ∧ ∀ x dx, H1 x = none → H1 dx = none → dx ≠ x →
  sp (.ref x :: vs) (upd (upd H1 dx (.own x)) x (.ins C dx [])) (fun v H2 => v = .non ∧ Q (.ref x) H2) (E σ)
section
variable {X : Cx} {W : WX} {pos p : Pos} {e : Expr} {es : List Expr} {tl : TA} {ml : M (List D)} {c qual : Str} {st : Stmt} {ps : List Str} {k np : Nat} {n : Fn}
theorem sem_makeN {C : Addr} {t : TA} (ha : SemA X.K X.mg W t ml) (hn : PySem.W.nsIn X.K mainGlobals c = some (some (.ref C))) : SemE X.K X.mg W (tMakeN c (spD X.K X.mg np n) (fun σ c d H => W c d σ H) t X.K) (mMake c np n ml) := by
  intro en io F H σ s o Q R e hx hq
  refine ha.step R e hx fun ds s1 vs io1 F1 H1 l1 R1 r1 e1 hx1 => ?_
  refine ⟨C, hn, fun x dx hxn hdn hne => ?_⟩
  split at e1
  · rename_i hl
    obtain ⟨R2, l2⟩ := R1.new hdn (.own x)
    have hx2 : upd H1 dx (.own x) x = none := by rw [upd_ne (Ne.symm hne)]; exact hxn
    obtain ⟨R3, l3, r3⟩ := R2.hnew (ho := .ins C dx []) (o := .ins c []) hx2 ⟨R2.h.ex.none_of hx2, C, dx, [], upd_same, hn, rfl, rfl⟩
    have lt := l2.trans l3
    split at e1
    · rename_i hp' h1
      cases e1
      refine ⟨io1 ++ [x], _, .ref s1.hp.length :: ds, s1.hp ++ [.ins c []], .ok .non hp', R3.h, ⟨.ref x, vs, rfl, r3, reps_le lt _ _ r1⟩, hl, h1, fun v io' F' H' xx rv => ⟨rv, ?_⟩⟩
      exact hq _ _ rfl (.ref x) io' F' H' ((l1.trans lt).trans xx.l) (R3.stp xx) (rep_le xx.l _ _ r3)
    · rename_i ex hp' h1
      cases e1
      refine ⟨io1 ++ [x], _, .ref s1.hp.length :: ds, s1.hp ++ [.ins c []], .ex ex hp', R3.h, ⟨.ref x, vs, rfl, r3, reps_le lt _ _ r1⟩, hl, h1, fun cls dd io' F' H' xx rv => ?_⟩
      exact hx1 cls dd io' F' H' σ (lt.trans xx.l) (R3.stp xx) rv
    · cases e1
  · cases e1
theorem ke_make (K : PySem.W.Frag) (mg : Str → Option Value) (cl : CalK X.prog X.w X.K X.mg X.base c qual st ps k np n) (hr : RoomG (k + 1) X.A) (hk : k < 30) (tk : Takes X W) (hg : Gl X c) (ha : DA X W (e :: es) tl ml) (hK : X.K = K := by rfl) (hM : X.mg = mg := by rfl)
    (hdb : (c == ("__debug__" : Str)) = false := by decide) (he : starEach (e :: es) X.env = (false, eval e X.env) :: starEach es X.env := by rfl) (hpl : (backTo pos (starEach es X.env)).any (·.1) = false := by rfl) :
    DE X W (.Call (.Name c p) (e :: es) [] pos) (tMakeN c (spD K mg np n) (fun σ c d H => W c d σ H) tl K) (mMake c np n ml) := by
  subst hK hM
  obtain ⟨C, f, fd, hm, hn, M, Fk, bd, og⟩ := cl.ex
  refine ⟨⟨fun pins s σ H Q I h => ?_⟩, ?_⟩
  · refine wpAny_Call_Name_kw (ld_glob I hg hm ?_ hdb)
    refine PySem.W.callWith_K (h₀ := X.base) I.ok.mod.kin M.kp (thn (ha.p.run pos pins s σ H _ I h) fun us s1 ⟨vs, H1, I1, r, C', hn', q⟩ => ⟨I1.kIn, ?_⟩) he hpl
    have eC : C' = C := by
      have := hn'.symm.trans hn
      injection this with this
      injection this with this
      injection this
    subst eC
    exact run_makeG M og hr hk bd (passAt tk σ) I1 r q
  · exact sem_makeN ha.s hn
end
end Z
/-! Z30: == of two instances by the class's own __eq__, whatever it says; C.m(k = v, ..) of a classmethod -/
namespace Z
open PySem PySem.Spec PyProof.Rows L2
open Classical
/-- x == y, both instances of c -/
def mEqO (c : Str) (n : Fn) (ma mb : M D) : M D := bnd ma fun x => bnd mb fun y => fun s => match getI s c x, getI s c y with
  | some _, some _ => (match n [x, y] s.hp with
    | some (.ok (.bl b) hp') => some (.ok (.bl b) { s with hp := hp' })
    | _ => none)
  | _, _ => none
def rEqOwn (K : PySem.W.Frag) (c : Str) (sp : Sp) : R2 := fun x y H Q => ∃ a b C dx dy fs gs, x = .ref a ∧ y = .ref b ∧ PySem.W.nsIn K mainGlobals c = some (some (.ref C)) ∧ H a = some (.ins C dx fs) ∧ H b = some (.ins C dy gs) ∧
  sp [.ref a, .ref b] H (fun v H' => ∃ k, v = .bl k ∧ Q v H') (fun _ _ _ => False)
section
variable {X : Cx} {W : WX} {K : PySem.W.Frag} {mg : Str → Option Value} {pos : Pos} {a b : Expr} {ta tb : TE} {ma mb : M D} {c qual : Str} {st : Stmt} {ps : List Str} {k : Nat} {n : Fn}
theorem op_eqOwn (cl : CalM X.prog X.w X.K X.mg X.base c "__eq__" qual st ps k 2 n) (hr : RoomG k X.A) : OpR X (compareOp .Eq) (rEqOwn X.K c (spD X.K X.mg 2 n)) := by
  intro pins s σ H x y v u Q I rx ry h
  obtain ⟨a, b, C, dx, dy, fs, gs, rfl, rfl, hn, ha, hb, hsp⟩ := h
  cases rx
  cases ry
  obtain ⟨f, fd, hm, Fk, bd, og⟩ := cl.ex
  obtain ⟨_, hmt⟩ := hm C hn
  obtain ⟨mA, J, _⟩ := ins_get I.hok ha
  obtain ⟨mB, J', _⟩ := ins_get I.hok hb
  obtain ⟨od, J, _⟩ := J.look
  obtain ⟨od', J', _⟩ := J'.look
  obtain ⟨m, hF⟩ := I.fr
  show wpAny (model X.prog X.w) X.A (richCompare .Eq (.ref a) (.ref b)) (EP X pins σ Q) X.xe s
  refine PySem.W.cmp_K (op := .Eq) (tb := .ref C) hr.r.units0 hF I.ok.mod.kin J J'.type (by simp [PySem.W.notFirst]) hmt.at_ hmt.fn ?_
  have r2 : Vals [V.ref a, V.ref b] [Value.ref a, Value.ref b] := .cons rfl (.cons rfl .nil)
  have hl := og.len _ _ _ _ hsp
  refine wpAny_call (codeAny_mono (og.run X.A X.stack s H ⟨[.ref a, .ref b], []⟩ [.ref a, .ref b] [.ref a, .ref b] _ _ hr I.env0 (by
    have := bd s [.ref a, .ref b] I.kIn (by simpa using hl)
    simpa using this) r2 hsp) fun r s' hq => ?_)
  cases r with
  | error e =>
    obtain ⟨_, _, _, _, _, _, _, _, _, _, _, _, z⟩ := hq
    exact z.elim
  | ok fl =>
    cases fl with
    | ret w =>
      obtain ⟨z, H', I', rz, b', ez, q⟩ := I.after hq
      subst ez
      cases rz
      exact ⟨.bl b', H', I', rfl, q⟩
    | next => exact False.elim hq
    | brk => exact False.elim hq
    | cont => exact False.elim hq
theorem sem_eqOwn (ha : SemE K mg W ta ma) (hb : SemE K mg W tb mb) : SemE K mg W (tOp (rEqOwn K c (spD K mg 2 n)) ta tb) (mEqO c n ma mb) := by
  intro en io F H σ s o Q R e hx hq
  refine ha.step R e hx fun d s1 v io1 F1 H1 l1 R1 r1 e1 hx1 => ?_
  refine hb.step R1 e1 hx1 fun d2 s2 v2 io2 F2 H2 l2 R2 r2 e2 hx2 => ?_
  split at e2
  · rename_i fs gs hfs hgs
    obtain ⟨p, C, dx, ws, rfl, hF, hH, hn, rx, _⟩ := R2.getI hfs (rep_le l2 _ _ r1)
    obtain ⟨p', C', dx', ws', rfl, hF', hH', hn', rx', _⟩ := R2.getI hgs r2
    have eC : C' = C := by
      have := hn'.symm.trans hn
      injection this with this
      injection this with this
      injection this
    subst eC
    refine ⟨p, p', C', dx, dx', ws, ws', rfl, rfl, hn, hH, hH', ?_⟩
    split at e2
    · rename_i b hp' h1
      cases e2
      refine ⟨io2, F2, [d, d2], s2.hp, _, R2.h, ⟨_, _, rfl, rep_le l2 _ _ r1, _, _, rfl, r2, rfl⟩, rfl, h1, fun w io' F' H' x rv => ⟨b, rv, ?_⟩⟩
      exact hq _ _ rfl w io' F' H' ((l1.trans l2).trans x.l) (R2.stp x) rv
    · cases e2
  · cases e2
theorem ke_eqO (K : PySem.W.Frag) (mg : Str → Option Value) (cl : CalM X.prog X.w X.K X.mg X.base c "__eq__" qual st ps k 2 n) (hr : RoomG k X.A) (ha : DE X W a ta ma) (hb : DE X W b tb mb) (hK : X.K = K := by rfl) (hM : X.mg = mg := by rfl) (hm : behindInMarks .Eq b = false := by first | exact nomark _ | rfl) :
    DE X W (.Compare a [.Eq] [b] pos) (tOp (rEqOwn K c (spD K mg 2 n)) ta tb) (mEqO c n ma mb) := by
  subst hK hM
  exact ⟨pe_cmpR (op_eqOwn cl hr) ha.p hb.p hm, sem_eqOwn ha.s hb.s⟩
theorem kt_eqO (K : PySem.W.Frag) (mg : Str → Option Value) (cl : CalM X.prog X.w X.K X.mg X.base c "__eq__" qual st ps k 2 n) (hr : RoomG k X.A) (ha : DE X W a ta ma) (hb : DE X W b tb mb) (hK : X.K = K := by rfl) (hM : X.mg = mg := by rfl) (hm : behindInMarks .Eq b = false := by first | exact nomark _ | rfl) :
    DT X W (.Compare a [.Eq] [b] pos) (tTest (tOp (rEqOwn K c (spD K mg 2 n)) ta tb)) (mTst (mEqO c n ma mb)) := by
  subst hK hM
  exact ⟨pt_cmpR (op_eqOwn cl hr) ha.p hb.p hm, sem_tst (sem_eqOwn ha.s hb.s)⟩
end
/-! ### a classmethod, its arguments by keyword -/
section
variable {X : Cx} {W : WX} {pos apos p0 : Pos} {kws : List Keyword} {tk : TA} {mk : M (List D)} {c m qual : Str} {st : Stmt} {ps ks : List Str} {k np : Nat} {n : Fn} {pl : Sem Bool}
def tCMK (c : Str) (nk : Nat) (π : List Nat) (sp : Sp) (E : L2.St → XK) (t : TA) (K : PySem.W.Frag) : TE := fun σ H Q => t σ H fun zs H1 => zs.length = nk ∧ ∃ C, PySem.W.nsIn K mainGlobals c = some (some (.ref C)) ∧ sp (.ref C :: perm π zs) H1 Q (E σ)
theorem ke_cmethK (K : PySem.W.Frag) (mg : Str → Option Value) (cl : CalC X.prog X.w X.K X.mg X.base c m qual st ps k np n) (hr : RoomG k X.A) (tk' : Takes X W) (hg : Gl X c) (π : List Nat)
    (hbd : ∀ (kV doc pm : Value) (an : Option Addr) (cdv ct u : Value) (ws : List Value), ws.length = ks.length → bindArgs (PySem.W.fnOf m qual (defArgs st) (defBody st) (defScope st) .none kV doc pm an cdv ct) ⟨[u], ks.zip ws⟩ = pure (ps.zip (u :: perm π ws)))
    (hkw : DK X W kws tk mk) (hK : X.K = K := by rfl) (hM : X.mg = mg := by rfl) (hdb : (c == ("__debug__" : Str)) = false := by decide)
    (hall : (backToKw pos (keywordEach kws X.env)).all (·.1.isSome) = true := by rfl) (hks : (backToKw pos (keywordEach kws X.env)).filterMap (·.1) = ks := by rfl)
    (hpl : ((backTo pos (starEach [] X.env)).any (·.1) || (backToKw pos (keywordEach kws X.env)).any (·.1.isNone)) = false := by rfl)
    (ht : eval (.Call (.Attribute (.Name c p0) m apos) [] kws pos) X.env = (do
      let ov ← eval (.Name c p0) X.env
      standAt apos.atName
      let (f, first) ← holding [ov] (getMethod ov m pl)
      callWith pos f first (backTo pos (starEach [] X.env)) (backToKw pos (keywordEach kws X.env))) := by rfl) :
    DE X W (.Call (.Attribute (.Name c p0) m apos) [] kws pos) (tCMK c ks.length π (spD K mg np n) (fun σ c d H => W c d σ H) tk K) (mCM c np n (mPerm ks.length π mk)) := by
  subst hK hM
  obtain ⟨C, mc, p, g, fd, h1, h2, h3, h4, Fk, bd, og⟩ := cl.ex
  have hb := kbn_perm Fk π hbd
  refine ⟨⟨fun pins s σ H Q I h => ?_⟩, ?_⟩
  · have hname : PE X (.Name c p0) (tC (.ref C)) := pe_glob hg h1 rfl hdb
    refine PySem.W.methodCall_KW (pl := pl) (thn (hname.run pins s σ H (fun v H' => v = .ref C ∧ H' = H) I ⟨rfl, rfl⟩) fun u s1 ⟨x, H1, I1, rx, ex, eH⟩ => ?_) ht
    subst ex
    subst eH
    obtain rfl : u = Value.ref C := rx
    refine ClX.getmethcm_ok I1 h3 h4 fun s2 I2 => ?_
    refine PySem.W.callWith_of (P := PySem.W.MethP X.K s1.heap.objs.size g (.ref C)) hpl (PySem.W.keeps_M h4.fi) (evalArgs_kw2_nil hall (thn (hkw.p.run pos _ s2 σ H1 _ I2 h) fun ws s3 ⟨zs, H2, I3, rv, l2, C', e', q2⟩ => ⟨⟨ClX.pin_at I3, I3.kIn⟩, ?_⟩))
    have eC : C' = C := by
      have := e'.symm.trans h2
      injection this with this
      injection this with this
      injection this
    subst eC
    rw [hks]
    have z : wpAny (model X.prog X.w) X.A (call (.ref s1.heap.objs.size) [] (ks.zip ws)) (EP X ((s1.heap.objs.size, PySem.W.methodObj (.ref g) (.ref C')) :: pins) σ Q) X.xe s3 := by
      have r2 : Vals (V.ref C' :: perm π zs) (Value.ref C' :: perm π ws) := .cons rfl (vals_perm rv π)
      have hl : ws.length = ks.length := rv.length.symm.trans l2
      refine wpAny_call (PySem.W.method_call (ClX.pin_at I3) (codeAny_mono (og.run X.A X.stack s3 H2 ⟨[Value.ref C'], ks.zip ws⟩ (Value.ref C' :: perm π ws) (V.ref C' :: perm π zs) Q _ hr I3.env0 (hb.to _ [Value.ref C'] ws I3.kIn rfl hl) r2 q2) fun r s' hq => ?_))
      cases r with
      | error x => exact passAt tk' σ _ H2 s3 x s' I3 hq
      | ok fl =>
        cases fl with
        | ret u => exact I3.after hq
        | next => exact False.elim hq
        | brk => exact False.elim hq
        | cont => exact False.elim hq
    exact thn z fun _ _ y => ClX.unpinE y
  · intro en io F H σ s o Q R e hx hq
    rcases bnd_some e with ⟨ds, s1, e1, e2⟩ | ⟨x, s1, e1, e2⟩
    · rcases bnd_some e1 with ⟨ds0, s0, e3, e4⟩ | ⟨x, s0, e3, e4⟩
      · refine hkw.s en io F H σ s _ _ R e3 trivial fun ds' s1' e5 vs io1 F1 H1 l1 R1 r1 => ?_
        cases e5
        by_cases hl : ds0.length = ks.length
        · rw [if_pos hl] at e4
          cases e4
          refine ⟨by rw [reps_len r1]; exact hl, C, h2, ?_⟩
          exact sem_call (np := np) (n := n) (ds := .cls c :: perm π ds0) R1 ⟨_, _, rfl, ⟨C, rfl, h2⟩, reps_perm r1 π⟩ (hx.le _ _ _ l1) e2 fun d2 s3 e6 w io3 F3 H3 l3 R3 r3 => hq d2 s3 e6 w io3 F3 H3 (l1.trans l3) R3 r3
        · rw [if_neg hl] at e4
          cases e4
      · cases e4
    · subst e2
      rcases bnd_some e1 with ⟨ds0, s0, e3, e4⟩ | ⟨x', s0, e3, e4⟩
      · by_cases hl : ds0.length = ks.length
        · rw [if_pos hl] at e4
          cases e4
        · rw [if_neg hl] at e4
          cases e4
      · cases e4
        exact hkw.s en io F H σ s _ _ R e3 hx fun ds' s1' e5 => by cases e5
end
end Z
/-! Z31: isinstance(o, C), o an instance of the own class C -/
namespace Z
open PySem PySem.Spec PyProof.Rows L2
open Classical
def mIsC (c : Str) (mo : M D) : M D := bnd mo fun o s => match getI s c o with
  | some _ => some (.ok (.bl true) s)
  | none => none
abbrev r_isC (C : Addr) : List V → Hp → VK → Prop := fun xs H Q => ∃ a dx fs, xs = [.ref a, .ref C] ∧ H a = some (.ins C dx fs) ∧ Q (.bl true) H
section
variable {X : Cx} {W : WX} {pos : Pos} {e : Expr} {te : TE} {me : M D} {c : Str}
theorem de_isC {p p2 : Pos} (h : ∃ C, X.mg c = some (.ref C) ∧ PySem.W.nsIn X.K mainGlobals c = some (some (.ref C)) ∧ C8.InsC X.K C) (hg : Gl X "isinstance") (hm : X.mg "isinstance" = none) (hgc : Gl X c) (he : DE X W e te me) (hv : bootBuiltins "isinstance" = some (.builtin "isinstance") := by decide +kernel) (hd : (c == ("__debug__" : Str)) = false := by decide)
    (hs : starEach [e, .Name c p2] X.env = (false, eval e X.env) :: starEach [.Name c p2] X.env := by rfl) (hs2 : starEach [.Name c p2] X.env = (false, eval (.Name c p2) X.env) :: starEach [] X.env := by rfl) (hpl : (backTo pos (starEach [.Name c p2] X.env)).any (·.1) = false := by rfl) :
    ∃ C, DE X W (.Call (.Name "isinstance" p) [e, .Name c p2] [] pos) (tCB (r_isC C) (tCons te (tCons (tC (.ref C)) tNil))) (mIsC c me) := by
  obtain ⟨C, h1, h2, h3⟩ := h
  refine ⟨C, pe_callB (C8.call_isC h3) hg hm hv (pa_cons he.p (pa_cons (pe_glob hgc h1 rfl hd) pa_nil hs2) hs) (by decide) (by decide) hs hpl, ?_⟩
  intro en io F H σ s o Q R e' hx hq
  refine he.s.step R e' hx fun d s1 v io1 F1 H1 l1 R1 r1 e1 hx1 => ?_
  split at e1
  · rename_i fs hfs
    cases e1
    obtain ⟨a, C', dx, ws, rfl, hF, hH, hn, rx, _⟩ := R1.getI hfs r1
    have eC : C' = C := by
      have := hn.symm.trans h2
      injection this with this
      injection this with this
      injection this
    subst eC
    exact ⟨a, dx, ws, rfl, hH, hq _ _ rfl (.bl true) io1 F1 H1 l1 R1 rfl⟩
  · cases e1
end
end Z
/-! Z32: the first thing that a generator hands out: for x in g(..): break -/
namespace ZG
open PySem PySem.Spec PyProof.Rows GenW L2
/-- handed out, and never woken again -/
def FY (X : Cx) (yl : VK) : Protocol := fun _ _ v s _ => ∃ x pins σ H, RelV x v ∧ Inv X pins σ H s ∧ yl x H
structure FC (X : Cx) (A : Around) (c : Code) (fs : List Frame) (gd : Bool → Bool) : Prop where
  ov : A.over c fs = X.A
  sg : splitAtGen fs = none
  ug : fs.any Frame.guarded = false
  g0 : gd false = false
structure FK (X : Cx) (pins : List (Addr × Obj)) (A : Around) (R : GenEnd) (s₀ : Shared) (c : Code) (fs : List Frame) (K : Flow → Sem PySem.Fin) (J : Value → Sem PySem.Fin) (D : Ends) : Prop where
  nx : ∀ s σ H, Inv X pins σ H s → D.nx σ H → Seg (model X.prog X.w) A R (FY X D.rt) 1 s₀ c (K .next) fs s
  bk : ∀ s σ H, Inv X pins σ H s → D.bk σ H → Seg (model X.prog X.w) A R (FY X D.rt) 1 s₀ c (K .brk) fs s
  ct : ∀ s σ H, Inv X pins σ H s → D.ct σ H → Seg (model X.prog X.w) A R (FY X D.rt) 1 s₀ c (K .cont) fs s
  ex : ∀ x s, X.xe x s → Seg (model X.prog X.w) A R (FY X D.rt) 1 s₀ c (J x) fs s
structure FS (X : Cx) (st : Stmt) (t : TS) : Prop where
  go : ∀ (A : Around) (pins : List (Addr × Obj)) (R : GenEnd) (s₀ : Shared) (c : Code) (fs : List Frame) (K : Flow → Sem PySem.Fin) (J : Value → Sem PySem.Fin) (gd : Bool → Bool) (lv : List Value → List Value) (s : Shared) (σ : L2.St) (H : Hp) (D : Ends),
    FC X A c fs gd → FK X pins A R s₀ c fs K J D → Inv X pins σ H s → t D σ H → Seg (model X.prog X.w) A R (FY X D.rt) 1 s₀ c ((exec st X.env).wrap K J gd lv) fs s
structure FSs (X : Cx) (sts : List Stmt) (t : TS) : Prop where
  go : ∀ (A : Around) (pins : List (Addr × Obj)) (R : GenEnd) (s₀ : Shared) (c : Code) (fs : List Frame) (K : Flow → Sem PySem.Fin) (J : Value → Sem PySem.Fin) (gd : Bool → Bool) (lv : List Value → List Value) (s : Shared) (σ : L2.St) (H : Hp) (D : Ends),
    FC X A c fs gd → FK X pins A R s₀ c fs K J D → Inv X pins σ H s → t D σ H → Seg (model X.prog X.w) A R (FY X D.rt) 1 s₀ c ((execs sts X.env).wrap K J gd lv) fs s
/-- a statement that neither hands out nor returns -/
def tNoR (t : TS) : TS := fun D σ H => t { D with rt := fun _ _ => False } σ H
section
variable {X : Cx} {st : Stmt} {sts : List Stmt} {t u : TS}
theorem fs_ps (h : PS X st t) : FS X st (tNoR t) := by
  refine ⟨fun A pins R s₀ c fs K J gd lv s σ H D g k I ht => seg_wrap ?_⟩
  rw [g.ov]
  refine wpAny_mono (h.run pins s σ H _ I ht) (fun f s' q => ?_) fun x s' hx => k.ex x s' hx
  cases f with
  | next => obtain ⟨σ', H', I', q⟩ := q; exact k.nx s' σ' H' I' q
  | brk => obtain ⟨σ', H', I', q⟩ := q; exact k.bk s' σ' H' I' q
  | cont => obtain ⟨σ', H', I', q⟩ := q; exact k.ct s' σ' H' I' q
  | ret v => obtain ⟨_, _, _, _, _, q⟩ := q; exact False.elim q
theorem fss_nil : FSs X [] tNext := ⟨fun A pins R s₀ c fs K J gd lv s σ H D g k I ht => seg_execs_nil (k.nx s σ H I ht)⟩
theorem fss_cons (a : FS X st t) (b : FSs X sts u) : FSs X (st :: sts) (tSeq t u) := by
  refine ⟨fun A pins R s₀ c fs K J gd lv s σ H D g k I ht => seg_execs_cons ?_⟩
  refine a.go A pins R s₀ c fs _ J gd lv s σ H { D with nx := u D } g ⟨fun s' σ' H' I' q => ?_, k.bk, k.ct, k.ex⟩ I ht
  exact b.go A pins R s₀ c fs K J gd lv s' σ' H' D g k I' q
theorem fs_yield {e : Expr} {yp pos : Pos} {te : TE} (he : PE X e te) (hco : X.env.scope.isCoroutine = false := by rfl) (hi : interactive X.env = false := by rfl) : FS X (.Expr (.Yield (some e) yp) pos) (tRet te) := by
  refine ⟨fun A pins R s₀ c fs K J gd lv s σ H D g k I ht => seg_Expr_Yield g.sg g.g0 g.ug ?_ hco hi⟩
  rw [g.ov]
  exact wpAny_mono (he.run pins s σ H _ I ht) (fun v s' ⟨x, H1, I1, rv, q⟩ kap hk => ⟨x, pins, σ, H1, rv, I1, q⟩) fun x s' hx => k.ex x s' hx
theorem fc_loop {A : Around} {c c' : Code} {fs : List Frame} {gd : Bool → Bool} {k : Result → Sem PySem.Fin} {l kp : List Value} {p : Pos} (g : FC X A c fs gd) (hw : c'.weight = 0) (hu : c'.cUnits = 0) : FC X A c' (.ret k none (gd false) l c p kp :: fs) id := by
  refine ⟨(over_loop hw hu).trans g.ov, ?_, ?_, rfl⟩
  · show Option.map _ (splitAtGen fs) = none
    rw [g.sg]
    rfl
  · show (gd false || List.any fs Frame.guarded) = false
    rw [g.g0, g.ug]
    rfl
theorem seg_back {pins : List (Addr × Obj)} {A : Around} {R : GenEnd} {c : Code} {fs : List Frame} {K : Flow → Sem PySem.Fin} {J : Value → Sem PySem.Fin} {gd : Bool → Bool} {lv : List Value → List Value} {D : Ends} {s₀ s : Shared} {x : Value} (g : FC X A c fs gd) (k : FK X pins A R s₀ c fs K J D) (h : cameBackBy (model X.prog X.w) X.A X.env X.xe x s) :
    Seg (model X.prog X.w) A R (FY X D.rt) 1 s₀ c (((Sem.raise x : Sem Flow).onRaise (cameBack X.env)).wrap K J gd lv) fs s := by
  show Seg _ _ _ _ _ _ _ (((cameBack X.env x).bind fun _ => (.raise x : Sem Flow)).wrap K J gd lv) _ _
  rw [Sem.bind_eq_wrap, Sem.wrap_wrap]
  refine seg_wrap ?_
  rw [g.ov]
  exact wpAny_mono h (fun _ s' hx => k.ex x s' hx) fun y s' hx => k.ex y s' hx
theorem fs_for {tg iter : Expr} {body : List Stmt} {wi : TI} {g : TG} {tb : TS} {pos : Pos} (hp : PassesOwn (model X.prog X.w) X.A X.env X.xe) (hc : X.calm = true) (hi : PI X tg iter wi) (hg : PG X tg g) (hb : FSs X body tb)
    (hs : ∀ x, foldedSetIterable iter X.env x = pure x := by intro _; rfl) : FS X (.For tg iter body [] pos) (tFor wi g tb) := by
  refine ⟨fun A pins R s₀ c fs K J gd lv s σ H D g0 k I ht => seg_For hs ?_⟩
  rw [g0.ov]
  refine wpAny_mono (hi.run pins s σ H _ I ht) (fun v s1 h1 => wpAny_mono h1 (fun itv s2 h2 => ?_) fun x s' hx => k.ex x s' hx) fun x s' hx => k.ex x s' hx
  obtain ⟨it, fp, tn, Jt, H2, e, I2, T, st2, f2, W, ⟨m0, w0⟩, turn⟩ := h2
  subst e
  intro p
  have gl := fun (kk : Result → Sem PySem.Fin) => fc_loop (k := kk) (c' := .forLoop tg (.ref it) body [] X.env) (l := lv []) (kp := []) (p := p) g0 rfl rfl
  have stat : ∀ {H' : Hp}, (∀ b ∈ fp, H' b = none) → ∀ b ∈ fp, FpOk X pins H' b := fun hn b hb => ⟨hn b hb, (f2 b hb).2⟩
  have loop : ∀ (m i : Nat) (s : Shared) (σ : L2.St) (H : Hp), W i m σ H → Inv X pins σ H s → tn i s.heap → (∀ b ∈ fp, H b = none) →
      Seg (model X.prog X.w) A R (FY X D.rt) 1 s₀ (.forLoop tg (.ref it) body [] X.env) ((model X.prog X.w).den (.forLoop tg (.ref it) body [] X.env))
        (.ret (fun r => ((match r with | .ok f => (.pure f : Sem Flow) | .error e => .raise e).onRaise (cameBack X.env)).wrap K J gd lv) none (gd false) (lv []) c p [] :: fs) s := by
    intro m
    induction m using Nat.strongRecOn with
    | ind m ih =>
      intro i s σ H w I st fr
      have ee : ∀ (x : Value) (s' : Shared), X.xe x s' → Seg (model X.prog X.w) A R (FY X D.rt) 1 s₀ (.forLoop tg (.ref it) body [] X.env) (loopX X.env x)
          (.ret (fun r => ((match r with | .ok f => (.pure f : Sem Flow) | .error e => .raise e).onRaise (cameBack X.env)).wrap K J gd lv) none (gd false) (lv []) c p [] :: fs) s' := fun x s' hx => by
        refine seg_wrap ?_
        rw [(gl _).ov]
        exact wpAny_bind (wpAny_mono (hp x s' hx) (fun _ s'' q => wpAny_theTreesLotGoes (seg_leaf (.error x) (seg_back g0 k q))) fun y s'' q => seg_leaf (.error y) (seg_back g0 k q))
      refine seg_forLoop ?_
      rw [(gl _).ov]
      rcases turn i m σ H w with ⟨stop, qn⟩ | ⟨go, N, hN, step⟩
      · refine wpAny_mono (T.done X rfl rfl rfl hc i pins s σ H X.xe I (stat fr) st stop) (fun q s4 ⟨hr, I4⟩ => ?_) fun x s' hx => ee x s' hx
        subst hr
        exact seg_leaf (.ok .next) (k.nx s4 σ H I4 qn)
      · refine wpAny_mono (T.item X rfl rfl rfl hc i pins s σ H X.xe I (stat fr) st go) (fun q s4 ⟨u, hr, h4⟩ => ?_) fun x s' hx => ee x s' hx
        subst hr
        refine wpAny_mono h4 (fun _ s5 ⟨x, H5, I5, r5, y5, st5, fr5⟩ => ?_) fun x s' hx => ee x s' hx
        have I5' := I5.pinned (stat fr5) (T.obj _ _ st5)
        refine wpAny_mono (hg.run _ s5 σ H5 x u _ I5' r5 (step x H5 y5)) (fun _ s6 ⟨σ6, H6, I6, q6⟩ => ?_) fun x s' hx => ee x s' hx
        have again : ∀ {σ3 : L2.St} {H3 : Hp} {s3 : Shared}, Inv X (pins ++ pinsAt fp s5.heap) σ3 H3 s3 → N σ3 H3 → Seg (model X.prog X.w) A R (FY X D.rt) 1 s₀ (.forLoop tg (.ref it) body [] X.env) (.pure (.again (.forLoop tg (.ref it) body [] X.env)))
            (.ret (fun r => ((match r with | .ok f => (.pure f : Sem Flow) | .error e => .raise e).onRaise (cameBack X.env)).wrap K J gd lv) none (gd false) (lv []) c p [] :: fs) s3 := fun {σ3 H3 s3} J3 n3 => by
          obtain ⟨m', hm, w3⟩ := hN σ3 H3 n3
          have stay : ∀ b ∈ fp, ∀ o, s5.heap.get? b = some o → s3.heap.get? b = some o ∧ H3 b = none := fun b hb o e => by
            have z := J3.pin (b, o) (List.mem_append_right _ (List.mem_append_right _ (mem_pinsAt hb e)))
            exact ⟨z.1, z.2.1⟩
          refine seg_again rfl (ih m' hm (i + 1) s3 σ3 H3 w3 J3.unpinned (T.keep _ _ _ st5 fun b hb o e => (stay b hb o e).1) fun b hb => ?_)
          obtain ⟨o, e, d⟩ := T.obj _ _ st5 b hb
          exact (stay b hb o e).2
        exact hb.go A (pins ++ pinsAt fp s5.heap) R s₀ _ _ _ _ id id s6 σ6 H6 { D with nx := N, ct := N, bk := D.nx } (gl _) ⟨fun s3 σ3 H3 J3 n3 => again J3 n3, fun s3 σ3 H3 J3 q3 => seg_leaf (.ok .next) (k.nx s3 σ3 H3 J3.unpinned q3), fun s3 σ3 H3 J3 n3 => again J3 n3, fun x s3 hx => ee x s3 hx⟩ I6 q6
  exact loop m0 0 s2 σ H2 w0 I2 st2 fun b hb => (f2 b hb).1
end
end ZG
/-! Z33: a generator def, up to the first thing that it hands out; the loop that takes this alone -/
namespace ZG
open PySem PySem.Spec PyProof.Rows GenW L2
/-- what is wanted: of what is handed out first, of an end without it, of an exception -/
abbrev SpF := List V → Hp → VK → (Hp → Prop) → XK → Prop
section
variable (P : Program) (w : World) (outer : List Env) (H : Hp) (s : Shared)
def FOut (a : Addr) (g : Nat) (fin : Hp → Prop) (E : XK) : GenEnd := fun _ _ r s1 =>
  ((r = .ok (.ret .none) ∨ r = .ok .next) ∧ ∃ H', s1.os = s.os ∧ AllBare s1.gens ∧ Un (frs outer) [] H H' s.heap s1.heap ∧ HOk P w H' s1.heap ∧ fin H') ∨
  ∃ e, r = .error e ∧ (CX P w outer H s E e s1 ∧ s1.heap.IsGen a g)
def FItem (yl : VK) : Protocol := fun _ _ v s1 _ => ∃ x H', RelV x v ∧ s1.os = s.os ∧ AllBare s1.gens ∧ Un (frs outer) [] H H' s.heap s1.heap ∧ HOk P w H' s1.heap ∧ yl x H'
/-- a generator that has not begun -/
structure FMd (k : Nat) (yl : VK) (fin : Hp → Prop) (E : XK) (a : Addr) (g : Nat) (c : Code) (s' : Shared) : Prop where
  old : s.heap.objs.size ≤ a
  gen : s'.heap.IsGen a g
  st : s'.gens[g]? = some (.fresh c)
  os : s'.os = s.os
  bare : AllBare s'.gens
  lim : s'.heap.NoLimit
  keep : ∀ b o, s.heap.get? b = some o → s'.heap.get? b = some o
  wake : ∀ (A : Around) (s2 : Shared), Room k A → A.frames = some outer → s2.heap = s'.heap → s2.os = s.os → AllBare s2.gens → Seg (model P w) A (FOut P w outer H s a g fin E) (FItem P w outer H s yl) 1 s2 c ((model P w).den c) [] s2
end
structure FFn (P : Program) (w : World) (K : PySem.W.Frag) (mg : Str → Option Value) (base : Heap) (k : Nat) (f : Addr) (fd : FuncData) (ps : List Str) (sp : SpF) : Prop where
  len : ∀ vs H yl fin E, sp vs H yl fin E → vs.length = ps.length
  run : ∀ (A : Around) (outer : List Env) (s : Shared) (H : Hp) (args : Args) (us : List Value) (vs : List V) (yl : VK) (fin : Hp → Prop) (E : XK), Room k A → Env0 P w K mg base A outer s H → BindsTo s fd args (ps.zip us) → Vals vs us → sp vs H yl fin E →
    codeAny (model P w) A (.call (.ref f) args) (fun r s' => match r with | .ok (.ret u) => ∃ a g c, u = .ref a ∧ FMd P w outer H s k yl fin E a g c s' | _ => False) s
theorem ffn_of {P : Program} {w : World} {K : PySem.W.Frag} {mg : Str → Option Value} {base : Heap} {k : Nat} {f : Addr} {name qual : Str} {params : Arguments} {body : List Stmt} {scope : Scope} {dV kV doc pm cdv ct oc : Value} {an od : Option Addr}
    {osl : Array (Option Value)} {N ps : List Str} {sp : SpF} (lk : K.lookup f = some ⟨oc, od, .func (PySem.W.fnOf name qual params body scope dV kV doc pm an cdv ct), osl⟩) (hcd : PySem.W.codeIn K cdv qual = true) (S : GScope N ps scope)
    (len : ∀ vs H yl fin E, sp vs H yl fin E → vs.length = ps.length)
    (hbody : ∀ (A : Around) (outer : List Env) (s : Shared) (H : Hp) (vs : List V) (yl : VK) (fin : Hp → Prop) (E : XK) (pn : List (Addr × Obj)), Room k (A.deeper (envOfC qual scope s.heap.objs.size f cdv)) → sp vs H yl fin E →
      ∃ t, FSs (gcxOf P w K mg base N qual scope f cdv A outer s H E pn) body t ∧ t { nx := fun _ H' => fin H', rt := yl } (start N vs) H) :
    FFn P w K mg base (k + 1) f (PySem.W.fnOf name qual params body scope dV kV doc pm an cdv ct) ps sp := by
  refine ⟨len, fun A outer s H args us vs yl fin E hr e0 hb r hsp => ?_⟩
  have hl := len vs H yl fin E hsp
  have bk : ∀ b o, base.get? b = some o → s.heap.get? b = some o := fun b o q => (e0.bs b o q).1
  have KX : K.In s.heap := e0.mod.kin.keeps bk
  have kinds : ∀ y ∈ ps.zip us, scope.names.lookup y.1 = some .local ∨ (scope.names.lookup y.1 = some .cell ∧ ((cellsFrom (s.heap.objs.size + 1) scope.names []).lookup y.1).isSome = true) := by
    intro y hy
    exact (S.par y.1 (List.of_mem_zip (a := y.1) (b := y.2) hy).1).imp id fun q => ⟨q, PySem.W.cellsFrom_some _ _ _ (.inl q)⟩
  refine codeAny_call_generator hr.depth (KX _ _ lk) rfl S.co S.gen rfl (PySem.W.codeRec_of KX hcd) (hb _ _ _ _ ?_)
  refine wpAny_newFunctionEnv_cells S.kind kinds fun env he s1 x => ?_
  subst he
  have lim : s1.heap.NoLimit := (e0.mod.nolimit.keeps bk).keeps x.toInCall.keep
  refine ⟨lim, ?_⟩
  obtain ⟨h1, tk, es1, _⟩ := x.done
  have lt1 : s.heap.objs.size < s1.heap.objs.size := x.toInCall.ns.lt
  have main : ∀ (go : Obj) (nm qn : Value) (tk2 : Nat), go.cls = .type "generator" → go.data = .fields #[.int s1.gens.size 0, nm, qn] → go.slots = #[] → (∀ h : Heap, (h.push go).get? h.objs.size = some go) →
      FMd P w outer H s (k + 1) yl fin E s1.heap.objs.size s1.gens.size (.func body (envOfC qual scope s.heap.objs.size f cdv)) { s1 with gens := s1.gens.push (.fresh (.func body (envOfC qual scope s.heap.objs.size f cdv))), toks := tk2, heap := s1.heap.push go } := by
    intro go nm qn tk2 hgc hgd hgs hgp
    have isg : ∀ h : Heap, h.get? s1.heap.objs.size = some go → h.IsGen s1.heap.objs.size s1.gens.size := fun h q => ⟨go, nm, qn, q, hgc, hgd, hgs⟩
    have kp : ∀ b o, s1.heap.get? b = some o → (s1.heap.push go).get? b = some o := fun b o q => Heap.get?_push_of_some _ q
    refine ⟨Nat.le_of_lt lt1, isg _ (hgp _), Array.getElem?_push_size .., by rw [es1], AllBare.push (by rw [es1]; exact e0.bare) rfl, lim.keeps kp, fun b o q => kp b o (x.toInCall.keep b o q), ?_⟩
    intro Aw s2 hrw hfr hh hos hba
    have e0w : Env0 P w K mg base Aw outer s H := ⟨hfr, e0.mod, e0.bs, e0.bsz, e0.funs, e0.frf, e0.hok, e0.bare⟩
    obtain ⟨t, ht, hq⟩ := hbody Aw outer s H vs yl fin E [(s1.heap.objs.size, go)] (hrw.deeper _) hsp
    have I1 : Inv (gcxOf P w K mg base N qual scope f cdv Aw outer s H E []) [] (start N vs) H s1 := inv_startG S hrw.hd e0w hl r x
    have kp2 : ∀ b o, s1.heap.get? b = some o → s2.heap.get? b = some o := fun b o q => by
      rw [hh]
      exact kp b o q
    have I2 : Inv (gcxOf P w K mg base N qual scope f cdv Aw outer s H E []) [] (start N vs) H s2 :=
      I1.call' (ch := []) (by rw [hos, es1]) (Un.kept kp2) (I1.hok.kept kp2) hba fun b z => absurd z (List.not_mem_nil)
    have hea : s2.heap.get? s1.heap.objs.size = some go := by
      rw [hh]
      exact hgp _
    have I3 : Inv (gcxOf P w K mg base N qual scope f cdv Aw outer s H E [(s1.heap.objs.size, go)]) [] (start N vs) H s2 := by
      refine Inv.pinnedG I2 fun p hp => ?_
      rw [List.append_nil] at hp
      rw [List.mem_singleton.mp hp]
      exact ⟨hea, I1.hok.fresh (Nat.le_refl _), Nat.ne_of_gt lt1, I1.nofs (Nat.le_refl _), fun v q => by rw [hgd] at q; cases q⟩
    refine seg_func (seg_imp (R := FOut P w outer H s s1.heap.objs.size s1.gens.size fin E) (Y := FY (gcxOf P w K mg base N qual scope f cdv Aw outer s H E [(s1.heap.objs.size, go)]) yl) (fun _ _ _ _ q => q)
      (fun n s₀ v s3 kap kap' _ ⟨x, pins, σ, H3, rv, J, q⟩ => ⟨x, H3, rv, J.os, J.bare, J.base, J.hok, q⟩) 1 ?_)
    refine ht.go Aw [] _ s2 _ [] _ _ id id s2 (start N vs) H { nx := fun _ H' => fin H', rt := yl } ⟨over_func, rfl, rfl, rfl⟩ ⟨fun s3 σ3 H3 J q => ?_, fun _ _ _ _ q => False.elim q, fun _ _ _ _ q => False.elim q, fun e s3 hx => ?_⟩ I3 hq
    · exact seg_end (.ok (.ret .none)) (.inl ⟨.inl rfl, H3, J.os, J.bare, J.base, J.hok, q⟩)
    · refine seg_wrap ?_
      rw [over_func]
      refine wpAny_mono (show wpAny (model P w) (Aw.deeper (envOfC qual scope s.heap.objs.size f cdv)) (leaving (envOfC qual scope s.heap.objs.size f cdv) e) (fun _ s4 => CX P w outer H s E e s4 ∧ ∀ p ∈ [(s1.heap.objs.size, go)], s4.heap.get? p.1 = some p.2) (fun _ _ => False) s3 from hx) (fun _ s4 q => ?_) fun _ s4 q => q.elim
      exact seg_end (.error e) (.inr ⟨e, rfl, q.1, isg _ (q.2 (s1.heap.objs.size, go) (List.mem_singleton.mpr rfl))⟩)
  exact ⟨_, _, _, rfl, main _ _ _ _ rfl rfl rfl fun h => Heap.get?_push_size _ rfl⟩
/-! ### the loop -/
section
variable {X : Cx} {W : WX} {k : Nat} {f : Addr} {fd : FuncData} {ps : List Str} {sp : SpF} {x : Str} {p pos pos2 bp : Pos} {e : Expr} {es : List Expr} {ta : TA} {tg : Expr} {g : TG}
/-- the class is one whose instances no iterator ends by -/
def NoSt (K : PySem.W.Frag) (cls : Value) : Prop := PySem.W.subIn K cls (.type "StopIteration") = some false
def tFirst (sp : SpF) (K : PySem.W.Frag) (W : WX) (g : TG) (ta : TA) : TS := fun D σ H => ta σ H fun vs H1 => sp vs H1 (fun y H2 => g y σ H2 D.nx) (fun H2 => D.nx σ H2) (fun c d H => W c d σ H ∧ NoSt K c)
theorem ps_first (F : FFn X.prog X.w X.K X.mg X.base k f fd ps sp) (hr : Room (k + 2) X.A) (hp : PassesOwn (model X.prog X.w) X.A X.env X.xe) (tk : Takes X W) (hg : Gl X x) (hm : X.mg x = some (.ref f)) (hk : PySem.W.keepIn X.K (.ref f) = true) (hb : Binds X.K fd ps [])
    (ha : PA X (e :: es) ta) (htg : PG X tg g) (hdb : (x == ("__debug__" : Str)) = false := by decide) (he : starEach (e :: es) X.env = (false, eval e X.env) :: starEach es X.env := by rfl) (hpl : (backTo pos2 (starEach es X.env)).any (·.1) = false := by rfl)
    (hgo : ∀ (it v : Value) (Q : Unit → Shared → Prop) (E : Value → Shared → Prop) (s : Shared), Q () s → wpAny (model X.prog X.w) X.A (letOwnedTupleGo tg it v) Q E s)
    (hs : ∀ y, foldedSetIterable (.Call (.Name x p) (e :: es) [] pos2) X.env y = pure y := by intro _; rfl) :
    PS X (.For tg (.Call (.Name x p) (e :: es) [] pos2) [.Break bp] [] pos) (tFirst sp X.K W g ta) := by
  refine ⟨fun pins s σ H D I h => wpAny_For ?_ hs⟩
  refine wpAny_Call_Name_kw (ld_glob I hg hm ?_ hdb)
  refine PySem.W.callWith_K (h₀ := X.base) I.ok.mod.kin hk (thn (ha.run pos2 pins s σ H _ I h) fun us s1 ⟨vs, H1, I1, r, q⟩ => ⟨I1.kIn, ?_⟩) he hpl
  have hl2 : us.length = ps.length := by rw [← r.length]; exact F.len _ _ _ _ _ q
  have bd := hb s1 us I1.kIn (by rw [List.append_nil]; exact hl2)
  rw [List.append_nil] at bd
  refine wpAny_call (codeAny_mono (F.run X.A X.stack s1 H1 ⟨us, []⟩ us vs _ _ _ (hr.mono (Nat.le_add_right k 2)) I1.env0 bd r q) fun rr s2 hq => ?_)
  cases rr with
  | error _ => exact False.elim hq
  | ok fl =>
    cases fl with
    | next => exact False.elim hq
    | brk => exact False.elim hq
    | cont => exact False.elim hq
    | ret u =>
      obtain ⟨a, n, c, rfl, M⟩ := hq
      refine wpAny_pyIter_gen M.gen ?_
      refine codeAny_forLoop_any (fun j s' => s' = s2) ?_ 0 rfl
      rintro j s3 rfl
      have hd : X.A.handled = none := hr.hd
      have bar : ∀ {s4 : Shared} {y : GenState}, AllBare s4.gens → y.bare = true → AllBare (s4.setGen n y).gens := fun h1 h2 => allBare_setGen h1 h2
      have back : ∀ {s4 : Shared} {H4 : Hp}, s4.os = s1.os → AllBare s4.gens → Un (frs X.stack) [] H1 H4 s1.heap s4.heap → HOk X.prog X.w H4 s4.heap → Inv X pins σ H4 s4 := fun o b u ok => I1.call' (ch := []) o u ok b fun b z => absurd z (List.not_mem_nil)
      refine next_genG (A := X.A) (n := 1) (F := fun _ _ s4 => ∃ H', s4.os = s1.os ∧ AllBare s4.gens ∧ Un (frs X.stack) [] H1 H' s1.heap s4.heap ∧ HOk X.prog X.w H' s4.heap ∧ D.nx σ H')
        (Er := fun y s4 => CX X.prog X.w X.stack H1 s1 (fun c d H => W c d σ H ∧ NoSt X.K c) y s4 ∧ s4.heap.IsGen a n) (Y := FItem X.prog X.w X.stack H1 s1 fun y H2 => g y σ H2 D.nx)
        hd M.lim (by have := hr.dp; omega) M.gen M.st ⟨rfl, ?_⟩ (fun v s4 gs' hbr hv => ?_) (fun s4 hf h' hk' => ?_) fun y s4 hy => ?_
      · exact M.wake X.A.in1 _ (hr.in1.mono (Nat.le_add_right k 1)) I.ok.frames rfl M.os (bar M.bare rfl)
      · obtain ⟨y, H4, rv, o4, b4, u4, k4, q4⟩ := hv
        have I4 : Inv X pins σ H4 (s4.setGen n gs') := back o4 (bar b4 hbr) u4 k4
        refine hgo _ v _ _ _ ?_
        refine wpAny_passesOwn hp (thn (htg.run pins _ σ H4 y v _ I4 rv q4) fun _ s5 ⟨σ5, H5, I5, q5⟩ => ?_)
        exact wpAny_execs_cons (wpAny_Break ⟨σ5, H5, I5, q5⟩)
      · obtain ⟨H4, o4, b4, u4, k4, q4⟩ := hf
        exact wpAny_execs_nil ⟨σ, H4, back (s4 := { s4.setGen n .finished with heap := h' }) o4 (bar b4 rfl) (u4.trans (Un.kept hk')) (k4.kept hk'), q4⟩
      · obtain ⟨hc, hg4⟩ := hy
        have kin : X.K.In s4.heap := by
          obtain ⟨z, B, H', cls, d, _, fl, _, ub, _⟩ := id hc
          refine I1.ok.mod.kin.keeps fun b o eb => fl.1 b o (ub.keep b o (I1.bs b o eb).1 (I1.bs b o eb).2 fun hm => ?_)
          rcases List.mem_cons.mp (I1.stkSub b hm) with z | z
          · have h1 := Heap.lt_size eb
            rw [z] at h1
            exact absurd (Nat.lt_of_lt_of_le h1 (Nat.le_trans I1.ok.bsz I1.ok.above)) (Nat.lt_irrefl _)
          · exact I1.ok.nofr eb z
        refine ⟨hg4, notStop_of (fun cls d H z => z.2) kin hc, ?_⟩
        obtain ⟨z, B, H', cls, d, z1, fl, z2, ub, z3, z4, z5, z6⟩ := hc
        exact hp _ _ (passAt tk σ pins H1 s1 y _ I1 ⟨z, B, H', cls, d, z1, fl, z2, ub, z3, z4, bar z5 rfl, z6.1⟩)
end
end ZG
/-! Z34: the first thing that a generator hands out, as data -/
namespace Z
open PySem PySem.Spec PyProof.Rows L2 ZG
open Classical
structure DF (X : Cx) (W : WX) (st : Stmt) (t : TS) (m : M Fl) : Prop where
  p : FS X st t
  s : SemS X.K X.mg W t m
structure DFs (X : Cx) (W : WX) (sts : List Stmt) (t : TS) (m : M Fl) : Prop where
  p : FSs X sts t
  s : SemS X.K X.mg W t m
/-- a statement of a generator that hands out nothing -/
def mNR (m : M Fl) : M Fl := bnd m fun f => match f with
  | .rt _ => fun _ => none
  | f => ret f
section
variable {X : Cx} {W : WX} {st : Stmt} {sts : List Stmt} {t u : TS} {m n : M Fl}
theorem df_ps (h : DS X W st t m) : DF X W st (tNoR t) (mNR m) := ⟨fs_ps h.p, by
  intro en io F H σ s o E R e hx hq
  refine h.s.step (E := { E with rt := fun _ _ => False }) R e hx fun f s1 io1 F1 H1 σ1 l1 R1 e1 hx1 => ?_
  cases f with
  | nx => cases e1; exact hq _ _ rfl io1 F1 H1 σ1 l1 R1
  | rt d => cases e1
  | bk => cases e1; exact hq _ _ rfl io1 F1 H1 σ1 l1 R1
  | ct => cases e1; exact hq _ _ rfl io1 F1 H1 σ1 l1 R1⟩
theorem df_yield {e : Expr} {yp pos : Pos} {te : TE} {me : M D} (he : DE X W e te me) (hco : X.env.scope.isCoroutine = false := by rfl) (hi : interactive X.env = false := by rfl) : DF X W (.Expr (.Yield (some e) yp) pos) (tRet te) (mRet me) :=
  ⟨fs_yield he.p hco hi, (ds_ret (pos := pos) he).s⟩
theorem dfs_nil : DFs X W [] tNext mNx := ⟨fss_nil, (dss_nil (X := X)).s⟩
theorem dfs_cons (h1 : DF X W st t m) (h2 : DFs X W sts u n) : DFs X W (st :: sts) (tSeq t u) (mSeq m n) := ⟨fss_cons h1.p h2.p, by
  intro en io F H σ s o E R e hx hq
  refine h1.s.step (E := { E with nx := u E }) R e hx fun f s1 io1 F1 H1 σ1 l1 R1 e1 hx1 => ?_
  cases f with
  | nx => exact h2.s en io1 F1 H1 σ1 s1 o E R1 e1 hx1 fun f s2 e2 io2 F2 H2 σ2 l2 R2 => hq f s2 e2 io2 F2 H2 σ2 (l1.trans l2) R2
  | rt d => cases e1; exact hq _ _ rfl io1 F1 H1 σ1 l1 R1
  | bk => cases e1; exact hq _ _ rfl io1 F1 H1 σ1 l1 R1
  | ct => cases e1; exact hq _ _ rfl io1 F1 H1 σ1 l1 R1⟩
theorem df_for {tg e : Expr} {pos : Pos} {w : TI} {g : TG} {gm : D → M Unit} {mi : M (List D)} (hp : PassesOwn (model X.prog X.w) X.A X.env X.xe) (hc : X.calm = true) (hi : DI X W tg e w mi) (hg : DG X W tg g gm) (hb : DFs X W sts t m)
    (hs : ∀ x, foldedSetIterable e X.env x = pure x := by intro _; rfl) : DF X W (.For tg e sts [] pos) (tFor w g t) (mFor mi gm m) := ⟨fs_for hp hc hi.p hg.p hb.p hs, sem_for hi.s hg.s hb.s⟩
end
/-- what comes first: a thing, an end, an error -/
inductive FYR where
  | yl (d : D) (hp : List AO)
  | fin (hp : List AO)
  | ex (e : Exn) (hp : List AO)
abbrev FYn := List D → List AO → Option FYR
def fyOf (N : Nat) (m : M Fl) : FYn := fun ds hp => match m (entA N ds hp) with
  | some (.ok .nx s) => some (.fin s.hp)
  | some (.ok (.rt d) s) => some (.yl d s.hp)
  | some (.ex e s) => some (.ex e s.hp)
  | _ => none
def FYEnd (K : PySem.W.Frag) (mg : Str → Option Value) (io : List Addr) (F H : Hp) (yl : VK) (fin : Hp → Prop) (E : XK) : FYR → Prop
  | .yl d hp' => ∀ v io' F' H', Stp K io F H io' F' H' hp' → rep K io' F' d v → yl v H'
  | .fin hp' => ∀ io' F' H', Stp K io F H io' F' H' hp' → fin H'
  | .ex e hp' => ∀ cls dd io' F' H', Stp K io F H io' F' H' hp' → XRep K mg io' F' H' e cls dd → E cls dd H'
def spFD (K : PySem.W.Frag) (mg : Str → Option Value) (np : Nat) (n : FYn) : SpF := fun vs H yl fin E => ∃ (io : List Addr) (F : Hp) (ds : List D) (hp : List AO) (r : FYR),
  HRel K io F H hp ∧ reps K io F ds vs ∧ ds.length = np ∧ n ds hp = some r ∧ FYEnd K mg io F H yl fin E r
structure CalF (P : Program) (w : World) (K : PySem.W.Frag) (mg : Str → Option Value) (base : Heap) (x qual : Str) (st : Stmt) (ps : List Str) (k np : Nat) (n : FYn) : Prop where
  ex : ∃ f fd, Dfn K mg x qual st ps f fd ∧ FFn P w K mg base k f fd ps (spFD K mg np n)
section
variable {P : Program} {w : World} {K : PySem.W.Frag} {mg : Str → Option Value} {base : Heap} {x qual : Str} {st : Stmt} {ps : List Str} {k np : Nat} {n n' : FYn}
theorem CalF.imp (c : CalF P w K mg base x qual st ps k np n) (h : ∀ ds hp r, ds.length = np → n' ds hp = some r → n ds hp = some r) : CalF P w K mg base x qual st ps k np n' := by
  obtain ⟨f, fd, d, o⟩ := c.ex
  have im : ∀ vs H yl fin E, spFD K mg np n' vs H yl fin E → spFD K mg np n vs H yl fin E := fun vs H yl fin E ⟨io, F, ds, hp, r, h1, h2, h3, h4, h5⟩ => ⟨io, F, ds, hp, r, h1, h2, h3, h ds hp r h3 h4, h5⟩
  exact ⟨f, fd, d, ⟨fun vs H yl fin E q => o.len vs H yl fin E (im _ _ _ _ _ q), fun A outer s H args us vs yl fin E hr he hb hv hs => o.run A outer s H args us vs yl fin E hr he hb hv (im _ _ _ _ _ hs)⟩⟩
theorem calF {f : Addr} {fd : FuncData} {N : List Str} {m : M Fl} (d : Dfn K mg x qual st ps f fd) (S : GScope N ps (defScope st)) (hp : ps.length = np) (hk : k < 30)
    (hb : ∀ (cdv : Value) (A : Around) (outer : List Env) (s : Shared) (H : Hp) (E : XK) (pn : List (Addr × Obj)), RoomG k (A.deeper (PyProof.Rows.envOfC qual (defScope st) s.heap.objs.size f cdv)) →
      ∃ t, DFs (gcxOf P w K mg base N qual (defScope st) f cdv A outer s H E pn) (fun c d _ H => E c d H) (defBody st) t m) :
    CalF P w K mg base x qual st ps (k + 1) np (fyOf N.length m) := by
  subst hp
  obtain ⟨oc, od, kV, doc, pm, an, cdv, ct, osl, rfl, lk, hcd⟩ := id d.fn.ex
  refine ⟨f, _, d, ffn_of lk hcd S (fun vs H yl fin E ⟨io, F, ds, hp, r, h1, h2, h3, _⟩ => by rw [reps_len h2]; exact h3) fun A outer s H vs yl fin E pn hr h => ?_⟩
  obtain ⟨t, hd⟩ := hb cdv A outer s H E pn (RoomG.of hr hk)
  obtain ⟨io, F, ds, hp, r, h1, h2, h3, h4, h5⟩ := h
  refine ⟨t, hd.p, ?_⟩
  have R0 := Rel.start (N := N) h1 h2
  unfold fyOf at h4
  split at h4
  · rename_i s1 e
    cases h4
    exact hd.s _ io F H _ _ _ _ R0 e trivial fun f s2 e2 io2 F2 H2 σ2 l2 R2 => by
      cases e2
      exact h5 io2 F2 H2 R2.stpd
  · rename_i v s1 e
    cases h4
    exact hd.s _ io F H _ _ _ _ R0 e trivial fun f s2 e2 io2 F2 H2 σ2 l2 R2 => by
      cases e2
      exact fun v rv => h5 v io2 F2 H2 R2.stpd rv
  · rename_i x s1 e
    cases h4
    exact hd.s _ io F H _ _ _ _ R0 e (fun cls dd io2 F2 H2 σ2 l2 R2 xr => h5 cls dd io2 F2 H2 R2.stpd xr) fun f s2 e2 => by cases e2
  · cases h4
end
/-- for x in g(..): break -/
def mFirst (np : Nat) (n : FYn) (g : D → M Unit) (ml : M (List D)) : M Fl := bnd ml fun ds s => if ds.length = np then (match n ds s.hp with
  | some (.yl d hp') => bnd (g d) (fun _ => ret Fl.nx) { s with hp := hp' }
  | some (.fin hp') => some (.ok .nx { s with hp := hp' })
  | some (.ex e hp') => some (.ex e { s with hp := hp' })
  | none => none) else none
section
variable {X : Cx} {W : WX} {pos pos2 p yp bp : Pos} {e : Expr} {es : List Expr} {tl : TA} {ml : M (List D)} {x y qual : Str} {st : Stmt} {ps : List Str} {k np : Nat} {n : FYn} {g : TG} {gm : D → M Unit}
theorem ds_first (K : PySem.W.Frag) (mg : Str → Option Value) (c : CalF X.prog X.w X.K X.mg X.base x qual st ps k np n) (hr : RoomG (k + 2) X.A) (hp : PassesOwn (model X.prog X.w) X.A X.env X.xe) (tk : Takes X W)
    (hns : ∀ (c : EC) C, PySem.W.nsIn X.K mainGlobals c.nm = some (some (.ref C)) → NoSt X.K (.ref C)) (ha : DA X W (e :: es) tl ml) (hgt : DG X W (.Name y yp) g gm) (hK : X.K = K := by rfl) (hM : X.mg = mg := by rfl) (hg : Gl X x := by rfl)
    (hdb : (x == ("__debug__" : Str)) = false := by decide) (he : starEach (e :: es) X.env = (false, eval e X.env) :: starEach es X.env := by rfl) (hpl : (backTo pos2 (starEach es X.env)).any (·.1) = false := by rfl)
    (hs : ∀ z, foldedSetIterable (.Call (.Name x p) (e :: es) [] pos2) X.env z = pure z := by intro _; rfl) :
    DS X W (.For (.Name y yp) (.Call (.Name x p) (e :: es) [] pos2) [.Break bp] [] pos) (tFirst (spFD K mg np n) K W g tl) (mFirst np n gm ml) := by
  subst hK hM
  obtain ⟨f, fd, d, o⟩ := c.ex
  refine ⟨ps_first o hr.r hp tk hg d.mg d.fn.kp d.bd ha.p hgt.p hdb he hpl (fun it v Q E s h => wpAny_pure h) hs, ?_⟩
  intro en io F H σ s o E R e hx hq
  refine ha.s.step R e hx fun ds s1 v io1 F1 H1 l1 R1 r1 e1 hx1 => ?_
  by_cases hl : ds.length = np
  · rw [if_pos hl] at e1
    split at e1
    · rename_i z hp' h1
      refine ⟨io1, F1, ds, s1.hp, _, R1.h, r1, hl, h1, fun v io' F' H' x rv => ?_⟩
      exact hgt.s.step (R1.stp x) rv e1 (hx1.le _ _ _ x.l) fun s2 io2 F2 H2 σ2 l2 R3 e2 hx2 => by
        cases e2
        exact hq .nx s2 rfl io2 F2 H2 σ2 (l1.trans (x.l.trans l2)) R3
    · rename_i hp' h1
      cases e1
      exact ⟨io1, F1, ds, s1.hp, _, R1.h, r1, hl, h1, fun io' F' H' x => hq .nx _ rfl io' F' H' σ (l1.trans x.l) (R1.stp x)⟩
    · rename_i z hp' h1
      cases e1
      refine ⟨io1, F1, ds, s1.hp, _, R1.h, r1, hl, h1, fun cls dd io' F' H' x xr => ⟨hx1 cls dd io' F' H' σ x.l (R1.stp x) xr, ?_⟩⟩
      obtain ⟨hn, ⟨C, rfl⟩, _⟩ := xr
      exact hns _ _ hn
    · cases e1
  · rw [if_neg hl] at e1
    cases e1
end
end Z
/-! Z35: o.extend(list), o a list of the own heap -/
namespace Z
open PySem PySem.Spec PyProof.Rows L2
open Classical
def mExtH (mo me : M D) : M D := bnd mo fun o => fun s => match getH s o with
  | some _ => bnd me (fun d s' => match d, getH s' o with
    | .lst l', some l => if l.length + l'.length ≤ sizeLine then some (.ok .non (setH s' o (l ++ l'))) else none
    | _, _ => none) s
  | none => none
section
variable {X : Cx} {W : WX} {pos : Pos} {a e : Expr} {ta te : TE} {ma me : M D}
theorem de_extH {apos : Pos} (ho : DE X W a ta ma) (he : DE X W e te me) (hbase : attributeBase a "extend" X.env (eval a X.env) = eval a X.env := by rfl) (hline : (apos.endLine == pos.line) = true := by rfl)
    (hfew : ((backTo pos (starEach [e] X.env)).all (fun x => !x.1) && (backToKw pos (keywordEach [] X.env)).all (fun x => x.1.isSome)
      && decide (([e] : List Expr).length + ([] : List Keyword).length + (if ([] : List Keyword).isEmpty then 0 else 1) < 30)) = true := by rfl)
    (hs : starEach [e] X.env = (false, eval e X.env) :: starEach [] X.env := by rfl) (hpl : (backTo pos (starEach [] X.env)).any (·.1) = false := by rfl) :
    DE X W (.Call (.Attribute a "extend" apos) [e] [] pos) (tBM X.K "list" rExtend ta (tCons te tNil)) (mExtH ma me) :=
  ⟨pe_bm PySem.F.plainAttrs_list PySem.F.slot_list_extend PySem.F.type_list_extend mt_extend ho.p (pa_cons he.p pa_nil hs) hbase hfew hline hs hpl, by
    intro en io F H σ s o Q R e hx hq
    refine ho.s.step R e hx fun d s1 v io1 F1 H1 l1 R1 r1 e1 hx1 => ?_
    split at e1
    · rename_i l hl
      obtain ⟨p, xs, rfl, hF, hH, r, _⟩ := R1.getH hl r1
      refine ⟨.inl ⟨rfl, xs, .of hH⟩, ?_⟩
      refine he.s.step R1 e1 hx1 fun d2 s2 v2 io2 F2 H2 l2 R2 r2 e2 hx2 => ?_
      split at e2
      · rename_i l' l2' hl2
        obtain ⟨q, ys, e3, hF2, hH2, r3, hput⟩ := R2.getH hl2 (rep_le l2 _ _ r1)
        cases e3
        obtain ⟨q, zs, rfl, hq', rz⟩ := r2
        split at e2
        · rename_i hz
          cases e2
          exact ⟨p, q, ys, zs, rfl, rfl, hH2, R2.h.ex q _ hq', by rw [reps_len r3, reps_len rz]; exact hz, hq _ _ rfl .non io2 F2 _ (l1.trans l2) (hput _ _ (reps_app r3 rz)) rfl⟩
        · cases e2
      · cases e2
    · cases e1⟩
end
end Z
/-! Z36: repr of a long int -/
namespace Z
open PySem PySem.Spec PyProof.Rows L2
open Classical
theorem longInt {K : PySem.W.Frag} {a : Int} {t : Tok} (hn : PySem.W.nsIn K cStatics "sys.int_max_str_digits" = some none) (ha : a.natAbs.log2 < 12900) : GivesAt (fun s => K.In s.heap) (Builtin.«int.__repr__» ⟨[.int a t], []⟩) (.str (toString a)) := by
  intro prog w A R s hK hq
  have fin := (Gives.of_eq (t := retStr (toString a)) (m := .str (toString a)) rfl) prog w A R s hq
  unfold Builtin.«int.__repr__»
  show wpAny _ _ (do let r ← Builtin.overDigitLimit? a; _) _ _ s
  by_cases hs : a.natAbs.log2 < 1920
  · rw [PySem.overDigitLimit_small hs]
    exact fin
  · have e : Builtin.overDigitLimit? a = (Builtin.intMaxStrDigits >>= fun n => (let size := a.natAbs.log2 / 30 + 1
        if size > 1000 then (do
          if n != 0 && n / 90 ≤ (size - 11) / 10 then return some n
          unsupported "int:decimal-text-by-_pylong")
        else (do
          if n == 0 || a.natAbs.log2 < 3 * n then return none
          return if a.natAbs ≥ 10 ^ n then some n else none) : Sem (Option Nat))) := by
      unfold Builtin.overDigitLimit?
      rw [if_neg hs]
      rfl
    rw [e]
    refine wpAny_bind (wpAny_bind ?_)
    unfold Builtin.intMaxStrDigits
    refine wpAny_bind ((PySem.W.looks_nsIn hK hn) _ _ _ s (fun _ _ z => z) ?_)
    refine wpAny_pure ?_
    show wpAny _ _ (if a.natAbs.log2 / 30 + 1 > 1000 then _ else _) _ _ s
    rw [if_neg (by omega)]
    show wpAny _ _ (if ((4300 : Nat) == 0 || decide (a.natAbs.log2 < 3 * 4300)) = true then _ else _) _ _ s
    rw [if_pos (by simp; omega)]
    exact wpAny_pure fin
def reprIF : List D → Option D
  | [.int i] => if i.natAbs.log2 < 12900 then some (.str (decS i)) else none
  | _ => none
abbrev rReprI : List V → Hp → VK → Prop := fun xs H Q => ∃ i : Int, xs = [.int i] ∧ i.natAbs.log2 < 12900 ∧ Q (.str (toString i)) H
section
variable {X : Cx}
theorem call_reprI (hn : PySem.W.nsIn X.K cStatics "sys.int_max_str_digits" = some none) : CallR X (.builtin "repr") rReprI := by
  intro pins s σ H xs us Q I r h
  obtain ⟨i, rfl, hi, q⟩ := h
  cases r with
  | cons rv rn =>
    cases rn
    rename_i u
    obtain ⟨t, rfl⟩ : ∃ t, u = Value.int i t := rv
    have hl : (Str.ofString (toString i)).length ≤ sizeLine := by
      rw [PySem.ofString_length]
      exact Nat.le_trans (PySem.int_text_length_le (k := 12900) (by decide) hi) (by decide)
    refine Calls.call_function_entry F.kind_repr F.plain_repr F.entry_repr (F.args_repr1 (.int i t)) (by
      unfold Builtin.«repr»
      refine wpAny_bind (m := oneArg "repr" _) (wpAny_pure ?_); simp only [cRoomFor, show [Value.int i t].any Value.onHeap = false from rfl, Bool.false_eq_true, if_false, pure_bind]
      refine wpAny_bind (wpAny_specialOf (name := Str.ofString "__repr__") (typeIs_int s i t) F.slot_int_repr.lookup (wpAny_bind (m := callSpecialIfBound? (.int i t) (Str.ofString "__repr__")) ?_))
      refine wpAny_callSpecialIfBound?_slot (name := Str.ofString "__repr__") (typeIs_int s i t) F.slot_int_repr (call_givesAt F.slot_int_repr (typeIs_int s i t) F.entry_int_repr (F.args_int_repr_1 (.int i t)) (longInt hn hi) I.kIn ⟨hl, ?_⟩)
      exact wpAny_bind (wpAny_isInstance (T := "str") (b := true) rfl isSubtype_str_str (wpAny_pure ⟨_, rfl, .str _, H, I.kept (t' := s.toks + 1) fun _ _ z => z, ⟨_, rfl⟩, q⟩)))
theorem b_reprI (hn : PySem.W.nsIn X.K cStatics "sys.int_max_str_digits" = some none) : CallOk X (.builtin "repr") rReprI reprIF := ⟨call_reprI hn, calld_val fun io F H vs ds d Q ex rx e k => by
  match ds, e with
  | [.int i], e =>
    obtain ⟨v, rfl, r⟩ := reps1 rx
    have e' : (if i.natAbs.log2 < 12900 then some (D.str (decS i)) else none) = some d := e
    by_cases hc : i.natAbs.log2 < 12900
    · rw [if_pos hc] at e'
      cases e'
      exact ⟨i, by rw [show v = _ from r], hc, k _ fun _ _ _ => rfl⟩
    · rw [if_neg hc] at e'
      cases e'⟩
theorem kb_reprI (K : PySem.W.Frag) (hn : PySem.W.nsIn K cStatics "sys.int_max_str_digits" = some none) (hK : X.K = K := by rfl) : CallOk X (.builtin "repr") rReprI reprIF := by subst hK; exact b_reprI hn
end
end Z
/-! Z37: min of a list of the own heap -/
namespace Z
open PySem PySem.Spec PyProof.Rows L2
open Classical
def mMinH (mo : M D) : M D := bnd mo fun o s => match getH s o with
  | some l => match intsD l with
    | some (x :: ns) => some (.ok (.int (minI (x :: ns))) s)
    | _ => none
  | none => none
section
variable {X : Cx} {W : WX} {pos : Pos} {a : Expr} {ta : TE} {ma : M D}
theorem de_minH {f : Str} {p : Pos} (hc : X.calm = true) (hg : Gl X f) (hm : X.mg f = none) (ho : DE X W a ta ma) (hb : bootBuiltins f = some (.builtin "min") := by decide +kernel)
    (hn : f ≠ "__name__" := by decide) (hdb : (f == ("__debug__" : Str)) = false := by decide) (hs : starEach [a] X.env = (false, eval a X.env) :: starEach [] X.env := by rfl) (hpl : (backTo pos (starEach [] X.env)).any (·.1) = false := by rfl) :
    DE X W (.Call (.Name f p) [a] [] pos) (tCB (rMin X.K) (tCons ta tNil)) (mMinH ma) := ⟨pe_callB (cr_min hc) hg hm hb (pa_cons ho.p pa_nil hs) hn hdb hs hpl, by
  intro en io F H σ s o Q R e hx hq
  refine ho.s.step R e hx fun d s1 v io1 F1 H1 l1 R1 r1 e1 hx1 => ?_
  split at e1
  · rename_i l hl
    split at e1
    · rename_i x ns h1
      cases e1
      obtain ⟨p, xs, rfl, hF, hH, r, _⟩ := R1.getH hl r1
      refine ⟨p, x :: ns, rfl, .of (ints_reps h1 r ▸ hH), Nat.succ_pos _, fun m h2 h3 => ?_⟩
      have hmi := minI_is (l := x :: ns) (List.cons_ne_nil _ _)
      have e2 : m = minI (x :: ns) := by
        have := h3 _ hmi.1
        have := hmi.2 _ h2
        omega
      rw [e2]
      exact hq _ _ rfl _ io1 F1 H1 l1 R1 rfl
    · cases e1
  · cases e1⟩
theorem ke_minH (K : PySem.W.Frag) {f : Str} {p : Pos} (hc : X.calm = true) (hg : Gl X f) (hm : X.mg f = none) (ho : DE X W a ta ma) (hK : X.K = K := by rfl) (hb : bootBuiltins f = some (.builtin "min") := by decide +kernel)
    (hn : f ≠ "__name__" := by decide) (hdb : (f == ("__debug__" : Str)) = false := by decide) (hs : starEach [a] X.env = (false, eval a X.env) :: starEach [] X.env := by rfl) (hpl : (backTo pos (starEach [] X.env)).any (·.1) = false := by rfl) :
    DE X W (.Call (.Name f p) [a] [] pos) (tCB (rMin K) (tCons ta tNil)) (mMinH ma) := by subst hK; exact de_minH hc hg hm ho hb hn hdb hs hpl
end
end Z
/-! Z38: == and != of an own instance with values of other kinds, by the class's own __eq__ -/
namespace ZE
open PySem PySem.Spec PyProof.Rows L2
open AutoSeq1 (wpAny_loadPart')
section
variable {prog : Program} {w : World} {A : Around} {E : Value → Shared → Prop} {s : Shared} {x C dx : Addr}
/-- u's own == has no answer for the instance at x -/
def NoWord (prog : Program) (w : World) (A : Around) (E : Value → Shared → Prop) (u : Value) (x : Addr) (s : Shared) : Prop := ∀ Q : Option Value → Shared → Prop, Q none s → wpAny (model prog w) A (tryCompare u "__eq__" (.ref x)) Q E s
theorem noWord_of {T id : String} {B : Builtin} {u : Value} (hT : s.TypeIs u T) (slot : Slot T (cmpInfo .Eq).2.1 id) (entry : entryFor table id = some B) (args : argsOk id ⟨[u, .ref x], []⟩)
    (h : ∀ R : Fin → Shared → Prop, R (.done (.ret .notImplemented)) s → wpAny (model prog w) A.in1 (B ⟨[u, .ref x], []⟩) R (fun e s' => E e s') s) : NoWord prog w A E u x s := by
  intro Q q
  unfold tryCompare
  refine wpAny_bind (wpAny_callSpecialIfBound?_slot (name := (cmpInfo .Eq).2.1) hT slot (GQ.call_here (rest := [.ref x]) slot hT entry args (h _ ?_)))
  exact wpAny_pure q
theorem noWord_none : NoWord prog w A E .none x s := noWord_of (typeIs_none s) F.slot_NoneType_eq F.entry_NoneType_eq (F.args_NoneType_eq_2 _ _) fun R q => by
  unfold Builtin.«NoneType.__eq__»
  wp_walk
  exact q
theorem noWord_str {y : Str} {t : Tok} (hx : s.heap.get? x = some (PySem.W.instObj C dx)) : NoWord prog w A E (.str y t) x s := noWord_of (typeIs_str s y t) F.slot_str_eq F.entry_str_eq (F.args_str_eq_2 _ _) fun R q => by
  unfold Builtin.«str.__eq__»
  wp_walk using wpAny_loadPart' hx
  exact q
theorem noWord_int {i : Int} {t : Tok} (hx : s.heap.get? x = some (PySem.W.instObj C dx)) : NoWord prog w A E (.int i t) x s := noWord_of (typeIs_int s i t) F.slot_int_eq F.entry_int_eq (F.args_int_eq_2 _ _) fun R q => by
  unfold Builtin.«int.__eq__»
  wp_walk using wpAny_loadPart' hx
  exact q
theorem noWord_list {K : PySem.W.Frag} {a : Addr} {o : Obj} (hk : K.In s.heap) (ho : s.heap.get? a = some o) (hc : o.cls = .type "list") (hx : PySem.W.Looks (model prog w) s.heap (isInstance (.ref x) (.type "list")) false) : NoWord prog w A E (.ref a) x s := noWord_of ⟨o, ho, hc⟩ F.slot_list_eq F.entry_list_eq (F.args_list_eq_2 _ _) fun R q => by
  unfold Builtin.«list.__eq__»
  wp_walk using hx.here
  exact q
theorem noWord_tuple {a : Addr} {o : Obj} (ho : s.heap.get? a = some o) (hc : o.cls = .type "tuple") (hx : PySem.W.Looks (model prog w) s.heap (isInstance (.ref x) (.type "tuple")) false) : NoWord prog w A E (.ref a) x s := noWord_of ⟨o, ho, hc⟩ F.slot_tuple_eq F.entry_tuple_eq (F.args_tuple_eq_2 _ _) fun R q => by
  unfold Builtin.«tuple.__eq__»
  wp_walk using hx.here
  exact q
/-- u == the instance at x: the instance's own __eq__ answers -/
theorem rc_back {K : PySem.W.Frag} {T : String} {u : Value} {f : Addr} {ox : Obj} {od : Option Obj} {Q : Value → Shared → Prop} (hu : A.units < cLine) (hk : K.In s.heap) (hT : s.TypeIs u T) (I : PySem.W.InstAt s.heap x ox C od) (hsub : PySem.W.subIn K (.ref C) (.type T) = some false) (nw : NoWord prog w A E u x s)
    (hs : PySem.W.findIn K (.ref C) "__eq__" = some (some (.ref f))) (hf : PySem.W.isFn K (.ref f) = true) (h : wpAny (model prog w) A (call (.ref f) [.ref x, u]) (PySem.W.CmpBack Q) E s) : wpAny (model prog w) A (richCompare .Eq u (.ref x)) Q E s := by
  unfold richCompare
  rw [hT.oneThing_none]
  refine wpAny_holding (wpAny_bind (wpAny_cRoomFor hu ?_))
  refine wpAny_bind (wpAny_typeOf hT (wpAny_bind (I.type.here ?_)))
  rw [if_pos (show (Value.type T != Value.ref C) = true from by simp)]
  refine wpAny_bind ((PySem.W.looks_subIn hk hsub).here ?_)
  dsimp only
  rw [if_neg Bool.false_ne_true]
  refine wpAny_bind (nw _ ?_)
  dsimp only
  rw [if_pos (show (!false) = true from rfl)]
  refine wpAny_bind ?_
  unfold tryCompare
  refine wpAny_bind (PySem.W.ifBound_K hk I hs hf (wpAny_mono h (fun v s' hv => ?_) fun _ _ e => e))
  cases v <;> first | exact hv.elim | exact wpAny_pure (wpAny_pure hv)
theorem eqb_back {u : Value} {Q : Bool → Shared → Prop} (hne : u ≠ .ref x) (h : wpAny (model prog w) A (richCompare .Eq u (.ref x)) (fun v s' => ∃ r, v = .bool r ∧ Q r s') E s) : wpAny (model prog w) A (eqBool u (.ref x)) Q E s := by
  unfold eqBool
  refine wpAny_holding ?_
  refine wpAny_ite_split (fun z => absurd (eq_of_beq z) hne) fun _ => ?_
  have go : wpAny (model prog w) A (richCompare .Eq u (.ref x) >>= truthOfDropped) Q E s := wpAny_bind (wpAny_mono h (fun v s' ⟨r, ev, q⟩ => by
    subst ev
    exact wpAny_truthy_bool q) fun _ _ z => z)
  cases u <;> exact go
/-! ### x not in a list -/
theorem cont_loopG {R : Result → Shared → Prop} {l : Addr} {v : Value} {N : Nat} (I : Nat → Shared → Prop)
    (hl : ∀ i s, I i s → ∃ (items : Array Value) (n : Nat), s.heap.get? l = some { cls := .type "list", data := .seq items n } ∧ items.size = N ∧ ∀ h1 : i < items.size, wpAny (model prog w) A.in1 (eqBool items[i] v) (fun r s' => r = false ∧ I (i + 1) s') (fun e s' => R (.error e) s') s)
    (fin : ∀ s, I N s → R (.ok (.ret (.bool false))) s) (k : Nat) : ∀ i : Nat, N - i = k → i ≤ N → ∀ s, I i s →
      wpAny (model prog w) A.in1 (Builtin.«list.__contains__.loop» ⟨[.ref l, v, rawInt i], []⟩) (GQ.FinOf prog w A R) (fun e s' => R (.error e) s') s := by
  induction k with
  | zero =>
    intro i hk hi s h
    obtain ⟨items, n, hl1, hs1, _⟩ := hl i s h
    have hR : R (.ok (.ret (.bool false))) s := fin s ((show i = N by omega) ▸ h)
    obtain ⟨hp, g, d, tk, os⟩ := s
    wp_walk using wpAny_loadPart' hl1
    have hi1 : items[((i : Nat) : Int).toNat]? = none := by simp; omega
    rw [hi1]
    wp_walk
    exact hR
  | succ k ih =>
    intro i hk hi s h
    obtain ⟨items, n, hl1, hs1, turn⟩ := hl i s h
    have hlt : i < items.size := by omega
    have ht := turn hlt
    obtain ⟨hp, g, d, tk, os⟩ := s
    wp_walk using wpAny_loadPart' hl1
    have hi1 : items[((i : Nat) : Int).toNat]? = some items[i] := by simp [hlt]
    have hc : ((i : Int) + 1) = ((i + 1 : Nat) : Int) := by omega
    rw [hi1]
    refine wpAny_bind (wpAny_mono ht (fun r s2 ⟨hr, h2⟩ => ?_) fun _ _ z => z)
    subst hr
    have hrec := ih (i + 1) (by omega) (by omega) s2 h2
    obtain ⟨hp2, g2, d2, tk2, os2⟩ := s2
    wp_walk
    rw [hc]
    exact ⟨plainId_quiet MeetsSeq.plain_contains_loop _, codeAny_builtin MeetsSeq.entry_contains_loop (by
      rw [Around.under_plainId MeetsSeq.plain_contains_loop _]
      exact hrec)⟩
theorem notIn_G {l : Addr} {v : Value} {N : Nat} {Q : Value → Shared → Prop} (I : Nat → Shared → Prop)
    (hl : ∀ i s, I i s → ∃ (items : Array Value) (n : Nat), s.heap.get? l = some { cls := .type "list", data := .seq items n } ∧ items.size = N ∧ ∀ h1 : i < items.size, wpAny (model prog w) A.in1 (eqBool items[i] v) (fun r s' => r = false ∧ I (i + 1) s') E s)
    (fin : ∀ s, I N s → Q (.bool true) s) (h : I 0 s) : wpAny (model prog w) A (compareOp .NotIn v (.ref l)) Q E s := by
  obtain ⟨items, n, hl1, _⟩ := hl 0 s h
  show wpAny _ _ (do return .bool (!(← contains (.ref l) v))) Q E s
  refine wpAny_bind (wpAny_contains_slot (T := "list") ⟨_, hl1, rfl⟩ F.slot_list_contains (GQ.call_here (rest := [v]) F.slot_list_contains ⟨_, hl1, rfl⟩ F.entry_list_contains (F.args_list_contains_2 _ _) ?_))
  have hrec := cont_loopG (prog := prog) (w := w) (A := A) (R := wants (fun r s' => wpAny (model prog w) A (truthy r) (fun b s' => wpAny (model prog w) A (pure (.bool !b)) Q E s') E s') E) I hl (fun s' q => wpAny_truthy_bool (wpAny_pure (fin s' q))) N 0 rfl (Nat.zero_le _) s h
  obtain ⟨hp, g, d, tk, os⟩ := s
  wp_walk using wpAny_loadPart' hl1
  exact ⟨plainId_quiet MeetsSeq.plain_contains_loop _, codeAny_builtin MeetsSeq.entry_contains_loop (by
    rw [Around.under_plainId MeetsSeq.plain_contains_loop _]
    exact hrec)⟩
/-! ### != -/
theorem ne_own {K : PySem.W.Frag} {b tb : Value} {f : Addr} {ox : Obj} {od : Option Obj} {Q : Value → Shared → Prop} (hu : A.units + 1 < cLine) (hk : K.In s.heap) (I : PySem.W.InstAt s.heap x ox C od) (hb : PySem.W.Looks (model prog w) s.heap (typeOf b) tb) (hn : PySem.W.notFirst K C tb = true)
    (hne : PySem.W.findIn K (.ref C) "__ne__" = some (some (.builtin "object.__ne__"))) (ho : PySem.W.mroIn K C (.type "object") = some true) (hs : PySem.W.findIn K (.ref C) "__eq__" = some (some (.ref f))) (hf : PySem.W.isFn K (.ref f) = true)
    (h : wpAny (model prog w) A.in1 (call (.ref f) [.ref x, b]) (fun v s' => ∃ r, v = .bool r ∧ Q (.bool (!r)) s') E s) : wpAny (model prog w) A (richCompare .NotEq (.ref x) b) Q E s := by
  have hi : PySem.W.Looks (model prog w) s.heap (isInstance (.ref x) (.type "object")) true := I.type.andThen (PySem.W.looks_mroIn hk ho)
  have one : wpAny (model prog w) A (tryCompare (.ref x) "__ne__" b) (fun r s' => ∃ v, r = some v ∧ Q v s') E s := by
    unfold tryCompare callSpecialIfBound? bindSpecialIfBound?
    refine wpAny_bind (wpAny_holding (wpAny_bind (wpAny_bind (wpAny_bind (I.type.here ((PySem.W.looks_findIn hk hne).here ?_))))))
    simp only [F.cmp_object.ne.bind]
    refine wpAny_bind (wpAny_askSetting (wpAny_ite ?_))
    have body : wpAny (model prog w) A (call (.builtin "object.__ne__") ([.ref x] ++ [b])) (fun v s' => v ≠ .notImplemented ∧ Q v s') E s := by
      refine wpAny_call (codeAny_call_builtin F.cmp_object.ne.plain F.cmpEntry_ne (PySem.W.check_slot F.cmpKind_ne F.cmpSplit_ne hi (F.cmpArgs_ne _ _) ?_))
      unfold Builtin.«object.__ne__»
      refine wpAny_bind (wpAny_pure ?_)
      refine wpAny_bind (wpAny_cRoomFor (show A.in1.units < cLine from hu) ?_)
      refine wpAny_bind (PySem.W.ifBound_K hk I hs hf (wpAny_mono h (fun v s' ⟨r, ev, q⟩ => ?_) fun _ _ z => z))
      subst ev
      refine wpAny_bind (wpAny_truthy_bool (wpAny_pure ?_))
      exact ⟨(fun z => nomatch z), q⟩
    have fin2 : wpAny (model prog w) A (call (.builtin "object.__ne__") ([.ref x] ++ [b]) >>= fun v => pure (some v)) (fun a s' => wpAny (model prog w) A (match a with | some .notImplemented | none => pure none | some v => pure (some v)) (fun r s' => ∃ v, r = some v ∧ Q v s') E s') E s :=
      wpAny_bind (wpAny_mono body (fun v s' ⟨hv, q⟩ => wpAny_pure (by
        cases v <;> first | exact absurd rfl hv | exact wpAny_pure ⟨_, rfl, q⟩)) fun _ _ z => z)
    split
    · exact wpAny_bind (wpAny_pure (wpAny_pure fin2))
    · exact wpAny_tryCatch (wpAny_bind (wpAny_pure (wpAny_pure fin2)))
  unfold richCompare
  rw [oneThing_ref]
  refine wpAny_holding (wpAny_bind (wpAny_cRoomFor (Nat.lt_of_succ_lt hu) ?_))
  refine wpAny_bind (I.type.here (wpAny_bind (hb.here ?_)))
  by_cases q : (Value.ref C != tb) = true
  · rw [if_pos q]
    have e : PySem.W.subIn K tb (.ref C) = some false := by
      rcases Bool.or_eq_true_iff.mp hn with e | e
      · rw [beq_iff_eq.mp e] at q; simp at q
      · exact beq_iff_eq.mp e
    refine wpAny_bind ((PySem.W.looks_subIn hk e).here ?_)
    dsimp only
    rw [if_neg Bool.false_ne_true]
    exact wpAny_bind (wpAny_mono one (fun r s' ⟨v, er, q⟩ => by subst er; exact wpAny_pure q) fun _ _ z => z)
  · rw [if_neg q]
    refine wpAny_bind (wpAny_pure ?_)
    dsimp only
    rw [if_neg Bool.false_ne_true]
    exact wpAny_bind (wpAny_mono one (fun r s' ⟨v, er, q⟩ => by subst er; exact wpAny_pure q) fun _ _ z => z)
end
end ZE
/-! Z39: isinstance(o, own class), !=, not in [..] of an own instance with values of other kinds, as data -/
namespace Z
open PySem PySem.Spec PyProof.Rows L2 ZE
open Classical
/-- other kinds -/
def plainK : D → Bool
  | .non | .int _ | .str _ | .lst _ | .tup _ => true
  | _ => false
def kinds5 : List String := ["NoneType", "int", "str", "list", "tuple"]
inductive AlV (K : PySem.W.Frag) (H : Hp) : V → String → Prop where
  | non : AlV K H .non "NoneType"
  | int (i : Int) : AlV K H (.int i) "int"
  | str (x : Str) : AlV K H (.str x) "str"
  | lst {a : Addr} {xs : List V} (e : H a = some (.lst xs)) : AlV K H (.ref a) "list"
  | tup {a : Addr} {xs : List V} (e : SqT K H a xs) : AlV K H (.ref a) "tuple"
theorem AlV.in5 {K : PySem.W.Frag} {H : Hp} {v : V} {T : String} (h : AlV K H v T) : T ∈ kinds5 := by
  cases h <;> decide
theorem al_of {K : PySem.W.Frag} {io : List Addr} {F H : Hp} {d : D} {v : V} (hd : plainK d = true) (ex : Ex F H) (r : rep K io F d v) : ∃ T, AlV K H v T := by
  cases d with
  | non => cases (show v = .non from r); exact ⟨_, .non⟩
  | int i => cases (show v = .int i from r); exact ⟨_, .int i⟩
  | str x => cases (show v = .str ⟨x.toArray⟩ from r); exact ⟨_, .str _⟩
  | lst l => obtain ⟨a, xs, rfl, h, _⟩ := r; exact ⟨_, .lst (ex _ _ h)⟩
  | tup l => obtain ⟨a, xs, rfl, h, _⟩ := r; exact ⟨_, .tup (ex.t h)⟩
  | bl _ => cases hd
  | fz _ => cases hd
  | ref _ => cases hd
  | exc _ _ => cases hd
  | cls _ => cases hd
/-- what an own class's == and isinstance ask of the class at C -/
structure OwnK (K : PySem.W.Frag) (C : Addr) : Prop where
  ne : PySem.W.findIn K (.ref C) "__ne__" = some (some (.builtin "object.__ne__"))
  ob : PySem.W.mroIn K C (.type "object") = some true
  sb : ∀ T ∈ kinds5, PySem.W.subIn K (.ref C) (.type T) = some false
  bs : ∀ T ∈ kinds5, PySem.W.subIn K (.type T) (.ref C) = some false
  ic : PySem.W.isClsIn K C = true
  ty : PySem.W.typeIn K (.ref C) = some (.type "type")
  sf : PySem.W.subIn K (.ref C) (.ref C) = some true
theorem OwnK.mk5 {K : PySem.W.Frag} {C : Addr} (ne : PySem.W.findIn K (.ref C) "__ne__" = some (some (.builtin "object.__ne__"))) (ob : PySem.W.mroIn K C (.type "object") = some true)
    (s1 : PySem.W.subIn K (.ref C) (.type "NoneType") = some false) (s2 : PySem.W.subIn K (.ref C) (.type "int") = some false) (s3 : PySem.W.subIn K (.ref C) (.type "str") = some false) (s4 : PySem.W.subIn K (.ref C) (.type "list") = some false) (s5 : PySem.W.subIn K (.ref C) (.type "tuple") = some false)
    (b1 : PySem.W.subIn K (.type "NoneType") (.ref C) = some false) (b2 : PySem.W.subIn K (.type "int") (.ref C) = some false) (b3 : PySem.W.subIn K (.type "str") (.ref C) = some false) (b4 : PySem.W.subIn K (.type "list") (.ref C) = some false) (b5 : PySem.W.subIn K (.type "tuple") (.ref C) = some false)
    (ic : PySem.W.isClsIn K C = true) (ty : PySem.W.typeIn K (.ref C) = some (.type "type")) (sf : PySem.W.subIn K (.ref C) (.ref C) = some true) : OwnK K C := by
  refine ⟨ne, ob, fun T hT => ?_, fun T hT => ?_, ic, ty, sf⟩
  · have h : T = "NoneType" ∨ T = "int" ∨ T = "str" ∨ T = "list" ∨ T = "tuple" := by simpa [kinds5] using hT
    rcases h with rfl | rfl | rfl | rfl | rfl <;> assumption
  · have h : T = "NoneType" ∨ T = "int" ∨ T = "str" ∨ T = "list" ∨ T = "tuple" := by simpa [kinds5] using hT
    rcases h with rfl | rfl | rfl | rfl | rfl <;> assumption
theorem kit_plain {K : PySem.W.Frag} {C : Addr} {T : String} {b : Bool} (h2 : PySem.W.isClsIn K C = true) (h3 : PySem.W.typeIn K (.ref C) = some (.type "type")) (h4 : PySem.W.subIn K (.type T) (.ref C) = some b) : PySem.W.kitOne K (.type T) (.ref C) = some b := by
  unfold PySem.W.kitOne
  rw [if_neg (show ¬ (Value.type T == Value.ref C) = true by simp)]
  have e2 : ((PySem.W.clsIn K C).isSome && PySem.W.typeIn K (.ref C) == some (.type "type")) = true := by
    have h2' : (PySem.W.clsIn K C).isSome = true := h2
    rw [h2', h3] <;> rfl
  show (if ((PySem.W.clsIn K C).isSome && PySem.W.typeIn K (.ref C) == some (.type "type")) = true then PySem.W.subIn K (.type T) (.ref C) else none) = some b
  rw [if_pos e2]
  exact h4
section
variable {X : Cx} {pins : List (Addr × Obj)} {σ : L2.St} {H : Hp} {s : Shared} {v : V} {u : Value} {T : String} {C x dx : Addr}
theorem AlV.typ (al : AlV X.K H v T) (I : Inv X pins σ H s) (r : RelV v u) : s.TypeIs u T := by
  cases al with
  | non => cases (show u = Value.none from r); exact typeIs_none s
  | int i => obtain ⟨t, rfl⟩ := (show ∃ t, u = Value.int i t from r); exact typeIs_int s i t
  | str y => obtain ⟨t, rfl⟩ := (show ∃ t, u = Value.str y t from r); exact typeIs_str s y t
  | lst e =>
    cases r
    obtain ⟨_, _, n, _, h1⟩ := I.hok _ _ e
    exact ⟨_, h1, rfl⟩
  | tup e =>
    cases r
    obtain ⟨its, _, ⟨o, h1, h2, _⟩, _⟩ := I.tuple e
    exact ⟨o, h1, h2⟩
theorem AlV.isin {A : Around} {Q E : Value → Shared → Prop} (al : AlV X.K H v T) (I : Inv X pins σ H s) (r : RelV v u) (o : OwnK X.K C) (h : ∀ tk, Q (.bool false) { s with toks := tk }) : wpAny (model X.prog X.w) A (call (.builtin "isinstance") [u, .ref C]) Q E s := by
  have k := fun T hT => kit_plain o.ic o.ty (o.bs T hT)
  cases al with
  | non => exact isinst_ok I r TyOf.non (k "NoneType" (by decide)) h
  | int i => exact isinst_ok I r (TyOf.int i) (k "int" (by decide)) h
  | str y => exact isinst_ok I r (TyOf.str y) (k "str" (by decide)) h
  | lst e => exact isinst_ok I r (TyOf.lst e) (k "list" (by decide)) h
  | tup e =>
    cases r
    obtain ⟨its, _, ⟨o, h1, h2, _⟩, _⟩ := I.tuple e
    exact PySem.W.kia_one PySem.W.kitx_tuple I.kIn ⟨o, h1, h2⟩ (k "tuple" (by decide)) (fun z => nomatch z) h
theorem AlV.far (al : AlV X.K H v T) (I : Inv X pins σ H s) (r : RelV v u) (hx : s.heap.get? x = some (PySem.W.instObj C dx)) : u ≠ .ref x := by
  intro z
  have h1 := al.typ I r
  rw [z] at h1
  obtain ⟨o, e, c⟩ := h1
  rw [hx] at e
  cases e
  cases c
theorem AlV.mute {A : Around} {E : Value → Shared → Prop} {od : Option Obj} (al : AlV X.K H v T) (I : Inv X pins σ H s) (r : RelV v u) (o : OwnK X.K C) (J : PySem.W.InstAt s.heap x (PySem.W.instObj C dx) C od) : NoWord X.prog X.w A E u x s := by
  have ty := al.typ I r
  have is : ∀ T ∈ kinds5, PySem.W.Looks (model X.prog X.w) s.heap (isInstance (.ref x) (.type T)) false := fun T hT => J.type.andThen (PySem.W.looks_subIn I.kIn (o.sb T hT))
  cases al with
  | non => cases (show u = Value.none from r); exact noWord_none
  | int i => obtain ⟨t, rfl⟩ := (show ∃ t, u = Value.int i t from r); exact noWord_int J.at_
  | str y => obtain ⟨t, rfl⟩ := (show ∃ t, u = Value.str y t from r); exact noWord_str J.at_
  | lst e =>
    cases r
    obtain ⟨o1, h1, h2⟩ := ty
    exact noWord_list I.kIn h1 h2 (is "list" (by decide))
  | tup e =>
    cases r
    obtain ⟨o1, h1, h2⟩ := ty
    exact noWord_tuple h1 h2 (is "tuple" (by decide))
end
/-! ### isinstance -/
def mIsK (c : Str) (mo : M D) : M D := bnd mo fun o s => match getI s c o with
  | some _ => some (.ok (.bl true) s)
  | none => if plainK o = true then some (.ok (.bl false) s) else none
abbrev r_isK (K : PySem.W.Frag) (C : Addr) : List V → Hp → VK → Prop := fun xs H Q => ∃ v, xs = [v, .ref C] ∧ ((∃ a dx fs, v = .ref a ∧ H a = some (.ins C dx fs) ∧ Q (.bl true) H) ∨ ∃ T, AlV K H v T ∧ Q (.bl false) H)
section
variable {X : Cx} {W : WX} {pos : Pos} {e : Expr} {te : TE} {me : M D} {c : Str}
theorem call_isK {C : Addr} (i : C8.InsC X.K C) (o : OwnK X.K C) : CallR X (.builtin "isinstance") (r_isK X.K C) := by
  intro pins s σ H xs us Q I r h
  obtain ⟨v, rfl, h⟩ := h
  obtain ⟨u, w', rfl, ru, rw'⟩ := vals2 r
  cases rw'
  rcases h with ⟨a, dx, fs, rfl, ha, q⟩ | ⟨T, al, q⟩
  · exact isinst_ok I ru (TyOf.ins ha i.cl i.ha i.hn i.htk i.hm) i.me fun tk => ⟨.bl true, H, I.tok _, rfl, q⟩
  · exact al.isin I ru o fun tk => ⟨.bl false, H, I.tok _, rfl, q⟩
theorem de_isK {p p2 : Pos} (h : ∃ C, X.mg c = some (.ref C) ∧ PySem.W.nsIn X.K mainGlobals c = some (some (.ref C)) ∧ C8.InsC X.K C ∧ OwnK X.K C) (hg : Gl X "isinstance") (hm : X.mg "isinstance" = none) (hgc : Gl X c) (he : DE X W e te me) (hv : bootBuiltins "isinstance" = some (.builtin "isinstance") := by decide +kernel) (hd : (c == ("__debug__" : Str)) = false := by decide)
    (hs : starEach [e, .Name c p2] X.env = (false, eval e X.env) :: starEach [.Name c p2] X.env := by rfl) (hs2 : starEach [.Name c p2] X.env = (false, eval (.Name c p2) X.env) :: starEach [] X.env := by rfl) (hpl : (backTo pos (starEach [.Name c p2] X.env)).any (·.1) = false := by rfl) :
    ∃ C, DE X W (.Call (.Name "isinstance" p) [e, .Name c p2] [] pos) (tCB (r_isK X.K C) (tCons te (tCons (tC (.ref C)) tNil))) (mIsK c me) := by
  obtain ⟨C, h1, h2, h3, h4⟩ := h
  refine ⟨C, pe_callB (call_isK h3 h4) hg hm hv (pa_cons he.p (pa_cons (pe_glob hgc h1 rfl hd) pa_nil hs2) hs) (by decide) (by decide) hs hpl, ?_⟩
  intro en io F H σ s o Q R e' hx hq
  refine he.s.step R e' hx fun d s1 v io1 F1 H1 l1 R1 r1 e1 hx1 => ?_
  split at e1
  · rename_i fs hfs
    cases e1
    obtain ⟨a, C', dx, ws, rfl, hF, hH, hn, rx, _⟩ := R1.getI hfs r1
    have eC : C' = C := by
      have := hn.symm.trans h2
      injection this with this
      injection this with this
      injection this
    subst eC
    exact ⟨.ref a, rfl, .inl ⟨a, dx, ws, rfl, hH, hq _ _ rfl (.bl true) io1 F1 H1 l1 R1 rfl⟩⟩
  · by_cases hp : plainK d = true
    · rw [if_pos hp] at e1
      cases e1
      obtain ⟨T, al⟩ := al_of hp R1.h.ex r1
      exact ⟨v, rfl, .inr ⟨T, al, hq _ _ rfl (.bl false) io1 F1 H1 l1 R1 rfl⟩⟩
    · rw [if_neg hp] at e1
      cases e1
end
/-! ### != -/
/-- x != y, x an instance of c, y another or a value of another kind -/
def mNeO (c : Str) (n : Fn) (ma mb : M D) : M D := bnd ma fun x => bnd mb fun y => fun s => match getI s c x with
  | some _ => if (getI s c y).isSome = true ∨ plainK y = true then (match n [x, y] s.hp with
    | some (.ok (.bl b) hp') => some (.ok (.bl (!b)) { s with hp := hp' })
    | _ => none) else none
  | none => none
def rNeOwn (K : PySem.W.Frag) (c : Str) (sp : Sp) : R2 := fun x y H Q => ∃ a C dx fs, x = .ref a ∧ PySem.W.nsIn K mainGlobals c = some (some (.ref C)) ∧ H a = some (.ins C dx fs) ∧ ((∃ b dy gs, y = .ref b ∧ H b = some (.ins C dy gs)) ∨ ∃ T, AlV K H y T) ∧
  sp [x, y] H (fun v H' => ∃ k, v = .bl k ∧ Q (.bl (!k)) H') (fun _ _ _ => False)
def OwnAll (K : PySem.W.Frag) (c : Str) : Prop := ∀ C, PySem.W.nsIn K mainGlobals c = some (some (.ref C)) → OwnK K C
section
variable {X : Cx} {W : WX} {K : PySem.W.Frag} {mg : Str → Option Value} {pos : Pos} {a b : Expr} {ta tb : TE} {ma mb : M D} {c qual : Str} {st : Stmt} {ps : List Str} {k : Nat} {n : Fn}
/-- the own __eq__, called from a builtin -/
theorem run_eq {pins : List (Addr × Obj)} {σ : L2.St} {H : Hp} {s : Shared} {f : Addr} {fd : FuncData} {u1 u2 : Value} {v1 v2 : V} {Q : VK} (hr : RoomG (k + 1) X.A) (hk : k < 30) (bd : Binds X.K fd ps []) (og : FnG X.prog X.w X.K X.mg X.base k f fd ps (spD X.K X.mg 2 n)) (I : Inv X pins σ H s) (r1 : RelV v1 u1) (r2 : RelV v2 u2)
    (h : spD X.K X.mg 2 n [v1, v2] H Q (fun _ _ _ => False)) : wpAny (model X.prog X.w) X.A.in1 (call (.ref f) [u1, u2]) (fun w s' => ∃ z H', RelV z w ∧ Inv X pins σ H' s' ∧ Q z H') X.xe s := by
  have rr : Vals [v1, v2] [u1, u2] := .cons r1 (.cons r2 .nil)
  have hl := og.len _ _ _ _ h
  have e0 := I.env0
  refine wpAny_call (codeAny_mono (og.run X.A.in1 X.stack s H ⟨[u1, u2], []⟩ [u1, u2] [v1, v2] Q _ (RoomG.of hr.r.in1 hk) ⟨e0.frames, e0.mod, e0.bs, e0.bsz, e0.funs, e0.frf, e0.hok, e0.bare⟩ (by
    have := bd s [u1, u2] I.kIn (by simpa using hl)
    simpa using this) rr h) fun r s' hq => ?_)
  cases r with
  | error e =>
    obtain ⟨_, _, _, _, _, _, _, _, _, _, _, _, z⟩ := hq
    exact z.elim
  | ok fl =>
    cases fl with
    | ret w =>
      obtain ⟨z, H', I', rz, q⟩ := I.after hq
      exact ⟨z, H', rz, I', q⟩
    | next => exact False.elim hq
    | brk => exact False.elim hq
    | cont => exact False.elim hq
theorem op_neOwn (cl : CalM X.prog X.w X.K X.mg X.base c "__eq__" qual st ps k 2 n) (ho : OwnAll X.K c) (hr : RoomG (k + 1) X.A) (hk : k < 30) : OpR X (compareOp .NotEq) (rNeOwn X.K c (spD X.K X.mg 2 n)) := by
  intro pins s σ H x y v u Q I rx ry h
  obtain ⟨a, C, dx, fs, rfl, hn, ha, hy, hsp⟩ := h
  cases rx
  obtain ⟨f, fd, hm, Fk, bd, og⟩ := cl.ex
  obtain ⟨_, hmt⟩ := hm C hn
  have oo := ho C hn
  obtain ⟨mA, J, _⟩ := ins_get I.hok ha
  obtain ⟨od, J, _⟩ := J.look
  have body := run_eq hr hk bd og I (show RelV (V.ref a) (.ref a) from rfl) ry hsp
  have fin : wpAny (model X.prog X.w) X.A.in1 (call (.ref f) [.ref a, u]) (fun v s' => ∃ r, v = .bool r ∧ EP X pins σ Q (.bool (!r)) s') X.xe s := wpAny_mono body (fun w s' ⟨z, H', rz, I', b, ez, q⟩ => by
    subst ez
    cases rz
    exact ⟨b, rfl, .bl (!b), H', I', rfl, q⟩) fun _ _ z => z
  have hu : X.A.units + 1 < cLine := by have := hr.units; omega
  show wpAny (model X.prog X.w) X.A (richCompare .NotEq (.ref a) u) (EP X pins σ Q) X.xe s
  rcases hy with ⟨b, dy, gs, rfl, hb⟩ | ⟨T, al⟩
  · cases ry
    obtain ⟨mB, J', _⟩ := ins_get I.hok hb
    obtain ⟨od', J', _⟩ := J'.look
    exact ne_own hu I.kIn J J'.type (by simp [PySem.W.notFirst]) oo.ne oo.ob hmt.at_ hmt.fn fin
  · have ty := al.typ I ry
    refine ne_own (tb := .type T) hu I.kIn J (fun A Q E s2 k2 q => wpAny_typeOf (T := T) ?_ q) (by simp [PySem.W.notFirst, oo.bs T al.in5]) oo.ne oo.ob hmt.at_ hmt.fn fin
    cases u with
    | ref z => obtain ⟨o1, e1, c1⟩ := ty; exact ⟨o1, k2 _ _ e1, c1⟩
    | _ => exact ty
theorem sem_neOwn (ha : SemE K mg W ta ma) (hb : SemE K mg W tb mb) : SemE K mg W (tOp (rNeOwn K c (spD K mg 2 n)) ta tb) (mNeO c n ma mb) := by
  intro en io F H σ s o Q R e hx hq
  refine ha.step R e hx fun d s1 v io1 F1 H1 l1 R1 r1 e1 hx1 => ?_
  refine hb.step R1 e1 hx1 fun d2 s2 v2 io2 F2 H2 l2 R2 r2 e2 hx2 => ?_
  split at e2
  · rename_i fs hfs
    obtain ⟨p, C, dx, ws, rfl, hF, hH, hn, rx, _⟩ := R2.getI hfs (rep_le l2 _ _ r1)
    by_cases hc : (getI s2 c d2).isSome = true ∨ plainK d2 = true
    · rw [if_pos hc] at e2
      have hy : (∃ b dy gs, v2 = .ref b ∧ H2 b = some (.ins C dy gs)) ∨ ∃ T, AlV K H2 v2 T := by
        rcases hc with hc | hc
        · obtain ⟨gs, hgs⟩ := Option.isSome_iff_exists.mp hc
          obtain ⟨p', C', dx', ws', rfl, hF', hH', hn', rx', _⟩ := R2.getI hgs r2
          have eC : C' = C := by
            have := hn'.symm.trans hn
            injection this with this
            injection this with this
            injection this
          subst eC
          exact .inl ⟨p', dx', ws', rfl, hH'⟩
        · exact .inr (al_of hc R2.h.ex r2)
      refine ⟨p, C, dx, ws, rfl, hn, hH, hy, ?_⟩
      split at e2
      · rename_i b hp' h1
        cases e2
        exact ⟨io2, F2, [d, d2], s2.hp, _, R2.h, ⟨_, _, rfl, rep_le l2 _ _ r1, _, _, rfl, r2, rfl⟩, rfl, h1, fun w io' F' H' x rv => ⟨b, rv, hq _ _ rfl (.bl (!b)) io' F' H' ((l1.trans l2).trans x.l) (R2.stp x) rfl⟩⟩
      · cases e2
    · rw [if_neg hc] at e2
      cases e2
  · cases e2
theorem ke_neO (K : PySem.W.Frag) (mg : Str → Option Value) (cl : CalM X.prog X.w X.K X.mg X.base c "__eq__" qual st ps k 2 n) (ho : OwnAll K c) (hr : RoomG (k + 1) X.A) (hk : k < 30) (ha : DE X W a ta ma) (hb : DE X W b tb mb) (hK : X.K = K := by rfl) (hM : X.mg = mg := by rfl) (hm : behindInMarks .NotEq b = false := by first | exact nomark _ | rfl) :
    DE X W (.Compare a [.NotEq] [b] pos) (tOp (rNeOwn K c (spD K mg 2 n)) ta tb) (mNeO c n ma mb) := by
  subst hK hM
  exact ⟨pe_cmpR (op_neOwn cl ho hr hk) ha.p hb.p hm, sem_neOwn ha.s hb.s⟩
/-! ### not in [..] -/
/-- x not in [..], of things of other kinds that x's own __eq__ finds to be others -/
noncomputable def mNotInK (c : Str) (n : Fn) (ma mb : M D) : M D := bnd ma fun x => bnd mb fun y => fun s => match getI s c x, y with
  | some _, .lst l => if ∀ d ∈ l, plainK d = true ∧ n [x, d] s.hp = some (.ok (.bl false) s.hp) then some (.ok (.bl true) s) else none
  | _, _ => none
def rNotInOwn (K : PySem.W.Frag) (c : Str) (sp : Sp) : R2 := fun x y H Q => ∃ a C l xs, x = .ref a ∧ PySem.W.nsIn K mainGlobals c = some (some (.ref C)) ∧ y = .ref l ∧ ∃ P : Nat → Hp → Prop, P 0 H ∧
  (∀ i H', P i H' → (∃ dx fs, H' a = some (.ins C dx fs)) ∧ H' l = some (.lst xs) ∧ ∀ z, xs[i]? = some z → (∃ T, AlV K H' z T) ∧ sp [x, z] H' (fun v H'' => v = .bl false ∧ P (i + 1) H'') (fun _ _ _ => False)) ∧ ∀ H', P xs.length H' → Q (.bl true) H'
theorem op_notInOwn (cl : CalM X.prog X.w X.K X.mg X.base c "__eq__" qual st ps k 2 n) (ho : OwnAll X.K c) (hr : RoomG (k + 1) X.A) (hk : k < 30) : OpR X (compareOp .NotIn) (rNotInOwn X.K c (spD X.K X.mg 2 n)) := by
  intro pins s σ H x y v u Q I rx ry h
  obtain ⟨a, C, l, xs, rfl, hn, rfl, P, p0, step, last⟩ := h
  cases rx
  cases ry
  obtain ⟨f, fd, hm, Fk, bd, og⟩ := cl.ex
  obtain ⟨_, hmt⟩ := hm C hn
  have oo := ho C hn
  refine notIn_G (N := xs.length) (fun i s' => ∃ H', Inv X pins σ H' s' ∧ P i H') (fun i s' ⟨H', I', p⟩ => ?_) (fun s' ⟨H', I', p⟩ => ⟨.bl true, H', I', rfl, last H' p⟩) ⟨H, I, p0⟩
  obtain ⟨⟨dx, fs, ha⟩, hl, st⟩ := step i H' p
  obtain ⟨z, its, n0, r, e⟩ := (show ObjOk X.prog X.w H' s'.heap l (.lst xs) from I'.hok l _ hl)
  refine ⟨its.toArray, n0, e, by rw [List.size_toArray, ← r.length], fun h1 => ?_⟩
  have k1 : i < its.length := by simpa using h1
  have k2 : i < xs.length := by rw [r.length]; exact k1
  obtain ⟨u, hu, ru⟩ := r.get (List.getElem?_eq_getElem k2)
  have eu : its.toArray[i] = u := by
    rw [List.getElem?_eq_getElem k1] at hu
    exact (by simpa using hu)
  rw [eu]
  obtain ⟨⟨T, al⟩, hsp⟩ := st xs[i] (List.getElem?_eq_getElem k2)
  obtain ⟨mA, J, _⟩ := ins_get I'.hok ha
  obtain ⟨od, J, _⟩ := J.look
  refine eqb_back (al.far I' ru J.at_) (rc_back (T := T) (by have := hr.units; show X.A.units + 1 < _; omega) I'.kIn (al.typ I' ru) J (oo.sb T al.in5) (al.mute I' ru oo J) hmt.at_ hmt.fn ?_)
  exact wpAny_mono (run_eq hr hk bd og I' (show RelV (V.ref a) (.ref a) from rfl) ru hsp) (fun w s2 ⟨z, H2, rz, I2, ez, p2⟩ => by
    subst ez
    cases rz
    exact ⟨false, rfl, rfl, H2, I2, p2⟩) fun _ _ z => z
theorem sem_notInOwn (ha : SemE K mg W ta ma) (hb : SemE K mg W tb mb) : SemE K mg W (tOp (rNotInOwn K c (spD K mg 2 n)) ta tb) (mNotInK c n ma mb) := by
  intro en io F H σ s o Q R e hx hq
  refine ha.step R e hx fun d s1 v io1 F1 H1 l1 R1 r1 e1 hx1 => ?_
  refine hb.step R1 e1 hx1 fun d2 s2 v2 io2 F2 H2 l2 R2 r2 e2 hx2 => ?_
  split at e2
  · rename_i fs l hfs
    by_cases hc : ∀ d' ∈ l, plainK d' = true ∧ n [d, d'] s2.hp = some (.ok (.bl false) s2.hp)
    · rw [if_pos hc] at e2
      cases e2
      have rd := rep_le l2 _ _ r1
      obtain ⟨p, C, dx, ws, rfl, hF, hH, hn, rx, _⟩ := R2.getI hfs rd
      obtain ⟨q, xs, rfl, hq', rxs⟩ := r2
      refine ⟨p, C, q, xs, rfl, hn, rfl, fun _ H' => ∃ io' F', Le io2 F2 io' F' ∧ Rel K en io' F' H' σ s2, ⟨io2, F2, Le.refl _ _, R2⟩, fun i H' ⟨io', F', l', R'⟩ => ?_, fun H' ⟨io', F', l', R'⟩ => hq _ _ rfl (.bl true) io' F' H' ((l1.trans l2).trans l') R' rfl⟩
      obtain ⟨p', C', dx', ws', ep, hF', hH', hn', rx', _⟩ := R'.getI hfs (rep_le l' _ _ rd)
      have ep' : p' = p := by
        injection ep with ep
        exact ep.symm
      subst ep'
      have eC : C' = C := by
        have := hn'.symm.trans hn
        injection this with this
        injection this with this
        injection this
      subst eC
      refine ⟨⟨dx', ws', hH'⟩, R'.h.ex _ _ (l'.ex _ _ hq'), fun z hz => ?_⟩
      obtain ⟨d', hd', rz⟩ := reps_get' rxs hz
      obtain ⟨c1, c2⟩ := hc d' (List.mem_of_getElem? hd')
      have rz' := rep_le l' _ _ rz
      exact ⟨al_of c1 R'.h.ex rz', io', F', [d, d'], s2.hp, _, R'.h, ⟨_, _, rfl, rep_le l' _ _ rd, _, _, rfl, rz', rfl⟩, rfl, c2, fun w io3 F3 H3 x rv => ⟨rv, io3, F3, l'.trans x.l, R'.stp x⟩⟩
    · rw [if_neg hc] at e2
      cases e2
  · cases e2
theorem ke_notInK (K : PySem.W.Frag) (mg : Str → Option Value) (cl : CalM X.prog X.w X.K X.mg X.base c "__eq__" qual st ps k 2 n) (ho : OwnAll K c) (hr : RoomG (k + 1) X.A) (hk : k < 30) (ha : DE X W a ta ma) (hb : DE X W b tb mb) (hK : X.K = K := by rfl) (hM : X.mg = mg := by rfl) (hm : behindInMarks .NotIn b = false := by first | exact nomark _ | rfl) :
    DE X W (.Compare a [.NotIn] [b] pos) (tOp (rNotInOwn K c (spD K mg 2 n)) ta tb) (mNotInK c n ma mb) := by
  subst hK hM
  exact ⟨pe_cmpR (op_notInOwn cl ho hr hk) ha.p hb.p hm, sem_notInOwn ha.s hb.s⟩
end
end Z
/-! E1: what the mirrors come to -/
namespace Z
open PySem L2
open Classical
/-- a state -/
abbrev st (l : List (Option SV)) (h : List AO) : A := ⟨l, h⟩
abbrev vl (d : D) : Option SV := some (.val d)
abbrev ow (l : List D) : Option SV := some (.own (.lst l))
section
variable {α β : Type} {s s' : A} {h : List AO}
@[simp] theorem ret_e (a : α) : ret a s = some (.ok a s) := rfl
theorem bnd_e {m : M α} {k : α → M β} {a : α} (e : m s = some (.ok a s')) : bnd m k s = k a s' := by
  unfold bnd
  rw [e]
theorem bnd_x {m : M α} {k : α → M β} {a : Exn} (e : m s = some (.ex a s')) : bnd m k s = some (.ex a s') := by
  unfold bnd
  rw [e]
theorem lft_e {o : Option α} {a : α} (e : o = some a) : lft o s = some (.ok a s) := by
  rw [e]
  rfl
@[simp] theorem lft_some' (a : α) : lft (some a) s = some (.ok a s) := rfl
@[simp] theorem mC_e (d : D) : mC d s = some (.ok d s) := rfl
theorem mVar_e {i : Nat} {d : D} (e : s.sl[i]? = some (some (.val d))) : mVar i s = some (.ok d s) := by
  unfold mVar
  rw [e]
theorem mVar_o {i : Nat} {l : List D} (e : s.sl[i]? = some (some (.own (.lst l)))) : mVar i s = some (.ok (.lst l) { s with sl := s.sl.set i (some (.val (.lst l))) }) := by
  unfold mVar
  rw [e]
theorem mBin_e {f : D → D → Option D} {ma mb : M D} {s1 s2 : A} {x y z : D} (e1 : ma s = some (.ok x s1)) (e2 : mb s1 = some (.ok y s2)) (e3 : f x y = some z) : mBin f ma mb s = some (.ok z s2) := by
  unfold mBin
  rw [bnd_e e1, bnd_e e2, e3]
  rfl
theorem mTst_e {m : M D} {b : Bool} (e : m s = some (.ok (.bl b) s')) : mTst m s = some (.ok b s') := by
  unfold mTst
  rw [bnd_e e]
  rfl
theorem mIf_t {c : M Bool} {m n : M α} (e : c s = some (.ok true s')) : mIf c m n s = m s' := by
  unfold mIf
  rw [bnd_e e]
  rfl
theorem mIf_f {c : M Bool} {m n : M α} (e : c s = some (.ok false s')) : mIf c m n s = n s' := by
  unfold mIf
  rw [bnd_e e]
  rfl
theorem mSeq_e {m n : M Fl} (e : m s = some (.ok .nx s')) : mSeq m n s = n s' := by
  unfold mSeq
  rw [bnd_e e]
theorem mSeq_r {m n : M Fl} {d : D} (e : m s = some (.ok (.rt d) s')) : mSeq m n s = some (.ok (.rt d) s') := by
  unfold mSeq
  rw [bnd_e e]
  rfl
theorem mSeq_b {m n : M Fl} (e : m s = some (.ok .bk s')) : mSeq m n s = some (.ok .bk s') := by
  unfold mSeq
  rw [bnd_e e]
  rfl
theorem fnOf_rt {N : Nat} {m : M Fl} {ds : List D} {d : D} {s' : A} (e : m (entA N ds h) = some (.ok (.rt d) s')) : fnOf N m ds h = some (.ok d s'.hp) := by
  unfold fnOf
  rw [e]
theorem fnOf_nx {N : Nat} {m : M Fl} {ds : List D} {s' : A} (e : m (entA N ds h) = some (.ok .nx s')) : fnOf N m ds h = some (.ok .non s'.hp) := by
  unfold fnOf
  rw [e]
theorem fnOf_ex {N : Nat} {m : M Fl} {ds : List D} {x : Exn} {s' : A} (e : m (entA N ds h) = some (.ex x s')) : fnOf N m ds h = some (.ex x s'.hp) := by
  unfold fnOf
  rw [e]
end

/-! ### operations, where they fit -/
theorem SL : sizeLine = 16777216 := sizeLine_eq
theorem addS_e {x y : List Nat} (h : x.length + y.length ≤ 16777216) : addS (.str x) (.str y) = some (.str (x ++ y)) := if_pos (by rw [SL]; exact h)
theorem mulS_e {x : List Nat} {n : Int} (h0 : -1000000 ≤ n) (h1 : n ≤ 1000000) (h : x.length * n.toNat ≤ 16777216) : mulS (.str x) (.int n) = some (.str (repL x n.toNat)) := if_pos ⟨by omega, by omega, by rw [SL]; exact h⟩
theorem tupD_e {l : List D} (h : l.length ≤ 16777216) : tupD l = some (.tup l) := if_pos (by rw [SL]; exact h)
theorem lstD_e {l : List D} (h : l.length ≤ 16777216) : lstD l = some (.lst l) := if_pos (by rw [SL]; exact h)
theorem lenS_e {x : List Nat} (h : x.length ≤ 16777216) : lenF [.str x] = some (.int x.length) := if_pos (by rw [SL]; exact h)
theorem catL_e {l l' : List D} (h : l.length + l'.length ≤ 16777216) : catL (.lst l) (.lst l') = some (.lst (l ++ l')) := if_pos (by rw [SL]; exact h)
theorem slS_e {x : List Nat} {lo hi : Option Int} (h : x.length ≤ 16777216) : slS (.str x) lo hi = some (.str (cutL x lo hi)) := if_pos (by rw [SL]; exact h)
theorem revS_e {x : List Nat} (h : x.length ≤ 16777216) : revS (.str x) = some (.str x.reverse) := if_pos (by rw [SL]; exact h)
theorem ixS_e {x : List Nat} {i : Int} {c : Nat} (h : x.length ≤ 16777216) (e : atI x i = some c) : ixF (.str x) (.int i) = some (.str [c]) := by
  show (if x.length ≤ sizeLine then (atI x i).map fun c => D.str [c] else none) = _
  rw [if_pos (by rw [SL]; exact h), e]
  rfl
theorem modI_e {i j : Int} (h : 0 < j) : modI (.int i) (.int j) = some (.int (i % j)) := if_pos h
theorem divI_e {i j : Int} (h : 0 < j) (h2 : j < 2 ^ 100) : divI (.int i) (.int j) = some (.int (i / j)) := if_pos (wide_div (b := 100) h (by omega) (by decide) (by decide))
theorem mulI_e {i j : Int} (h1 : -(2 ^ 200) < i) (h2 : i < 2 ^ 200) (h3 : j.natAbs < 2 ^ 900) : mulI (.int i) (.int j) = some (.int (i * j)) := if_pos (wide_mul (a := 200) (b := 900) (by omega) h3 (by decide) (by decide) (by decide))
theorem log2_le {n k : Nat} (h : n < 2 ^ (k + 1)) : n.log2 ≤ k := by
  by_cases h0 : n = 0
  · subst h0
    simp
  · have := (Nat.log2_lt h0).mpr h
    omega
theorem powI_e {i j : Int} (h0 : 0 ≤ j) (h1 : j ≤ 100) (h : i.natAbs < 2 ^ 1000) : powI (.int i) (.int j) = some (.int (i ^ j.toNat)) := if_pos ⟨h0, by
  have h2 : i.natAbs.log2 ≤ 999 := log2_le h
  have h3 : ((i.natAbs.log2 : Int) + 1) * j ≤ 1000 * 100 := by
    refine Int.mul_le_mul (by omega) h1 h0 (by decide)
  refine Int.le_trans h3 (by decide)⟩

/-! ### equality -/
mutual
/-- plain data: no bools, no references, little depth -/
def pl : Nat → D → Bool
  | _, .non => true
  | _, .int _ => true
  | _, .str s => s.all (· < 1114112)
  | n + 1, .lst l => pls n l
  | n + 1, .tup l => pls n l
  | _, _ => false
def pls : Nat → List D → Bool
  | _, [] => true
  | n, d :: l => pl n d && pls n l
end
theorem strInj {x y : List Nat} : ((⟨x.toArray⟩ : Str) = ⟨y.toArray⟩) ↔ x = y := by
  constructor
  · intro h
    have := congrArg Str.cps h
    simpa using congrArg Array.toList this
  · rintro rfl
    rfl
theorem toP_lst (l : List D) : toP (.lst l) = (toPs l).map .list := by
  unfold toP
  rfl
theorem toP_tup (l : List D) : toP (.tup l) = (toPs l).map .tuple := by
  unfold toP
  rfl
theorem toPs_cons (d : D) (l : List D) : toPs (d :: l) = (match toP d, toPs l with | some p, some q => some (p :: q) | _, _ => none) := by
  rw [toPs] <;> rfl
mutual
theorem pl_toP : ∀ (n : Nat) (d : D), pl n d = true → ∃ p, toP d = some p ∧ p.canLay0 = true ∧ p.depth ≤ n
  | n, .non, h => ⟨_, rfl, rfl, Nat.zero_le _⟩
  | n, .int i, h => ⟨_, rfl, rfl, Nat.zero_le _⟩
  | n, .str s, h => by
    refine ⟨_, rfl, ?_, Nat.zero_le _⟩
    show PySem.PyData.strOk ⟨s.toArray⟩ = true
    unfold PySem.PyData.strOk
    rw [← Array.all_toList]
    have h' : s.all (· < 1114112) = true := by
      cases n <;> exact h
    exact h'
  | n + 1, .lst l, h => by
    obtain ⟨ps, e, h1, h2⟩ := pls_toP n l h
    refine ⟨.list ps, by rw [toP_lst, e]; rfl, h1, ?_⟩
    show PyData.depthAll ps + 1 ≤ n + 1
    omega
  | n + 1, .tup l, h => by
    obtain ⟨ps, e, h1, h2⟩ := pls_toP n l h
    refine ⟨.tuple ps, by rw [toP_tup, e]; rfl, h1, ?_⟩
    show PyData.depthAll ps + 1 ≤ n + 1
    omega
theorem pls_toP : ∀ (n : Nat) (l : List D), pls n l = true → ∃ p, toPs l = some p ∧ PyData.canLayAll0 p = true ∧ PyData.depthAll p ≤ n
  | n, [], h => ⟨[], rfl, rfl, Nat.zero_le _⟩
  | n, d :: l, h => by
    unfold pls at h
    rw [Bool.and_eq_true] at h
    obtain ⟨p, e1, c1, d1⟩ := pl_toP n d h.1
    obtain ⟨q, e2, c2, d2⟩ := pls_toP n l h.2
    refine ⟨p :: q, by rw [toPs_cons, e1, e2], ?_, ?_⟩
    · show (p.canLay0 && PyData.canLayAll0 q) = true
      rw [c1, c2]
      rfl
    · show max p.depth (PyData.depthAll q) ≤ n
      omega
end
end Z
/-! Ma: the mathematics of runs, sieves and sizes; plain lists -/
namespace Z
/-- the runs of a row: letters with their numbers -/
def runs : List Nat → List (Nat × Nat)
  | [] => []
  | c :: l => match runs l with
    | [] => [(c, 1)]
    | (d, n) :: r => if c = d then (d, n + 1) :: r else (c, 1) :: (d, n) :: r
def expand : List (Nat × Nat) → List Nat
  | [] => []
  | (c, n) :: r => List.replicate n c ++ expand r
/-- runs that may stand beside one another -/
def vld : List (Nat × Nat) → Prop
  | [] => True
  | [(_, n)] => 1 ≤ n
  | (c, n) :: (d, m) :: r => 1 ≤ n ∧ c ≠ d ∧ vld ((d, m) :: r)
theorem vld_tail {x : Nat × Nat} {r : List (Nat × Nat)} (h : vld (x :: r)) : vld r := by
  obtain ⟨c, n⟩ := x
  cases r with
  | nil => trivial
  | cons y r =>
    obtain ⟨d, m⟩ := y
    exact h.2.2
theorem vld_pos {c n : Nat} {r : List (Nat × Nat)} (h : vld ((c, n) :: r)) : 1 ≤ n := by
  cases r with
  | nil => exact h
  | cons y r =>
    obtain ⟨d, m⟩ := y
    exact h.1
theorem runs_vld : ∀ l : List Nat, vld (runs l)
  | [] => trivial
  | c :: l => by
    have ih := runs_vld l
    unfold runs
    split
    · exact Nat.le_refl 1
    · rename_i d n r e
      rw [e] at ih
      by_cases h : c = d
      · rw [if_pos h]
        cases r with
        | nil => exact Nat.le_add_left 1 n
        | cons y r =>
          obtain ⟨d', m⟩ := y
          exact ⟨Nat.le_add_left 1 n, ih.2.1, ih.2.2⟩
      · rw [if_neg h]
        exact ⟨Nat.le_refl 1, h, ih⟩
theorem expand_runs : ∀ l : List Nat, expand (runs l) = l
  | [] => rfl
  | c :: l => by
    have ih := expand_runs l
    unfold runs
    split
    · rename_i e
      rw [e] at ih
      rw [← ih]
      rfl
    · rename_i d n r e
      rw [e] at ih
      by_cases h : c = d
      · rw [if_pos h, ← ih, h]
        show List.replicate (n + 1) d ++ expand r = d :: (List.replicate n d ++ expand r)
        rw [List.replicate_succ]
        rfl
      · rw [if_neg h, ← ih]
        rfl
theorem runs_rep {c : Nat} {r : List (Nat × Nat)} : ∀ {n : Nat}, vld ((c, n + 1) :: r) → runs (expand r) = r → runs (List.replicate (n + 1) c ++ expand r) = (c, n + 1) :: r
  | 0, h, ih => by
    show runs (c :: expand r) = _
    unfold runs
    rw [ih]
    cases r with
    | nil => rfl
    | cons y r =>
      obtain ⟨d, m⟩ := y
      show (if c = d then _ else _) = _
      rw [if_neg h.2.1]
  | n + 1, h, ih => by
    have h' : vld ((c, n + 1) :: r) := by
      cases r with
      | nil => exact Nat.le_add_left 1 n
      | cons y r =>
        obtain ⟨d, m⟩ := y
        exact ⟨Nat.le_add_left 1 n, h.2.1, h.2.2⟩
    have e := runs_rep h' ih
    rw [List.replicate_succ, List.cons_append]
    unfold runs
    rw [e]
    show (if c = c then _ else _) = _
    rw [if_pos rfl]
theorem runs_expand : ∀ {r : List (Nat × Nat)}, vld r → runs (expand r) = r
  | [], _ => rfl
  | (c, n) :: r, h => by
    have hn := vld_pos h
    obtain ⟨m, rfl⟩ : ∃ m, n = m + 1 := ⟨n - 1, by omega⟩
    exact runs_rep h (runs_expand (vld_tail h))
/-- one letter more, behind -/
def pushR (f : List (Nat × Nat)) (c : Nat) : List (Nat × Nat) := match f.getLast? with
  | some (d, n) => if d = c then f.dropLast ++ [(c, n + 1)] else f ++ [(c, 1)]
  | none => [(c, 1)]
theorem pushR_cons (x y : Nat × Nat) (r : List (Nat × Nat)) (c : Nat) : pushR (x :: y :: r) c = x :: pushR (y :: r) c := by
  unfold pushR
  rw [List.getLast?_cons_cons]
  cases h : (y :: r).getLast? with
  | none => simp at h
  | some p =>
    obtain ⟨d, n⟩ := p
    by_cases e : d = c
    · simp only [if_pos e, List.dropLast_cons_cons, List.cons_append]
    · simp only [if_neg e, List.cons_append]
theorem runs_snoc (c : Nat) : ∀ l : List Nat, runs (l ++ [c]) = pushR (runs l) c
  | [] => rfl
  | d :: l => by
    have ih := runs_snoc c l
    rw [List.cons_append]
    unfold runs
    rw [ih]
    cases e : runs l with
    | nil =>
      show (if d = c then [(c, 2)] else [(d, 1), (c, 1)]) = (if d = c then [(c, 2)] else [(d, 1), (c, 1)])
      rfl
    | cons x r =>
      obtain ⟨d', n⟩ := x
      cases r with
      | nil =>
        by_cases h : d' = c
        · have e1 : pushR [(d', n)] c = [(c, n + 1)] := by
            show (if d' = c then _ else _) = _
            rw [if_pos h]
            rfl
          rw [e1]
          by_cases h2 : d = d'
          · show (if d = c then [(c, n + 1 + 1)] else _) = pushR (if d = d' then _ else _) c
            rw [if_pos h2, if_pos (h2.trans h)]
            show _ = (if d' = c then _ else _)
            rw [if_pos h]
            rfl
          · show (if d = c then _ else [(d, 1), (c, n + 1)]) = pushR (if d = d' then _ else _) c
            rw [if_neg h2, if_neg (fun z => h2 (z.trans h.symm)), pushR_cons, e1]
        · have e1 : pushR [(d', n)] c = [(d', n), (c, 1)] := by
            show (if d' = c then _ else _) = _
            rw [if_neg h]
            rfl
          rw [e1]
          by_cases h2 : d = d'
          · show (if d = d' then [(d', n + 1), (c, 1)] else _) = pushR (if d = d' then _ else _) c
            rw [if_pos h2, if_pos h2]
            show _ = (if d' = c then _ else _)
            rw [if_neg h]
            rfl
          · show (if d = d' then _ else [(d, 1), (d', n), (c, 1)]) = pushR (if d = d' then _ else _) c
            rw [if_neg h2, if_neg h2, pushR_cons, e1]
      | cons y r =>
        rw [pushR_cons]
        by_cases h2 : d = d'
        · show (if d = d' then (d', n + 1) :: pushR (y :: r) c else _) = pushR (if d = d' then _ else _) c
          rw [if_pos h2, if_pos h2, pushR_cons]
        · show (if d = d' then _ else (d, 1) :: (d', n) :: pushR (y :: r) c) = pushR (if d = d' then _ else _) c
          rw [if_neg h2, if_neg h2, pushR_cons, pushR_cons]

/-! ### pairs -/
/-- how many places have an equal next one -/
def eqs : List Nat → Nat
  | c :: d :: r => (if c = d then 1 else 0) + eqs (d :: r)
  | _ => 0
theorem runs_head (c : Nat) (l : List Nat) : ∃ n r, runs (c :: l) = (c, n) :: r := by
  unfold runs
  split
  · exact ⟨_, _, rfl⟩
  · rename_i d n r e
    by_cases h : c = d
    · rw [if_pos h, h]
      exact ⟨_, _, rfl⟩
    · rw [if_neg h]
      exact ⟨_, _, rfl⟩
theorem runs_eqs : ∀ l : List Nat, (runs l).length + eqs l = l.length
  | [] => rfl
  | [c] => rfl
  | c :: d :: l => by
    have ih := runs_eqs (d :: l)
    obtain ⟨n, r, e⟩ := runs_head d l
    have e2 : runs (c :: d :: l) = (if c = d then (d, n + 1) :: r else (c, 1) :: (d, n) :: r) := by
      rw [runs, e]
    rw [e2]
    rw [e] at ih
    show _ + ((if c = d then 1 else 0) + eqs (d :: l)) = _
    by_cases h : c = d
    · rw [if_pos h, if_pos h]
      simp only [List.length_cons] at ih ⊢
      omega
    · rw [if_neg h, if_neg h]
      simp only [List.length_cons] at ih ⊢
      omega
/-! ### the sieves -/
/-- what runs leave, by their number -/
def kp (k : Nat → Bool) (R : List (Nat × Nat)) : List Nat := R.filterMap fun p => if k p.2 then some p.1 else none
def isT (n : Nat) : Bool := !decide (n = 1)
def isS (n : Nat) : Bool := decide (n = 1)
/-- a row behind one sieve: T is 84 -/
def sv1 (l : List Nat) (c : Nat) : List Nat := kp (fun n => decide (decide (n = 1) = decide (c = 83))) (runs l)
/-- behind several -/
def sv (l : List Nat) (p : List Nat) : List Nat := p.foldl sv1 l
theorem sv_nil (l : List Nat) : sv l [] = l := rfl
theorem sv_cons (l : List Nat) (c : Nat) (p : List Nat) : sv l (c :: p) = sv (sv1 l c) p := rfl
theorem sv_app (l : List Nat) (p q : List Nat) : sv l (p ++ q) = sv (sv l p) q := List.foldl_append
def drp (k : Nat → Bool) : List (Nat × Nat) → Nat
  | [] => 0
  | (_, n) :: r => (if k n then 0 else 1) + drp k r
def dropFirst (k : Nat → Bool) : List (Nat × Nat) → Bool
  | [] => false
  | (_, n) :: _ => !k n
theorem kp_cons (k : Nat → Bool) (c n : Nat) (r : List (Nat × Nat)) : kp k ((c, n) :: r) = if k n then c :: kp k r else kp k r := by
  unfold kp
  rw [List.filterMap_cons]
  by_cases h : k n = true
  · simp [h]
  · simp [h]
theorem eqs_kp (k : Nat → Bool) : ∀ R : List (Nat × Nat), vld R → eqs (kp k R) + (if dropFirst k R = true ∧ kp k R ≠ [] then 1 else 0) ≤ drp k R
  | [], _ => Nat.le_refl 0
  | (c, n) :: r, h => by
    have ih := eqs_kp k r (vld_tail h)
    rw [kp_cons]
    by_cases hk : k n = true
    · rw [if_pos hk]
      have e1 : dropFirst k ((c, n) :: r) = false := by
        show (!k n) = false
        rw [hk]
        rfl
      rw [e1]
      rw [if_neg (by intro z; exact absurd z.1 (by decide))]
      show _ + 0 ≤ (if k n then 0 else 1) + drp k r
      rw [if_pos hk]
      cases hr : kp k r with
      | nil => exact Nat.zero_le _
      | cons d l =>
        rw [hr] at ih
        show (if c = d then 1 else 0) + eqs (d :: l) + 0 ≤ _
        by_cases hd : c = d
        · rw [if_pos hd]
          have hf : dropFirst k r = true := by
            cases r with
            | nil => cases hr
            | cons y r =>
              obtain ⟨d', m⟩ := y
              show (!k m) = true
              by_cases hm : k m = true
              · rw [kp_cons, if_pos hm] at hr
                injection hr with h1 h2
                exact absurd (hd.trans h1.symm) h.2.1
              · simp [hm]
          rw [if_pos ⟨hf, by simp⟩] at ih
          omega
        · rw [if_neg hd]
          omega
    · rw [if_neg hk]
      show _ ≤ (if k n then 0 else 1) + drp k r
      rw [if_neg hk]
      split <;> omega
def lenR : List (Nat × Nat) → Nat
  | [] => 0
  | (_, n) :: r => n + lenR r
theorem len_expand : ∀ R : List (Nat × Nat), (expand R).length = lenR R
  | [] => rfl
  | (c, n) :: r => by
    show (List.replicate n c ++ expand r).length = n + lenR r
    rw [List.length_append, List.length_replicate, len_expand r]
theorem sizeT : ∀ R : List (Nat × Nat), vld R → ∃ x, lenR R = 2 * (kp isT R).length + drp isT R + x ∧ lenR R = R.length + ((kp isT R).length + x)
  | [], _ => ⟨0, rfl, rfl⟩
  | (c, n) :: r, h => by
    obtain ⟨x, h1, h2⟩ := sizeT r (vld_tail h)
    have hn := vld_pos h
    rw [kp_cons]
    show ∃ x, n + lenR r = _ + ((if isT n then 0 else 1) + drp isT r) + x ∧ n + lenR r = (r.length + 1) + _
    by_cases hk : n = 1
    · have e : isT n = false := by simp [isT, hk]
      simp only [e]
      refine ⟨x, ?_, ?_⟩
      · simp; omega
      · simp; omega
    · have e : isT n = true := by simp [isT, hk]
      simp only [e, if_true, List.length_cons]
      exact ⟨x + (n - 2), by omega, by omega⟩
theorem sizeS : ∀ R : List (Nat × Nat), vld R → ∃ x, lenR R = (kp isS R).length + 2 * drp isS R + x ∧ lenR R = R.length + (drp isS R + x)
  | [], _ => ⟨0, rfl, rfl⟩
  | (c, n) :: r, h => by
    obtain ⟨x, h1, h2⟩ := sizeS r (vld_tail h)
    have hn := vld_pos h
    rw [kp_cons]
    show ∃ x, n + lenR r = _ + 2 * ((if isS n then 0 else 1) + drp isS r) + x ∧ n + lenR r = (r.length + 1) + (((if isS n then 0 else 1) + drp isS r) + x)
    by_cases hk : n = 1
    · have e : isS n = true := by simp [isS, hk]
      simp only [e, if_true, List.length_cons]
      exact ⟨x, by omega, by omega⟩
    · have e : isS n = false := by simp [isS, hk]
      simp only [e]
      refine ⟨x + (n - 2), ?_, ?_⟩
      · simp; omega
      · simp; omega
theorem sv1_T (l : List Nat) : sv1 l 84 = kp isT (runs l) := by
  unfold sv1
  congr 1
  funext n
  by_cases h : n = 1 <;> simp [isT, h]
theorem sv1_S (l : List Nat) : sv1 l 83 = kp isS (runs l) := by
  unfold sv1
  congr 1
  funext n
  by_cases h : n = 1 <;> simp [isS, h]
/-- one sieve and the sizes -/
theorem size_T (l : List Nat) : ∃ x y, l.length = 2 * (sv1 l 84).length + eqs (sv1 l 84) + x + y ∧ eqs l = (sv1 l 84).length + x := by
  rw [sv1_T]
  obtain ⟨x, h1, h2⟩ := sizeT (runs l) (runs_vld l)
  have h3 := eqs_kp isT (runs l) (runs_vld l)
  have h4 := len_expand (runs l)
  rw [expand_runs] at h4
  have h5 := runs_eqs l
  exact ⟨x, drp isT (runs l) - eqs (kp isT (runs l)), by omega, by omega⟩
theorem size_S (l : List Nat) : ∃ x y, l.length = (sv1 l 83).length + 2 * (eqs (sv1 l 83) + y) + x ∧ eqs l = (eqs (sv1 l 83) + y) + x := by
  rw [sv1_S]
  obtain ⟨x, h1, h2⟩ := sizeS (runs l) (runs_vld l)
  have h3 := eqs_kp isS (runs l) (runs_vld l)
  have h4 := len_expand (runs l)
  rw [expand_runs] at h4
  have h5 := runs_eqs l
  exact ⟨x, drp isS (runs l) - eqs (kp isS (runs l)), by omega, by omega⟩
/-! ### least sizes -/
def stepZ (c : Nat) (z : Nat × Nat) : Nat × Nat := if c = 84 then (2 * z.1 + z.2, z.1) else (z.1 + 2 * z.2, z.2)
def least (p : List Nat) (z : Nat × Nat) : Nat × Nat := p.foldr stepZ z
def TSs (p : List Nat) : Prop := ∀ c ∈ p, c = 84 ∨ c = 83
def sizeL (l : List Nat) : Nat × Nat := (l.length, eqs l)
theorem least_le : ∀ (p : List Nat) (l : List Nat), TSs p → (least p (sizeL (sv l p))).1 ≤ l.length ∧ (least p (sizeL (sv l p))).2 ≤ eqs l ∧ ((least p (sizeL (sv l p))).1 = l.length → (least p (sizeL (sv l p))).2 = eqs l)
  | [], l, _ => ⟨Nat.le_refl _, Nat.le_refl _, fun _ => rfl⟩
  | c :: p, l, h => by
    obtain ⟨h1, h2, h3⟩ := least_le p (sv1 l c) (fun d hd => h d (List.mem_cons_of_mem _ hd))
    have e : least (c :: p) (sizeL (sv l (c :: p))) = stepZ c (least p (sizeL (sv (sv1 l c) p))) := rfl
    rw [e]
    generalize least p (sizeL (sv (sv1 l c) p)) = z at h1 h2 h3 ⊢
    rcases h c (List.mem_cons_self) with rfl | rfl
    · obtain ⟨x, y, g1, g2⟩ := size_T l
      show 2 * z.1 + z.2 ≤ _ ∧ z.1 ≤ _ ∧ (2 * z.1 + z.2 = _ → z.1 = _)
      refine ⟨by omega, by omega, fun g => by omega⟩
    · obtain ⟨x, y, g1, g2⟩ := size_S l
      show z.1 + 2 * z.2 ≤ _ ∧ z.2 ≤ _ ∧ (z.1 + 2 * z.2 = _ → z.2 = _)
      refine ⟨by omega, by omega, fun g => by omega⟩
/-! ### a shortest row -/
/-- the runs ahead of a sieve: each letter, and separators between equal ones -/
def rb (o : Nat → Nat) (k j : Nat) : List Nat → List (Nat × Nat)
  | [] => []
  | [c] => [(c, k)]
  | c :: d :: r => if c = d then (c, k) :: (o c, j) :: rb o k j (d :: r) else (c, k) :: rb o k j (d :: r)
theorem rb_head (o : Nat → Nat) (k j c : Nat) (r : List Nat) : ∃ t, rb o k j (c :: r) = (c, k) :: t := by
  cases r with
  | nil => exact ⟨_, rfl⟩
  | cons d r =>
    unfold rb
    split <;> exact ⟨_, rfl⟩
theorem rb_vld {o : Nat → Nat} {k j : Nat} (ho : ∀ c, o c ≠ c) (hk : 1 ≤ k) (hj : 1 ≤ j) : ∀ l : List Nat, vld (rb o k j l)
  | [] => trivial
  | [c] => hk
  | c :: d :: r => by
    have ih := rb_vld ho hk hj (d :: r)
    obtain ⟨t, e⟩ := rb_head o k j d r
    unfold rb
    rw [e] at ih ⊢
    by_cases h : c = d
    · rw [if_pos h]
      exact ⟨hk, (ho c).symm, hj, by rw [← h]; exact ho c, ih⟩
    · rw [if_neg h]
      exact ⟨hk, h, ih⟩
theorem rb_kp {o : Nat → Nat} {k j : Nat} (f : Nat → Bool) (h1 : f k = true) (h2 : f j = false) : ∀ l : List Nat, kp f (rb o k j l) = l
  | [] => rfl
  | [c] => by
    show kp f [(c, k)] = [c]
    rw [kp_cons, if_pos h1]
    rfl
  | c :: d :: r => by
    have ih := rb_kp f h1 h2 (o := o) (d :: r)
    unfold rb
    split
    · rw [kp_cons, if_pos h1, kp_cons, if_neg (by rw [h2]; decide), ih]
    · rw [kp_cons, if_pos h1, ih]
theorem rb_len {o : Nat → Nat} {k j : Nat} : ∀ l : List Nat, lenR (rb o k j l) = k * l.length + j * eqs l
  | [] => by simp [rb, lenR, eqs]
  | [c] => by simp [rb, lenR, eqs]
  | c :: d :: r => by
    have ih := rb_len (o := o) (k := k) (j := j) (d :: r)
    unfold rb
    show _ = k * (d :: r).length.succ + j * ((if c = d then 1 else 0) + eqs (d :: r))
    rw [Nat.mul_succ, Nat.mul_add]
    split
    · show k + (j + lenR (rb o k j (d :: r))) = _
      omega
    · show k + lenR (rb o k j (d :: r)) = _
      omega
theorem rb_num {o : Nat → Nat} {k j : Nat} : ∀ l : List Nat, (rb o k j l).length = l.length + eqs l
  | [] => rfl
  | [c] => rfl
  | c :: d :: r => by
    have ih := rb_num (o := o) (k := k) (j := j) (d :: r)
    unfold rb
    show _ = (d :: r).length + 1 + ((if c = d then 1 else 0) + eqs (d :: r))
    split
    · simp only [List.length_cons] at ih ⊢
      omega
    · simp only [List.length_cons] at ih ⊢
      omega
def before (o : Nat → Nat) (c : Nat) (l : List Nat) : List Nat := if c = 84 then expand (rb o 2 1 l) else expand (rb o 1 2 l)
theorem before_sv {o : Nat → Nat} (ho : ∀ c, o c ≠ c) {c : Nat} (hc : c = 84 ∨ c = 83) (l : List Nat) : sv1 (before o c l) c = l := by
  rcases hc with rfl | rfl
  · rw [sv1_T]
    show kp isT (runs (expand (rb o 2 1 l))) = l
    rw [runs_expand (rb_vld ho (by decide) (by decide) l)]
    exact rb_kp isT rfl rfl l
  · rw [sv1_S]
    show kp isS (runs (expand (rb o 1 2 l))) = l
    rw [runs_expand (rb_vld ho (by decide) (by decide) l)]
    exact rb_kp isS rfl rfl l
theorem before_size {o : Nat → Nat} (ho : ∀ c, o c ≠ c) {c : Nat} (hc : c = 84 ∨ c = 83) (l : List Nat) : sizeL (before o c l) = stepZ c (sizeL l) := by
  rcases hc with rfl | rfl
  · show sizeL (expand (rb o 2 1 l)) = (2 * l.length + eqs l, l.length)
    have h1 := len_expand (rb o 2 1 l)
    rw [rb_len] at h1
    have h2 := runs_eqs (expand (rb o 2 1 l))
    rw [runs_expand (rb_vld ho (by decide) (by decide) l), rb_num] at h2
    unfold sizeL
    refine Prod.ext ?_ ?_ <;> show _ = _ <;> omega
  · show sizeL (expand (rb o 1 2 l)) = (l.length + 2 * eqs l, eqs l)
    have h1 := len_expand (rb o 1 2 l)
    rw [rb_len] at h1
    have h2 := runs_eqs (expand (rb o 1 2 l))
    rw [runs_expand (rb_vld ho (by decide) (by decide) l), rb_num] at h2
    unfold sizeL
    refine Prod.ext ?_ ?_ <;> show _ = _ <;> omega
/-- a shortest row for a pipeline -/
def sf (o : Nat → Nat) (p : List Nat) (l : List Nat) : List Nat := p.foldr (before o) l
theorem sf_sv {o : Nat → Nat} (ho : ∀ c, o c ≠ c) : ∀ (p l : List Nat), TSs p → sv (sf o p l) p = l
  | [], l, _ => rfl
  | c :: p, l, h => by
    show sv (sv1 (before o c (sf o p l)) c) p = l
    rw [before_sv ho (h c List.mem_cons_self)]
    exact sf_sv ho p l fun d hd => h d (List.mem_cons_of_mem _ hd)
theorem sf_size {o : Nat → Nat} (ho : ∀ c, o c ≠ c) : ∀ (p l : List Nat), TSs p → sizeL (sf o p l) = least p (sizeL l)
  | [], l, _ => rfl
  | c :: p, l, h => by
    show sizeL (before o c (sf o p l)) = stepZ c (least p (sizeL l))
    rw [before_size ho (h c List.mem_cons_self), sf_size ho p l fun d hd => h d (List.mem_cons_of_mem _ hd)]
/-! ### the pipeline is read back from the size -/
theorem least_pos : ∀ (p : List Nat) (z : Nat × Nat), 0 < z.2 → z.2 < z.1 → 0 < (least p z).2 ∧ (least p z).2 < (least p z).1 ∧ z.1 ≤ (least p z).1
  | [], z, h1, h2 => ⟨h1, h2, Nat.le_refl _⟩
  | c :: p, z, h1, h2 => by
    obtain ⟨g1, g2, g3⟩ := least_pos p z h1 h2
    show 0 < (stepZ c (least p z)).2 ∧ (stepZ c (least p z)).2 < (stepZ c (least p z)).1 ∧ z.1 ≤ (stepZ c (least p z)).1
    unfold stepZ
    split
    · refine ⟨?_, ?_, ?_⟩ <;> show _ <;> simp only <;> omega
    · refine ⟨?_, ?_, ?_⟩ <;> show _ <;> simp only <;> omega
theorem least_inj : ∀ (p q : List Nat) (z : Nat × Nat), 0 < z.2 → z.2 < z.1 → TSs p → TSs q → least p z = least q z → p = q
  | [], [], z, _, _, _, _, _ => rfl
  | [], c :: q, z, h1, h2, hp, hq, e => by
    obtain ⟨g1, g2, g3⟩ := least_pos q z h1 h2
    have e' : z = stepZ c (least q z) := e
    unfold stepZ at e'
    split at e'
    · have := congrArg Prod.fst e'
      simp only at this
      omega
    · have := congrArg Prod.fst e'
      simp only at this
      omega
  | c :: p, [], z, h1, h2, hp, hq, e => by
    obtain ⟨g1, g2, g3⟩ := least_pos p z h1 h2
    have e' : stepZ c (least p z) = z := e
    unfold stepZ at e'
    split at e'
    · have := congrArg Prod.fst e'
      simp only at this
      omega
    · have := congrArg Prod.fst e'
      simp only at this
      omega
  | c :: p, d :: q, z, h1, h2, hp, hq, e => by
    obtain ⟨a1, a2, a3⟩ := least_pos p z h1 h2
    obtain ⟨b1, b2, b3⟩ := least_pos q z h1 h2
    have e' : stepZ c (least p z) = stepZ d (least q z) := e
    have hp' : TSs p := fun x hx => hp x (List.mem_cons_of_mem _ hx)
    have hq' : TSs q := fun x hx => hq x (List.mem_cons_of_mem _ hx)
    have fin : least p z = least q z → p = q := least_inj p q z h1 h2 hp' hq'
    have f1 := congrArg Prod.fst e'
    have f2 := congrArg Prod.snd e'
    rcases hp c List.mem_cons_self with rfl | rfl
    · rcases hq d List.mem_cons_self with rfl | rfl
      · have f1' : 2 * (least p z).1 + (least p z).2 = 2 * (least q z).1 + (least q z).2 := f1
        have f2' : (least p z).1 = (least q z).1 := f2
        rw [fin (Prod.ext f2' (by omega))]
      · have f1' : 2 * (least p z).1 + (least p z).2 = (least q z).1 + 2 * (least q z).2 := f1
        have f2' : (least p z).1 = (least q z).2 := f2
        omega
    · rcases hq d List.mem_cons_self with rfl | rfl
      · have f1' : (least p z).1 + 2 * (least p z).2 = 2 * (least q z).1 + (least q z).2 := f1
        have f2' : (least p z).2 = (least q z).1 := f2
        omega
      · have f1' : (least p z).1 + 2 * (least p z).2 = (least q z).1 + 2 * (least q z).2 := f1
        have f2' : (least p z).2 = (least q z).2 := f2
        rw [fin (Prod.ext (by omega) f2')]
/-- of two pipelines, the shortest row of one parts them -/
theorem parts {o : Nat → Nat} (ho : ∀ c, o c ≠ c) {p q l : List Nat} (hp : TSs p) (hq : TSs q) (hl : 0 < eqs l) (hl2 : eqs l < l.length) (h : sv (sf o p l) p = sv (sf o p l) q) (h2 : sv (sf o q l) p = sv (sf o q l) q) : p = q := by
  rw [sf_sv ho p l hp] at h
  rw [sf_sv ho q l hq] at h2
  obtain ⟨a1, a2, a3⟩ := least_le q (sf o p l) hq
  obtain ⟨b1, b2, b3⟩ := least_le p (sf o q l) hp
  rw [← h] at a1 a2 a3
  rw [h2] at b1 b2 b3
  have e1 := sf_size ho p l hp
  have e2 := sf_size ho q l hq
  have f1 : (sf o p l).length = (least p (sizeL l)).1 := congrArg Prod.fst e1
  have f2 : eqs (sf o p l) = (least p (sizeL l)).2 := congrArg Prod.snd e1
  have f3 : (sf o q l).length = (least q (sizeL l)).1 := congrArg Prod.fst e2
  have f4 : eqs (sf o q l) = (least q (sizeL l)).2 := congrArg Prod.snd e2
  exact least_inj p q (sizeL l) hl hl2 hp hq (Prod.ext (by omega) (by omega))
end Z
/-! E2: loops of the mirrors -/
namespace Z
open PySem L2
open Classical
/-- a for over xs: P holds of what is walked so far and the state -/
theorem forL_pre {α : Type} {g : D → M Unit} {b : M Fl} (e : α → D) (P : List α → A → Prop) : ∀ (xs pre : List α) (s : A), P pre s →
    (∀ pre' a post s, pre ++ xs = pre' ++ a :: post → P pre' s → ∃ s1 s2 f, g (e a) s = some (.ok () s1) ∧ b s1 = some (.ok f s2) ∧ (f = .nx ∨ f = .ct) ∧ P (pre' ++ [a]) s2) →
    ∃ s', mForL g b (xs.map e) s = some (.ok .nx s') ∧ P (pre ++ xs) s'
  | [], pre, s, h0, _ => ⟨s, rfl, by rw [List.append_nil]; exact h0⟩
  | a :: xs, pre, s, h0, hs => by
    obtain ⟨s1, s2, f, e1, e2, hf, p⟩ := hs pre a xs s rfl h0
    obtain ⟨s', h1, h2⟩ := forL_pre e P xs (pre ++ [a]) s2 p fun pre' a' post s3 e3 p3 => hs pre' a' post s3 (by rw [← e3]; simp) p3
    refine ⟨s', ?_, by simpa using h2⟩
    rw [List.map_cons, mForL, bnd_e e1, bnd_e e2]
    rcases hf with rfl | rfl
    · exact h1
    · exact h1
/-- .. that may return -/
theorem forL_ret {α : Type} {g : D → M Unit} {b : M Fl} (e : α → D) (P : List α → A → Prop) (R : D → A → Prop) : ∀ (xs pre : List α) (s : A), P pre s →
    (∀ pre' a post s, pre ++ xs = pre' ++ a :: post → P pre' s → ∃ s1, g (e a) s = some (.ok () s1) ∧ ((∃ s2 f, b s1 = some (.ok f s2) ∧ (f = .nx ∨ f = .ct) ∧ P (pre' ++ [a]) s2) ∨ ∃ s2 d, b s1 = some (.ok (.rt d) s2) ∧ R d s2)) →
    (∃ s', mForL g b (xs.map e) s = some (.ok .nx s') ∧ P (pre ++ xs) s') ∨ ∃ s' d, mForL g b (xs.map e) s = some (.ok (.rt d) s') ∧ R d s'
  | [], pre, s, h0, _ => .inl ⟨s, rfl, by rw [List.append_nil]; exact h0⟩
  | a :: xs, pre, s, h0, hs => by
    obtain ⟨s1, e1, h⟩ := hs pre a xs s rfl h0
    rcases h with ⟨s2, f, e2, hf, p⟩ | ⟨s2, d, e2, r⟩
    · have ih := forL_ret e P R xs (pre ++ [a]) s2 p fun pre' a' post s3 e3 p3 => hs pre' a' post s3 (by rw [← e3]; simp) p3
      rw [List.map_cons, mForL, bnd_e e1, bnd_e e2]
      rcases hf with rfl | rfl
      · simpa using ih
      · simpa using ih
    · refine .inr ⟨s2, d, ?_, r⟩
      rw [List.map_cons, mForL, bnd_e e1, bnd_e e2]
      rfl
theorem mFor_e {mi : M (List D)} {g : D → M Unit} {b : M Fl} {s s' : A} {l : List D} (e : mi s = some (.ok l s')) : mFor mi g b s = mForL g b l s' := bnd_e e
/-- a comprehension -/
theorem lcL_pre {α : Type} {g : D → M Unit} {tt : M Bool} {me : M D} {vs : List Nat} (e : α → D) (P : List α → A → Prop) (f : α → Option D) : ∀ (xs pre : List α) (acc : List D) (s : A), P pre s → acc.length + xs.length ≤ 16777216 →
    (∀ pre' a post s, pre ++ xs = pre' ++ a :: post → P pre' s → ∃ s1 s2 k, g (e a) s = some (.ok () s1) ∧ tt s1 = some (.ok k s2) ∧
      ((k = true ∧ ∃ y s3, me s2 = some (.ok y s3) ∧ f a = some y ∧ P (pre' ++ [a]) (wipeA s3 vs)) ∨ (k = false ∧ f a = none ∧ P (pre' ++ [a]) (wipeA s2 vs)))) →
    ∃ s', mLcL g tt me vs (xs.map e) acc s = some (.ok (.lst (acc ++ xs.filterMap f)) s') ∧ P (pre ++ xs) s'
  | [], pre, acc, s, h0, _, _ => ⟨s, by simp [mLcL], by rw [List.append_nil]; exact h0⟩
  | a :: xs, pre, acc, s, h0, hl, hs => by
    obtain ⟨s1, s2, k, e1, e2, h⟩ := hs pre a xs s rfl h0
    have hl2 : acc.length + (xs.length + 1) ≤ 16777216 := hl
    rcases h with ⟨rfl, y, s3, e3, ef, p⟩ | ⟨rfl, ef, p⟩
    · obtain ⟨s', h1, h2⟩ := lcL_pre (g := g) (tt := tt) (me := me) (vs := vs) e P f xs (pre ++ [a]) (acc ++ [y]) _ p (by simp; omega) fun pre' a' post s3 e3 p3 => hs pre' a' post s3 (by rw [← e3]; simp) p3
      refine ⟨s', ?_, by simpa using h2⟩
      rw [List.map_cons, mLcL]
      unfold bndN
      rw [e1]
      simp only [e2, if_true, e3]
      rw [if_pos (by rw [SL]; omega), h1, List.filterMap_cons, ef]
      simp
    · obtain ⟨s', h1, h2⟩ := lcL_pre (g := g) (tt := tt) (me := me) (vs := vs) e P f xs (pre ++ [a]) acc _ p (by omega) fun pre' a' post s3 e3 p3 => hs pre' a' post s3 (by rw [← e3]; simp) p3
      refine ⟨s', ?_, by simpa using h2⟩
      rw [List.map_cons, mLcL]
      unfold bndN
      rw [e1]
      simp only [e2]
      rw [List.filterMap_cons, ef]
      simpa using h1
theorem mLc_e {mi : M (List D)} {g : D → M Unit} {tt : M Bool} {me : M D} {vs : List Nat} {s s' : A} {l : List D} (e : mi s = some (.ok l s')) : mLc mi g tt me vs s = mLcL g tt me vs l [] (wipeA s' vs) := bnd_e e
/-- a while: P with a measure -/
theorem while_P {c : M Bool} {b : M Fl} (P : Nat → A → Prop) (Q : A → Prop) (hs : ∀ n s, P n s → ∃ k s1, c s = some (.ok k s1) ∧ ((k = false ∧ Q s1) ∨ (k = true ∧ ∃ f s2, b s1 = some (.ok f s2) ∧ (((f = .nx ∨ f = .ct) ∧ ∃ m, m < n ∧ P m s2) ∨ (f = .bk ∧ Q s2))))) :
    ∀ n s, P n s → ∃ s', mWhile c b s = some (.ok .nx s') ∧ Q s' := by
  have key : ∀ n s, P n s → ∃ m s', whileN c b m s = some (.ok .nx s') ∧ Q s' := by
    intro n
    induction n using Nat.strongRecOn with
    | _ n ih =>
      intro s p
      obtain ⟨k, s1, e1, h⟩ := hs n s p
      rcases h with ⟨rfl, q⟩ | ⟨rfl, f, s2, e2, h⟩
      · refine ⟨1, s1, ?_, q⟩
        rw [whileN, bnd_e e1]
        rfl
      · rcases h with ⟨hf, m, hm, p2⟩ | ⟨rfl, q⟩
        · obtain ⟨j, s', h1, h2⟩ := ih m hm s2 p2
          refine ⟨j + 1, s', ?_, h2⟩
          rw [whileN, bnd_e e1]
          show bnd b _ s1 = _
          rw [bnd_e e2]
          rcases hf with rfl | rfl
          · exact h1
          · exact h1
        · refine ⟨1, s2, ?_, q⟩
          rw [whileN, bnd_e e1]
          show bnd b _ s1 = _
          rw [bnd_e e2]
          rfl
  intro n s p
  obtain ⟨m, s', h1, h2⟩ := key n s p
  exact ⟨s', while_of h1, h2⟩
end Z
/-! E3: what a mirror comes to, backwards -/
namespace Z
open PySem L2
open Classical
/-- m goes through from s, and then Q -/
def Wp {α : Type} (m : M α) (s : A) (Q : α → A → Prop) : Prop := ∃ a s', m s = some (.ok a s') ∧ Q a s'
def FnWp (n : Fn) (ds : List D) (hp : List AO) (Q : D → List AO → Prop) : Prop := ∃ d hp', n ds hp = some (.ok d hp') ∧ Q d hp'
section
variable {α β : Type} {s : A} {hp : List AO}
theorem Wp.mono {m : M α} {Q R : α → A → Prop} (h : Wp m s Q) (hq : ∀ a s', Q a s' → R a s') : Wp m s R := by
  obtain ⟨a, s', e, q⟩ := h
  exact ⟨a, s', e, hq _ _ q⟩
theorem FnWp.mono {n : Fn} {ds : List D} {Q R : D → List AO → Prop} (h : FnWp n ds hp Q) (hq : ∀ a s', Q a s' → R a s') : FnWp n ds hp R := by
  obtain ⟨a, s', e, q⟩ := h
  exact ⟨a, s', e, hq _ _ q⟩
theorem w_eq {n : Fn} {ds : List D} {d : D} {hp' : List AO} {Q : D → List AO → Prop} (e : n ds hp = some (.ok d hp')) (q : Q d hp') : FnWp n ds hp Q := ⟨_, _, e, q⟩
theorem w_ret {a : α} {Q : α → A → Prop} (h : Q a s) : Wp (ret a) s Q := ⟨a, s, rfl, h⟩
theorem w_bnd {m : M α} {k : α → M β} {Q : β → A → Prop} (h : Wp m s fun a s' => Wp (k a) s' Q) : Wp (bnd m k) s Q := by
  obtain ⟨a, s', e, b, s2, e2, q⟩ := h
  exact ⟨b, s2, by rw [bnd_e e, e2], q⟩
theorem w_lft {o : Option α} {Q : α → A → Prop} (h : ∃ a, o = some a ∧ Q a s) : Wp (lft o) s Q := by
  obtain ⟨a, rfl, q⟩ := h
  exact ⟨a, s, rfl, q⟩
theorem w_C {d : D} {Q : D → A → Prop} (h : Q d s) : Wp (mC d) s Q := ⟨d, s, rfl, h⟩
theorem w_V {i : Nat} {d : D} {Q : D → A → Prop} (e : s.sl[i]? = some (some (.val d))) (h : Q d s) : Wp (mVar i) s Q := ⟨d, s, mVar_e e, h⟩
theorem w_VO {i : Nat} {l : List D} {Q : D → A → Prop} (e : s.sl[i]? = some (some (.own (.lst l)))) (h : Q (.lst l) { s with sl := s.sl.set i (some (.val (.lst l))) }) : Wp (mVar i) s Q := ⟨_, _, mVar_o e, h⟩
theorem w_bin {f : D → D → Option D} {ma mb : M D} {Q : D → A → Prop} (h : Wp ma s fun x s1 => Wp mb s1 fun y s2 => ∃ z, f x y = some z ∧ Q z s2) : Wp (mBin f ma mb) s Q :=
  w_bnd (h.mono fun x s1 h1 => w_bnd (h1.mono fun y s2 h2 => w_lft h2))
theorem w_un {f : D → Option D} {m : M D} {Q : D → A → Prop} (h : Wp m s fun x s1 => ∃ z, f x = some z ∧ Q z s1) : Wp (mUn f m) s Q := w_bnd (h.mono fun x s1 h1 => w_lft h1)
theorem w_fn {f : List D → Option D} {m : M (List D)} {Q : D → A → Prop} (h : Wp m s fun x s1 => ∃ z, f x = some z ∧ Q z s1) : Wp (mFn f m) s Q := w_bnd (h.mono fun x s1 h1 => w_lft h1)
theorem w_it {f : D → Option (List D)} {m : M D} {Q : List D → A → Prop} (h : Wp m s fun x s1 => ∃ z, f x = some z ∧ Q z s1) : Wp (mIt f m) s Q := w_bnd (h.mono fun x s1 h1 => w_lft h1)
theorem w_itA {f : List D → Option (List D)} {m : M (List D)} {Q : List D → A → Prop} (h : Wp m s fun x s1 => ∃ z, f x = some z ∧ Q z s1) : Wp (mItA f m) s Q := w_bnd (h.mono fun x s1 h1 => w_lft h1)
theorem w_tup {m : M (List D)} {Q : D → A → Prop} (h : Wp m s fun x s1 => Nat.ble x.length 16777216 = true ∧ Q (.tup x) s1) : Wp (mTup m) s Q := w_bnd (h.mono fun x s1 h1 => w_lft ⟨_, tupD_e (Nat.le_of_ble_eq_true h1.1), h1.2⟩)
theorem w_lst {m : M (List D)} {Q : D → A → Prop} (h : Wp m s fun x s1 => Nat.ble x.length 16777216 = true ∧ Q (.lst x) s1) : Wp (mLst m) s Q := w_bnd (h.mono fun x s1 h1 => w_lft ⟨_, lstD_e (Nat.le_of_ble_eq_true h1.1), h1.2⟩)
theorem w_lstH {m : M (List D)} {Q : D → A → Prop} (h : Wp m s fun x s1 => Nat.ble x.length 16777216 = true ∧ Q (.ref s1.hp.length) { s1 with hp := s1.hp ++ [.lst x] }) : Wp (mLstH m) s Q :=
  w_bnd (h.mono fun x s1 h1 => ⟨_, _, if_pos (by rw [SL]; exact Nat.le_of_ble_eq_true h1.1), h1.2⟩)
theorem w_nil {Q : List D → A → Prop} (h : Q [] s) : Wp mNil s Q := ⟨_, _, rfl, h⟩
theorem w_cons {m : M D} {n : M (List D)} {Q : List D → A → Prop} (h : Wp m s fun x s1 => Wp n s1 fun l s2 => Q (x :: l) s2) : Wp (mCons m n) s Q :=
  w_bnd (h.mono fun x s1 h1 => w_bnd (h1.mono fun l s2 h2 => w_ret h2))
theorem w_tst {m : M D} {Q : Bool → A → Prop} (h : Wp m s fun d s1 => ∃ b, d = .bl b ∧ Q b s1) : Wp (mTst m) s Q :=
  w_bnd (h.mono fun x s1 ⟨b, e, q⟩ => by subst e; exact w_ret q)
theorem w_and {m n : M Bool} {Q : Bool → A → Prop} (h : Wp m s fun b s1 => (b = true → Wp n s1 Q) ∧ (b = false → Q false s1)) : Wp (mAnd m n) s Q :=
  w_bnd (h.mono fun b s1 ⟨h1, h2⟩ => by
    cases b
    · exact w_ret (h2 rfl)
    · exact h1 rfl)
theorem w_or {m n : M Bool} {Q : Bool → A → Prop} (h : Wp m s fun b s1 => (b = true → Q true s1) ∧ (b = false → Wp n s1 Q)) : Wp (mOr m n) s Q :=
  w_bnd (h.mono fun b s1 ⟨h1, h2⟩ => by
    cases b
    · exact h2 rfl
    · exact w_ret (h1 rfl))
theorem w_not {m : M Bool} {Q : Bool → A → Prop} (h : Wp m s fun b s1 => Q (!b) s1) : Wp (mNot m) s Q := w_bnd (h.mono fun b s1 h1 => w_ret h1)
theorem w_andV {m n : M D} {Q : D → A → Prop} (h : Wp m s fun d s1 => ∃ b, d = .bl b ∧ (b = true → Wp n s1 Q) ∧ (b = false → Q (.bl false) s1)) : Wp (mAndV m n) s Q :=
  w_bnd (h.mono fun d s1 ⟨b, e, h1, h2⟩ => by
    subst e
    cases b
    · exact w_ret (h2 rfl)
    · exact h1 rfl)
theorem w_orV {m n : M D} {Q : D → A → Prop} (h : Wp m s fun d s1 => ∃ b, d = .bl b ∧ (b = true → Q (.bl true) s1) ∧ (b = false → Wp n s1 Q)) : Wp (mOrV m n) s Q :=
  w_bnd (h.mono fun d s1 ⟨b, e, h1, h2⟩ => by
    subst e
    cases b
    · exact h2 rfl
    · exact w_ret (h1 rfl))
theorem w_if {c : M Bool} {m n : M α} {Q : α → A → Prop} (h : Wp c s fun b s1 => (b = true → Wp m s1 Q) ∧ (b = false → Wp n s1 Q)) : Wp (mIf c m n) s Q :=
  w_bnd (h.mono fun b s1 ⟨h1, h2⟩ => by
    cases b
    · exact h2 rfl
    · exact h1 rfl)
theorem w_so {m : M D} {Q : Option Int → A → Prop} (h : Wp m s fun d s1 => ∃ i, d = .int i ∧ Q (some i) s1) : Wp (mSo m) s Q :=
  w_bnd (h.mono fun d s1 ⟨i, e, q⟩ => by subst e; exact w_ret q)
theorem w_no {Q : Option Int → A → Prop} (h : Q none s) : Wp mNo s Q := ⟨_, _, rfl, h⟩
theorem w_sl {g : D → Option Int → Option Int → Option D} {m : M D} {ml mh : M (Option Int)} {Q : D → A → Prop} (h : Wp m s fun d s1 => Wp ml s1 fun lo s2 => Wp mh s2 fun hi s3 => ∃ z, g d lo hi = some z ∧ Q z s3) : Wp (mSl g m ml mh) s Q :=
  w_bnd (h.mono fun d s1 h1 => w_bnd (h1.mono fun lo s2 h2 => w_bnd (h2.mono fun hi s3 h3 => w_lft h3)))
theorem w_call {np : Nat} {n : Fn} {m : M (List D)} {Q : D → A → Prop} (h : Wp m s fun ds s1 => ds.length = np ∧ FnWp n ds s1.hp fun d hp' => Q d { s1 with hp := hp' }) : Wp (mCall np n m) s Q := by
  obtain ⟨ds, s1, e, hl, d, hp', e2, q⟩ := h
  refine ⟨d, { s1 with hp := hp' }, ?_, q⟩
  unfold mCall
  rw [bnd_e e, if_pos hl, e2]
  rfl
theorem w_join {x : List Nat} {mb : M D} {Q : D → A → Prop} (h : Wp mb s fun e s2 => ∃ z, joinD x e = some z ∧ Q z s2) : Wp (mJoin (mC (.str x)) mb) s Q :=
  w_bnd (w_C (w_bnd (h.mono fun e s2 h2 => w_lft h2)))
/-! statements -/
theorem w_nx {Q : Fl → A → Prop} (h : Q .nx s) : Wp mNx s Q := ⟨_, _, rfl, h⟩
theorem w_seq {m n : M Fl} {Q : Fl → A → Prop} (h : Wp m s fun f s1 => match f with | .nx => Wp n s1 Q | f => Q f s1) : Wp (mSeq m n) s Q :=
  w_bnd (h.mono fun f s1 h1 => by
    cases f
    · exact h1
    · exact w_ret h1
    · exact w_ret h1
    · exact w_ret h1)
theorem w_asg {m : M D} {g : D → M Unit} {Q : Fl → A → Prop} (h : Wp m s fun d s1 => Wp (g d) s1 fun _ s2 => Q .nx s2) : Wp (mAsg m g) s Q := w_bnd (h.mono fun d s1 h1 => w_bnd (h1.mono fun _ s2 h2 => w_ret h2))
theorem w_gV {i : Nat} {d : D} {Q : Unit → A → Prop} (h : Q () { s with sl := s.sl.set i (some (.val d)) }) : Wp (gV i d) s Q := ⟨_, _, rfl, h⟩
theorem w_set {i : Nat} {m : M D} {Q : Fl → A → Prop} (h : Wp m s fun d s1 => Q .nx { s1 with sl := s1.sl.set i (some (.val d)) }) : Wp (mAsg m (gV i)) s Q := w_asg (h.mono fun d s1 h1 => w_gV h1)
theorem w_gT2 {i j : Nat} {d e : D} {Q : Unit → A → Prop} (h : Q () { s with sl := (s.sl.set i (some (.val d))).set j (some (.val e)) }) : Wp (gT (gC (gV i) (gC (gV j) gN)) 2 (.tup [d, e])) s Q := ⟨_, _, rfl, h⟩
theorem w_gL2 {i j : Nat} {d e : D} {Q : Unit → A → Prop} (h : Q () { s with sl := (s.sl.set i (some (.val d))).set j (some (.val e)) }) : Wp (gL (gC (gV i) (gC (gV j) gN)) 2 (.lst [d, e])) s Q := ⟨_, _, rfl, h⟩
theorem w_drop {m : M D} {Q : Fl → A → Prop} (h : Wp m s fun _ s1 => Q .nx s1) : Wp (mDrop m) s Q := w_bnd (h.mono fun d s1 h1 => w_ret h1)
theorem w_rt {m : M D} {Q : Fl → A → Prop} (h : Wp m s fun d s1 => Q (.rt d) s1) : Wp (mRet m) s Q := w_bnd (h.mono fun d s1 h1 => w_ret h1)
theorem w_par {i j : Nat} {m n : M D} {Q : Fl → A → Prop} (h : Wp m s fun d s1 => Wp n s1 fun e s2 => Q .nx { s2 with sl := (s2.sl.set i (some (.val d))).set j (some (.val e)) }) : Wp (mPar i j (mCons m (mCons n mNil))) s Q :=
  w_bnd (w_cons (h.mono fun d s1 h1 => w_cons (h1.mono fun e s2 h2 => w_nil ⟨_, _, rfl, h2⟩)))
theorem w_aug {i : Nat} {f : D → D → Option D} {x : D} {m : M D} {Q : Fl → A → Prop} (e : s.sl[i]? = some (some (.val x))) (h : Wp m s fun y s1 => ∃ z, f x y = some z ∧ Q .nx { s1 with sl := s1.sl.set i (some (.val z)) }) : Wp (mAug i f m) s Q := by
  obtain ⟨y, s1, e1, z, e2, q⟩ := h
  refine ⟨.nx, { s1 with sl := s1.sl.set i (some (.val z)) }, ?_, q⟩
  unfold mAug
  rw [e]
  show bnd m _ s = _
  rw [bnd_e e1, e2]
  rfl
theorem w_setO {i : Nat} {m : M (List D)} {Q : Fl → A → Prop} (h : Wp m s fun l s1 => Nat.ble l.length 16777216 = true ∧ Q .nx (setO s1 i l)) : Wp (mSetO i m) s Q :=
  w_bnd (h.mono fun l s1 h1 => ⟨_, _, if_pos (by rw [SL]; exact Nat.le_of_ble_eq_true h1.1), h1.2⟩)
theorem w_appO {i : Nat} {m : M D} {l : List D} {Q : D → A → Prop} (e : getO s i = some l) (h : Wp m s fun d s1 => ∃ l', getO s1 i = some l' ∧ l'.length < 16777216 ∧ Q .non (setO s1 i (l' ++ [d]))) : Wp (mAppO i m) s Q := by
  obtain ⟨d, s1, e1, l', e2, hl, q⟩ := h
  refine ⟨_, _, ?_, q⟩
  unfold mAppO
  rw [e]
  show bnd m _ s = _
  rw [bnd_e e1]
  show (match getO s1 i with | some l => _ | none => none) = _
  rw [e2]
  exact if_pos (by rw [SL]; exact hl)
theorem w_extO {i : Nat} {m : M D} {l : List D} {Q : D → A → Prop} (e : getO s i = some l) (h : Wp m s fun d s1 => ∃ x l', d = .lst x ∧ getO s1 i = some l' ∧ l'.length + x.length ≤ 16777216 ∧ Q .non (setO s1 i (l' ++ x))) : Wp (mExtO i m) s Q := by
  obtain ⟨d, s1, e1, x, l', rfl, e2, hl, q⟩ := h
  refine ⟨_, _, ?_, q⟩
  unfold mExtO
  rw [e]
  show bnd m _ s = _
  rw [bnd_e e1]
  show (match D.lst x, getO s1 i with | .lst l', some l => _ | _, _ => none) = _
  rw [e2]
  exact if_pos (by rw [SL]; exact hl)
theorem w_own {i : Nat} {f : List D → D → Option D} {m : M D} {l : List D} {Q : D → A → Prop} (e : getO s i = some l) (h : Wp m s fun d s1 => ∃ l' z, getO s1 i = some l' ∧ f l' d = some z ∧ Q z s1) : Wp (mOwn i f m) s Q := by
  obtain ⟨d, s1, e1, l', z, e2, e3, q⟩ := h
  refine ⟨z, s1, ?_, q⟩
  unfold mOwn
  rw [e]
  show bnd m _ s = _
  rw [bnd_e e1]
  show (match getO s1 i with | some l => _ | none => none) = _
  rw [e2]
  show (match f l' d with | some z => _ | none => none) = _
  rw [e3]
theorem w_ixH {ma mb : M D} {Q : D → A → Prop} (h : Wp ma s fun o s1 => Wp mb s1 fun k s2 => ∃ i l d, k = .int i ∧ getH s2 o = some l ∧ atI l i = some d ∧ Q d s2) : Wp (mIxH ma mb) s Q :=
  w_bnd (h.mono fun o s1 h1 => w_bnd (h1.mono fun k s2 ⟨i, l, d, e1, e2, e3, q⟩ => by
    subst e1
    refine ⟨d, s2, ?_, q⟩
    show (match D.int i, getH s2 o with | .int i, some l => _ | _, _ => none) = _
    rw [e2]
    show (match atI l i with | some d => _ | none => none) = _
    rw [e3]))
theorem w_setIxH {mv mo mk : M D} {Q : Fl → A → Prop} (h : Wp mv s fun d s1 => Wp mo s1 fun o s2 => Wp mk s2 fun k s3 => ∃ i l j, k = .int i ∧ getH s3 o = some l ∧ ixN l.length i = some j ∧ Q .nx (setH s3 o (l.set j d))) : Wp (mSetIxH mv mo mk) s Q :=
  w_bnd (h.mono fun d s1 h1 => w_bnd (h1.mono fun o s2 h2 => w_bnd (h2.mono fun k s3 ⟨i, l, j, e1, e2, e3, q⟩ => by
    subst e1
    refine ⟨.nx, _, ?_, q⟩
    show (match D.int i, getH s3 o with | .int i, some l => _ | _, _ => none) = _
    rw [e2]
    show (match ixN l.length i with | some d => _ | none => none) = _
    rw [e3])))
theorem w_cmpH {neg : Bool} {ma mb : M D} {Q : D → A → Prop} (h : Wp ma s fun o s1 => Wp mb s1 fun d s2 => ∃ l b, getH s2 o = some l ∧ eqd (.lst l) d = some b ∧ Q (.bl (if neg then !b else b)) s2) : Wp (mCmpH neg ma mb) s Q :=
  w_bnd (h.mono fun o s1 h1 => w_bnd (h1.mono fun d s2 ⟨l, b, e1, e2, q⟩ => by
    refine ⟨_, s2, ?_, q⟩
    show (match getH s2 o with | some l => _ | none => none) = _
    rw [e1]
    show (match eqd (.lst l) d with | some k => _ | none => none) = _
    rw [e2]))
theorem w_pop0H {mo mk : M D} {Q : D → A → Prop} (h : Wp mo s fun o s1 => (∃ l, getH s1 o = some l) ∧ Wp mk s1 fun k s2 => ∃ d l, k = .int 0 ∧ getH s2 o = some (d :: l) ∧ Q d (setH s2 o l)) : Wp (mPop0H mo mk) s Q :=
  w_bnd (h.mono fun o s1 ⟨⟨l0, e0⟩, k, s2, ek, d, l, ek0, e1, q⟩ => by
    subst ek0
    refine ⟨d, setH s2 o l, ?_, q⟩
    show (match getH s1 o with | some _ => _ | none => none) = _
    rw [e0]
    show bnd mk _ s1 = _
    rw [bnd_e ek]
    show (match D.int 0, getH s2 o with | .int 0, some (d :: l) => _ | _, _ => none) = _
    rw [e1]
    rfl)
theorem w_appH {mo me : M D} {Q : D → A → Prop} (h : Wp mo s fun o s1 => (∃ l, getH s1 o = some l) ∧ Wp me s1 fun d s2 => ∃ l, getH s2 o = some l ∧ l.length < 16777216 ∧ Q .non (setH s2 o (l ++ [d]))) : Wp (mAppH mo me) s Q :=
  w_bnd (h.mono fun o s1 ⟨⟨l0, e0⟩, d, s2, ed, l, e1, hl, q⟩ => by
    refine ⟨.non, _, ?_, q⟩
    show (match getH s1 o with | some _ => _ | none => none) = _
    rw [e0]
    show bnd me _ s1 = _
    rw [bnd_e ed]
    show (match getH s2 o with | some l => _ | none => none) = _
    rw [e1]
    exact if_pos (by rw [SL]; exact hl))
theorem w_par3 {i j k : Nat} {m n u : M D} {Q : Fl → A → Prop} (h : Wp m s fun d s1 => Wp n s1 fun e s2 => Wp u s2 fun f s3 => Q .nx { s3 with sl := ((s3.sl.set i (some (.val d))).set j (some (.val e))).set k (some (.val f)) }) : Wp (mPar3 i j k (mCons m (mCons n (mCons u mNil)))) s Q :=
  w_bnd (w_cons (h.mono fun d s1 h1 => w_cons (h1.mono fun e s2 h2 => w_cons (h2.mono fun f s3 h3 => w_nil ⟨_, _, rfl, h3⟩))))
theorem w_joinH {x : List Nat} {mb : M D} {Q : D → A → Prop} (h : Wp mb s fun o s2 => ∃ l z, getH s2 o = some l ∧ joinD x (.lst l) = some z ∧ Q z s2) : Wp (mJoinH (mC (.str x)) mb) s Q :=
  w_bnd (w_C (w_bnd (h.mono fun o s2 ⟨l, z, e1, e2, q⟩ => by
    refine ⟨z, s2, ?_, q⟩
    show (match getH s2 o with | some l => _ | none => none) = _
    rw [e1]
    show (match joinD x (.lst l) with | some z => _ | none => none) = _
    rw [e2])))
theorem w_perm {n : Nat} {π : List Nat} {m : M (List D)} {Q : List D → A → Prop} (h : Wp m s fun l s1 => l.length = n ∧ Q (perm π l) s1) : Wp (mPerm n π m) s Q :=
  w_bnd (h.mono fun l s1 ⟨h1, h2⟩ => by
    show Wp (if l.length = n then ret (perm π l) else fun _ => none) s1 Q
    rw [if_pos h1]
    exact w_ret h2)
theorem w_split {ma mb : M D} {Q : D → A → Prop} (h : Wp ma s fun d s1 => ∃ x, d = .str x ∧ Wp mb s1 fun e s2 => ∃ z, splitD x e = some z ∧ Q z s2) : Wp (mSplit ma mb) s Q :=
  w_bnd (h.mono fun d s1 ⟨x, e, h1⟩ => by
    subst e
    exact w_bnd (h1.mono fun e s2 h2 => w_lft h2))
theorem w_notV {m : M D} {Q : D → A → Prop} (h : Wp m s fun d s1 => ∃ b, d = .bl b ∧ Q (.bl (!b)) s1) : Wp (mNotV m) s Q :=
  w_bnd (h.mono fun d s1 ⟨b, e, q⟩ => by
    subst e
    exact w_ret q)
/-- what a turn of a loop leaves -/
def LoopQ (P : A → Prop) (Q : Fl → A → Prop) (f : Fl) (s : A) : Prop := match f with
  | .nx => P s
  | .ct => P s
  | .bk => Q .nx s
  | .rt d => Q (.rt d) s
theorem w_forL {ξ : Type} {g : D → M Unit} {b : M Fl} {e : ξ → D} (P : List ξ → A → Prop) {Q : Fl → A → Prop} : ∀ (xs pre : List ξ) (s : A), P pre s →
    (∀ pre' a post s, pre ++ xs = pre' ++ a :: post → P pre' s → Wp (g (e a)) s fun _ s1 => Wp b s1 fun f s2 => LoopQ (P (pre' ++ [a])) Q f s2) →
    (∀ s', P (pre ++ xs) s' → Q .nx s') → Wp (mForL g b (xs.map e)) s Q
  | [], pre, s, h0, _, hf => ⟨_, _, rfl, hf s (by rw [List.append_nil]; exact h0)⟩
  | a :: xs, pre, s, h0, hs, hf => by
    have h := hs pre a xs s rfl h0
    refine w_bnd (h.mono fun _ s1 h1 => w_bnd (h1.mono fun f s2 h2 => ?_))
    have next : P (pre ++ [a]) s2 → Wp (mForL g b (xs.map e)) s2 Q := fun p => w_forL P xs (pre ++ [a]) s2 p (fun pre' a' post s3 e3 p3 => hs pre' a' post s3 (by rw [← e3]; simp) p3) (fun s' h' => hf s' (by simpa using h'))
    cases f
    · exact next h2
    · exact w_ret h2
    · exact w_ret h2
    · exact next h2
theorem w_for {ξ : Type} {mi : M (List D)} {g : D → M Unit} {b : M Fl} {Q : Fl → A → Prop} (e : ξ → D) (xs : List ξ) (P : List ξ → A → Prop) (h : Wp mi s fun l s0 => l = xs.map e ∧ P [] s0)
    (hs : ∀ pre a post s, xs = pre ++ a :: post → P pre s → Wp (g (e a)) s fun _ s1 => Wp b s1 fun f s2 => LoopQ (P (pre ++ [a])) Q f s2)
    (hf : ∀ s', P xs s' → Q .nx s') : Wp (mFor mi g b) s Q :=
  w_bnd (h.mono fun l s0 ⟨e1, h0⟩ => by
    subst e1
    exact w_forL P xs [] s0 h0 hs hf)
theorem w_lcL {ξ : Type} {g : D → M Unit} {tt : M Bool} {me : M D} {vs : List Nat} {e : ξ → D} (P : List ξ → A → Prop) (f : ξ → Option D) {Q : D → A → Prop} : ∀ (xs pre : List ξ) (acc : List D) (s : A), P pre s → acc.length + xs.length ≤ 16777216 →
    (∀ pre' a post s, pre ++ xs = pre' ++ a :: post → P pre' s → Wp (g (e a)) s fun _ s1 => Wp tt s1 fun k s2 => (k = true → Wp me s2 fun y s3 => f a = some y ∧ P (pre' ++ [a]) (wipeA s3 vs)) ∧ (k = false → f a = none ∧ P (pre' ++ [a]) (wipeA s2 vs))) →
    (∀ s', P (pre ++ xs) s' → Q (.lst (acc ++ xs.filterMap f)) s') → Wp (mLcL g tt me vs (xs.map e) acc) s Q
  | [], pre, acc, s, h0, _, _, hf => ⟨.lst acc, s, rfl, by have := hf s (by rw [List.append_nil]; exact h0); simpa using this⟩
  | a :: xs, pre, acc, s, h0, hl, hs, hf => by
    obtain ⟨u, s1, e1, k, s2, e2, ht, hn⟩ := hs pre a xs s rfl h0
    have hl2 : acc.length + (xs.length + 1) ≤ 16777216 := hl
    unfold Wp
    rw [List.map_cons, mLcL]
    unfold bndN
    rw [e1]
    simp only [e2]
    cases k with
    | true =>
      obtain ⟨y, s3, e3, ef, p⟩ := ht rfl
      simp only [if_true, e3]
      rw [if_pos (by rw [SL]; omega)]
      refine w_lcL P f xs (pre ++ [a]) (acc ++ [y]) _ p (by simp; omega) (fun pre' a' post s3 e3 p3 => hs pre' a' post s3 (by rw [← e3]; simp) p3) fun s' h' => ?_
      have := hf s' (by simpa using h')
      rw [List.filterMap_cons, ef] at this
      simpa using this
    | false =>
      obtain ⟨ef, p⟩ := hn rfl
      refine w_lcL P f xs (pre ++ [a]) acc _ p (by omega) (fun pre' a' post s3 e3 p3 => hs pre' a' post s3 (by rw [← e3]; simp) p3) fun s' h' => ?_
      have := hf s' (by simpa using h')
      rw [List.filterMap_cons, ef] at this
      exact this
theorem w_lc {ξ : Type} {mi : M (List D)} {g : D → M Unit} {tt : M Bool} {me : M D} {vs : List Nat} {Q : D → A → Prop} (e : ξ → D) (xs : List ξ) (P : List ξ → A → Prop) (f : ξ → Option D) (hl : xs.length ≤ 16777216) (h : Wp mi s fun l s0 => l = xs.map e ∧ P [] (wipeA s0 vs))
    (hs : ∀ pre a post s, xs = pre ++ a :: post → P pre s → Wp (g (e a)) s fun _ s1 => Wp tt s1 fun k s2 => (k = true → Wp me s2 fun y s3 => f a = some y ∧ P (pre ++ [a]) (wipeA s3 vs)) ∧ (k = false → f a = none ∧ P (pre ++ [a]) (wipeA s2 vs)))
    (hf : ∀ s', P xs s' → Q (.lst (xs.filterMap f)) s') : Wp (mLc mi g tt me vs) s Q :=
  w_bnd (h.mono fun l s0 ⟨e1, h0⟩ => by
    subst e1
    exact w_lcL P f xs [] [] _ h0 (by simpa using hl) hs fun s' h' => hf s' h')
/-- a comprehension whose values may hang on the state: V tells of them -/
theorem w_lcL' {ξ : Type} {g : D → M Unit} {tt : M Bool} {me : M D} {vs : List Nat} {e : ξ → D} (P : List ξ → List D → A → Prop) {Q : D → A → Prop} : ∀ (xs pre : List ξ) (acc : List D) (s : A), P pre acc s → acc.length + xs.length ≤ 16777216 →
    (∀ pre' a post acc s, pre ++ xs = pre' ++ a :: post → P pre' acc s → Wp (g (e a)) s fun _ s1 => Wp tt s1 fun k s2 => (k = true → Wp me s2 fun y s3 => P (pre' ++ [a]) (acc ++ [y]) (wipeA s3 vs)) ∧ (k = false → P (pre' ++ [a]) acc (wipeA s2 vs))) →
    (∀ acc s', P (pre ++ xs) acc s' → Q (.lst acc) s') → Wp (mLcL g tt me vs (xs.map e) acc) s Q
  | [], pre, acc, s, h0, _, _, hf => ⟨.lst acc, s, rfl, hf acc s (by rw [List.append_nil]; exact h0)⟩
  | a :: xs, pre, acc, s, h0, hl, hs, hf => by
    obtain ⟨u, s1, e1, k, s2, e2, ht, hn⟩ := hs pre a xs acc s rfl h0
    have hl2 : acc.length + (xs.length + 1) ≤ 16777216 := hl
    unfold Wp
    rw [List.map_cons, mLcL]
    unfold bndN
    rw [e1]
    simp only [e2]
    cases k with
    | true =>
      obtain ⟨y, s3, e3, p⟩ := ht rfl
      simp only [if_true, e3]
      rw [if_pos (by rw [SL]; omega)]
      exact w_lcL' P xs (pre ++ [a]) (acc ++ [y]) _ p (by simp; omega) (fun pre' a' post acc s3 e3 p3 => hs pre' a' post acc s3 (by rw [← e3]; simp) p3) fun acc s' h' => hf acc s' (by simpa using h')
    | false =>
      exact w_lcL' P xs (pre ++ [a]) acc _ (hn rfl) (by omega) (fun pre' a' post acc s3 e3 p3 => hs pre' a' post acc s3 (by rw [← e3]; simp) p3) fun acc s' h' => hf acc s' (by simpa using h')
theorem w_lc' {ξ : Type} {mi : M (List D)} {g : D → M Unit} {tt : M Bool} {me : M D} {vs : List Nat} {Q : D → A → Prop} (e : ξ → D) (xs : List ξ) (P : List ξ → List D → A → Prop) (hl : xs.length ≤ 16777216) (h : Wp mi s fun l s0 => l = xs.map e ∧ P [] [] (wipeA s0 vs))
    (hs : ∀ pre a post acc s, xs = pre ++ a :: post → P pre acc s → Wp (g (e a)) s fun _ s1 => Wp tt s1 fun k s2 => (k = true → Wp me s2 fun y s3 => P (pre ++ [a]) (acc ++ [y]) (wipeA s3 vs)) ∧ (k = false → P (pre ++ [a]) acc (wipeA s2 vs)))
    (hf : ∀ acc s', P xs acc s' → Q (.lst acc) s') : Wp (mLc mi g tt me vs) s Q :=
  w_bnd (h.mono fun l s0 ⟨e1, h0⟩ => by
    subst e1
    exact w_lcL' P xs [] [] _ h0 (by simpa using hl) hs fun acc s' h' => hf acc s' h')
theorem w_while {c : M Bool} {b : M Fl} {Q : Fl → A → Prop} (P : Nat → A → Prop) (n : Nat) (h0 : P n s) (hs : ∀ n s, P n s → Wp c s fun k s1 => (k = true → Wp b s1 fun f s2 => LoopQ (fun s' => ∃ m, m < n ∧ P m s') Q f s2) ∧ (k = false → Q .nx s1)) : Wp (mWhile c b) s Q := by
  have key : ∀ n s, P n s → ∃ m f s', whileN c b m s = some (.ok f s') ∧ Q f s' := by
    intro n
    induction n using Nat.strongRecOn with
    | _ n ih =>
      intro s p
      obtain ⟨k, s1, e1, ht, hn⟩ := hs n s p
      cases k with
      | false =>
        refine ⟨1, .nx, s1, ?_, hn rfl⟩
        rw [whileN, bnd_e e1]
        rfl
      | true =>
        obtain ⟨f, s2, e2, q⟩ := ht rfl
        have go : (∃ m, m < n ∧ P m s2) → (f = .nx ∨ f = .ct) → ∃ m f s', whileN c b m s = some (.ok f s') ∧ Q f s' := fun ⟨m, hm, p2⟩ hf => by
          obtain ⟨j, f', s', h1, h2⟩ := ih m hm s2 p2
          refine ⟨j + 1, f', s', ?_, h2⟩
          rw [whileN, bnd_e e1]
          show bnd b _ s1 = _
          rw [bnd_e e2]
          rcases hf with rfl | rfl
          · exact h1
          · exact h1
        cases f with
        | nx => exact go q (.inl rfl)
        | ct => exact go q (.inr rfl)
        | bk =>
          refine ⟨1, .nx, s2, ?_, q⟩
          rw [whileN, bnd_e e1]
          show bnd b _ s1 = _
          rw [bnd_e e2]
          rfl
        | rt d =>
          refine ⟨1, .rt d, s2, ?_, q⟩
          rw [whileN, bnd_e e1]
          show bnd b _ s1 = _
          rw [bnd_e e2]
          rfl
  obtain ⟨m, f, s', h1, h2⟩ := key n s h0
  exact ⟨f, s', while_of h1, h2⟩
/-- what a def comes to -/
def EndQ (Q : D → List AO → Prop) (f : Fl) (s : A) : Prop := match f with
  | .nx => Q .non s.hp
  | .rt d => Q d s.hp
  | _ => False
theorem w_fnOf {N : Nat} {m : M Fl} {ds : List D} {Q : D → List AO → Prop} (h : Wp m (entA N ds hp) (EndQ Q)) : FnWp (fnOf N m) ds hp Q := by
  obtain ⟨f, s', e, q⟩ := h
  cases f with
  | nx => exact ⟨_, _, fnOf_nx e, q⟩
  | rt d => exact ⟨_, _, fnOf_rt e, q⟩
  | bk => exact q.elim
  | ct => exact q.elim
end
/-! ### texts -/
theorem strsD_map : ∀ l : List Nat, strsD (l.map fun c => D.str [c]) = some (l.map fun c => [c])
  | [] => rfl
  | c :: l => by
    show (strsD (l.map fun c => D.str [c])).map _ = _
    rw [strsD_map l]
    rfl
theorem joinL_nil : ∀ l : List Nat, joinL [] (l.map fun c => [c]) = l
  | [] => rfl
  | [c] => rfl
  | c :: d :: l => by
    show [c] ++ ([] ++ joinL [] ((d :: l).map fun c => [c])) = _
    rw [joinL_nil (d :: l)]
    rfl
theorem sum_ones : ∀ l : List Nat, ((l.map fun c => [c]).map (·.length)).sum = l.length
  | [] => rfl
  | c :: l => by
    simp only [List.map_cons, List.sum_cons, List.length_cons]
    have := sum_ones l
    simp only [List.map_map] at this ⊢
    simp
    omega
theorem joinD_map {l : List Nat} (h : l.length ≤ 16777216) : joinD [] (.lst (l.map fun c => .str [c])) = some (.str l) := by
  unfold joinD
  show (match strsD (l.map fun c => D.str [c]) with | some ys => _ | none => none) = _
  rw [strsD_map]
  show (if _ then some (D.str (joinL [] (l.map fun c => [c]))) else none) = _
  rw [sum_ones, if_pos (by simpa using h), joinL_nil]
theorem rng1_e {j : Int} (h0 : -(2 ^ 62) ≤ j) (h1 : j < 2 ^ 62) : rng1 [.int j] = some ((List.range j.toNat).map fun i : Nat => .int (0 + (i : Nat))) := if_pos ⟨h0, h1⟩
theorem rng1_n {n : Nat} (h : n < 2 ^ 62) : rng1 [.int (n : Nat)] = some ((List.range n).map fun i : Nat => .int (0 + (i : Nat))) := by
  rw [rng1_e (by omega) (by omega), Int.toNat_natCast]
/-- the cut of one sign -/
theorem cut1 (x : List Nat) (i : Nat) : cutL x (some ((i : Int) + 1)) (some ((i : Int) + 2)) = (x.drop (i + 1)).take 1 := by
  unfold cutL
  have h1 : HT.sIx x.length 0 (some ((i : Int) + 1)) = min (i + 1) x.length := HT.sIx_nat _ _ (i + 1)
  have h2 : HT.sIx x.length x.length (some ((i : Int) + 2)) = min (i + 2) x.length := HT.sIx_nat _ _ (i + 2)
  rw [h1, h2]
  by_cases h : i + 1 < x.length
  · rw [show min (i + 1) x.length = i + 1 by omega, show min (i + 2) x.length - (i + 1) = 1 by omega]
  · rw [show min (i + 1) x.length = x.length by omega, List.drop_eq_nil_of_le (Nat.le_refl _), List.drop_eq_nil_of_le (by omega), List.take_nil, List.take_nil]
theorem getH_e {s : A} {r : Nat} {l : List D} (h : s.hp[r]? = some (.lst l)) : getH s (.ref r) = some l := by
  show (match s.hp[r]? with | some (AO.lst l) => some l | _ => none) = _
  rw [h]
/-! ### == of plain data -/
theorem pl_shape {n : Nat} {d : D} (h : pl n d = true) : d = .non ∨ (∃ i, d = .int i) ∨ (∃ s, d = .str s) ∨ (∃ l m, d = .lst l ∧ n = m + 1 ∧ pls m l = true) ∨ ∃ l m, d = .tup l ∧ n = m + 1 ∧ pls m l = true := by
  cases d with
  | non => exact .inl rfl
  | int i => exact .inr (.inl ⟨i, rfl⟩)
  | str s => exact .inr (.inr (.inl ⟨s, rfl⟩))
  | lst l =>
    cases n with
    | zero => cases h
    | succ n => exact .inr (.inr (.inr (.inl ⟨l, n, rfl, rfl, h⟩)))
  | tup l =>
    cases n with
    | zero => cases h
    | succ n => exact .inr (.inr (.inr (.inr ⟨l, n, rfl, rfl, h⟩)))
  | bl b => cases n <;> cases h
  | fz l => cases n <;> cases h
  | ref l => cases n <;> cases h
  | exc c l => cases n <;> cases h
  | cls c => cases n <;> cases h
mutual
theorem eqv_pl : ∀ (n : Nat) (x : D) (m : Nat) (y : D) (p q : PyData), pl n x = true → pl m y = true → toP x = some p → toP y = some q → PyData.eqv p q = decide (x = y)
  | 0, x, m, y, p, q, h, g, e, f => by
    rcases pl_shape h with rfl | ⟨i, rfl⟩ | ⟨s, rfl⟩ | ⟨l, k, rfl, hk, _⟩ | ⟨l, k, rfl, hk, _⟩
    · cases e
      rcases pl_shape g with rfl | ⟨i, rfl⟩ | ⟨s, rfl⟩ | ⟨l, k, rfl, hk, _⟩ | ⟨l, k, rfl, hk, _⟩
      · cases f; simp [PyData.eqv]
      · cases f; simp [PyData.eqv]
      · cases f; simp [PyData.eqv]
      · rw [toP_lst] at f; obtain ⟨r, _, rfl⟩ := Option.map_eq_some_iff.mp f; simp [PyData.eqv]
      · rw [toP_tup] at f; obtain ⟨r, _, rfl⟩ := Option.map_eq_some_iff.mp f; simp [PyData.eqv]
    · cases e
      rcases pl_shape g with rfl | ⟨j, rfl⟩ | ⟨s, rfl⟩ | ⟨l, k, rfl, hk, _⟩ | ⟨l, k, rfl, hk, _⟩
      · cases f; simp [PyData.eqv]
      · cases f
        simp only [PyData.eqv]
        by_cases hij : i = j
        · simp [hij]
        · simp [hij]
      · cases f; simp [PyData.eqv]
      · rw [toP_lst] at f; obtain ⟨r, _, rfl⟩ := Option.map_eq_some_iff.mp f; simp [PyData.eqv]
      · rw [toP_tup] at f; obtain ⟨r, _, rfl⟩ := Option.map_eq_some_iff.mp f; simp [PyData.eqv]
    · cases e
      rcases pl_shape g with rfl | ⟨j, rfl⟩ | ⟨s', rfl⟩ | ⟨l, k, rfl, hk, _⟩ | ⟨l, k, rfl, hk, _⟩
      · cases f; simp [PyData.eqv]
      · cases f; simp [PyData.eqv]
      · cases f
        simp only [PyData.eqv]
        by_cases hij : s = s'
        · simp [hij]
        · have : ¬ ((⟨s.toArray⟩ : Str) = ⟨s'.toArray⟩) := fun z => hij (strInj.mp z)
          rw [beq_eq_false_iff_ne.mpr this]
          simp [hij]
      · rw [toP_lst] at f; obtain ⟨r, _, rfl⟩ := Option.map_eq_some_iff.mp f; simp [PyData.eqv]
      · rw [toP_tup] at f; obtain ⟨r, _, rfl⟩ := Option.map_eq_some_iff.mp f; simp [PyData.eqv]
    · cases hk
    · cases hk
  | n + 1, .lst l, m, y, p, q, h, g, e, f => by
    rw [toP_lst] at e
    obtain ⟨ps, e1, rfl⟩ := Option.map_eq_some_iff.mp e
    rcases pl_shape g with rfl | ⟨j, rfl⟩ | ⟨s', rfl⟩ | ⟨l', k, rfl, hk, g'⟩ | ⟨l', k, rfl, hk, g'⟩
    · cases f; simp [PyData.eqv]
    · cases f; simp [PyData.eqv]
    · cases f; simp [PyData.eqv]
    · rw [toP_lst] at f
      obtain ⟨qs, f1, rfl⟩ := Option.map_eq_some_iff.mp f
      rw [PyData.eqv, eqv_pls n l k l' ps qs h g' e1 f1]
      by_cases hij : l = l' <;> simp [hij]
    · rw [toP_tup] at f; obtain ⟨r, _, rfl⟩ := Option.map_eq_some_iff.mp f; simp [PyData.eqv]
  | n + 1, .tup l, m, y, p, q, h, g, e, f => by
    rw [toP_tup] at e
    obtain ⟨ps, e1, rfl⟩ := Option.map_eq_some_iff.mp e
    rcases pl_shape g with rfl | ⟨j, rfl⟩ | ⟨s', rfl⟩ | ⟨l', k, rfl, hk, g'⟩ | ⟨l', k, rfl, hk, g'⟩
    · cases f; simp [PyData.eqv]
    · cases f; simp [PyData.eqv]
    · cases f; simp [PyData.eqv]
    · rw [toP_lst] at f; obtain ⟨r, _, rfl⟩ := Option.map_eq_some_iff.mp f; simp [PyData.eqv]
    · rw [toP_tup] at f
      obtain ⟨qs, f1, rfl⟩ := Option.map_eq_some_iff.mp f
      rw [PyData.eqv, eqv_pls n l k l' ps qs h g' e1 f1]
      by_cases hij : l = l' <;> simp [hij]
  | n + 1, .non, m, y, p, q, h, g, e, f => eqv_pl 0 .non m y p q rfl g e f
  | n + 1, .int i, m, y, p, q, h, g, e, f => eqv_pl 0 (.int i) m y p q rfl g e f
  | n + 1, .str s, m, y, p, q, h, g, e, f => eqv_pl 0 (.str s) m y p q h g e f
  | n + 1, .bl b, m, y, p, q, h, g, e, f => by cases h
  | n + 1, .fz b, m, y, p, q, h, g, e, f => by cases h
  | n + 1, .ref b, m, y, p, q, h, g, e, f => by cases h
  | n + 1, .exc c b, m, y, p, q, h, g, e, f => by cases h
  | n + 1, .cls b, m, y, p, q, h, g, e, f => by cases h
termination_by n x => (n, 0)
theorem eqv_pls : ∀ (n : Nat) (x : List D) (m : Nat) (y : List D) (p q : List PyData), pls n x = true → pls m y = true → toPs x = some p → toPs y = some q → PyData.eqvAll p q = decide (x = y)
  | n, [], m, [], p, q, h, g, e, f => by cases e; cases f; simp [PyData.eqvAll]
  | n, [], m, y :: ys, p, q, h, g, e, f => by
    cases e
    rw [toPs_cons] at f
    split at f
    · cases f; simp [PyData.eqvAll]
    · cases f
  | n, x :: xs, m, [], p, q, h, g, e, f => by
    cases f
    rw [toPs_cons] at e
    split at e
    · cases e; simp [PyData.eqvAll]
    · cases e
  | n, x :: xs, m, y :: ys, p, q, h, g, e, f => by
    rw [toPs_cons] at e f
    rw [pls, Bool.and_eq_true] at h g
    cases e1 : toP x with
    | none => rw [e1] at e; cases e
    | some a =>
      cases e2 : toPs xs with
      | none => rw [e1, e2] at e; cases e
      | some b =>
        cases f1 : toP y with
        | none => rw [f1] at f; cases f
        | some c =>
          cases f2 : toPs ys with
          | none => rw [f1, f2] at f; cases f
          | some d =>
            rw [e1, e2] at e
            rw [f1, f2] at f
            cases e
            cases f
            rw [PyData.eqvAll, eqv_pl n x m y _ _ h.1 g.1 e1 f1, eqv_pls n xs m ys _ _ h.2 g.2 e2 f2]
            by_cases h1 : x = y <;> by_cases h2 : xs = ys <;> simp [h1, h2]
termination_by n x => (n, x.length + 1)
end
/-- == of plain data -/
theorem eqd_pl {x y : D} (h : pl 60 x = true) (g : pl 60 y = true) : eqd x y = some (decide (x = y)) := by
  obtain ⟨p, e, c, d⟩ := pl_toP 60 x h
  obtain ⟨q, f, c', d'⟩ := pl_toP 60 y g
  unfold eqd
  rw [e, f]
  show (if SeqAt.shaped p = true ∧ SeqAt.shaped q = true then some (PyData.eqv p q) else none) = _
  have hs : SeqAt.shaped p = true ∧ SeqAt.shaped q = true := by
    unfold SeqAt.shaped
    rw [c, c', decide_eq_true (by omega), decide_eq_true (by omega)]
    exact ⟨rfl, rfl⟩
  rw [if_pos hs, eqv_pl 60 x 60 y p q h g e f]
theorem eqD_pl {x y : D} (h : pl 60 x = true) (g : pl 60 y = true) : eqD x y = some (.bl (decide (x = y))) := by
  unfold eqD
  rw [eqd_pl h g]
  rfl
theorem neD_pl {x y : D} (h : pl 60 x = true) (g : pl 60 y = true) : neD x y = some (.bl (!decide (x = y))) := by
  unfold neD
  rw [eqd_pl h g]
  rfl
/-! ### sizes of numbers -/
theorem mulI_w {i j : Int} {a b : Nat} (ha : i.natAbs < 2 ^ a) (hb : j.natAbs < 2 ^ b) (h0 : 0 < a) (h1 : 0 < b) (h : a + b ≤ 1000000) : mulI (.int i) (.int j) = some (.int (i * j)) := if_pos (wide_mul ha hb h0 h1 h)
end Z
/-! E4: texts: numbers written, parts joined and split -/
namespace Z
open PySem L2
open Classical
theorem dig_range {ch : Char} (h : ch.isDigit = true) : 48 ≤ ch.toNat ∧ ch.toNat ≤ 57 := by
  simp only [Char.isDigit, Bool.and_eq_true, decide_eq_true_eq] at h
  exact ⟨h.1, h.2⟩
theorem decS_dig (n : Nat) : ∀ c ∈ decS (n : Nat), 48 ≤ c ∧ c ≤ 57 := by
  intro c hc
  unfold decS at hc
  rw [PySem.W.KIN.signs_num] at hc
  obtain ⟨ch, hch, e⟩ := List.mem_map.mp hc
  have r := dig_range (Nat.isDigit_of_mem_toDigits (by decide) (by decide) hch)
  rw [← e]
  exact r
theorem decS_len {n : Nat} (h : n ≤ 1000000) : (decS (n : Nat)).length ≤ 10 := by
  have := PySem.W.KT.len_num (n := (n : Int)) (by omega) (by omega)
  unfold decS
  rw [Array.length_toList]
  exact this
theorem decS_eq (i : Int) : (⟨(decS i).toArray⟩ : Str) = Str.ofString (toString i) := by
  unfold decS
  rfl
theorem intSF_dec {n : Nat} (h : n ≤ 1000000) : intSF [.str (decS (n : Nat))] = some (.int (n : Nat)) := by
  have hl := decS_len h
  show (if (decS (n : Nat)).length ≤ 640 then (PySem.intText? ⟨(decS (n : Nat)).toArray⟩).map D.int else none) = _
  rw [if_pos (by omega), decS_eq, PySem.W.KIN.num_reads (by omega) (by omega)]
  rfl
theorem strF_e {n : Nat} (h : n ≤ 1000000) : strF [.int (n : Nat)] = some (.str (decS (n : Nat))) := if_pos (by
  have h1 : ((n : Nat) : Int).natAbs.log2 ≤ 999 := log2_le (by rw [Int.natAbs_natCast]; exact Nat.lt_of_le_of_lt h (Nat.lt_of_lt_of_le (by decide : 1000000 < 2 ^ 20) (Nat.pow_le_pow_right (by decide) (by decide))))
  omega)
theorem strsD_str : ∀ ws : List (List Nat), strsD (ws.map D.str) = some ws
  | [] => rfl
  | w :: ws => by
    show (strsD (ws.map D.str)).map _ = _
    rw [strsD_str ws]
    rfl
theorem sum_le {k : Nat} : ∀ ws : List (List Nat), (∀ w ∈ ws, w.length ≤ k) → (ws.map (·.length)).sum ≤ k * ws.length
  | [], _ => Nat.zero_le _
  | w :: ws, h => by
    have h1 := sum_le ws fun x hx => h x (List.mem_cons_of_mem _ hx)
    have h2 := h w List.mem_cons_self
    rw [List.map_cons, List.sum_cons, List.length_cons, Nat.mul_succ]
    omega
theorem joinD_str {s : List Nat} {ws : List (List Nat)} {k : Nat} (hs : s.length ≤ 10) (hk : ∀ w ∈ ws, w.length ≤ k) (hk2 : k ≤ 1000) (hw : ws.length ≤ 10000) : joinD s (.lst (ws.map D.str)) = some (.str (joinL s ws)) := by
  unfold joinD
  show (match strsD (ws.map D.str) with | some ys => _ | none => none) = _
  rw [strsD_str]
  have h1 := sum_le ws hk
  have h2 : k * ws.length ≤ 1000 * 10000 := Nat.mul_le_mul hk2 hw
  have h3 : ws.length * s.length ≤ 10000 * 10 := Nat.mul_le_mul hw hs
  exact if_pos (by omega)
theorem joinL_len (s : List Nat) : ∀ ws : List (List Nat), (joinL s ws).length ≤ (ws.map (·.length)).sum + ws.length * s.length
  | [] => Nat.zero_le _
  | [p] => by
    show p.length ≤ ([p].map (·.length)).sum + _
    simp
  | p :: q :: r => by
    have ih := joinL_len s (q :: r)
    show (p ++ (s ++ joinL s (q :: r))).length ≤ _
    rw [List.length_append, List.length_append, List.map_cons, List.sum_cons, List.length_cons, Nat.add_mul, Nat.one_mul]
    omega
/-- the way back: joined with blanks, split at them -/
theorem splitD_join {ws : List (List Nat)} (hne : ws ≠ []) (hb : ∀ w ∈ ws, 32 ∉ w) (hl : (joinL [32] ws).length + 2 ≤ 16777216) : splitD (joinL [32] ws) (.str [32]) = some (.lst (ws.map D.str)) := by
  have e : Txt.split ⟨(joinL [32] ws).toArray⟩ ⟨([32] : List Nat).toArray⟩ = ws.map SX.S := by
    have ej := SX.join_S [32] ws
    rw [joinL_eq] at ej
    have ej' : Txt.join ⟨([32] : List Nat).toArray⟩ (ws.map SX.S) = ⟨(joinL [32] ws).toArray⟩ := ej
    rw [← ej']
    refine TL.split_join (s := 32) (S := []) rfl (by decide +kernel) (fun z => hne (List.map_eq_nil_iff.mp z)) fun p hp => ?_
    obtain ⟨w, hw, rfl⟩ := List.mem_map.mp hp
    exact hb w hw
  show (if _ then some (D.lst ((Txt.split ⟨(joinL [32] ws).toArray⟩ ⟨([32] : List Nat).toArray⟩).map fun y : Str => .str y.cps.toList)) else none) = _
  rw [e, if_pos ⟨by decide, by rw [SL]; exact hl⟩, List.map_map]
  congr 2
end Z
/-! E5: dicts, backwards -/
namespace Z
open PySem L2
open Classical
section
variable {s : A}
theorem w_dnew {Q : D → A → Prop} (h : Q (.ref s.hp.length) { s with hp := s.hp ++ [.dk []] }) : Wp mDNew s Q := ⟨_, _, rfl, h⟩
theorem w_dget {mo mk : M D} {Q : D → A → Prop} (h : Wp mo s fun o s1 => Wp mk s1 fun k s2 => ∃ kk l d, keyD k = some kk ∧ getDr s2 o = some l ∧ getK l kk = some d ∧ Q d s2) : Wp (mDGet mo mk) s Q :=
  w_bnd (h.mono fun o s1 h1 => w_bnd (h1.mono fun k s2 ⟨kk, l, d, e1, e2, e3, q⟩ => by
    refine ⟨d, s2, ?_, q⟩
    show (match keyD k, getDr s2 o with | some k, some l => _ | _, _ => none) = _
    rw [e1, e2]
    show (match getK l kk with | some d => _ | none => none) = _
    rw [e3]))
theorem w_din {neg : Bool} {mk mo : M D} {Q : D → A → Prop} (h : Wp mk s fun k s1 => Wp mo s1 fun o s2 => ∃ kk l, keyD k = some kk ∧ getDr s2 o = some l ∧ Q (.bl (if neg then !(getK l kk).isSome else (getK l kk).isSome)) s2) : Wp (mDIn neg mk mo) s Q :=
  w_bnd (h.mono fun k s1 h1 => w_bnd (h1.mono fun o s2 ⟨kk, l, e1, e2, q⟩ => by
    refine ⟨_, s2, ?_, q⟩
    show (match keyD k, getDr s2 o with | some k, some l => _ | _, _ => none) = _
    rw [e1, e2]))
theorem w_dput {mv mo mk : M D} {Q : Fl → A → Prop} (h : Wp mv s fun d s1 => Wp mo s1 fun o s2 => Wp mk s2 fun k s3 => ∃ kk l, keyD k = some kk ∧ getDk s3 o = some l ∧ l.length < 16777216 ∧ Q .nx (setDk s3 o (putKD l kk d))) : Wp (mDPut mv mo mk) s Q :=
  w_bnd (h.mono fun d s1 h1 => w_bnd (h1.mono fun o s2 h2 => w_bnd (h2.mono fun k s3 ⟨kk, l, e1, e2, hl, q⟩ => by
    refine ⟨.nx, _, ?_, q⟩
    show (match keyD k, getDk s3 o with | some k, some l => _ | _, _ => none) = _
    rw [e1, e2]
    exact if_pos (by rw [SL]; exact hl))))
theorem w_forK {j r : Nat} {g : D → M Unit} {b : M Fl} {kvs : List (KK × D)} {Q : Fl → A → Prop} (hs : s.sl[j]? = some (some (.val (.ref r)))) (hk : s.hp[r]? = some (.dk kvs))
    (h : Wp (mFor (mKeysL j) g b) { s with hp := s.hp.set r (.dkL kvs) } fun f s' => ∃ kvs', s'.hp[r]? = some (.dkL kvs') ∧ Q f { s' with hp := s'.hp.set r (.dk kvs') }) : Wp (mForK j g b) s Q := by
  obtain ⟨f, s', e, kvs', e2, q⟩ := h
  refine ⟨f, _, ?_, q⟩
  unfold mForK
  rw [hs]
  show (match s.hp[r]? with | some (.dk kvs) => _ | _ => none) = _
  rw [hk]
  show (match mFor (mKeysL j) g b { s with hp := s.hp.set r (.dkL kvs) } with | some (.ok f s') => _ | _ => none) = _
  rw [e]
  show (match s'.hp[r]? with | some (.dkL kvs') => _ | _ => none) = _
  rw [e2]
end
end Z
/-! E6: errors, backwards -/
namespace Z
open PySem L2
open Classical
/-- m ends with an error -/
def Xp {α : Type} (m : M α) (s : A) (E : Exn → A → Prop) : Prop := ∃ e s', m s = some (.ex e s') ∧ E e s'
def FnXp (n : Fn) (ds : List D) (hp : List AO) (E : Exn → List AO → Prop) : Prop := ∃ e hp', n ds hp = some (.ex e hp') ∧ E e hp'
section
variable {α β : Type} {s : A} {hp : List AO} {E : Exn → A → Prop}
theorem Xp.mono {m : M α} {E' : Exn → A → Prop} (h : Xp m s E) (k : ∀ e s', E e s' → E' e s') : Xp m s E' := by
  obtain ⟨e, s', h1, h2⟩ := h
  exact ⟨e, s', h1, k e s' h2⟩
theorem x_eq {n : Fn} {ds : List D} {e : Exn} {hp' : List AO} {E : Exn → List AO → Prop} (h : n ds hp = some (.ex e hp')) (q : E e hp') : FnXp n ds hp E := ⟨_, _, h, q⟩
/-- the first part fails -/
theorem x_bnd {m : M α} {k : α → M β} (h : Xp m s E) : Xp (bnd m k) s E := by
  obtain ⟨e, s', h1, h2⟩ := h
  exact ⟨e, s', bnd_x h1, h2⟩
/-- the first part goes well, the second fails -/
theorem x_bndR {m : M α} {k : α → M β} (h : Wp m s fun a s1 => Xp (k a) s1 E) : Xp (bnd m k) s E := by
  obtain ⟨a, s1, h1, e, s', h2, h3⟩ := h
  exact ⟨e, s', by rw [bnd_e h1]; exact h2, h3⟩
theorem x_seq {m n : M Fl} (h : Xp m s E) : Xp (mSeq m n) s E := x_bnd h
theorem x_seqR {m n : M Fl} (h : Wp m s fun f s1 => f = .nx ∧ Xp n s1 E) : Xp (mSeq m n) s E := x_bndR (h.mono fun f s1 ⟨e, h1⟩ => by subst e; exact h1)
theorem x_drop {m : M D} (h : Xp m s E) : Xp (mDrop m) s E := x_bnd h
theorem x_ret {m : M D} (h : Xp m s E) : Xp (mRet m) s E := x_bnd h
theorem x_asg {m : M D} {g : D → M Unit} (h : Xp m s E) : Xp (mAsg m g) s E := x_bnd h
theorem x_lst {m : M (List D)} (h : Xp m s E) : Xp (mLst m) s E := x_bnd h
theorem x_tup {m : M (List D)} (h : Xp m s E) : Xp (mTup m) s E := x_bnd h
theorem x_fn {f : List D → Option D} {m : M (List D)} (h : Xp m s E) : Xp (mFn f m) s E := x_bnd h
theorem x_cons {m : M D} {n : M (List D)} (h : Xp m s E) : Xp (mCons m n) s E := x_bnd h
theorem x_consR {m : M D} {n : M (List D)} (h : Wp m s fun _ s1 => Xp n s1 E) : Xp (mCons m n) s E := x_bndR (h.mono fun _ _ h1 => x_bnd h1)
theorem x_bin {f : D → D → Option D} {ma mb : M D} (h : Xp ma s E) : Xp (mBin f ma mb) s E := x_bnd h
theorem x_tst {m : M D} (h : Xp m s E) : Xp (mTst m) s E := x_bnd h
theorem x_un {f : D → Option D} {m : M D} (h : Xp m s E) : Xp (mUn f m) s E := x_bnd h
theorem x_not {m : M Bool} (h : Xp m s E) : Xp (mNot m) s E := x_bnd h
theorem x_callA {np : Nat} {n : Fn} {m : M (List D)} (h : Xp m s E) : Xp (mCall np n m) s E := x_bnd h
theorem x_if {c : M Bool} {m n : M α} (h : Wp c s fun b s1 => (b = true → Xp m s1 E) ∧ (b = false → Xp n s1 E)) : Xp (mIf c m n) s E :=
  x_bndR (h.mono fun b s1 ⟨h1, h2⟩ => by
    cases b
    · exact h2 rfl
    · exact h1 rfl)
theorem x_call {np : Nat} {n : Fn} {m : M (List D)} (h : Wp m s fun ds s1 => ds.length = np ∧ FnXp n ds s1.hp fun e hp' => E e { s1 with hp := hp' }) : Xp (mCall np n m) s E :=
  x_bndR (h.mono fun ds s1 ⟨hl, e, hp', h1, h2⟩ => by
    refine ⟨e, { s1 with hp := hp' }, ?_, h2⟩
    show (if ds.length = np then ofFR (n ds s1.hp) s1 else none) = _
    rw [if_pos hl, h1]
    rfl)
theorem x_raise {c : EC} {ml : M (List D)} (h : Wp ml s fun l s1 => ∃ d, l = [d] ∧ E ⟨c, d⟩ s1) : Xp (mRaise c ml) s E :=
  x_bndR (h.mono fun l s1 ⟨d, e, h1⟩ => by
    subst e
    exact ⟨_, _, rfl, h1⟩)
theorem x_fnOf {N : Nat} {m : M Fl} {ds : List D} {E : Exn → List AO → Prop} (h : Xp m (entA N ds hp) fun e s => E e s.hp) : FnXp (fnOf N m) ds hp E := by
  obtain ⟨e, s', h1, h2⟩ := h
  exact ⟨e, s'.hp, fnOf_ex h1, h2⟩
theorem x_forL {ξ : Type} {g : D → M Unit} {b : M Fl} {e : ξ → D} (P : List ξ → A → Prop) (bad : ξ) (post : List ξ) : ∀ (xs pre : List ξ) (s : A), P pre s →
    (∀ pre' a post' s, pre ++ xs = pre' ++ a :: post' → P pre' s → Wp (g (e a)) s fun _ s1 => Wp b s1 fun f s2 => (f = .nx ∨ f = .ct) ∧ P (pre' ++ [a]) s2) →
    (∀ s', P (pre ++ xs) s' → Wp (g (e bad)) s' fun _ s1 => Xp b s1 E) → Xp (mForL g b ((xs ++ bad :: post).map e)) s E
  | [], pre, s, h0, _, hf => by
    rw [List.append_nil] at hf
    exact x_bndR ((hf s h0).mono fun _ s1 h1 => x_bnd h1)
  | a :: xs, pre, s, h0, hs, hf => by
    have h := hs pre a xs s rfl h0
    refine x_bndR (h.mono fun _ s1 h1 => x_bndR (h1.mono fun f s2 ⟨hf2, h2⟩ => ?_))
    have next : P (pre ++ [a]) s2 → Xp (mForL g b ((xs ++ bad :: post).map e)) s2 E := fun p => x_forL P bad post xs (pre ++ [a]) s2 p (fun pre' a' post s3 e3 p3 => hs pre' a' post s3 (by rw [← e3]; simp) p3) (fun s' h' => hf s' (by simpa using h'))
    rcases hf2 with rfl | rfl
    · exact next h2
    · exact next h2
theorem x_for {ξ : Type} {mi : M (List D)} {g : D → M Unit} {b : M Fl} (e : ξ → D) (P : List ξ → A → Prop) (xs : List ξ) (bad : ξ) (post : List ξ) (h : Wp mi s fun l s0 => l = (xs ++ bad :: post).map e ∧ P [] s0)
    (hs : ∀ pre a post s, xs = pre ++ a :: post → P pre s → Wp (g (e a)) s fun _ s1 => Wp b s1 fun f s2 => (f = .nx ∨ f = .ct) ∧ P (pre ++ [a]) s2)
    (hf : ∀ s', P xs s' → Wp (g (e bad)) s' fun _ s1 => Xp b s1 E) : Xp (mFor mi g b) s E :=
  x_bndR (h.mono fun l s0 ⟨e1, h0⟩ => by
    subst e1
    exact x_forL P bad post xs [] s0 h0 hs hf)
/-- try, when nothing fails -/
theorem w_try_ok {cat : EC → Bool} {i : Nat} {mb ms : M Fl} {Q : Fl → A → Prop} (h : Wp mb s Q) : Wp (mTry cat i mb ms) s Q := by
  obtain ⟨f, s', e, q⟩ := h
  refine ⟨f, s', ?_, q⟩
  unfold mTry
  rw [e]
/-- try, when the body fails -/
theorem w_try_ex {cat : EC → Bool} {i : Nat} {mb ms : M Fl} {Q : Fl → A → Prop} (h : Xp mb s fun e s1 => cat e.c = true ∧ Wp ms { s1 with sl := s1.sl.set i (some (.val (.exc e.c e.v))) } fun f s2 => Q f { s2 with sl := s2.sl.set i none }) : Wp (mTry cat i mb ms) s Q := by
  obtain ⟨e, s', h1, hc, f, s2, h2, q⟩ := h
  refine ⟨f, _, ?_, q⟩
  unfold mTry
  rw [h1]
  dsimp only
  rw [if_pos hc, h2]
theorem w_tryO_ok {cat : EC → Bool} {mb ms : M Fl} {Q : Fl → A → Prop} (h : Wp mb s Q) : Wp (mTryO cat mb ms) s Q := by
  obtain ⟨f, s', e, q⟩ := h
  refine ⟨f, s', ?_, q⟩
  unfold mTryO
  rw [e]
theorem w_tryO_ex {cat : EC → Bool} {mb ms : M Fl} {Q : Fl → A → Prop} (h : Xp mb s fun e s1 => cat e.c = true ∧ Wp ms s1 Q) : Wp (mTryO cat mb ms) s Q := by
  obtain ⟨e, s', h1, hc, f, s2, h2, q⟩ := h
  refine ⟨f, _, ?_, q⟩
  unfold mTryO
  rw [h1]
  dsimp only
  rw [if_pos hc, h2]
theorem w_mkE {c : EC} {ml : M (List D)} {Q : D → A → Prop} (h : Wp ml s fun l s1 => ∃ d, l = [d] ∧ Q (.exc c d) s1) : Wp (mMkE c ml) s Q :=
  w_bnd (h.mono fun l s1 ⟨d, e, q⟩ => by
    subst e
    exact w_ret q)
/-- a list's count, index -/
theorem w_ml {f : List D → D → Option D} {ma me : M D} {Q : D → A → Prop} (h : Wp ma s fun d s1 => ∃ l, d = .lst l ∧ Wp me s1 fun e s2 => ∃ z, f l e = some z ∧ Q z s2) : Wp (mML f ma me) s Q :=
  w_bnd (h.mono fun d s1 ⟨l, e, h1⟩ => by
    subst e
    exact w_bnd (h1.mono fun e s2 h2 => w_lft h2))
end
/-! ### generators, backwards -/
def GWp (m : GM) (ys : List D) (s : A) (Q : Fl → List D → A → Prop) : Prop := ∃ f zs s', m ys s = some (.ok (f, zs) s') ∧ Q f zs s'
def GnWp (n : GFnD) (ds : List D) (hp : List AO) (Q : List D → List AO → Prop) : Prop := ∃ zs hp', n ds hp = some (.ok zs hp') ∧ Q zs hp'
def GnXp (n : GFnD) (ds : List D) (hp : List AO) (E : Exn → List AO → Prop) : Prop := ∃ e hp', n ds hp = some (.ex e hp') ∧ E e hp'
theorem GWp.mono {m : GM} {ys : List D} {s : A} {Q R : Fl → List D → A → Prop} (h : GWp m ys s Q) (k : ∀ f zs s', Q f zs s' → R f zs s') : GWp m ys s R := by
  obtain ⟨f, zs, s', e, q⟩ := h
  exact ⟨f, zs, s', e, k _ _ _ q⟩
section
variable {ys : List D} {s : A} {Q : Fl → List D → A → Prop}
theorem g_pl {m : M Fl} (h : Wp m s fun f s1 => Q f ys s1) : GWp (gPl m) ys s Q := by
  obtain ⟨f, s1, e, q⟩ := h
  exact ⟨f, ys, s1, bnd_e e, q⟩
theorem g_yield {me : M D} (hl : ys.length < 16777216) (h : Wp me s fun d s1 => Q .nx (ys ++ [d]) s1) : GWp (gYield me) ys s Q := by
  obtain ⟨d, s1, e, q⟩ := h
  refine ⟨.nx, ys ++ [d], s1, ?_, q⟩
  show (if ys.length < sizeLine then bnd me (fun d => ret (Fl.nx, ys ++ [d])) s else none) = _
  rw [SL, if_pos hl, bnd_e e]
  rfl
theorem g_nx (h : Q .nx ys s) : GWp gNx ys s Q := ⟨.nx, ys, s, rfl, h⟩
theorem g_seq {m n : GM} (h : GWp m ys s fun f zs s1 => match f with | .nx => GWp n zs s1 Q | f => Q f zs s1) : GWp (gSeq m n) ys s Q := by
  obtain ⟨f, zs, s1, e, q⟩ := h
  cases f with
  | nx =>
    obtain ⟨f, z2, s2, e2, q2⟩ := q
    refine ⟨f, z2, s2, ?_, q2⟩
    show bnd (m ys) _ s = _
    rw [bnd_e e]
    exact e2
  | rt d => exact ⟨.rt d, zs, s1, by show bnd (m ys) _ s = _; rw [bnd_e e]; rfl, q⟩
  | bk => exact ⟨.bk, zs, s1, by show bnd (m ys) _ s = _; rw [bnd_e e]; rfl, q⟩
  | ct => exact ⟨.ct, zs, s1, by show bnd (m ys) _ s = _; rw [bnd_e e]; rfl, q⟩
/-- what a turn of a loop leaves -/
def GLoopQ (P : List D → A → Prop) (Q : Fl → List D → A → Prop) (f : Fl) (zs : List D) (s : A) : Prop := match f with
  | .nx => P zs s
  | .ct => P zs s
  | .bk => Q .nx zs s
  | .rt d => Q (.rt d) zs s
end
theorem g_forL {ξ : Type} {g : D → M Unit} {b : GM} {e : ξ → D} (P : List ξ → List D → A → Prop) {Q : Fl → List D → A → Prop} : ∀ (xs pre : List ξ) (ys : List D) (s : A), P pre ys s →
    (∀ pre' a post ys s, pre ++ xs = pre' ++ a :: post → P pre' ys s → Wp (g (e a)) s fun _ s1 => GWp b ys s1 fun f zs s2 => GLoopQ (P (pre' ++ [a])) Q f zs s2) →
    (∀ zs s', P (pre ++ xs) zs s' → Q .nx zs s') → GWp (mGForL g b (xs.map e)) ys s Q
  | [], pre, ys, s, h0, _, hf => ⟨_, _, _, rfl, hf ys s (by rw [List.append_nil]; exact h0)⟩
  | a :: xs, pre, ys, s, h0, hs, hf => by
    obtain ⟨u, s1, e1, f, zs, s2, e2, q2⟩ := hs pre a xs ys s rfl h0
    have next : P (pre ++ [a]) zs s2 → GWp (mGForL g b (xs.map e)) zs s2 Q := fun p => g_forL P xs (pre ++ [a]) zs s2 p (fun pre' a' post ys3 s3 e3 p3 => hs pre' a' post ys3 s3 (by rw [← e3]; simp) p3) (fun zs' s' h' => hf zs' s' (by simpa using h'))
    have step : mGForL g b ((a :: xs).map e) ys s = (match f with
      | .nx => mGForL g b (xs.map e) zs
      | .ct => mGForL g b (xs.map e) zs
      | .bk => ret (.nx, zs)
      | .rt d => ret (.rt d, zs)) s2 := by
      show bnd (g (e a)) _ s = _
      rw [bnd_e e1]
      show bnd (b ys) _ s1 = _
      rw [bnd_e e2]
      all_goals (cases f <;> rfl)
    cases f with
    | nx =>
      obtain ⟨f3, z3, s3, e3, q3⟩ := next q2
      exact ⟨f3, z3, s3, step.trans e3, q3⟩
    | ct =>
      obtain ⟨f3, z3, s3, e3, q3⟩ := next q2
      exact ⟨f3, z3, s3, step.trans e3, q3⟩
    | bk => exact ⟨_, _, _, step, q2⟩
    | rt d => exact ⟨_, _, _, step, q2⟩
theorem g_for {ξ : Type} {mi : M (List D)} {g : D → M Unit} {b : GM} {ys : List D} {s : A} {Q : Fl → List D → A → Prop} (e : ξ → D) (xs : List ξ) (P : List ξ → List D → A → Prop) (h : Wp mi s fun l s0 => l = xs.map e ∧ P [] ys s0)
    (hs : ∀ pre a post ys s, xs = pre ++ a :: post → P pre ys s → Wp (g (e a)) s fun _ s1 => GWp b ys s1 fun f zs s2 => GLoopQ (P (pre ++ [a])) Q f zs s2)
    (hf : ∀ zs s', P xs zs s' → Q .nx zs s') : GWp (mGFor mi g b) ys s Q := by
  obtain ⟨l, s0, e1, rfl, h0⟩ := h
  obtain ⟨f, zs, s', e2, q⟩ := g_forL (e := e) (g := g) (b := b) P xs [] ys s0 h0 hs hf
  refine ⟨f, zs, s', ?_, q⟩
  show bnd mi _ s = _
  rw [bnd_e e1]
  exact e2
theorem g_fnOf {N : Nat} {m : GM} {ds : List D} {hp : List AO} {Q : List D → List AO → Prop} (h : GWp m [] (entA N ds hp) fun f zs s => (f = .nx ∨ f = .rt .non) ∧ Q zs s.hp) : GnWp (gfnOf N m) ds hp Q := by
  obtain ⟨f, zs, s, e, hf, q⟩ := h
  refine ⟨zs, s.hp, ?_, q⟩
  unfold gfnOf
  rw [e]
  rcases hf with rfl | rfl <;> rfl
theorem w_listG {np : Nat} {n : GFnD} {ml : M (List D)} {s : A} {Q : D → A → Prop} (h : Wp ml s fun ds s1 => ds.length = np ∧ GnWp n ds s1.hp fun zs hp' => zs.length ≤ 16777216 ∧ Q (.lst zs) { s1 with hp := hp' }) : Wp (mListG np n ml) s Q :=
  w_bnd (h.mono fun ds s1 ⟨hl, zs, hp', e, hz, q⟩ => by
    refine ⟨_, _, ?_, q⟩
    show (if ds.length = np then (match n ds s1.hp with | some (.ok zs hp') => if zs.length ≤ sizeLine then some (O.ok (D.lst zs) { s1 with hp := hp' }) else none | _ => none) else none) = _
    rw [if_pos hl, e]
    dsimp only
    rw [SL, if_pos hz])
/-! ### the first bad place -/
/-- how many good ones stand first -/
def fbad (f : Nat → Bool) : List Nat → Nat
  | [] => 0
  | c :: l => if f c = true then fbad f l + 1 else 0
theorem fbad_split {f : Nat → Bool} : ∀ {l : List Nat}, (¬ ∀ c ∈ l, f c = true) → ∃ pre c post, l = pre ++ c :: post ∧ (∀ x ∈ pre, f x = true) ∧ f c = false ∧ pre.length = fbad f l
  | [], h => absurd (fun _ hc => by cases hc) h
  | c :: l, h => by
    unfold fbad
    by_cases hc : f c = true
    · have hl : ¬ ∀ c ∈ l, f c = true := fun z => h fun x hx => by
        rcases List.mem_cons.mp hx with rfl | hx
        · exact hc
        · exact z x hx
      obtain ⟨pre, d, post, e, h1, h2, h3⟩ := fbad_split hl
      refine ⟨c :: pre, d, post, by rw [e]; rfl, fun x hx => ?_, h2, ?_⟩
      · rcases List.mem_cons.mp hx with rfl | hx
        · exact hc
        · exact h1 x hx
      · rw [if_pos hc, List.length_cons, h3]
    · refine ⟨[], c, l, rfl, fun _ hx => (by cases hx), by simpa using hc, ?_⟩
      rw [if_neg hc]
      rfl
theorem zipIdx_app {α : Type} (a b : List α) : (a ++ b).zipIdx = a.zipIdx ++ b.zipIdx a.length := by
  rw [List.zipIdx_append, Nat.zero_add]
theorem mem_zipIdx_fst {α : Type} {l : List α} {k : Nat} {p : α × Nat} (h : p ∈ l.zipIdx k) : p.1 ∈ l := by
  obtain ⟨x, n⟩ := p
  exact (List.mem_zipIdx h).2.2 ▸ List.getElem_mem _
theorem ix_head (d : D) (l : List D) : ixF (.lst (d :: l)) (.int 0) = some d := by
  show atI (d :: l) 0 = _
  unfold atI ixN
  rw [if_pos (by decide), if_pos (by show (0 : Int) < ((l.length + 1 : Nat) : Int); omega)]
  rfl
/-- texts of a and b -/
theorem islower_ab {r : List Nat} (hne : r ≠ []) (h : ∀ x ∈ r, x = 97 ∨ x = 98) : Txt.islower ⟨r.toArray⟩ = true := by
  unfold Txt.islower
  have h1 : (r.toArray.any Unicode.isLower) = true := by
    cases r with
    | nil => exact absurd rfl hne
    | cons c r =>
      rw [List.any_toArray, List.any_cons]
      rcases h c List.mem_cons_self with rfl | rfl
      · rw [show Unicode.isLower 97 = true by decide +kernel]
        rfl
      · rw [show Unicode.isLower 98 = true by decide +kernel]
        rfl
  have h2 : (r.toArray.any fun c => Unicode.isUpper c || Unicode.isTitle c) = false := by
    rw [List.any_toArray, List.any_eq_false]
    intro c hc
    rcases h c hc with rfl | rfl <;> decide +kernel
  show ((r.toArray.any Unicode.isLower) && !(r.toArray.any fun c => Unicode.isUpper c || Unicode.isTitle c)) = true
  rw [h1, h2]
  rfl
theorem isalpha_ab {r : List Nat} (hne : r ≠ []) (h : ∀ x ∈ r, x = 97 ∨ x = 98) : Txt.isalpha ⟨r.toArray⟩ = true := by
  unfold Txt.isalpha
  have h2 : (r.toArray.all Unicode.isAlpha) = true := by
    rw [List.all_toArray, List.all_eq_true]
    intro c hc
    rcases h c hc with rfl | rfl <;> decide +kernel
  have h1 : decide (Str.length ⟨r.toArray⟩ > 0) = true := by
    refine decide_eq_true ?_
    cases r with
    | nil => exact absurd rfl hne
    | cons c r => exact Nat.succ_pos _
  rw [h1]
  exact h2
end Z
/-! E7: objects, backwards -/
namespace Z
open PySem L2
open Classical
section
variable {s : A} {c f m : Str} {mo mv : M D} {ml : M (List D)} {np : Nat} {n : Fn} {gn : GFnD}
theorem w_fld {Q : D → A → Prop} (h : Wp mo s fun o s1 => ∃ fs d, getI s1 c o = some fs ∧ fs.lookup f = some d ∧ Q d s1) : Wp (mFld c f mo) s Q :=
  w_bnd (h.mono fun o s1 ⟨fs, d, e1, e2, q⟩ => by
    refine ⟨d, s1, ?_, q⟩
    show (match getI s1 c o with | some fs => _ | none => none) = _
    rw [e1]
    show (match fs.lookup f with | some d => _ | none => none) = _
    rw [e2])
theorem w_sfld {Q : Fl → A → Prop} (h : Wp mv s fun v s1 => Wp mo s1 fun o s2 => ∃ fs, getI s2 c o = some fs ∧ fs.length < 1000 ∧ Q .nx (setI s2 c o (putD f v fs))) : Wp (mSFld c f mv mo) s Q :=
  w_bnd (h.mono fun v s1 h1 => w_bnd (h1.mono fun o s2 ⟨fs, e1, hl, q⟩ => by
    refine ⟨.nx, _, ?_, q⟩
    show (match getI s2 c o with | some fs => _ | none => none) = _
    rw [e1]
    exact if_pos hl))
theorem w_sfldA {g : D → D → Option D} {Q : Fl → A → Prop} (h : Wp mo s fun o s1 => ∃ fs x, getI s1 c o = some fs ∧ fs.lookup f = some x ∧ Wp mv s1 fun y s2 => ∃ z fs', g x y = some z ∧ getI s2 c o = some fs' ∧ fs'.length < 1000 ∧ Q .nx (setI s2 c o (putD f z fs'))) : Wp (mSFldA c f g mo mv) s Q :=
  w_bnd (h.mono fun o s1 ⟨fs, x, e1, e2, y, s2, e3, z, fs', e4, e5, hl, q⟩ => by
    refine ⟨.nx, _, ?_, q⟩
    show (match getI s1 c o with | some fs => _ | none => none) = _
    rw [e1]
    show (match fs.lookup f with | some x => _ | none => none) = _
    rw [e2]
    show bnd mv _ s1 = _
    rw [bnd_e e3]
    show (match g x y, getI s2 c o with | some z, some fs' => _ | _, _ => none) = _
    rw [e4, e5]
    exact if_pos hl)
theorem w_meth {Q : D → A → Prop} (h : Wp mo s fun o s1 => ∃ fs, getI s1 c o = some fs ∧ fs.lookup m = none ∧ Wp ml s1 fun ds s2 => ds.length + 1 = np ∧ FnWp n (o :: ds) s2.hp fun d hp' => Q d { s2 with hp := hp' }) : Wp (mMeth c m np n mo ml) s Q :=
  w_bnd (h.mono fun o s1 ⟨fs, e1, e2, ds, s2, e3, hl, d, hp', e4, q⟩ => by
    refine ⟨d, _, ?_, q⟩
    show (match getI s1 c o with | some fs => _ | none => none) = _
    rw [e1]
    show (match fs.lookup m with | none => _ | some _ => none) = _
    rw [e2]
    show bnd ml _ s1 = _
    rw [bnd_e e3]
    show (if ds.length + 1 = np then ofFR (n (o :: ds) s2.hp) s2 else none) = _
    rw [if_pos hl, e4]
    rfl)
theorem w_methS {Q : D → A → Prop} (h : Wp mo s fun o s1 => ∃ fs, getI s1 c o = some fs ∧ fs.lookup m = none ∧ Wp ml s1 fun ds s2 => ds.length ≤ 16777216 ∧ FnWp n [o, .tup ds] s2.hp fun d hp' => Q d { s2 with hp := hp' }) : Wp (mMethS c m n mo ml) s Q :=
  w_bnd (h.mono fun o s1 ⟨fs, e1, e2, ds, s2, e3, hl, d, hp', e4, q⟩ => by
    refine ⟨d, _, ?_, q⟩
    show (match getI s1 c o with | some fs => _ | none => none) = _
    rw [e1]
    show (match fs.lookup m with | none => _ | some _ => none) = _
    rw [e2]
    show bnd ml _ s1 = _
    rw [bnd_e e3]
    show (if ds.length ≤ sizeLine then ofFR (n [o, .tup ds] s2.hp) s2 else none) = _
    rw [if_pos (by rw [SL]; exact hl), e4]
    rfl)
theorem w_prop {Q : D → A → Prop} (h : Wp mo s fun o s1 => ∃ fs, getI s1 c o = some fs ∧ 1 = np ∧ FnWp n [o] s1.hp fun d hp' => Q d { s1 with hp := hp' }) : Wp (mProp c np n mo) s Q :=
  w_bnd (h.mono fun o s1 ⟨fs, e1, hl, d, hp', e4, q⟩ => by
    refine ⟨d, _, ?_, q⟩
    show (match getI s1 c o with | some _ => _ | none => none) = _
    rw [e1]
    show (if 1 = np then _ else none) = _
    rw [if_pos hl, e4])
theorem w_make {Q : D → A → Prop} (h : Wp ml s fun ds s1 => ds.length + 1 = np ∧ FnWp n (.ref s1.hp.length :: ds) (s1.hp ++ [.ins c []]) fun d hp' => d = .non ∧ Q (.ref s1.hp.length) { s1 with hp := hp' }) : Wp (mMake c np n ml) s Q :=
  w_bnd (h.mono fun ds s1 ⟨hl, d, hp', e4, ed, q⟩ => by
    subst ed
    refine ⟨_, _, ?_, q⟩
    show (if ds.length + 1 = np then _ else none) = _
    rw [if_pos hl, e4])
theorem w_listGM {Q : D → A → Prop} (h : Wp mo s fun o s1 => ∃ fs, getI s1 c o = some fs ∧ fs.lookup m = none ∧ 1 = np ∧ GnWp gn [o] s1.hp fun zs hp' => zs.length ≤ 16777216 ∧ Q (.lst zs) { s1 with hp := hp' }) : Wp (mListGM c m np gn mo) s Q :=
  w_bnd (h.mono fun o s1 ⟨fs, e1, e2, hn, zs, hp', e4, hl, q⟩ => by
    refine ⟨_, _, ?_, q⟩
    show (match getI s1 c o with | some fs => _ | none => none) = _
    rw [e1]
    show (match fs.lookup m with | none => _ | some _ => none) = _
    rw [e2]
    show (if 1 = np then _ else none) = _
    rw [if_pos hn, e4]
    exact if_pos (by rw [SL]; exact hl))
theorem w_setOL {i : Nat} {Q : Fl → A → Prop} (h : Wp ml s fun ds s1 => ∃ l, seqL ds = some l ∧ l.length ≤ 16777216 ∧ Q .nx (setO s1 i l)) : Wp (mSetOL i ml) s Q :=
  w_bnd (h.mono fun ds s1 ⟨l, e1, hl, q⟩ => by
    refine ⟨.nx, _, ?_, q⟩
    show (match seqL ds with | some l => _ | none => none) = _
    rw [e1]
    exact if_pos (by rw [SL]; exact hl))
end
theorem getI_e {sl : List (Option SV)} {hp : List AO} {r : Nat} {c : Str} {fs : List (Str × D)} (h : hp[r]? = some (.ins c fs)) : getI (⟨sl, hp⟩ : A) c (.ref r) = some fs := by
  show (match hp[r]? with | some (.ins c' fs) => if c' = c then some fs else none | _ => none) = _
  rw [h]
  exact if_pos rfl
end Z
/-! E8: a generator's first thing, backwards; extend of a list of the own heap -/
namespace Z
open PySem PySem.Spec PyProof.Rows L2
open Classical
theorem w_extH {mo me : M D} {s : A} {Q : D → A → Prop} (h : Wp mo s fun o s1 => (∃ l, getH s1 o = some l) ∧ Wp me s1 fun d s2 => ∃ x l, d = .lst x ∧ getH s2 o = some l ∧ l.length + x.length ≤ 16777216 ∧ Q .non (setH s2 o (l ++ x))) : Wp (mExtH mo me) s Q :=
  w_bnd (h.mono fun o s1 ⟨⟨l0, e0⟩, d, s2, ed, x, l, ex, e1, hl, q⟩ => by
    subst ex
    refine ⟨.non, _, ?_, q⟩
    show (match getH s1 o with | some _ => _ | none => none) = _
    rw [e0]
    show bnd me _ s1 = _
    rw [bnd_e ed]
    show (match D.lst x, getH s2 o with | .lst l', some l => _ | _, _ => none) = _
    rw [e1]
    exact if_pos (by rw [SL]; exact hl))
/-- the generator hands something out -/
theorem w_first_yl {np : Nat} {n : FYn} {g : D → M Unit} {ml : M (List D)} {s : A} {Q : Fl → A → Prop} (h : Wp ml s fun ds s1 => ds.length = np ∧ ∃ d hp', n ds s1.hp = some (.yl d hp') ∧ Wp (g d) { s1 with hp := hp' } fun _ s2 => Q .nx s2) : Wp (mFirst np n g ml) s Q :=
  w_bnd (h.mono fun ds s1 ⟨hl, d, hp', e1, u, s2, e2, q⟩ => ⟨.nx, s2, by
    show (if ds.length = np then _ else none) = _
    rw [if_pos hl, e1]
    exact bnd_e e2, q⟩)
/-- it ends at once -/
theorem w_first_fin {np : Nat} {n : FYn} {g : D → M Unit} {ml : M (List D)} {s : A} {Q : Fl → A → Prop} (h : Wp ml s fun ds s1 => ds.length = np ∧ ∃ hp', n ds s1.hp = some (.fin hp') ∧ Q .nx { s1 with hp := hp' }) : Wp (mFirst np n g ml) s Q :=
  w_bnd (h.mono fun ds s1 ⟨hl, hp', e1, q⟩ => ⟨.nx, _, by
    show (if ds.length = np then _ else none) = _
    rw [if_pos hl, e1], q⟩)
/-- it fails -/
theorem x_first {np : Nat} {n : FYn} {g : D → M Unit} {ml : M (List D)} {s : A} {E : Exn → A → Prop} (h : Wp ml s fun ds s1 => ds.length = np ∧ ∃ e hp', n ds s1.hp = some (.ex e hp') ∧ E e { s1 with hp := hp' }) : Xp (mFirst np n g ml) s E :=
  x_bndR (h.mono fun ds s1 ⟨hl, e, hp', e1, q⟩ => ⟨e, _, by
    show (if ds.length = np then _ else none) = _
    rw [if_pos hl, e1], q⟩)
/-- what a generator does first, if nothing fails -/
def FyWp (n : FYn) (ds : List D) (hp : List AO) (Y : D → List AO → Prop) (Fi : List AO → Prop) : Prop := (∃ d hp', n ds hp = some (.yl d hp') ∧ Y d hp') ∨ ∃ hp', n ds hp = some (.fin hp') ∧ Fi hp'
theorem w_fyOf {N : Nat} {m : M Fl} {ds : List D} {hp : List AO} {Y : D → List AO → Prop} {Fi : List AO → Prop} (h : Wp m (entA N ds hp) fun f s => (f = .nx ∧ Fi s.hp) ∨ ∃ d, f = .rt d ∧ Y d s.hp) : FyWp (fyOf N m) ds hp Y Fi := by
  obtain ⟨f, s, e, h⟩ := h
  rcases h with ⟨rfl, q⟩ | ⟨d, rfl, q⟩
  · refine .inr ⟨s.hp, ?_, q⟩
    unfold fyOf
    rw [e]
  · refine .inl ⟨d, s.hp, ?_, q⟩
    unfold fyOf
    rw [e]
theorem x_fyOf {N : Nat} {m : M Fl} {ds : List D} {hp : List AO} {E : Exn → List AO → Prop} (h : Xp m (entA N ds hp) fun e s => E e s.hp) : ∃ e hp', fyOf N m ds hp = some (.ex e hp') ∧ E e hp' := by
  obtain ⟨x, s, e, q⟩ := h
  refine ⟨x, s.hp, ?_, q⟩
  unfold fyOf
  rw [e]
theorem w_first {np : Nat} {n : FYn} {g : D → M Unit} {ml : M (List D)} {s : A} {Q : Fl → A → Prop} (h : Wp ml s fun ds s1 => ds.length = np ∧ FyWp n ds s1.hp (fun d hp' => Wp (g d) { s1 with hp := hp' } fun _ s2 => Q .nx s2) (fun hp' => Q .nx { s1 with hp := hp' })) : Wp (mFirst np n g ml) s Q :=
  w_bnd (h.mono fun ds s1 ⟨hl, h1⟩ => by
    show Wp (fun s => if ds.length = np then _ else none) s1 Q
    rcases h1 with ⟨d, hp', e1, u, s2, e2, q⟩ | ⟨hp', e1, q⟩
    · exact ⟨.nx, s2, by dsimp only; rw [if_pos hl, e1]; exact bnd_e e2, q⟩
    · exact ⟨.nx, _, by dsimp only; rw [if_pos hl, e1], q⟩)
theorem w_NR {m : M Fl} {s : A} {Q : Fl → A → Prop} (h : Wp m s fun f s1 => f = .nx ∧ Q .nx s1) : Wp (mNR m) s Q := w_bnd (h.mono fun f s1 ⟨e, q⟩ => by
  subst e
  exact ⟨.nx, s1, rfl, q⟩)
theorem x_NR {m : M Fl} {s : A} {E : Exn → A → Prop} (h : Xp m s E) : Xp (mNR m) s E := x_bnd h
/-- a loop that ends in its first turn, if there is one -/
theorem w_forFirst {mi : M (List D)} {g : D → M Unit} {b : M Fl} {s : A} {Q : Fl → A → Prop} (h : Wp mi s fun l s1 => (l = [] ∧ Q .nx s1) ∨ ∃ d r, l = d :: r ∧ Wp (g d) s1 fun _ s2 => Wp b s2 fun f s3 => ∃ z, f = .rt z ∧ Q (.rt z) s3) : Wp (mFor mi g b) s Q :=
  w_bnd (h.mono fun l s1 h1 => by
    rcases h1 with ⟨rfl, q⟩ | ⟨d, r, rfl, u, s2, e2, f, s3, e3, z, rfl, q⟩
    · exact ⟨.nx, s1, rfl, q⟩
    · refine ⟨.rt z, s3, ?_, q⟩
      show bnd (g d) _ s1 = _
      rw [bnd_e e2]
      show bnd b _ s2 = _
      rw [bnd_e e3]
      rfl)
end Z
namespace Z
open PySem L2
open Classical
/-- a pool of draws: the rest, the seed, the count at most n -/
def PoolAt (hp : List AO) (r : Nat) (n : Int) : Prop := ∃ d s c : Int, hp[r]? = some (.lst [.int d, .int s, .int c]) ∧ 0 ≤ d ∧ 0 ≤ s ∧ s < 2 ^ 100 ∧ 0 ≤ c ∧ c ≤ n
theorem PoolAt.le {hp : List AO} {r : Nat} {n m : Int} (h : PoolAt hp r n) (hm : n ≤ m) : PoolAt hp r m := by
  obtain ⟨d, s, c, h1, h2, h3, h4, h5, h6⟩ := h
  exact ⟨d, s, c, h1, h2, h3, h4, h5, by omega⟩
/-- no other object is touched -/
def Only (r : Nat) (hp hp' : List AO) : Prop := hp'.length = hp.length ∧ ∀ k, k ≠ r → hp'[k]? = hp[k]?
theorem Only.refl (r : Nat) (hp : List AO) : Only r hp hp := ⟨rfl, fun _ _ => rfl⟩
theorem Only.trans {r : Nat} {a b c : List AO} (h : Only r a b) (g : Only r b c) : Only r a c := ⟨g.1.trans h.1, fun k hk => (g.2 k hk).trans (h.2 k hk)⟩
theorem only_set {r : Nat} {hp : List AO} (o : AO) : Only r hp (hp.set r o) := ⟨List.length_set, fun k hk => by
  rw [List.getElem?_set]
  simp [Ne.symm hk]⟩

/-- _law_pool(script, at): slots 0:script 1:at 2:cell -/
noncomputable def b_law_pool : M Fl :=
    (mSeq (mAsg (mC (.int 0)) (gV 2))
    (mSeq (mIf (mTst (mBin ltI (mVar 1) (mFn lenF (mCons (mVar 0) mNil)))) (mAsg (mBin ixF (mVar 0) (mVar 1)) (gV 2)) mNx)
    (mRet (mLstH (mCons (mFn maxF (mCons (mC (.int 0)) (mCons (mBin subI (mFn absF (mCons (mVar 2) mNil)) (mBin powI (mC (.int 10)) (mC (.int 18)))) mNil))) (mCons (mBin addI (mBin modI (mVar 2) (mC (.int 2305843009213693951))) (mBin mulI (mC (.int 4093082899)) (mBin addI (mVar 1) (mC (.int 1))))) (mCons (mC (.int 0)) mNil)))))))
noncomputable abbrev n_law_pool : Fn := fnOf 3 b_law_pool
-- uses: POOL
theorem w_law_pool {ns : List Int} {a : Int} {hp : List AO} {Q : D → List AO → Prop} (hl : ns.length ≤ 63) (ha : 0 ≤ a) (ha2 : a ≤ 1000)
    (q : ∀ l, PoolAt (hp ++ [.lst l]) hp.length 0 → Q (.ref hp.length) (hp ++ [.lst l])) : FnWp n_law_pool [.fz (ns.map D.int), .int a] hp Q := by
  apply w_fnOf
  unfold b_law_pool
  refine w_seq (w_set (w_C ?_))
  have tail : ∀ x : Int, ∀ s1, s1 = st [vl (.fz (ns.map D.int)), vl (.int a), vl (.int x)] hp → Wp (mRet (mLstH (mCons (mFn maxF (mCons (mC (.int 0)) (mCons (mBin subI (mFn absF (mCons (mVar 2) mNil)) (mBin powI (mC (.int 10)) (mC (.int 18)))) mNil))) (mCons (mBin addI (mBin modI (mVar 2) (mC (.int 2305843009213693951))) (mBin mulI (mC (.int 4093082899)) (mBin addI (mVar 1) (mC (.int 1))))) (mCons (mC (.int 0)) mNil))))) s1 (EndQ Q) := by
    rintro x s1 rfl
    have p1 : (4093082899 * (a + 1) : Int) ≤ 4093082899 * 1001 := Int.mul_le_mul_of_nonneg_left (by omega) (by decide)
    have p0 : (0 : Int) ≤ 4093082899 * (a + 1) := Int.mul_nonneg (by decide) (by omega)
    (repeat (first | refine w_seq ?_ | refine w_set ?_ | refine w_asg ?_ | refine w_gV ?_ | refine w_gT2 ?_ | refine w_gL2 ?_ | refine w_rt ?_ | refine w_drop ?_ | refine w_par ?_ | refine w_aug rfl ?_ | refine w_nx ?_ | refine w_and ?_ | refine w_or ?_ | refine w_not ?_ | refine w_tst ?_ | refine w_if ?_ | refine w_andV ?_ | refine w_orV ?_ | refine w_tup ?_ | refine w_lst ?_ | refine w_lstH ?_ | refine w_bin ?_ | refine w_un ?_ | refine w_fn ?_ | refine w_it ?_ | refine w_itA ?_ | refine w_cons ?_ | refine w_nil ?_ | refine w_V rfl ?_ | refine w_VO rfl ?_ | refine w_C ?_ | refine w_sl ?_ | refine w_so ?_ | refine w_no ?_ | refine w_call ?_ | refine w_join ?_ | refine w_setO ?_ | refine w_ixH ?_ | refine w_setIxH ?_ | refine w_cmpH ?_ | refine w_pop0H ?_ | refine w_appH ?_ | refine w_par3 ?_ | refine w_joinH ?_ | refine w_perm ?_ | refine w_split ?_ | refine w_notV ?_ | refine w_ret ?_ | refine And.intro rfl ?_ | refine Exists.intro _ (And.intro rfl ?_)))
    refine ⟨_, powI_e (by decide) (by decide) (by decide), ?_⟩
    (repeat (first | refine w_seq ?_ | refine w_set ?_ | refine w_asg ?_ | refine w_gV ?_ | refine w_gT2 ?_ | refine w_gL2 ?_ | refine w_rt ?_ | refine w_drop ?_ | refine w_par ?_ | refine w_aug rfl ?_ | refine w_nx ?_ | refine w_and ?_ | refine w_or ?_ | refine w_not ?_ | refine w_tst ?_ | refine w_if ?_ | refine w_andV ?_ | refine w_orV ?_ | refine w_tup ?_ | refine w_lst ?_ | refine w_lstH ?_ | refine w_bin ?_ | refine w_un ?_ | refine w_fn ?_ | refine w_it ?_ | refine w_itA ?_ | refine w_cons ?_ | refine w_nil ?_ | refine w_V rfl ?_ | refine w_VO rfl ?_ | refine w_C ?_ | refine w_sl ?_ | refine w_so ?_ | refine w_no ?_ | refine w_call ?_ | refine w_join ?_ | refine w_setO ?_ | refine w_ixH ?_ | refine w_setIxH ?_ | refine w_cmpH ?_ | refine w_pop0H ?_ | refine w_appH ?_ | refine w_par3 ?_ | refine w_joinH ?_ | refine w_perm ?_ | refine w_split ?_ | refine w_notV ?_ | refine w_ret ?_ | refine And.intro rfl ?_ | refine Exists.intro _ (And.intro rfl ?_)))
    refine ⟨_, modI_e (by decide), ?_⟩
    (repeat (first | refine w_seq ?_ | refine w_set ?_ | refine w_asg ?_ | refine w_gV ?_ | refine w_gT2 ?_ | refine w_gL2 ?_ | refine w_rt ?_ | refine w_drop ?_ | refine w_par ?_ | refine w_aug rfl ?_ | refine w_nx ?_ | refine w_and ?_ | refine w_or ?_ | refine w_not ?_ | refine w_tst ?_ | refine w_if ?_ | refine w_andV ?_ | refine w_orV ?_ | refine w_tup ?_ | refine w_lst ?_ | refine w_lstH ?_ | refine w_bin ?_ | refine w_un ?_ | refine w_fn ?_ | refine w_it ?_ | refine w_itA ?_ | refine w_cons ?_ | refine w_nil ?_ | refine w_V rfl ?_ | refine w_VO rfl ?_ | refine w_C ?_ | refine w_sl ?_ | refine w_so ?_ | refine w_no ?_ | refine w_call ?_ | refine w_join ?_ | refine w_setO ?_ | refine w_ixH ?_ | refine w_setIxH ?_ | refine w_cmpH ?_ | refine w_pop0H ?_ | refine w_appH ?_ | refine w_par3 ?_ | refine w_joinH ?_ | refine w_perm ?_ | refine w_split ?_ | refine w_notV ?_ | refine w_ret ?_ | refine And.intro rfl ?_ | refine Exists.intro _ (And.intro rfl ?_)))
    refine ⟨_, mulI_e (by decide) (by decide) (by omega), ?_⟩
    (repeat (first | refine w_seq ?_ | refine w_set ?_ | refine w_asg ?_ | refine w_gV ?_ | refine w_gT2 ?_ | refine w_gL2 ?_ | refine w_rt ?_ | refine w_drop ?_ | refine w_par ?_ | refine w_aug rfl ?_ | refine w_nx ?_ | refine w_and ?_ | refine w_or ?_ | refine w_not ?_ | refine w_tst ?_ | refine w_if ?_ | refine w_andV ?_ | refine w_orV ?_ | refine w_tup ?_ | refine w_lst ?_ | refine w_lstH ?_ | refine w_bin ?_ | refine w_un ?_ | refine w_fn ?_ | refine w_it ?_ | refine w_itA ?_ | refine w_cons ?_ | refine w_nil ?_ | refine w_V rfl ?_ | refine w_VO rfl ?_ | refine w_C ?_ | refine w_sl ?_ | refine w_so ?_ | refine w_no ?_ | refine w_call ?_ | refine w_join ?_ | refine w_setO ?_ | refine w_ixH ?_ | refine w_setIxH ?_ | refine w_cmpH ?_ | refine w_pop0H ?_ | refine w_appH ?_ | refine w_par3 ?_ | refine w_joinH ?_ | refine w_perm ?_ | refine w_split ?_ | refine w_notV ?_ | refine w_ret ?_ | refine And.intro rfl ?_ | refine Exists.intro _ (And.intro rfl ?_)))
    have := Int.emod_nonneg x (b := 2305843009213693951) (by decide)
    have := Int.emod_lt_of_pos x (b := 2305843009213693951) (by decide)
    refine q _ ⟨_, _, 0, by rw [List.getElem?_append_right (Nat.le_refl _), Nat.sub_self]; rfl, ?_, by omega, by omega, by decide, by decide⟩
    split <;> omega
  (repeat (first | refine w_seq ?_ | refine w_set ?_ | refine w_asg ?_ | refine w_gV ?_ | refine w_gT2 ?_ | refine w_gL2 ?_ | refine w_rt ?_ | refine w_drop ?_ | refine w_par ?_ | refine w_aug rfl ?_ | refine w_nx ?_ | refine w_and ?_ | refine w_or ?_ | refine w_not ?_ | refine w_tst ?_ | refine w_if ?_ | refine w_andV ?_ | refine w_orV ?_ | refine w_tup ?_ | refine w_lst ?_ | refine w_lstH ?_ | refine w_bin ?_ | refine w_un ?_ | refine w_fn ?_ | refine w_it ?_ | refine w_itA ?_ | refine w_cons ?_ | refine w_nil ?_ | refine w_V rfl ?_ | refine w_VO rfl ?_ | refine w_C ?_ | refine w_sl ?_ | refine w_so ?_ | refine w_no ?_ | refine w_call ?_ | refine w_join ?_ | refine w_setO ?_ | refine w_ixH ?_ | refine w_setIxH ?_ | refine w_cmpH ?_ | refine w_pop0H ?_ | refine w_appH ?_ | refine w_par3 ?_ | refine w_joinH ?_ | refine w_perm ?_ | refine w_split ?_ | refine w_notV ?_ | refine w_ret ?_ | refine And.intro rfl ?_ | refine Exists.intro _ (And.intro rfl ?_)))
  refine ⟨fun hb => ?_, fun hb => ?_⟩
  · have hlt : a < ((ns.map D.int).length : Int) := by simpa using hb
    have hx : ∃ x, ns[a.toNat]? = some x := by
      rw [List.length_map] at hlt
      exact ⟨_, List.getElem?_eq_getElem (by omega)⟩
    obtain ⟨x, hx⟩ := hx
    refine w_set (w_bin (w_V rfl (w_V rfl ⟨.int x, ?_, tail x _ rfl⟩)))
    show atI (ns.map D.int) a = some (.int x)
    unfold atI ixN
    rw [if_pos ha, if_pos hlt]
    show (ns.map D.int)[a.toNat]? = _
    rw [List.getElem?_map, hx]
    rfl
  · exact w_nx (tail 0 _ rfl)
theorem sp_law_pool : ∀ ds hp r, ds.length = 2 → n_law_pool ds hp = some r → fnOf 3 b_law_pool ds hp = some r := fun _ _ _ _ h => h

/-- lower-case letters -/
def low (s : List Nat) : Prop := ∀ c ∈ s, 97 ≤ c ∧ c ≤ 122
theorem mem_abc (c : Nat) : (c ∈ [97, 98, 99, 100, 101, 102, 103, 104, 105, 106, 107, 108, 109, 110, 111, 112, 113, 114, 115, 116, 117, 118, 119, 120, 121, 122]) ↔ 97 ≤ c ∧ c ≤ 122 := by
  simp only [List.mem_cons, List.not_mem_nil, or_false]
  omega
theorem enumD_map {α : Type} (e : α → D) (l : List α) : enumD (l.map e) = l.zipIdx.map fun p => .tup [.int (p.2 : Nat), e p.1] := by
  unfold enumD
  rw [List.zipIdx_map, List.map_map]
  rfl
theorem zipIdx_at {α : Type} {l : List α} {pre post : List (α × Nat)} {a : α × Nat} (h : l.zipIdx = pre ++ a :: post) : a.1 ∈ l ∧ a.2 = pre.length ∧ l[pre.length]? = some a.1 := by
  have h1 : l.zipIdx[pre.length]? = some a := by
    rw [h]
    simp
  rw [List.getElem?_zipIdx] at h1
  obtain ⟨x, hx, e⟩ := Option.map_eq_some_iff.mp h1
  subst e
  exact ⟨List.mem_of_getElem? hx, by simp, hx⟩
instance decTSs (p : List Nat) : Decidable (TSs p) := by unfold TSs; exact inferInstance

/-- check_row(row): slots 0:row 1:index 2:letter -/
noncomputable def b_check_row : M Fl :=
    (mFor (mItA enSF (mCons (mVar 0) mNil)) (gT (gC (gV 1) (gC (gV 2) gN)) 2) (mIf (mTst (mBin notInS (mVar 2) (mC (.str [97, 98, 99, 100, 101, 102, 103, 104, 105, 106, 107, 108, 109, 110, 111, 112, 113, 114, 115, 116, 117, 118, 119, 120, 121, 122])))) (mRaise .row (mCons (mVar 1) mNil)) mNx))
-- uses: BASE
def lowB (c : Nat) : Bool := decide (97 ≤ c ∧ c ≤ 122)
theorem good_check_row (s : List Nat) : (∀ c ∈ s, lowB c = true) ↔ low s := ⟨fun h c hc => of_decide_eq_true (h c hc), fun h c hc => decide_eq_true (h c hc)⟩
noncomputable def n_check_row : Fn := fun ds hp => match ds with
  | [.str s] => if low s then some (.ok .non hp) else some (.ex ⟨.row, .int (fbad lowB s : Nat)⟩ hp)
  | _ => none
theorem sp_check_row : ∀ ds hp r, ds.length = 1 → n_check_row ds hp = some r → fnOf 3 b_check_row ds hp = some r := by
  intro ds hp r _ h
  match ds, h with
  | [.str s], h =>
    have h' : (if low s then some (FR.ok .non hp) else some (.ex ⟨.row, .int (fbad lowB s : Nat)⟩ hp)) = some r := h
    by_cases hl : low s
    · rw [if_pos hl] at h'
      cases h'
      have w : Wp b_check_row (entA 3 [.str s] hp) fun f s' => f = .nx ∧ s'.hp = hp := by
        unfold b_check_row
        refine w_for (fun p : Nat × Nat => D.tup [.int (p.2 : Nat), .str [p.1]]) s.zipIdx (fun _ s' => ∃ x y, s' = st [vl (.str s), x, y] hp) ?_ ?_ ?_
        · exact w_itA (w_cons (w_V rfl (w_nil ⟨_, rfl, enumD_map _ s, none, none, rfl⟩)))
        · rintro pre ⟨a, i⟩ post s1 hE ⟨x, y, rfl⟩
          obtain ⟨ha, hi, hx⟩ := zipIdx_at hE
          refine w_gT2 (w_if (w_tst (w_bin (w_V rfl (w_C ⟨_, rfl, _, rfl, fun hb => ?_, fun _ => w_nx ⟨_, _, rfl⟩⟩)))))
          have := (mem_abc a).mpr (hl a ha)
          simp only [Bool.not_eq_true', decide_eq_false_iff_not] at hb
          exact absurd this hb
        · rintro s1 ⟨x, y, rfl⟩
          exact ⟨rfl, rfl⟩
      obtain ⟨f, s', e1, rfl, e2⟩ := w
      rw [fnOf_nx e1, e2]
    · rw [if_neg hl] at h'
      cases h'
      obtain ⟨pre, c, post, rfl, hg, hb, hlen⟩ := fbad_split (f := lowB) (fun z => hl ((good_check_row _).mp z))
      have w : Xp b_check_row (entA 3 [.str (pre ++ c :: post)] hp) fun e s' => e = ⟨.row, .int (fbad lowB (pre ++ c :: post) : Nat)⟩ ∧ s'.hp = hp := by
        unfold b_check_row
        refine x_for (fun p : Nat × Nat => D.tup [.int (p.2 : Nat), .str [p.1]]) (fun _ s' => ∃ x y, s' = st [vl (.str (pre ++ c :: post)), x, y] hp) pre.zipIdx (c, pre.length) (post.zipIdx (pre.length + 1)) ?_ ?_ ?_
        · refine w_itA (w_cons (w_V rfl (w_nil ⟨_, rfl, ?_, none, none, rfl⟩)))
          rw [enumD_map, zipIdx_app]
          rfl
        · rintro pre' ⟨a, i⟩ post' s1 hE ⟨x, y, rfl⟩
          have ha : a ∈ pre := (zipIdx_at hE).1
          have ha := hg a ha
          refine w_gT2 (w_if (w_tst (w_bin (w_V rfl (w_C ⟨_, rfl, _, rfl, fun hb2 => ?_, fun _ => w_nx ⟨.inl rfl, _, _, rfl⟩⟩)))))
          have ha' : 97 ≤ a ∧ a ≤ 122 := of_decide_eq_true ha
          have := (mem_abc a).mpr ha'
          simp only [Bool.not_eq_true', decide_eq_false_iff_not] at hb2
          exact absurd this hb2
        · rintro s1 ⟨x, y, rfl⟩
          refine w_gT2 (x_if (w_tst (w_bin (w_V rfl (w_C ⟨_, rfl, _, rfl, fun _ => ?_, fun hb2 => ?_⟩)))))
          · exact x_raise (w_cons (w_V rfl (w_nil ⟨_, rfl, by rw [hlen], rfl⟩)))
          · have hc : ¬ (97 ≤ c ∧ c ≤ 122) := of_decide_eq_false hb
            simp only [Bool.not_eq_false', decide_eq_true_iff] at hb2
            exact absurd ((mem_abc c).mp hb2) hc
      obtain ⟨e, s', e1, rfl, e2⟩ := w
      rw [fnOf_ex e1, e2]

/-- runs_of(row): slots 0:row 1:found 2:letter -/
noncomputable def b_runs_of : M Fl :=
    (mSeq (mSetO 1 mNil)
    (mSeq (mFor (mIt itS (mVar 0)) (gV 2) (mIf (mAnd (mTst (mOwn 1 neO (mLst mNil))) (mTst (mBin eqSc (mBin ixF (mOwn 1 ixO (mUn negI (mC (.int 1)))) (mC (.int 0))) (mVar 2)))) (mSetIxO 1 (mTup (mCons (mVar 2) (mCons (mBin addI (mBin ixF (mOwn 1 ixO (mUn negI (mC (.int 1)))) (mC (.int 1))) (mC (.int 1))) mNil))) (mUn negI (mC (.int 1)))) (mDrop (mAppO 1 (mTup (mCons (mVar 2) (mCons (mC (.int 1)) mNil)))))))
    (mRet (mVar 1))))
/-- a text that fits -/
def rok (s : List Nat) : Prop := s.length ≤ 1000000 ∧ ∀ c ∈ s, c < 1114112
def encR (p : Nat × Nat) : D := .tup [.str [p.1], .int (p.2 : Nat)]
noncomputable def n_runs_of : Fn := fun ds hp => match ds with
  | [.str s] => if rok s then some (.ok (.lst ((runs s).map encR)) hp) else none
  | _ => none
theorem eqd_nil_r (l : List D) (h : pls 1 l = true) : eqd (.lst l) (.lst []) = some (decide (l = [])) := by
  obtain ⟨p, e, c, d⟩ := pls_toP 1 l h
  unfold eqd
  rw [toP_lst, e]
  show (if SeqAt.shaped (.list p) = true ∧ SeqAt.shaped (.list []) = true then some (PyData.eqv (.list p) (.list [])) else none) = _
  rw [if_pos]
  · cases l with
    | nil => cases e; rfl
    | cons x l =>
      rw [toPs_cons] at e
      split at e
      · cases e
        rfl
      · cases e
  · constructor
    · show (PyData.canLayAll0 p && decide (PyData.depthAll p + 1 ≤ 64)) = true
      rw [c, decide_eq_true (by omega)]
      rfl
    · rfl
theorem runs_len (l : List Nat) : (runs l).length ≤ l.length := by
  have := runs_eqs l
  omega
theorem pls_runs : ∀ r : List (Nat × Nat), (∀ p ∈ r, p.1 < 1114112) → pls 1 (r.map encR) = true
  | [], _ => rfl
  | p :: r, h => by
    rw [List.map_cons, pls, pls_runs r fun q hq => h q (List.mem_cons_of_mem _ hq), Bool.and_true]
    show pls 0 [.str [p.1], .int (p.2 : Nat)] = true
    rw [pls, pls, pls]
    show (decide (p.1 < 1114112) && true && (true && true)) = true
    rw [decide_eq_true (h p List.mem_cons_self)]
    rfl
theorem runs_mem : ∀ (l : List Nat) (p : Nat × Nat), p ∈ runs l → p.1 ∈ l
  | [], p, h => by cases h
  | c :: l, p, h => by
    have ih := runs_mem l
    unfold runs at h
    split at h
    · rw [List.mem_singleton] at h
      rw [h]
      exact List.mem_cons_self
    · rename_i d n r e
      rw [e] at ih
      split at h
      · rcases List.mem_cons.mp h with h | h
        · rw [h]
          exact List.mem_cons_of_mem _ (ih (d, n) List.mem_cons_self)
        · exact List.mem_cons_of_mem _ (ih p (List.mem_cons_of_mem _ h))
      · rcases List.mem_cons.mp h with h | h
        · rw [h]
          exact List.mem_cons_self
        · exact List.mem_cons_of_mem _ (ih p h)
theorem ixN_last {α : Type} (xs : List α) (v : α) : ixN (xs ++ [v]).length (-1) = some xs.length := by
  unfold ixN
  rw [if_neg (by decide), if_pos (by rw [List.length_append, List.length_singleton]; omega)]
  congr 1
  rw [List.length_append, List.length_singleton]
  omega
theorem snoc_or {α : Type} (l : List α) : l = [] ∨ ∃ a b, l = a ++ [b] := by
  rcases List.eq_nil_or_concat l with h | ⟨a, b, h⟩
  · exact .inl h
  · exact .inr ⟨a, b, by rw [h, List.concat_eq_append]⟩
def runs_body : M Fl := mIf (mAnd (mTst (mOwn 1 neO (mLst mNil))) (mTst (mBin eqSc (mBin ixF (mOwn 1 ixO (mUn negI (mC (.int 1)))) (mC (.int 0))) (mVar 2)))) (mSetIxO 1 (mTup (mCons (mVar 2) (mCons (mBin addI (mBin ixF (mOwn 1 ixO (mUn negI (mC (.int 1)))) (mC (.int 1))) (mC (.int 1))) mNil))) (mUn negI (mC (.int 1)))) (mDrop (mAppO 1 (mTup (mCons (mVar 2) (mCons (mC (.int 1)) mNil)))))
theorem tup2_e {a b : M D} {x y : D} {s s1 s2 : A} (e1 : a s = some (.ok x s1)) (e2 : b s1 = some (.ok y s2)) : mTup (mCons a (mCons b mNil)) s = some (.ok (.tup [x, y]) s2) := by
  unfold mTup mCons mNil
  rw [bnd_e (a := [x, y]) (s' := s2) (by rw [bnd_e e1]; rw [bnd_e (a := [y]) (s' := s2) (by rw [bnd_e e2]; rfl)]; rfl), tupD_e (by show 2 ≤ _; decide)]
  rfl
theorem mOwn_e {i : Nat} {f : List D → D → Option D} {m : M D} {s s' : A} {l l' : List D} {d z : D} (h1 : getO s i = some l) (h2 : m s = some (.ok d s')) (h3 : getO s' i = some l') (h4 : f l' d = some z) : mOwn i f m s = some (.ok z s') := by
  unfold mOwn
  rw [h1]
  show bnd m _ s = _
  rw [bnd_e h2]
  show (match getO s' i with | some l => _ | none => none) = _
  rw [h3]
  show (match f l' d with | some z => _ | none => none) = _
  rw [h4]
theorem mAppO_e {i : Nat} {m : M D} {s s' : A} {l l' : List D} {d : D} (h1 : getO s i = some l) (h2 : m s = some (.ok d s')) (h3 : getO s' i = some l') (h4 : l'.length < 16777216) : mAppO i m s = some (.ok .non (setO s' i (l' ++ [d]))) := by
  unfold mAppO
  rw [h1]
  show bnd m _ s = _
  rw [bnd_e h2]
  show (match getO s' i with | some l => _ | none => none) = _
  rw [h3]
  exact if_pos (by rw [SL]; exact h4)
theorem mExtO_e {i : Nat} {m : M D} {s s' : A} {l l' x : List D} (h1 : getO s i = some l) (h2 : m s = some (.ok (.lst x) s')) (h3 : getO s' i = some l') (h4 : l'.length + x.length ≤ 16777216) : mExtO i m s = some (.ok .non (setO s' i (l' ++ x))) := by
  unfold mExtO
  rw [h1]
  show bnd m _ s = _
  rw [bnd_e h2]
  show (match D.lst x, getO s' i with | .lst l', some l => _ | _, _ => none) = _
  rw [h3]
  exact if_pos (by rw [SL]; exact h4)
theorem mSetIxO_e {i j : Nat} {mv mk : M D} {s s1 s2 : A} {l l' : List D} {d : D} {k : Int} (h0 : mv s = some (.ok d s1)) (h1 : getO s1 i = some l) (h2 : mk s1 = some (.ok (.int k) s2)) (h3 : getO s2 i = some l') (h4 : ixN l'.length k = some j) :
    mSetIxO i mv mk s = some (.ok .nx (setO s2 i (l'.set j d))) := by
  unfold mSetIxO
  rw [bnd_e h0]
  show (match getO s1 i with | some _ => _ | none => none) = _
  rw [h1]
  show bnd mk _ s1 = _
  rw [bnd_e h2]
  show (match D.int k, getO s2 i with | .int k, some l => _ | _, _ => none) = _
  rw [h3]
  show (match ixN l'.length k with | some j => _ | none => none) = _
  rw [h4]
theorem runs_step (a : D) (R : List (Nat × Nat)) (c : Nat) (hp : List AO) (hR : ∀ p ∈ R, p.1 < 1114112) (hl : R.length ≤ 1000000) :
    runs_body (st [vl a, ow (R.map encR), vl (.str [c])] hp) = some (.ok .nx (st [vl a, ow ((pushR R c).map encR), vl (.str [c])] hp)) := by
  have app : mDrop (mAppO 1 (mTup (mCons (mVar 2) (mCons (mC (.int 1)) mNil)))) (st [vl a, ow (R.map encR), vl (.str [c])] hp) = some (.ok .nx (st [vl a, ow ((R ++ [(c, 1)]).map encR), vl (.str [c])] hp)) := by
    unfold mDrop
    rw [bnd_e (mAppO_e (l := R.map encR) (l' := R.map encR) rfl (tup2_e (mVar_e rfl) (mC_e _)) rfl (by rw [List.length_map]; omega)), List.map_append]
    rfl
  have ne0 : mTst (mOwn 1 neO (mLst mNil)) (st [vl a, ow (R.map encR), vl (.str [c])] hp) = some (.ok (!decide (R = [])) (st [vl a, ow (R.map encR), vl (.str [c])] hp)) := by
    refine mTst_e (mOwn_e (l := R.map encR) (l' := R.map encR) (d := .lst []) rfl ?_ rfl ?_)
    · show lft (lstD []) _ = _
      rw [lstD_e (by decide)]
      rfl
    · show (eqd (.lst (R.map encR)) (.lst [])).map _ = _
      rw [eqd_nil_r _ (pls_runs R hR)]
      cases R <;> rfl
  unfold runs_body
  rcases snoc_or R with rfl | ⟨R', ⟨d, n⟩, rfl⟩
  · rw [mIf_f (s' := st [vl a, ow [], vl (.str [c])] hp)]
    · exact app
    · unfold mAnd
      rw [bnd_e ne0]
      rfl
  · have ix : mOwn 1 ixO (mUn negI (mC (.int 1))) (st [vl a, ow ((R' ++ [(d, n)]).map encR), vl (.str [c])] hp) = some (.ok (encR (d, n)) (st [vl a, ow ((R' ++ [(d, n)]).map encR), vl (.str [c])] hp)) := by
      refine mOwn_e (l := (R' ++ [(d, n)]).map encR) (l' := (R' ++ [(d, n)]).map encR) (d := .int (-1)) rfl rfl rfl ?_
      show atI ((R' ++ [(d, n)]).map encR) (-1) = _
      rw [List.map_append]
      exact atI_last _ _
    have cond : mAnd (mTst (mOwn 1 neO (mLst mNil))) (mTst (mBin eqSc (mBin ixF (mOwn 1 ixO (mUn negI (mC (.int 1)))) (mC (.int 0))) (mVar 2))) (st [vl a, ow ((R' ++ [(d, n)]).map encR), vl (.str [c])] hp) = some (.ok (decide ([d] = [c])) (st [vl a, ow ((R' ++ [(d, n)]).map encR), vl (.str [c])] hp)) := by
      unfold mAnd
      rw [bnd_e ne0]
      have : (!decide (R' ++ [(d, n)] = [])) = true := by simp
      rw [this, if_pos rfl]
      exact mTst_e (mBin_e (mBin_e ix (mC_e _) rfl) (mVar_e rfl) rfl)
    by_cases h : d = c
    · subst h
      rw [mIf_t (s' := st [vl a, ow ((R' ++ [(d, n)]).map encR), vl (.str [d])] hp) (by rw [cond]; simp)]
      rw [mSetIxO_e (l := (R' ++ [(d, n)]).map encR) (l' := (R' ++ [(d, n)]).map encR) (k := -1) (j := R'.length) (tup2_e (mVar_e rfl) (mBin_e (mBin_e ix (mC_e _) rfl) (mC_e _) rfl)) rfl rfl rfl
        (by rw [List.map_append]; have := ixN_last (R'.map encR) (encR (d, n)); rw [List.length_map] at this; exact this)]
      have e1 : pushR (R' ++ [(d, n)]) d = R' ++ [(d, n + 1)] := by
        unfold pushR
        rw [List.getLast?_append]
        simp
      rw [e1]
      congr 2
      show st [vl a, ow (((R' ++ [(d, n)]).map encR).set R'.length _), vl (.str [d])] hp = _
      rw [List.map_append, List.map_append, List.set_append_right _ _ (by rw [List.length_map]; exact Nat.le_refl _), List.length_map, Nat.sub_self]
      rfl
    · rw [mIf_f (s' := st [vl a, ow ((R' ++ [(d, n)]).map encR), vl (.str [c])] hp) (by rw [cond]; simp [h])]
      rw [app]
      have e1 : pushR (R' ++ [(d, n)]) c = R' ++ [(d, n)] ++ [(c, 1)] := by
        unfold pushR
        rw [List.getLast?_append]
        simp [h]
      rw [e1]
theorem sp_runs_of : ∀ ds hp r, ds.length = 1 → n_runs_of ds hp = some r → fnOf 3 b_runs_of ds hp = some r := by
  intro ds hp r _ h
  match ds, h with
  | [.str s], h =>
    have h' : (if rok s then some (FR.ok (.lst ((runs s).map encR)) hp) else none) = some r := h
    by_cases hl : rok s
    · rw [if_pos hl] at h'
      cases h'
      obtain ⟨s', e1, e2⟩ := forL_pre (g := gV 2) (b := runs_body) (fun c : Nat => D.str [c]) (fun pre s' => ∃ x, s' = st [vl (.str s), ow ((runs pre).map encR), x] hp) s [] (st [vl (.str s), ow [], none] hp) ⟨none, rfl⟩
        (fun pre' a post s1 e p => by
          obtain ⟨x, rfl⟩ := p
          have e' : s = pre' ++ a :: post := e
          have hlen : pre'.length ≤ s.length := by rw [e', List.length_append]; omega
          exact ⟨st [vl (.str s), ow ((runs pre').map encR), vl (.str [a])] hp, st [vl (.str s), ow ((pushR (runs pre') a).map encR), vl (.str [a])] hp, .nx, rfl,
            runs_step _ _ _ _ (fun p hp => hl.2 _ (by rw [e']; exact List.mem_append_left _ (runs_mem _ _ hp))) (by have := runs_len pre'; have := hl.1; omega), .inl rfl, _, by rw [runs_snoc]⟩)
      obtain ⟨x, rfl⟩ := e2
      have e3 : b_runs_of (entA 3 [.str s] hp) = some (.ok (.rt (.lst ((runs s).map encR))) (st [vl (.str s), vl (.lst ((runs s).map encR)), x] hp)) := by
        unfold b_runs_of
        rw [mSeq_e (s' := st [vl (.str s), ow [], none] hp) (by show (if ([] : List D).length ≤ sizeLine then _ else none) = _; rw [if_pos (by rw [SL]; decide)]; rfl)]
        rw [mSeq_e (s' := st [vl (.str s), ow ((runs s).map encR), x] hp) (by rw [mFor_e (l := s.map fun c => .str [c]) (s' := st [vl (.str s), ow [], none] hp) rfl]; exact e1)]
        rfl
      rw [fnOf_rt e3]
    · rw [if_neg hl] at h'
      cases h'
theorem runs_of_e {s : List Nat} {hp : List AO} (h : rok s) : n_runs_of [.str s] hp = some (.ok (.lst ((runs s).map encR)) hp) := if_pos h

-- uses: runs_of
theorem kp_mem {k : Nat → Bool} {R : List (Nat × Nat)} {c : Nat} (h : c ∈ kp k R) : ∃ p ∈ R, p.1 = c := by
  obtain ⟨p, hp, e⟩ := List.mem_filterMap.mp h
  refine ⟨p, hp, ?_⟩
  split at e
  · injection e
  · cases e
theorem sv1_mem {l : List Nat} {x c : Nat} (h : c ∈ sv1 l x) : c ∈ l := by
  obtain ⟨p, hp, rfl⟩ := kp_mem h
  exact runs_mem l p hp
theorem sv1_len (l : List Nat) (x : Nat) : (sv1 l x).length ≤ l.length := Nat.le_trans (List.length_filterMap_le _ _) (runs_len l)
theorem rok_sv1 {l : List Nat} {x : Nat} (h : rok l) : rok (sv1 l x) := ⟨Nat.le_trans (sv1_len l x) h.1, fun c hc => h.2 c (sv1_mem hc)⟩
theorem rok_sv {l : List Nat} (h : rok l) : ∀ p : List Nat, rok (sv l p)
  | [] => h
  | c :: p => rok_sv (rok_sv1 h) p
theorem sv1_fm (s : List Nat) (c : Nat) : (runs s).filterMap (fun p => if decide (decide (p.2 = 1) = decide (c = 83)) = true then some (D.str [p.1]) else none) = (sv1 s c).map fun c => D.str [c] := by
  unfold sv1 kp
  rw [List.map_filterMap]
  congr 1
  funext p
  split <;> rfl

-- uses: POOL
/-- a source of draws: its list, the rest, the mix, the count at most n -/
def SrcAt (hp : List AO) (r r0 : Nat) (n : Int) : Prop := ∃ (ds : List Int) (cur mix c : Int), hp[r]? = some (.lst [.ref r0, .int cur, .int mix, .int c]) ∧ hp[r0]? = some (.lst (ds.map D.int)) ∧ r0 ≠ r ∧ (∀ d ∈ ds, 0 ≤ d) ∧ 0 ≤ cur ∧ 0 ≤ mix ∧ mix < 2 ^ 61 ∧ 0 ≤ c ∧ c ≤ n
theorem SrcAt.le {hp : List AO} {r r0 : Nat} {n m : Int} (h : SrcAt hp r r0 n) (hm : n ≤ m) : SrcAt hp r r0 m := by
  obtain ⟨ds, cur, mix, c, h1, h2, h3, h4, h5, h6, h7, h8, h9⟩ := h
  exact ⟨ds, cur, mix, c, h1, h2, h3, h4, h5, h6, h7, h8, by omega⟩
/-- no object but these two is touched -/
def Only2 (r r0 : Nat) (hp hp' : List AO) : Prop := ∀ k, k ≠ r → k ≠ r0 → hp'[k]? = hp[k]?
theorem Only2.refl (r r0 : Nat) (hp : List AO) : Only2 r r0 hp hp := fun _ _ _ => rfl
theorem Only2.trans {r r0 : Nat} {a b c : List AO} (h : Only2 r r0 a b) (g : Only2 r r0 b c) : Only2 r r0 a c := fun k h1 h2 => (g k h1 h2).trans (h k h1 h2)
theorem only2_set {r r0 : Nat} {hp : List AO} (o : AO) : Only2 r r0 hp (hp.set r o) := fun k h1 _ => by
  rw [List.getElem?_set]
  simp [Ne.symm h1]
theorem only2_set0 {r r0 : Nat} {hp : List AO} (o : AO) : Only2 r r0 hp (hp.set r0 o) := fun k _ h2 => by
  rw [List.getElem?_set]
  simp [Ne.symm h2]
theorem set_get {hp : List AO} {r : Nat} {o : AO} (h : hp[r]? = some o) (o' : AO) : (hp.set r o')[r]? = some o' := by
  obtain ⟨hlt, _⟩ := List.getElem?_eq_some_iff.mp h
  rw [List.getElem?_set]
  simp [hlt]
theorem set_ne {hp : List AO} {r k : Nat} (h : k ≠ r) (o : AO) : (hp.set r o)[k]? = hp[k]? := by
  rw [List.getElem?_set]
  simp [Ne.symm h]
theorem pls_ints : ∀ ds : List Int, pls 59 (ds.map D.int) = true
  | [] => rfl
  | d :: ds => by
    rw [List.map_cons, pls, pls_ints ds]
    rfl
theorem eqd_ints (ds : List Int) : eqd (.lst (ds.map D.int)) (.lst []) = some (decide (ds = [])) := by
  rw [eqd_pl (show pl 60 (.lst (ds.map D.int)) = true from pls_ints ds) rfl]
  cases ds <;> simp

-- uses: runs_of SV1 SRC BASE
/-- the attributes of a live row -/
def liveF (rows : List (List Nat)) (steps : List Nat) : List (Str × D) := [("passed", .lst (rows.map D.str)), ("applied", .str steps)]
theorem live_p (rows : List (List Nat)) (steps : List Nat) : (liveF rows steps).lookup ("passed" : Str) = some (D.lst (rows.map D.str)) := by
  unfold liveF
  rw [List.lookup_cons, show (("passed" : Str) == "passed") = true by decide]
theorem live_a (rows : List (List Nat)) (steps : List Nat) : (liveF rows steps).lookup ("applied" : Str) = some (D.str steps) := by
  unfold liveF
  rw [List.lookup_cons, show (("applied" : Str) == "passed") = false by decide, List.lookup_cons, show (("applied" : Str) == "applied") = true by decide]
theorem live_no {m : Str} (h1 : (m == ("passed" : Str)) = false) (h2 : (m == ("applied" : Str)) = false) (rows : List (List Nat)) (steps : List Nat) : (liveF rows steps).lookup m = none := by
  unfold liveF
  rw [List.lookup_cons, h1, List.lookup_cons, h2]
  rfl
theorem put_p (v : List (List Nat)) (rows : List (List Nat)) (steps : List Nat) : putD "passed" (.lst (v.map D.str)) (liveF rows steps) = liveF v steps := if_pos rfl
theorem put_a (v : List Nat) (rows : List (List Nat)) (steps : List Nat) : putD "applied" (.str v) (liveF rows steps) = liveF rows v := by
  unfold liveF
  show (if ("passed" : Str) = "applied" then _ else _) = _
  rw [if_neg (by decide)]
  congr 1
def liveO (rows : List (List Nat)) (steps : List Nat) : AO := .ins "SieveRow" (liveF rows steps)
def LiveAt (hp : List AO) (r : Nat) (rows : List (List Nat)) (steps : List Nat) : Prop := hp[r]? = some (liveO rows steps)
theorem LiveAt.set {hp : List AO} {r : Nat} {o : AO} (h : hp[r]? = some o) (rows : List (List Nat)) (steps : List Nat) : LiveAt (hp.set r (liveO rows steps)) r rows steps := set_get h _
/-- the row at the start and after each sieve -/
def trail (s : List Nat) : List Nat → List (List Nat)
  | [] => [s]
  | c :: p => s :: trail (sv1 s c) p
theorem trail_snoc : ∀ (p s : List Nat) (c : Nat), trail s (p ++ [c]) = trail s p ++ [sv s (p ++ [c])]
  | [], s, c => rfl
  | d :: p, s, c => by
    show s :: trail (sv1 s d) (p ++ [c]) = s :: (trail (sv1 s d) p ++ [sv (sv1 s d) (p ++ [c])])
    rw [trail_snoc p]
theorem trail_len : ∀ (p s : List Nat), (trail s p).length = p.length + 1
  | [], s => rfl
  | d :: p, s => by
    show (trail (sv1 s d) p).length + 1 = _
    rw [trail_len p]
    rfl
theorem trail_end : ∀ (p s : List Nat), ∃ X, trail s p = X ++ [sv s p]
  | [], s => ⟨[], rfl⟩
  | d :: p, s => by
    obtain ⟨X, e⟩ := trail_end p (sv1 s d)
    refine ⟨s :: X, ?_⟩
    show s :: trail (sv1 s d) p = _
    rw [e]
    rfl
theorem trail_mem : ∀ {p s l : List Nat}, l ∈ trail s p → ∃ q, l = sv s q
  | [], s, l, h => ⟨[], List.mem_singleton.mp h⟩
  | d :: p, s, l, h => by
    rcases List.mem_cons.mp h with rfl | h
    · exact ⟨[], rfl⟩
    · obtain ⟨q, e⟩ := trail_mem h
      exact ⟨d :: q, e⟩
theorem trail_last (p s : List Nat) : atI ((trail s p).map D.str) (-1) = some (.str (sv s p)) := by
  obtain ⟨X, e⟩ := trail_end p s
  rw [e, List.map_append]
  exact atI_last _ _
theorem pls_rows {n : Nat} : ∀ {rows : List (List Nat)}, (∀ l ∈ rows, ∀ c ∈ l, c < 1114112) → pls n (rows.map D.str) = true
  | [], _ => by rw [List.map_nil, pls]
  | l :: rows, h => by
    rw [List.map_cons, pls, pls_rows fun l hl => h l (List.mem_cons_of_mem _ hl), Bool.and_true]
    have h1 := h l List.mem_cons_self
    cases n <;> exact List.all_eq_true.mpr fun c hc => decide_eq_true (h1 c hc)
theorem joinL_flat : ∀ ws : List (List Nat), joinL [] ws = ws.flatten
  | [] => rfl
  | [w] => by simp [joinL]
  | w :: v :: ws => by
    show w ++ ([] ++ joinL [] (v :: ws)) = _
    rw [joinL_flat (v :: ws)]
    rfl
theorem joinD_lst {ws : List (List Nat)} (h : ws.flatten.length ≤ 16777216) : joinD [] (.lst (ws.map D.str)) = some (.str ws.flatten) := by
  unfold joinD
  show (match strsD (ws.map D.str) with | some ys => _ | none => none) = _
  rw [strsD_str]
  show (if (ws.map (·.length)).sum + ws.length * 0 ≤ 16777216 then some (D.str (joinL [] ws)) else none) = _
  rw [if_pos (by rw [List.length_flatten] at h; omega), joinL_flat]
theorem joinD_tup {ws : List (List Nat)} (h : ws.flatten.length ≤ 16777216) : joinD [] (.tup (ws.map D.str)) = some (.str ws.flatten) := joinD_lst h
theorem w_setIxO {s : A} {i : Nat} {mv mk : M D} {Q : Fl → A → Prop} (h : Wp mv s fun d s1 => (∃ l, getO s1 i = some l) ∧ Wp mk s1 fun k s2 => ∃ n l j, k = .int n ∧ getO s2 i = some l ∧ ixN l.length n = some j ∧ Q .nx (setO s2 i (l.set j d))) : Wp (mSetIxO i mv mk) s Q :=
  w_bnd (h.mono fun d s1 ⟨⟨l0, e0⟩, k, s2, ek, n, l, j, en, e1, e2, q⟩ => by
    subst en
    refine ⟨.nx, _, ?_, q⟩
    show (match getO s1 i with | some _ => _ | none => none) = _
    rw [e0]
    show bnd mk _ s1 = _
    rw [bnd_e ek]
    show (match D.int n, getO s2 i with | .int k, some l => _ | _, _ => none) = _
    rw [e1]
    show (match ixN l.length n with | some j => _ | none => none) = _
    rw [e2])
theorem app_at {hp : List AO} {o : AO} : (hp ++ [o])[hp.length]? = some o := by
  rw [List.getElem?_append_right (Nat.le_refl _), Nat.sub_self]
  rfl
theorem app_set {hp : List AO} {o o' : AO} : (hp ++ [o]).set hp.length o' = hp ++ [o'] := by
  rw [List.set_append_right _ _ (Nat.le_refl _), Nat.sub_self]
  rfl
theorem LiveAt.app {hp : List AO} {r : Nat} {rows : List (List Nat)} {steps : List Nat} (h : LiveAt hp r rows steps) (l : List AO) : LiveAt (hp ++ l) r rows steps := by
  unfold LiveAt
  rw [List.getElem?_append_left (List.getElem?_eq_some_iff.mp h).1]
  exact h
theorem LiveAt.lt {hp : List AO} {r : Nat} {rows : List (List Nat)} {steps : List Nat} (h : LiveAt hp r rows steps) : r < hp.length := (List.getElem?_eq_some_iff.mp h).1
def stD (s p : List Nat) : D := .lst [.lst ((trail s p).map D.str), .str p]

/-- SieveRow.__init__(self, row): slots 0:self 1:row -/
noncomputable def b_SieveRow___init__ : M Fl :=
    (mSeq (mDrop (mCall 1 n_check_row (mCons (mVar 1) mNil)))
    (mSeq (mSFld "SieveRow" "passed" (mLst (mCons (mVar 1) mNil)) (mVar 0))
    (mSFld "SieveRow" "applied" (mC (.str [])) (mVar 0))))
noncomputable abbrev n_SieveRow___init__ : Fn := fnOf 2 b_SieveRow___init__
-- uses: LIVE
theorem w_SieveRow___init__ {r : Nat} {s : List Nat} {hp : List AO} {Q : D → List AO → Prop} (h : hp[r]? = some (.ins "SieveRow" [])) (hl : low s) (q : Q .non (hp.set r (liveO (trail s []) []))) : FnWp n_SieveRow___init__ [.ref r, .str s] hp Q := by
  apply w_fnOf
  unfold b_SieveRow___init__
  refine w_seq (w_drop (w_call (w_cons (w_V rfl (w_nil ⟨rfl, w_eq (if_pos hl) ?_⟩)))))
  refine w_seq (w_sfld (w_lst (w_cons (w_V rfl (w_nil ⟨rfl, w_V rfl ⟨_, getI_e h, by decide, ?_⟩⟩)))))
  refine w_sfld (w_C (w_V rfl ⟨_, getI_e (set_get h _), Nat.le_of_ble_eq_true rfl, ?_⟩))
  show Q .non ((hp.set r (.ins "SieveRow" (putD "passed" (.lst [.str s]) []))).set r (.ins "SieveRow" (putD "applied" (.str []) (putD "passed" (.lst [.str s]) []))))
  rw [List.set_set]
  have e : putD "applied" (.str []) (putD "passed" (.lst [.str s]) []) = liveF (trail s []) [] := by
    show (if ("passed" : Str) = "applied" then _ else _) = _
    rw [if_neg (by decide)]
    rfl
  rw [e]
  exact q
theorem x_SieveRow___init__ {r : Nat} {s : List Nat} {hp : List AO} {E : Exn → List AO → Prop} (hl : ¬ low s) (q : E ⟨.row, .int (fbad lowB s : Nat)⟩ hp) : FnXp n_SieveRow___init__ [.ref r, .str s] hp E := by
  apply x_fnOf
  unfold b_SieveRow___init__
  exact x_seq (x_drop (x_call (w_cons (w_V rfl (w_nil ⟨rfl, x_eq (if_neg hl) q⟩)))))
theorem sp_SieveRow___init__ : ∀ ds hp r, ds.length = 2 → n_SieveRow___init__ ds hp = some r → fnOf 2 b_SieveRow___init__ ds hp = some r := fun _ _ _ _ h => h

/-- _law_draw(pool, many): slots 0:pool 1:many 2:drawn 3:mixed -/
noncomputable def b_law_draw_3 : M Fl :=
    (mSeq (mIf (mTst (mBin gtI (mIxH (mVar 0) (mC (.int 0))) (mC (.int 0)))) (mSeq (mAsg (mBin modI (mIxH (mVar 0) (mC (.int 0))) (mVar 1)) (gV 2))
    (mSeq (mSetIxH (mBin divI (mIxH (mVar 0) (mC (.int 0))) (mVar 1)) (mVar 0) (mC (.int 0)))
    (mRet (mVar 2)))) mNx)
    (mSeq (mSetIxH (mBin addI (mIxH (mVar 0) (mC (.int 2))) (mC (.int 1))) (mVar 0) (mC (.int 2)))
    (mSeq (mAsg (mBin modI (mBin powI (mBin addI (mIxH (mVar 0) (mC (.int 1))) (mBin mulI (mC (.int 15490781)) (mIxH (mVar 0) (mC (.int 2))))) (mC (.int 3))) (mC (.int 162259276829213363391578010288127))) (gV 3))
    (mSeq (mAsg (mBin modI (mBin powI (mBin addI (mVar 3) (mBin mulI (mC (.int 32453321)) (mIxH (mVar 0) (mC (.int 2))))) (mC (.int 5))) (mC (.int 170141183460469231731687303715884105727))) (gV 3))
    (mRet (mBin modI (mBin divI (mVar 3) (mC (.int 1048576))) (mVar 1)))))))
noncomputable abbrev n_law_draw_3 : Fn := fnOf 4 b_law_draw_3
-- uses: POOL
theorem law_draw_get {hp : List AO} {r : Nat} {l : List D} (h : hp[r]? = some (.lst l)) (l' : List D) : (hp.set r (.lst l'))[r]? = some (.lst l') := by
  obtain ⟨hlt, _⟩ := List.getElem?_eq_some_iff.mp h
  rw [List.getElem?_set]
  simp [hlt]
theorem w_law_draw_3 {r : Nat} {many n : Int} {hp : List AO} {Q : D → List AO → Prop} (hm : 0 < many) (hm2 : many < 2 ^ 60) (hn : n ≤ 1000000) (h : PoolAt hp r n)
    (q : ∀ (x : Int) hp', 0 ≤ x → x < many → Only r hp hp' → PoolAt hp' r (n + 1) → Q (.int x) hp') : FnWp n_law_draw_3 [.ref r, .int many] hp Q := by
  obtain ⟨d, s, c, hr, hd, hs, hs2, hc, hcn⟩ := h
  apply w_fnOf
  unfold b_law_draw_3
  have g0 : ∀ {sl}, getH (st sl hp) (.ref r) = some [.int d, .int s, .int c] := fun {sl} => getH_e hr
  have g1 : ∀ {sl}, getH (st sl (hp.set r (.lst [.int d, .int s, .int (c + 1)]))) (.ref r) = some [.int d, .int s, .int (c + 1)] := fun {sl} => getH_e (law_draw_get hr _)
  (repeat (first | refine w_seq ?_ | refine w_set ?_ | refine w_asg ?_ | refine w_gV ?_ | refine w_gT2 ?_ | refine w_gL2 ?_ | refine w_rt ?_ | refine w_drop ?_ | refine w_par ?_ | refine w_aug rfl ?_ | refine w_nx ?_ | refine w_and ?_ | refine w_or ?_ | refine w_not ?_ | refine w_tst ?_ | refine w_if ?_ | refine w_andV ?_ | refine w_orV ?_ | refine w_tup ?_ | refine w_lst ?_ | refine w_lstH ?_ | refine w_bin ?_ | refine w_un ?_ | refine w_fn ?_ | refine w_it ?_ | refine w_itA ?_ | refine w_cons ?_ | refine w_nil ?_ | refine w_V rfl ?_ | refine w_VO rfl ?_ | refine w_C ?_ | refine w_sl ?_ | refine w_so ?_ | refine w_no ?_ | refine w_call ?_ | refine w_join ?_ | refine w_setO ?_ | refine w_ixH ?_ | refine w_setIxH ?_ | refine w_cmpH ?_ | refine w_pop0H ?_ | refine w_appH ?_ | refine w_par3 ?_ | refine w_joinH ?_ | refine w_perm ?_ | refine w_split ?_ | refine w_notV ?_ | refine w_ret ?_ | refine And.intro rfl ?_ | refine Exists.intro _ (And.intro rfl ?_)))
  refine ⟨_, _, _, rfl, g0, rfl, ?_⟩
  (repeat (first | refine w_seq ?_ | refine w_set ?_ | refine w_asg ?_ | refine w_gV ?_ | refine w_gT2 ?_ | refine w_gL2 ?_ | refine w_rt ?_ | refine w_drop ?_ | refine w_par ?_ | refine w_aug rfl ?_ | refine w_nx ?_ | refine w_and ?_ | refine w_or ?_ | refine w_not ?_ | refine w_tst ?_ | refine w_if ?_ | refine w_andV ?_ | refine w_orV ?_ | refine w_tup ?_ | refine w_lst ?_ | refine w_lstH ?_ | refine w_bin ?_ | refine w_un ?_ | refine w_fn ?_ | refine w_it ?_ | refine w_itA ?_ | refine w_cons ?_ | refine w_nil ?_ | refine w_V rfl ?_ | refine w_VO rfl ?_ | refine w_C ?_ | refine w_sl ?_ | refine w_so ?_ | refine w_no ?_ | refine w_call ?_ | refine w_join ?_ | refine w_setO ?_ | refine w_ixH ?_ | refine w_setIxH ?_ | refine w_cmpH ?_ | refine w_pop0H ?_ | refine w_appH ?_ | refine w_par3 ?_ | refine w_joinH ?_ | refine w_perm ?_ | refine w_split ?_ | refine w_notV ?_ | refine w_ret ?_ | refine And.intro rfl ?_ | refine Exists.intro _ (And.intro rfl ?_)))
  refine ⟨fun hb => ?_, fun hb => ?_⟩
  · (repeat (first | refine w_seq ?_ | refine w_set ?_ | refine w_asg ?_ | refine w_gV ?_ | refine w_gT2 ?_ | refine w_gL2 ?_ | refine w_rt ?_ | refine w_drop ?_ | refine w_par ?_ | refine w_aug rfl ?_ | refine w_nx ?_ | refine w_and ?_ | refine w_or ?_ | refine w_not ?_ | refine w_tst ?_ | refine w_if ?_ | refine w_andV ?_ | refine w_orV ?_ | refine w_tup ?_ | refine w_lst ?_ | refine w_lstH ?_ | refine w_bin ?_ | refine w_un ?_ | refine w_fn ?_ | refine w_it ?_ | refine w_itA ?_ | refine w_cons ?_ | refine w_nil ?_ | refine w_V rfl ?_ | refine w_VO rfl ?_ | refine w_C ?_ | refine w_sl ?_ | refine w_so ?_ | refine w_no ?_ | refine w_call ?_ | refine w_join ?_ | refine w_setO ?_ | refine w_ixH ?_ | refine w_setIxH ?_ | refine w_cmpH ?_ | refine w_pop0H ?_ | refine w_appH ?_ | refine w_par3 ?_ | refine w_joinH ?_ | refine w_perm ?_ | refine w_split ?_ | refine w_notV ?_ | refine w_ret ?_ | refine And.intro rfl ?_ | refine Exists.intro _ (And.intro rfl ?_)))
    refine ⟨_, _, _, rfl, g0, rfl, ?_⟩
    (repeat (first | refine w_seq ?_ | refine w_set ?_ | refine w_asg ?_ | refine w_gV ?_ | refine w_gT2 ?_ | refine w_gL2 ?_ | refine w_rt ?_ | refine w_drop ?_ | refine w_par ?_ | refine w_aug rfl ?_ | refine w_nx ?_ | refine w_and ?_ | refine w_or ?_ | refine w_not ?_ | refine w_tst ?_ | refine w_if ?_ | refine w_andV ?_ | refine w_orV ?_ | refine w_tup ?_ | refine w_lst ?_ | refine w_lstH ?_ | refine w_bin ?_ | refine w_un ?_ | refine w_fn ?_ | refine w_it ?_ | refine w_itA ?_ | refine w_cons ?_ | refine w_nil ?_ | refine w_V rfl ?_ | refine w_VO rfl ?_ | refine w_C ?_ | refine w_sl ?_ | refine w_so ?_ | refine w_no ?_ | refine w_call ?_ | refine w_join ?_ | refine w_setO ?_ | refine w_ixH ?_ | refine w_setIxH ?_ | refine w_cmpH ?_ | refine w_pop0H ?_ | refine w_appH ?_ | refine w_par3 ?_ | refine w_joinH ?_ | refine w_perm ?_ | refine w_split ?_ | refine w_notV ?_ | refine w_ret ?_ | refine And.intro rfl ?_ | refine Exists.intro _ (And.intro rfl ?_)))
    refine ⟨_, modI_e hm, ?_⟩
    (repeat (first | refine w_seq ?_ | refine w_set ?_ | refine w_asg ?_ | refine w_gV ?_ | refine w_gT2 ?_ | refine w_gL2 ?_ | refine w_rt ?_ | refine w_drop ?_ | refine w_par ?_ | refine w_aug rfl ?_ | refine w_nx ?_ | refine w_and ?_ | refine w_or ?_ | refine w_not ?_ | refine w_tst ?_ | refine w_if ?_ | refine w_andV ?_ | refine w_orV ?_ | refine w_tup ?_ | refine w_lst ?_ | refine w_lstH ?_ | refine w_bin ?_ | refine w_un ?_ | refine w_fn ?_ | refine w_it ?_ | refine w_itA ?_ | refine w_cons ?_ | refine w_nil ?_ | refine w_V rfl ?_ | refine w_VO rfl ?_ | refine w_C ?_ | refine w_sl ?_ | refine w_so ?_ | refine w_no ?_ | refine w_call ?_ | refine w_join ?_ | refine w_setO ?_ | refine w_ixH ?_ | refine w_setIxH ?_ | refine w_cmpH ?_ | refine w_pop0H ?_ | refine w_appH ?_ | refine w_par3 ?_ | refine w_joinH ?_ | refine w_perm ?_ | refine w_split ?_ | refine w_notV ?_ | refine w_ret ?_ | refine And.intro rfl ?_ | refine Exists.intro _ (And.intro rfl ?_)))
    refine ⟨_, _, _, rfl, g0, rfl, ?_⟩
    (repeat (first | refine w_seq ?_ | refine w_set ?_ | refine w_asg ?_ | refine w_gV ?_ | refine w_gT2 ?_ | refine w_gL2 ?_ | refine w_rt ?_ | refine w_drop ?_ | refine w_par ?_ | refine w_aug rfl ?_ | refine w_nx ?_ | refine w_and ?_ | refine w_or ?_ | refine w_not ?_ | refine w_tst ?_ | refine w_if ?_ | refine w_andV ?_ | refine w_orV ?_ | refine w_tup ?_ | refine w_lst ?_ | refine w_lstH ?_ | refine w_bin ?_ | refine w_un ?_ | refine w_fn ?_ | refine w_it ?_ | refine w_itA ?_ | refine w_cons ?_ | refine w_nil ?_ | refine w_V rfl ?_ | refine w_VO rfl ?_ | refine w_C ?_ | refine w_sl ?_ | refine w_so ?_ | refine w_no ?_ | refine w_call ?_ | refine w_join ?_ | refine w_setO ?_ | refine w_ixH ?_ | refine w_setIxH ?_ | refine w_cmpH ?_ | refine w_pop0H ?_ | refine w_appH ?_ | refine w_par3 ?_ | refine w_joinH ?_ | refine w_perm ?_ | refine w_split ?_ | refine w_notV ?_ | refine w_ret ?_ | refine And.intro rfl ?_ | refine Exists.intro _ (And.intro rfl ?_)))
    refine ⟨_, divI_e hm (by omega), ?_⟩
    (repeat (first | refine w_seq ?_ | refine w_set ?_ | refine w_asg ?_ | refine w_gV ?_ | refine w_gT2 ?_ | refine w_gL2 ?_ | refine w_rt ?_ | refine w_drop ?_ | refine w_par ?_ | refine w_aug rfl ?_ | refine w_nx ?_ | refine w_and ?_ | refine w_or ?_ | refine w_not ?_ | refine w_tst ?_ | refine w_if ?_ | refine w_andV ?_ | refine w_orV ?_ | refine w_tup ?_ | refine w_lst ?_ | refine w_lstH ?_ | refine w_bin ?_ | refine w_un ?_ | refine w_fn ?_ | refine w_it ?_ | refine w_itA ?_ | refine w_cons ?_ | refine w_nil ?_ | refine w_V rfl ?_ | refine w_VO rfl ?_ | refine w_C ?_ | refine w_sl ?_ | refine w_so ?_ | refine w_no ?_ | refine w_call ?_ | refine w_join ?_ | refine w_setO ?_ | refine w_ixH ?_ | refine w_setIxH ?_ | refine w_cmpH ?_ | refine w_pop0H ?_ | refine w_appH ?_ | refine w_par3 ?_ | refine w_joinH ?_ | refine w_perm ?_ | refine w_split ?_ | refine w_notV ?_ | refine w_ret ?_ | refine And.intro rfl ?_ | refine Exists.intro _ (And.intro rfl ?_)))
    refine ⟨_, _, 0, rfl, g0, rfl, ?_⟩
    (repeat (first | refine w_seq ?_ | refine w_set ?_ | refine w_asg ?_ | refine w_gV ?_ | refine w_gT2 ?_ | refine w_gL2 ?_ | refine w_rt ?_ | refine w_drop ?_ | refine w_par ?_ | refine w_aug rfl ?_ | refine w_nx ?_ | refine w_and ?_ | refine w_or ?_ | refine w_not ?_ | refine w_tst ?_ | refine w_if ?_ | refine w_andV ?_ | refine w_orV ?_ | refine w_tup ?_ | refine w_lst ?_ | refine w_lstH ?_ | refine w_bin ?_ | refine w_un ?_ | refine w_fn ?_ | refine w_it ?_ | refine w_itA ?_ | refine w_cons ?_ | refine w_nil ?_ | refine w_V rfl ?_ | refine w_VO rfl ?_ | refine w_C ?_ | refine w_sl ?_ | refine w_so ?_ | refine w_no ?_ | refine w_call ?_ | refine w_join ?_ | refine w_setO ?_ | refine w_ixH ?_ | refine w_setIxH ?_ | refine w_cmpH ?_ | refine w_pop0H ?_ | refine w_appH ?_ | refine w_par3 ?_ | refine w_joinH ?_ | refine w_perm ?_ | refine w_split ?_ | refine w_notV ?_ | refine w_ret ?_ | refine And.intro rfl ?_ | refine Exists.intro _ (And.intro rfl ?_)))
    exact q _ _ (Int.emod_nonneg _ (by omega)) (Int.emod_lt_of_pos _ hm) (only_set _) ⟨d / many, s, c, law_draw_get hr _, Int.ediv_nonneg hd (by omega), hs, hs2, hc, by omega⟩
  · (repeat (first | refine w_seq ?_ | refine w_set ?_ | refine w_asg ?_ | refine w_gV ?_ | refine w_gT2 ?_ | refine w_gL2 ?_ | refine w_rt ?_ | refine w_drop ?_ | refine w_par ?_ | refine w_aug rfl ?_ | refine w_nx ?_ | refine w_and ?_ | refine w_or ?_ | refine w_not ?_ | refine w_tst ?_ | refine w_if ?_ | refine w_andV ?_ | refine w_orV ?_ | refine w_tup ?_ | refine w_lst ?_ | refine w_lstH ?_ | refine w_bin ?_ | refine w_un ?_ | refine w_fn ?_ | refine w_it ?_ | refine w_itA ?_ | refine w_cons ?_ | refine w_nil ?_ | refine w_V rfl ?_ | refine w_VO rfl ?_ | refine w_C ?_ | refine w_sl ?_ | refine w_so ?_ | refine w_no ?_ | refine w_call ?_ | refine w_join ?_ | refine w_setO ?_ | refine w_ixH ?_ | refine w_setIxH ?_ | refine w_cmpH ?_ | refine w_pop0H ?_ | refine w_appH ?_ | refine w_par3 ?_ | refine w_joinH ?_ | refine w_perm ?_ | refine w_split ?_ | refine w_notV ?_ | refine w_ret ?_ | refine And.intro rfl ?_ | refine Exists.intro _ (And.intro rfl ?_)))
    refine ⟨_, _, _, rfl, g0, rfl, ?_⟩
    (repeat (first | refine w_seq ?_ | refine w_set ?_ | refine w_asg ?_ | refine w_gV ?_ | refine w_gT2 ?_ | refine w_gL2 ?_ | refine w_rt ?_ | refine w_drop ?_ | refine w_par ?_ | refine w_aug rfl ?_ | refine w_nx ?_ | refine w_and ?_ | refine w_or ?_ | refine w_not ?_ | refine w_tst ?_ | refine w_if ?_ | refine w_andV ?_ | refine w_orV ?_ | refine w_tup ?_ | refine w_lst ?_ | refine w_lstH ?_ | refine w_bin ?_ | refine w_un ?_ | refine w_fn ?_ | refine w_it ?_ | refine w_itA ?_ | refine w_cons ?_ | refine w_nil ?_ | refine w_V rfl ?_ | refine w_VO rfl ?_ | refine w_C ?_ | refine w_sl ?_ | refine w_so ?_ | refine w_no ?_ | refine w_call ?_ | refine w_join ?_ | refine w_setO ?_ | refine w_ixH ?_ | refine w_setIxH ?_ | refine w_cmpH ?_ | refine w_pop0H ?_ | refine w_appH ?_ | refine w_par3 ?_ | refine w_joinH ?_ | refine w_perm ?_ | refine w_split ?_ | refine w_notV ?_ | refine w_ret ?_ | refine And.intro rfl ?_ | refine Exists.intro _ (And.intro rfl ?_)))
    refine ⟨_, _, 2, rfl, g0, rfl, ?_⟩
    have p1 : (15490781 * (c + 1) : Int) ≤ 15490781 * 1000001 := Int.mul_le_mul_of_nonneg_left (by omega) (by decide)
    have p0 : (0 : Int) ≤ 15490781 * (c + 1) := Int.mul_nonneg (by decide) (by omega)
    (repeat (first | refine w_seq ?_ | refine w_set ?_ | refine w_asg ?_ | refine w_gV ?_ | refine w_gT2 ?_ | refine w_gL2 ?_ | refine w_rt ?_ | refine w_drop ?_ | refine w_par ?_ | refine w_aug rfl ?_ | refine w_nx ?_ | refine w_and ?_ | refine w_or ?_ | refine w_not ?_ | refine w_tst ?_ | refine w_if ?_ | refine w_andV ?_ | refine w_orV ?_ | refine w_tup ?_ | refine w_lst ?_ | refine w_lstH ?_ | refine w_bin ?_ | refine w_un ?_ | refine w_fn ?_ | refine w_it ?_ | refine w_itA ?_ | refine w_cons ?_ | refine w_nil ?_ | refine w_V rfl ?_ | refine w_VO rfl ?_ | refine w_C ?_ | refine w_sl ?_ | refine w_so ?_ | refine w_no ?_ | refine w_call ?_ | refine w_join ?_ | refine w_setO ?_ | refine w_ixH ?_ | refine w_setIxH ?_ | refine w_cmpH ?_ | refine w_pop0H ?_ | refine w_appH ?_ | refine w_par3 ?_ | refine w_joinH ?_ | refine w_perm ?_ | refine w_split ?_ | refine w_notV ?_ | refine w_ret ?_ | refine And.intro rfl ?_ | refine Exists.intro _ (And.intro rfl ?_)))
    refine ⟨_, _, _, rfl, g1, rfl, ?_⟩
    (repeat (first | refine w_seq ?_ | refine w_set ?_ | refine w_asg ?_ | refine w_gV ?_ | refine w_gT2 ?_ | refine w_gL2 ?_ | refine w_rt ?_ | refine w_drop ?_ | refine w_par ?_ | refine w_aug rfl ?_ | refine w_nx ?_ | refine w_and ?_ | refine w_or ?_ | refine w_not ?_ | refine w_tst ?_ | refine w_if ?_ | refine w_andV ?_ | refine w_orV ?_ | refine w_tup ?_ | refine w_lst ?_ | refine w_lstH ?_ | refine w_bin ?_ | refine w_un ?_ | refine w_fn ?_ | refine w_it ?_ | refine w_itA ?_ | refine w_cons ?_ | refine w_nil ?_ | refine w_V rfl ?_ | refine w_VO rfl ?_ | refine w_C ?_ | refine w_sl ?_ | refine w_so ?_ | refine w_no ?_ | refine w_call ?_ | refine w_join ?_ | refine w_setO ?_ | refine w_ixH ?_ | refine w_setIxH ?_ | refine w_cmpH ?_ | refine w_pop0H ?_ | refine w_appH ?_ | refine w_par3 ?_ | refine w_joinH ?_ | refine w_perm ?_ | refine w_split ?_ | refine w_notV ?_ | refine w_ret ?_ | refine And.intro rfl ?_ | refine Exists.intro _ (And.intro rfl ?_)))
    refine ⟨_, _, _, rfl, g1, rfl, ?_⟩
    refine ⟨_, mulI_e (by decide) (by decide) (by omega), ?_⟩
    refine ⟨_, rfl, ?_⟩
    refine w_C ?_
    refine ⟨_, powI_e (by decide) (by decide) (by omega), ?_⟩
    refine w_C ?_
    refine ⟨_, modI_e (by decide), ?_⟩
    generalize hx : (s + 15490781 * (c + 1)) ^ Int.toNat 3 % 162259276829213363391578010288127 = x
    have x0 : 0 ≤ x := by rw [← hx]; exact Int.emod_nonneg _ (by decide)
    have x1 : x < 162259276829213363391578010288127 := by rw [← hx]; exact Int.emod_lt_of_pos _ (by decide)
    have p2 : (32453321 * (c + 1) : Int) ≤ 32453321 * 1000001 := Int.mul_le_mul_of_nonneg_left (by omega) (by decide)
    have p3 : (0 : Int) ≤ 32453321 * (c + 1) := Int.mul_nonneg (by decide) (by omega)
    (repeat (first | refine w_seq ?_ | refine w_set ?_ | refine w_asg ?_ | refine w_gV ?_ | refine w_gT2 ?_ | refine w_gL2 ?_ | refine w_rt ?_ | refine w_drop ?_ | refine w_par ?_ | refine w_aug rfl ?_ | refine w_nx ?_ | refine w_and ?_ | refine w_or ?_ | refine w_not ?_ | refine w_tst ?_ | refine w_if ?_ | refine w_andV ?_ | refine w_orV ?_ | refine w_tup ?_ | refine w_lst ?_ | refine w_lstH ?_ | refine w_bin ?_ | refine w_un ?_ | refine w_fn ?_ | refine w_it ?_ | refine w_itA ?_ | refine w_cons ?_ | refine w_nil ?_ | refine w_V rfl ?_ | refine w_VO rfl ?_ | refine w_C ?_ | refine w_sl ?_ | refine w_so ?_ | refine w_no ?_ | refine w_call ?_ | refine w_join ?_ | refine w_setO ?_ | refine w_ixH ?_ | refine w_setIxH ?_ | refine w_cmpH ?_ | refine w_pop0H ?_ | refine w_appH ?_ | refine w_par3 ?_ | refine w_joinH ?_ | refine w_perm ?_ | refine w_split ?_ | refine w_notV ?_ | refine w_ret ?_ | refine And.intro rfl ?_ | refine Exists.intro _ (And.intro rfl ?_)))
    refine ⟨_, _, _, rfl, g1, rfl, ?_⟩
    refine ⟨_, mulI_e (by decide) (by decide) (by omega), ?_⟩
    refine ⟨_, rfl, ?_⟩
    refine w_C ?_
    refine ⟨_, powI_e (by decide) (by decide) (by omega), ?_⟩
    refine w_C ?_
    refine ⟨_, modI_e (by decide), ?_⟩
    (repeat (first | refine w_seq ?_ | refine w_set ?_ | refine w_asg ?_ | refine w_gV ?_ | refine w_gT2 ?_ | refine w_gL2 ?_ | refine w_rt ?_ | refine w_drop ?_ | refine w_par ?_ | refine w_aug rfl ?_ | refine w_nx ?_ | refine w_and ?_ | refine w_or ?_ | refine w_not ?_ | refine w_tst ?_ | refine w_if ?_ | refine w_andV ?_ | refine w_orV ?_ | refine w_tup ?_ | refine w_lst ?_ | refine w_lstH ?_ | refine w_bin ?_ | refine w_un ?_ | refine w_fn ?_ | refine w_it ?_ | refine w_itA ?_ | refine w_cons ?_ | refine w_nil ?_ | refine w_V rfl ?_ | refine w_VO rfl ?_ | refine w_C ?_ | refine w_sl ?_ | refine w_so ?_ | refine w_no ?_ | refine w_call ?_ | refine w_join ?_ | refine w_setO ?_ | refine w_ixH ?_ | refine w_setIxH ?_ | refine w_cmpH ?_ | refine w_pop0H ?_ | refine w_appH ?_ | refine w_par3 ?_ | refine w_joinH ?_ | refine w_perm ?_ | refine w_split ?_ | refine w_notV ?_ | refine w_ret ?_ | refine And.intro rfl ?_ | refine Exists.intro _ (And.intro rfl ?_)))
    refine ⟨_, divI_e (by decide) (by decide), ?_⟩
    (repeat (first | refine w_seq ?_ | refine w_set ?_ | refine w_asg ?_ | refine w_gV ?_ | refine w_gT2 ?_ | refine w_gL2 ?_ | refine w_rt ?_ | refine w_drop ?_ | refine w_par ?_ | refine w_aug rfl ?_ | refine w_nx ?_ | refine w_and ?_ | refine w_or ?_ | refine w_not ?_ | refine w_tst ?_ | refine w_if ?_ | refine w_andV ?_ | refine w_orV ?_ | refine w_tup ?_ | refine w_lst ?_ | refine w_lstH ?_ | refine w_bin ?_ | refine w_un ?_ | refine w_fn ?_ | refine w_it ?_ | refine w_itA ?_ | refine w_cons ?_ | refine w_nil ?_ | refine w_V rfl ?_ | refine w_VO rfl ?_ | refine w_C ?_ | refine w_sl ?_ | refine w_so ?_ | refine w_no ?_ | refine w_call ?_ | refine w_join ?_ | refine w_setO ?_ | refine w_ixH ?_ | refine w_setIxH ?_ | refine w_cmpH ?_ | refine w_pop0H ?_ | refine w_appH ?_ | refine w_par3 ?_ | refine w_joinH ?_ | refine w_perm ?_ | refine w_split ?_ | refine w_notV ?_ | refine w_ret ?_ | refine And.intro rfl ?_ | refine Exists.intro _ (And.intro rfl ?_)))
    refine ⟨_, modI_e hm, ?_⟩
    exact q _ _ (Int.emod_nonneg _ (by omega)) (Int.emod_lt_of_pos _ hm) (only_set _) ⟨d, s, c + 1, law_draw_get hr _, hd, hs, hs2, by omega, by omega⟩
theorem sp_law_draw_3 : ∀ ds hp r, ds.length = 2 → n_law_draw_3 ds hp = some r → fnOf 4 b_law_draw_3 ds hp = some r := fun _ _ _ _ h => h

/-- check_pipeline(pipeline): slots 0:pipeline 1:index 2:letter -/
noncomputable def b_check_pipeline : M Fl :=
    (mFor (mItA enSF (mCons (mVar 0) mNil)) (gT (gC (gV 1) (gC (gV 2) gN)) 2) (mIf (mTst (mBin notInL (mVar 2) (mTup (mCons (mC (.str [84])) (mCons (mC (.str [83])) mNil))))) (mRaise .pip (mCons (mVar 1) mNil)) mNx))
-- uses: BASE
def tsB (c : Nat) : Bool := decide (c = 84 ∨ c = 83)
theorem good_check_pipeline (s : List Nat) : (∀ c ∈ s, tsB c = true) ↔ TSs s := ⟨fun h c hc => of_decide_eq_true (h c hc), fun h c hc => decide_eq_true (h c hc)⟩
noncomputable def n_check_pipeline : Fn := fun ds hp => match ds with
  | [.str s] => if TSs s then some (.ok .non hp) else some (.ex ⟨.pip, .int (fbad tsB s : Nat)⟩ hp)
  | _ => none
theorem sp_check_pipeline : ∀ ds hp r, ds.length = 1 → n_check_pipeline ds hp = some r → fnOf 3 b_check_pipeline ds hp = some r := by
  intro ds hp r _ h
  match ds, h with
  | [.str s], h =>
    have h' : (if TSs s then some (FR.ok .non hp) else some (.ex ⟨.pip, .int (fbad tsB s : Nat)⟩ hp)) = some r := h
    by_cases hl : TSs s
    · rw [if_pos hl] at h'
      cases h'
      have w : Wp b_check_pipeline (entA 3 [.str s] hp) fun f s' => f = .nx ∧ s'.hp = hp := by
        unfold b_check_pipeline
        refine w_for (fun p : Nat × Nat => D.tup [.int (p.2 : Nat), .str [p.1]]) s.zipIdx (fun _ s' => ∃ x y, s' = st [vl (.str s), x, y] hp) ?_ ?_ ?_
        · exact w_itA (w_cons (w_V rfl (w_nil ⟨_, rfl, enumD_map _ s, none, none, rfl⟩)))
        · rintro pre ⟨a, i⟩ post s1 hE ⟨x, y, rfl⟩
          obtain ⟨ha, hi, hx⟩ := zipIdx_at hE
          have ha := hl a ha
          refine w_gT2 (w_if (w_tst (w_bin (w_V rfl (w_tup (w_cons (w_C (w_cons (w_C (w_nil ⟨rfl, .bl false, ?_, _, rfl, fun hb => (by cases hb), fun _ => w_nx ⟨_, _, rfl⟩⟩))))))))))
          show some (D.bl (!(([84] == [a]) || (([83] == [a]) || false)))) = _
          rcases ha with rfl | rfl <;> rfl
        · rintro s1 ⟨x, y, rfl⟩
          exact ⟨rfl, rfl⟩
      obtain ⟨f, s', e1, rfl, e2⟩ := w
      rw [fnOf_nx e1, e2]
    · rw [if_neg hl] at h'
      cases h'
      obtain ⟨pre, c, post, rfl, hg, hb, hlen⟩ := fbad_split (f := tsB) (fun z => hl ((good_check_pipeline _).mp z))
      have w : Xp b_check_pipeline (entA 3 [.str (pre ++ c :: post)] hp) fun e s' => e = ⟨.pip, .int (fbad tsB (pre ++ c :: post) : Nat)⟩ ∧ s'.hp = hp := by
        unfold b_check_pipeline
        refine x_for (fun p : Nat × Nat => D.tup [.int (p.2 : Nat), .str [p.1]]) (fun _ s' => ∃ x y, s' = st [vl (.str (pre ++ c :: post)), x, y] hp) pre.zipIdx (c, pre.length) (post.zipIdx (pre.length + 1)) ?_ ?_ ?_
        · refine w_itA (w_cons (w_V rfl (w_nil ⟨_, rfl, ?_, none, none, rfl⟩)))
          rw [enumD_map, zipIdx_app]
          rfl
        · rintro pre' ⟨a, i⟩ post' s1 hE ⟨x, y, rfl⟩
          have ha : a ∈ pre := (zipIdx_at hE).1
          have ha := hg a ha
          have ha' : a = 84 ∨ a = 83 := of_decide_eq_true ha
          refine w_gT2 (w_if (w_tst (w_bin (w_V rfl (w_tup (w_cons (w_C (w_cons (w_C (w_nil ⟨rfl, .bl false, ?_, _, rfl, fun hb => (by cases hb), fun _ => w_nx ⟨.inl rfl, _, _, rfl⟩⟩))))))))))
          show some (D.bl (!(([84] == [a]) || (([83] == [a]) || false)))) = _
          rcases ha' with rfl | rfl <;> rfl
        · rintro s1 ⟨x, y, rfl⟩
          have hc : ¬ (c = 84 ∨ c = 83) := of_decide_eq_false hb
          refine w_gT2 (x_if (w_tst (w_bin (w_V rfl (w_tup (w_cons (w_C (w_cons (w_C (w_nil ⟨rfl, .bl true, ?_, _, rfl, fun _ => x_raise (w_cons (w_V rfl (w_nil ⟨_, rfl, by rw [hlen], rfl⟩))), fun hb => (by cases hb)⟩))))))))))
          show some (D.bl (!(([84] == [c]) || (([83] == [c]) || false)))) = _
          have h1 : ([84] == [c]) = false := by simp; omega
          have h2 : ([83] == [c]) = false := by simp; omega
          rw [h1, h2]
          rfl
      obtain ⟨e, s', e1, rfl, e2⟩ := w
      rw [fnOf_ex e1, e2]

/-- sieved_once(row, letter): slots 0:row 1:letter 2:kept 3:length -/
noncomputable def b_sieved_once : M Fl :=
    (mRet (mJoin (mC (.str [])) (mLc (mIt itL (mCall 1 n_runs_of (mCons (mVar 0) mNil))) (gT (gC (gV 2) (gC (gV 3) gN)) 2) (mTst (mBin eqSc (mBin eqSc (mVar 3) (mC (.int 1))) (mBin eqSc (mVar 1) (mC (.str [83]))))) (mVar 2) [2, 3])))
noncomputable abbrev n_sieved_once : Fn := fnOf 4 b_sieved_once
-- uses: runs_of SV1
theorem w_sieved_once {s : List Nat} {c : Nat} {hp : List AO} {Q : D → List AO → Prop} (h : rok s) (q : Q (.str (sv1 s c)) hp) : FnWp n_sieved_once [.str s, .str [c]] hp Q := by
  apply w_fnOf
  unfold b_sieved_once
  refine w_rt (w_join (w_lc encR (runs s) (fun _ s' => s' = st [vl (.str s), vl (.str [c]), none, none] hp) (fun p => if decide (decide (p.2 = 1) = decide (c = 83)) = true then some (D.str [p.1]) else none) ?_ ?_ ?_ ?_))
  · have := runs_len s
    have := h.1
    omega
  · exact w_it (w_call (w_cons (w_V rfl (w_nil ⟨rfl, w_eq (runs_of_e h) ⟨_, rfl, rfl, rfl⟩⟩))))
  · rintro pre ⟨d, n⟩ post s1 hE rfl
    refine w_gT2 (w_tst (w_bin (w_bin (w_V rfl (w_C ⟨_, rfl, w_bin (w_V rfl (w_C ⟨_, rfl, _, rfl, _, rfl, ?_, ?_⟩))⟩)))))
    · intro hb
      refine w_V rfl ⟨if_pos ?_, rfl⟩
      have hn : ((n : Int) = 1) = (n = 1) := propext (by omega)
      simpa [hn] using hb
    · intro hb
      refine ⟨if_neg ?_, rfl⟩
      have hn : ((n : Int) = 1) = (n = 1) := propext (by omega)
      simpa [hn] using hb
  · rintro s' rfl
    refine ⟨_, ?_, q⟩
    rw [sv1_fm]
    exact joinD_map (by have := sv1_len s c; have := h.1; omega)
theorem sp_sieved_once : ∀ ds hp r, ds.length = 2 → n_sieved_once ds hp = some r → fnOf 4 b_sieved_once ds hp = some r := fun _ _ _ _ h => h

/-- sieved(row, pipeline): slots 0:row 1:pipeline 2:letter -/
noncomputable def b_sieved : M Fl :=
    (mSeq (mFor (mIt itS (mVar 1)) (gV 2) (mAsg (mCall 2 n_sieved_once (mCons (mVar 0) (mCons (mVar 2) mNil))) (gV 0)))
    (mRet (mVar 0)))
noncomputable abbrev n_sieved : Fn := fnOf 3 b_sieved
theorem w_sieved {s p : List Nat} {hp : List AO} {Q : D → List AO → Prop} (h : rok s) (q : Q (.str (sv s p)) hp) : FnWp n_sieved [.str s, .str p] hp Q := by
  apply w_fnOf
  unfold b_sieved
  refine w_seq (w_for (fun c : Nat => D.str [c]) p (fun pre s' => ∃ x, s' = st [vl (.str (sv s pre)), vl (.str p), x] hp) ?_ ?_ ?_)
  · exact w_it (w_V rfl ⟨_, rfl, rfl, none, rfl⟩)
  · rintro pre a post s1 hE ⟨x, rfl⟩
    refine w_gV (w_set (w_call (w_cons (w_V rfl (w_cons (w_V rfl (w_nil ⟨rfl, w_sieved_once (rok_sv h pre) ?_⟩)))))))
    refine ⟨vl (.str [a]), ?_⟩
    rw [sv_app]
    rfl
  · rintro s' ⟨x, rfl⟩
    exact w_rt (w_V rfl q)
theorem sp_sieved : ∀ ds hp r, ds.length = 2 → n_sieved ds hp = some r → fnOf 3 b_sieved ds hp = some r := fun _ _ _ _ h => h

/-- SieveRow.sieve(self): slots 0:self 1:pipelines 2:whole 3:found 4:name -/
noncomputable def b_SieveRow_sieve : M Fl :=
    (mSeq (mAsg (mJoin (mC (.str [])) (mVar 1)) (gV 2))
    (mSeq (mDrop (mCall 1 n_check_pipeline (mCons (mVar 2) mNil)))
    (mSeq (mSetOL 3 (mCons (mFld "SieveRow" "passed" (mVar 0)) mNil))
    (mSeq (mFor (mIt itS (mVar 2)) (gV 4) (mDrop (mAppO 3 (mCall 2 n_sieved (mCons (mOwn 3 ixO (mUn negI (mC (.int 1)))) (mCons (mVar 4) mNil))))))
    (mSeq (mSFld "SieveRow" "passed" (mVar 3) (mVar 0))
    (mSFldA "SieveRow" "applied" addS (mVar 0) (mVar 2)))))))
noncomputable abbrev n_SieveRow_sieve : Fn := fnOf 5 b_SieveRow_sieve
-- uses: LIVE
theorem w_SieveRow_sieve {r : Nat} {s p : List Nat} {ps : List (List Nat)} {hp : List AO} {Q : D → List AO → Prop} (h : LiveAt hp r (trail s p) p) (hs : rok s) (ht : TSs ps.flatten) (hl : p.length + ps.flatten.length ≤ 1000000) (q : Q .non (hp.set r (liveO (trail s (p ++ ps.flatten)) (p ++ ps.flatten)))) : FnWp n_SieveRow_sieve [.ref r, .tup (ps.map D.str)] hp Q := by
  apply w_fnOf
  unfold b_SieveRow_sieve
  refine w_seq (w_set (w_join (w_V rfl ⟨_, joinD_tup (by omega), ?_⟩)))
  generalize ps.flatten = w at ht hl q
  refine w_seq (w_drop (w_call (w_cons (w_V rfl (w_nil ⟨rfl, w_eq (if_pos ht) ?_⟩)))))
  refine w_seq (w_setOL (w_cons (w_fld (w_V rfl ⟨_, _, getI_e h, live_p _ _, w_nil ⟨_, rfl, by rw [List.length_map, trail_len]; omega, ?_⟩⟩))))
  refine w_seq (w_for (fun c : Nat => D.str [c]) w (fun pre s' => ∃ x, s' = st [vl (.ref r), vl (.tup (ps.map D.str)), vl (.str w), ow ((trail s (p ++ pre)).map D.str), x] hp) ?_ ?_ ?_)
  · refine w_it (w_V rfl ⟨_, rfl, rfl, none, ?_⟩)
    rw [List.append_nil]
    rfl
  · rintro pre a post s1 hE ⟨x, rfl⟩
    have hlen : pre.length < w.length := by
      rw [hE, List.length_append, List.length_cons]
      omega
    refine w_gV (w_drop (w_appO rfl (w_call (w_cons (w_own rfl (w_un (w_C ⟨_, rfl, _, _, rfl, trail_last _ _, w_cons (w_V rfl (w_nil ⟨rfl, w_sieved (rok_sv hs _) ?_⟩))⟩)))))))
    refine ⟨_, rfl, by rw [List.length_map, trail_len, List.length_append]; omega, vl (.str [a]), ?_⟩
    rw [← List.append_assoc, trail_snoc, List.map_append]
    have e0 : sv s (p ++ pre ++ [a]) = sv (sv s (p ++ pre)) [a] := sv_app _ _ _
    rw [e0]
    rfl
  · rintro s1 ⟨x, rfl⟩
    refine w_seq (w_sfld (w_VO rfl (w_V rfl ⟨_, getI_e h, Nat.le_of_ble_eq_true rfl, ?_⟩)))
    have e1 : ∀ sl, setI (st sl hp) "SieveRow" (.ref r) (putD "passed" (.lst ((trail s (p ++ w)).map D.str)) (liveF (trail s p) p)) = st sl (hp.set r (liveO (trail s (p ++ w)) p)) := fun sl => by
      rw [put_p]
      rfl
    show Wp _ (setI (st [vl (.ref r), vl (.tup (ps.map D.str)), vl (.str w), vl (.lst ((trail s (p ++ w)).map D.str)), x] hp) "SieveRow" (.ref r) (putD "passed" (.lst ((trail s (p ++ w)).map D.str)) (liveF (trail s p) p))) _
    rw [e1]
    have h2 : (hp.set r (liveO (trail s (p ++ w)) p))[r]? = some (.ins "SieveRow" (liveF (trail s (p ++ w)) p)) := set_get h _
    refine w_sfldA (w_V rfl ⟨_, _, getI_e h2, live_a _ _, w_V rfl ⟨_, _, addS_e (by omega), getI_e h2, Nat.le_of_ble_eq_true rfl, ?_⟩⟩)
    have e2 : ∀ sl, setI (st sl (hp.set r (liveO (trail s (p ++ w)) p))) "SieveRow" (.ref r) (putD "applied" (.str (p ++ w)) (liveF (trail s (p ++ w)) p)) = st sl (hp.set r (liveO (trail s (p ++ w)) (p ++ w))) := fun sl => by
      rw [put_a]
      show st _ ((hp.set r _).set r _) = _
      rw [List.set_set]
      rfl
    show EndQ Q .nx (setI (st [vl (.ref r), vl (.tup (ps.map D.str)), vl (.str w), vl (.lst ((trail s (p ++ w)).map D.str)), x] (hp.set r (liveO (trail s (p ++ w)) p))) "SieveRow" (.ref r) (putD "applied" (.str (p ++ w)) (liveF (trail s (p ++ w)) p)))
    rw [e2]
    exact q
theorem x_SieveRow_sieve {r : Nat} {ps : List (List Nat)} {hp : List AO} {E : Exn → List AO → Prop} (ht : ¬ TSs ps.flatten) (hl : ps.flatten.length ≤ 1000000) (q : E ⟨.pip, .int (fbad tsB ps.flatten : Nat)⟩ hp) : FnXp n_SieveRow_sieve [.ref r, .tup (ps.map D.str)] hp E := by
  apply x_fnOf
  unfold b_SieveRow_sieve
  refine x_seqR (w_set (w_join (w_V rfl ⟨_, joinD_tup (by omega), rfl, ?_⟩)))
  exact x_seq (x_drop (x_call (w_cons (w_V rfl (w_nil ⟨rfl, x_eq (if_neg ht) q⟩)))))
theorem sp_SieveRow_sieve : ∀ ds hp r, ds.length = 2 → n_SieveRow_sieve ds hp = some r → fnOf 5 b_SieveRow_sieve ds hp = some r := fun _ _ _ _ h => h

/-- SieveRow.undo(self): slots 0:self -/
noncomputable def b_SieveRow_undo : M Fl :=
    (mSeq (mIf (mTst (mBin eqSc (mFld "SieveRow" "applied" (mVar 0)) (mC (.str [])))) (mRaise .und (mCons (mC (.int 0)) mNil)) mNx)
    (mSeq (mSFld "SieveRow" "passed" (mSl slL (mFld "SieveRow" "passed" (mVar 0)) mNo (mSo (mUn negI (mC (.int 1))))) (mVar 0))
    (mSFld "SieveRow" "applied" (mSl slS (mFld "SieveRow" "applied" (mVar 0)) mNo (mSo (mUn negI (mC (.int 1))))) (mVar 0))))
noncomputable abbrev n_SieveRow_undo : Fn := fnOf 1 b_SieveRow_undo
-- uses: LIVE
theorem cut_m1 {α : Type} (X : List α) (x : α) : cutL (X ++ [x]) none (some (-1)) = X := by
  unfold cutL
  have h1 : HT.sIx (X ++ [x]).length 0 none = 0 := rfl
  have h2 : HT.sIx (X ++ [x]).length (X ++ [x]).length (some (-1)) = X.length := by
    rw [List.length_append, List.length_singleton]
    unfold HT.sIx
    simp
    omega
  rw [h1, h2, List.drop_zero, Nat.sub_zero]
  exact List.take_left' rfl
theorem w_SieveRow_undo {r c : Nat} {s p : List Nat} {hp : List AO} {Q : D → List AO → Prop} (h : LiveAt hp r (trail s (p ++ [c])) (p ++ [c])) (hl : p.length ≤ 1000000) (q : Q .non (hp.set r (liveO (trail s p) p))) : FnWp n_SieveRow_undo [.ref r] hp Q := by
  apply w_fnOf
  unfold b_SieveRow_undo
  have hne : decide (p ++ [c] = []) = false := by simp
  refine w_seq (w_if (w_tst (w_bin (w_fld (w_V rfl ⟨_, _, getI_e h, live_a _ _, w_C ⟨_, rfl, _, rfl, fun hb => ?_, fun _ => w_nx ?_⟩⟩)))))
  · rw [hne] at hb
    cases hb
  rw [trail_snoc] at h
  refine w_seq (w_sfld (w_sl (w_fld (w_V rfl ⟨_, _, getI_e h, live_p _ _, w_no (w_so (w_un (w_C ⟨_, rfl, _, rfl, .lst ((trail s p).map D.str), ?_, w_V rfl ⟨_, getI_e h, Nat.le_of_ble_eq_true rfl, ?_⟩⟩)))⟩))))
  · show some (D.lst (cutL ((trail s p ++ [sv s (p ++ [c])]).map D.str) none (some (-1)))) = _
    rw [List.map_append]
    exact congrArg (some ∘ D.lst) (cut_m1 _ _)
  have e1 : setI (st [vl (.ref r)] hp) "SieveRow" (.ref r) (putD "passed" (.lst ((trail s p).map D.str)) (liveF (trail s p ++ [sv s (p ++ [c])]) (p ++ [c]))) = st [vl (.ref r)] (hp.set r (liveO (trail s p) (p ++ [c]))) := by
    rw [put_p]
    rfl
  show Wp _ (setI (st [vl (.ref r)] hp) "SieveRow" (.ref r) (putD "passed" (.lst ((trail s p).map D.str)) (liveF (trail s p ++ [sv s (p ++ [c])]) (p ++ [c])))) _
  rw [e1]
  have h2 : (hp.set r (liveO (trail s p) (p ++ [c])))[r]? = some (.ins "SieveRow" (liveF (trail s p) (p ++ [c]))) := set_get h _
  refine w_sfld (w_sl (w_fld (w_V rfl ⟨_, _, getI_e h2, live_a _ _, w_no (w_so (w_un (w_C ⟨_, rfl, _, rfl, .str p, ?_, w_V rfl ⟨_, getI_e h2, Nat.le_of_ble_eq_true rfl, ?_⟩⟩)))⟩)))
  · rw [slS_e (by rw [List.length_append, List.length_singleton]; omega)]
    exact congrArg (some ∘ D.str) (cut_m1 _ _)
  have e2 : setI (st [vl (.ref r)] (hp.set r (liveO (trail s p) (p ++ [c])))) "SieveRow" (.ref r) (putD "applied" (.str p) (liveF (trail s p) (p ++ [c]))) = st [vl (.ref r)] (hp.set r (liveO (trail s p) p)) := by
    rw [put_a]
    show st _ ((hp.set r _).set r _) = _
    rw [List.set_set]
    rfl
  show EndQ Q .nx (setI (st [vl (.ref r)] (hp.set r (liveO (trail s p) (p ++ [c])))) "SieveRow" (.ref r) (putD "applied" (.str p) (liveF (trail s p) (p ++ [c]))))
  rw [e2]
  exact q
theorem x_SieveRow_undo {r : Nat} {rows : List (List Nat)} {hp : List AO} {E : Exn → List AO → Prop} (h : LiveAt hp r rows []) (q : E ⟨.und, .int 0⟩ hp) : FnXp n_SieveRow_undo [.ref r] hp E := by
  apply x_fnOf
  unfold b_SieveRow_undo
  refine x_seq (x_if (w_tst (w_bin (w_fld (w_V rfl ⟨_, _, getI_e h, live_a _ _, w_C ⟨_, rfl, _, rfl, fun _ => ?_, fun hb => (by cases hb)⟩⟩)))))
  exact x_raise (w_cons (w_C (w_nil ⟨_, rfl, q⟩)))
theorem sp_SieveRow_undo : ∀ ds hp r, ds.length = 1 → n_SieveRow_undo ds hp = some r → fnOf 1 b_SieveRow_undo ds hp = some r := fun _ _ _ _ h => h

-- uses: POOL
theorem pool_more {hp : List AO} {r : Nat} {n : Int} (h : PoolAt hp r n) (l : List AO) : PoolAt (hp ++ l) r n := by
  obtain ⟨d, s, c, h1, h2⟩ := h
  refine ⟨d, s, c, ?_, h2⟩
  rw [List.getElem?_append_left (List.getElem?_eq_some_iff.mp h1).1]
  exact h1
theorem pool_set {hp : List AO} {r k : Nat} {n : Int} (h : PoolAt hp r n) (hk : k ≠ r) (o : AO) : PoolAt (hp.set k o) r n := by
  obtain ⟨d, s, c, h1, h2⟩ := h
  refine ⟨d, s, c, ?_, h2⟩
  rw [List.getElem?_set_ne hk]
  exact h1
theorem pool_pos {hp : List AO} {r : Nat} {n : Int} (h : PoolAt hp r n) : r < hp.length := by
  obtain ⟨d, s, c, h1, h2⟩ := h
  exact (List.getElem?_eq_some_iff.mp h1).1

/-! cuts and places of texts and lists -/
theorem cuts_to {α : Type} (x : List α) (i : Nat) : cutL x none (some (i : Int)) = x.take i := by
  unfold cutL
  have h1 : HT.sIx x.length x.length (some (i : Int)) = min i x.length := HT.sIx_nat _ _ i
  have h2 : HT.sIx x.length 0 none = 0 := rfl
  rw [h1, h2, Nat.sub_zero, List.drop_zero]
  by_cases h : i ≤ x.length
  · rw [Nat.min_eq_left h]
  · rw [Nat.min_eq_right (by omega), List.take_of_length_le (by omega), List.take_of_length_le (by omega)]
theorem ixs_text {x : List Nat} {i : Int} (h0 : 0 ≤ i) (h1 : i < x.length) (hl : x.length ≤ 16777216) : ∃ c ∈ x, ixF (.str x) (.int i) = some (.str [c]) := by
  have hi : i.toNat < x.length := by omega
  refine ⟨x[i.toNat], List.getElem_mem hi, ixS_e hl ?_⟩
  unfold atI ixN
  rw [if_pos h0, if_pos h1]
  show x[i.toNat]? = _
  exact List.getElem?_eq_getElem hi
theorem ixs_list {l : List D} {i : Int} (h0 : 0 ≤ i) (h1 : i < l.length) : ∃ d ∈ l, ixF (.lst l) (.int i) = some d := by
  have hi : i.toNat < l.length := by omega
  refine ⟨l[i.toNat], List.getElem_mem hi, ?_⟩
  show atI l i = _
  unfold atI ixN
  rw [if_pos h0, if_pos h1]
  show l[i.toNat]? = _
  exact List.getElem?_eq_getElem hi
theorem rpl_one (c n : Nat) : repL [c] n = List.replicate n c := by
  unfold repL
  induction n with
  | zero => rfl
  | succ n ih => rw [List.replicate_succ, List.flatten_cons, ih, List.replicate_succ]; rfl

-- uses: CUTS
theorem cuts_from {α : Type} (x : List α) (i : Nat) : cutL x (some (i : Int)) none = x.drop i := by
  unfold cutL
  have h1 : HT.sIx x.length 0 (some (i : Int)) = min i x.length := HT.sIx_nat _ _ i
  have h2 : HT.sIx x.length x.length none = x.length := rfl
  rw [h1, h2]
  by_cases h : i ≤ x.length
  · rw [Nat.min_eq_left h, List.take_of_length_le (by rw [List.length_drop]; omega)]
  · rw [Nat.min_eq_right (show x.length ≤ i by omega), List.drop_of_length_le (Nat.le_refl _), List.drop_of_length_le (show x.length ≤ i by omega), List.take_nil]
theorem cuts_mid {α : Type} (x : List α) (i j : Nat) : cutL x (some (i : Int)) (some (j : Int)) = (x.drop i).take (j - i) := by
  unfold cutL
  have h1 : HT.sIx x.length 0 (some (i : Int)) = min i x.length := HT.sIx_nat _ _ i
  have h2 : HT.sIx x.length x.length (some (j : Int)) = min j x.length := HT.sIx_nat _ _ j
  rw [h1, h2]
  by_cases h : i ≤ x.length
  · rw [Nat.min_eq_left h]
    by_cases hj : j ≤ x.length
    · rw [Nat.min_eq_left hj]
    · rw [Nat.min_eq_right (by omega), List.take_of_length_le (by rw [List.length_drop]; omega), List.take_of_length_le (by rw [List.length_drop]; omega)]
  · rw [Nat.min_eq_right (show x.length ≤ i by omega), List.drop_of_length_le (Nat.le_refl _), List.drop_of_length_le (show x.length ≤ i by omega)]
    rw [List.take_nil, List.take_nil]

/-- _law_object(pool, line, steps): slots 0:pool 1:line 2:steps 3:live 4:way 5:step -/
noncomputable def b_law_object_2 : M Fl :=
    (mSeq (mPar 3 4 (mCons (mMake "SieveRow" 2 n_SieveRow___init__ (mCons (mVar 1) mNil)) (mCons (mCall 2 n_law_draw_3 (mCons (mVar 0) (mCons (mC (.int 3)) mNil))) mNil)))
    (mSeq (mIf (mTst (mBin eqSc (mVar 4) (mC (.int 0)))) (mDrop (mMethS "SieveRow" "sieve" n_SieveRow_sieve (mVar 3) (mCons (mVar 2) mNil))) (mIf (mTst (mBin eqSc (mVar 4) (mC (.int 1)))) (mFor (mIt itS (mVar 2)) (gV 5) (mDrop (mMethS "SieveRow" "sieve" n_SieveRow_sieve (mVar 3) (mCons (mVar 5) mNil)))) (mSeq (mDrop (mMethS "SieveRow" "sieve" n_SieveRow_sieve (mVar 3) (mCons (mC (.str [84, 83])) mNil)))
    (mSeq (mDrop (mMeth "SieveRow" "undo" 1 n_SieveRow_undo (mVar 3) mNil))
    (mSeq (mDrop (mMeth "SieveRow" "undo" 1 n_SieveRow_undo (mVar 3) mNil))
    (mDrop (mMethS "SieveRow" "sieve" n_SieveRow_sieve (mVar 3) (mCons (mSl slS (mVar 2) mNo (mSo (mC (.int 2)))) (mCons (mC (.str [])) (mCons (mSl slS (mVar 2) (mSo (mC (.int 2))) mNo) mNil))))))))))
    (mRet (mVar 3))))
noncomputable abbrev n_law_object_2 : Fn := fnOf 6 b_law_object_2
-- uses: LIVE POOL2 CUTS CUTS2
theorem live_s22 (rows : List (List Nat)) (steps : List Nat) : (liveF rows steps).lookup ("sieve" : Str) = none := live_no (by decide) (by decide) _ _
theorem live_u22 (rows : List (List Nat)) (steps : List Nat) : (liveF rows steps).lookup ("undo" : Str) = none := live_no (by decide) (by decide) _ _
/-- the old objects stand, but for that at r -/
def Far (r : Nat) (hp hp' : List AO) : Prop := hp.length ≤ hp'.length ∧ ∀ k, k ≠ r → k < hp.length → hp'[k]? = hp[k]?
theorem Far.live {r k : Nat} {hp hp' : List AO} {rows : List (List Nat)} {steps : List Nat} (f : Far r hp hp') (hk : k ≠ r) (h : LiveAt hp k rows steps) : LiveAt hp' k rows steps := (f.2 k hk h.lt).trans h
theorem Only.far {r : Nat} {hp hp' : List AO} (o : Only r hp hp') : Far r hp hp' := ⟨Nat.le_of_eq o.1.symm, fun k hk _ => o.2 k hk⟩
theorem Far.trans {r : Nat} {a b c : List AO} (h : Far r a b) (g : Far r b c) : Far r a c := ⟨Nat.le_trans h.1 g.1, fun k hk hl => (g.2 k hk (Nat.lt_of_lt_of_le hl h.1)).trans (h.2 k hk hl)⟩
theorem w_law_object_2 {r : Nat} {n : Int} {s p : List Nat} {hp : List AO} {Q : D → List AO → Prop} (hn : n ≤ 900000) (h : PoolAt hp r n) (hlow : low s) (hs : rok s) (ht : TSs p) (hpl : p.length ≤ 1000)
    (q : ∀ hp', LiveAt hp' hp.length (trail s p) p → Far r hp hp' → PoolAt hp' r (n + 1) → Q (.ref hp.length) hp') : FnWp n_law_object_2 [.ref r, .str s, .str p] hp Q := by
  have hr := pool_pos h
  apply w_fnOf
  unfold b_law_object_2
  refine w_seq (w_par (w_make (w_cons (w_V rfl (w_nil ⟨rfl, w_SieveRow___init__ app_at hlow ⟨rfl, ?_⟩⟩)))))
  have e0 : (hp ++ [AO.ins "SieveRow" []]).set hp.length (liveO (trail s []) []) = hp ++ [liveO (trail s []) []] := by
    rw [List.set_append_right _ _ (Nat.le_refl _), Nat.sub_self]
    rfl
  show Wp (mCall 2 n_law_draw_3 (mCons (mVar 0) (mCons (mC (.int 3)) mNil))) (st [vl (.ref r), vl (.str s), vl (.str p), none, none, none] ((hp ++ [AO.ins "SieveRow" []]).set hp.length (liveO (trail s []) []))) _
  rw [e0]
  refine w_call (w_cons (w_V rfl (w_cons (w_C (w_nil ⟨rfl, ?_⟩)))))
  refine w_law_draw_3 (by decide) (by decide) (by omega) (pool_more h [liveO (trail s []) []]) fun a hp2 a0 a1 o1 b1 => ?_
  have hl2 : hp2.length = hp.length + 1 := by rw [o1.1, List.length_append, List.length_singleton]
  have v0 : LiveAt hp2 hp.length (trail s []) [] := (o1.2 _ (by omega)).trans app_at
  have fin : ∀ hp3 : List AO, hp3 = hp2.set hp.length (liveO (trail s p) p) → Q (.ref hp.length) hp3 := fun hp3 e => by
    subst e
    refine q _ (LiveAt.set v0 _ _) ⟨by rw [List.length_set]; omega, fun k hk hl => ?_⟩ (pool_set b1 (by omega) _)
    rw [List.getElem?_set_ne (by omega), o1.2 k hk, List.getElem?_append_left hl]
  have sieve1 : ∀ {hp3 : List AO} {t : List Nat} {ps : List (List Nat)} {Q : D → List AO → Prop}, LiveAt hp3 hp.length (trail s t) t → TSs ps.flatten → t.length + ps.flatten.length ≤ 1000000 → Q .non (hp3.set hp.length (liveO (trail s (t ++ ps.flatten)) (t ++ ps.flatten))) → FnWp n_SieveRow_sieve [.ref hp.length, .tup (ps.map D.str)] hp3 Q :=
    fun v t1 l1 q => w_SieveRow_sieve v hs t1 l1 q
  refine w_seq (w_if (w_tst (w_bin (w_V rfl (w_C ⟨_, rfl, _, rfl, fun _ => ?_, fun hb => ?_⟩)))))
  · refine w_drop (w_methS (w_V rfl ⟨_, getI_e v0, live_s22 _ _, w_cons (w_V rfl (w_nil ⟨Nat.le_of_ble_eq_true rfl, ?_⟩))⟩))
    refine sieve1 (ps := [p]) v0 (by simpa using ht) (by simp; omega) (w_rt (w_V rfl (fin _ ?_)))
    simp
  · refine w_if (w_tst (w_bin (w_V rfl (w_C ⟨_, rfl, _, rfl, fun _ => ?_, fun hb2 => ?_⟩))))
    · refine w_for (fun c : Nat => D.str [c]) p (fun pre s' => ∃ x, s' = st [vl (.ref r), vl (.str s), vl (.str p), vl (.ref hp.length), vl (.int a), x] (hp2.set hp.length (liveO (trail s pre) pre))) ?_ ?_ ?_
      · refine w_it (w_V rfl ⟨_, rfl, rfl, none, ?_⟩)
        have e : hp2.set hp.length (liveO (trail s []) []) = hp2 := by
          apply List.ext_getElem?
          intro i
          by_cases hi : i = hp.length
          · subst hi
            rw [List.getElem?_set_self (by omega)]
            exact v0.symm
          · rw [List.getElem?_set_ne (Ne.symm hi)]
        rw [e]
        rfl
      · rintro pre c post s1 hE ⟨x, rfl⟩
        have hc : c = 84 ∨ c = 83 := ht c (by rw [hE]; exact List.mem_append_right _ List.mem_cons_self)
        have hlen := congrArg List.length hE
        rw [List.length_append, List.length_cons] at hlen
        have v1 : LiveAt (hp2.set hp.length (liveO (trail s pre) pre)) hp.length (trail s pre) pre := LiveAt.set v0 _ _
        refine w_gV (w_drop (w_methS (w_V rfl ⟨_, getI_e v1, live_s22 _ _, w_cons (w_V rfl (w_nil ⟨Nat.le_of_ble_eq_true rfl, ?_⟩))⟩)))
        refine sieve1 (ps := [[c]]) v1 (fun d hd => by
          have : d = c := by simpa using hd
          rw [this]
          exact hc) (by simp; omega) ⟨vl (.str [c]), ?_⟩
        rw [List.set_set]
        rfl
      · rintro s1 ⟨x, rfl⟩
        exact w_rt (w_V rfl (fin _ rfl))
    · refine w_seq (w_drop (w_methS (w_V rfl ⟨_, getI_e v0, live_s22 _ _, w_cons (w_C (w_nil ⟨Nat.le_of_ble_eq_true rfl, ?_⟩))⟩)))
      refine sieve1 (ps := [[84, 83]]) v0 (fun d hd => by
        have : d = 84 ∨ d = 83 := by simpa using hd
        exact this) (by decide) ?_
      have v1 : LiveAt (hp2.set hp.length (liveO (trail s ([84] ++ [83])) ([84] ++ [83]))) hp.length (trail s ([84] ++ [83])) ([84] ++ [83]) := LiveAt.set v0 _ _
      refine w_seq (w_drop (w_meth (w_V rfl ⟨_, getI_e v1, live_u22 _ _, w_nil ⟨rfl, w_SieveRow_undo v1 (by decide) ?_⟩⟩)))
      show Wp _ (st [vl (.ref r), vl (.str s), vl (.str p), vl (.ref hp.length), vl (.int a), none] ((hp2.set hp.length (liveO (trail s ([84] ++ [83])) ([84] ++ [83]))).set hp.length (liveO (trail s [84]) [84]))) _
      rw [List.set_set]
      have v2 : LiveAt (hp2.set hp.length (liveO (trail s ([] ++ [84])) ([] ++ [84]))) hp.length (trail s ([] ++ [84])) ([] ++ [84]) := LiveAt.set v0 _ _
      refine w_seq (w_drop (w_meth (w_V rfl ⟨_, getI_e v2, live_u22 _ _, w_nil ⟨rfl, w_SieveRow_undo v2 (by decide) ?_⟩⟩)))
      show Wp _ (st [vl (.ref r), vl (.str s), vl (.str p), vl (.ref hp.length), vl (.int a), none] ((hp2.set hp.length (liveO (trail s [84]) [84])).set hp.length (liveO (trail s []) []))) _
      rw [List.set_set]
      have v3 : LiveAt (hp2.set hp.length (liveO (trail s []) [])) hp.length (trail s []) [] := LiveAt.set v0 _ _
      refine w_drop (w_methS (w_V rfl ⟨_, getI_e v3, live_s22 _ _, ?_⟩))
      refine w_cons (w_sl (w_V rfl (w_no (w_so (w_C ⟨_, rfl, _, slS_e (by omega), ?_⟩)))))
      refine w_cons (w_C ?_)
      refine w_cons (w_sl (w_V rfl (w_so (w_C ⟨_, rfl, w_no ⟨_, slS_e (by omega), ?_⟩⟩))))
      refine w_nil ⟨Nat.le_of_ble_eq_true rfl, ?_⟩
      rw [show (2 : Int) = ((2 : Nat) : Int) from rfl, cuts_to, cuts_from]
      have ef : [p.take 2, [], p.drop 2].flatten = p := by simp
      refine sieve1 (ps := [p.take 2, [], p.drop 2]) v3 (by rw [ef]; exact ht) (by rw [ef]; show 0 + p.length ≤ _; omega) (w_rt (w_V rfl (fin _ ?_)))
      rw [ef, List.set_set]
      rfl
theorem sp_law_object_2 : ∀ ds hp r, ds.length = 3 → n_law_object_2 ds hp = some r → fnOf 6 b_law_object_2 ds hp = some r := fun _ _ _ _ h => h

-- uses: POOL CUTS BASE
theorem ixt {x : List Nat} {i : Int} (h0 : 0 ≤ i) (h1 : i < x.length) (hl : x.length ≤ 16777216) : ∃ c ∈ x, ixF (.str x) (.int i) = some (.str [c]) := by
  have hi : i.toNat < x.length := by omega
  refine ⟨x[i.toNat], List.getElem_mem hi, ixS_e hl ?_⟩
  unfold atI ixN
  rw [if_pos h0, if_pos h1]
  show x[i.toNat]? = _
  exact List.getElem?_eq_getElem hi
theorem ixl {l : List D} {i : Int} (h0 : 0 ≤ i) (h1 : i < l.length) : ∃ d ∈ l, ixF (.lst l) (.int i) = some d := by
  have hi : i.toNat < l.length := by omega
  refine ⟨l[i.toNat], List.getElem_mem hi, ?_⟩
  show atI l i = _
  unfold atI ixN
  rw [if_pos h0, if_pos h1]
  show l[i.toNat]? = _
  exact List.getElem?_eq_getElem hi
theorem low_nil : low [] := fun _ h => by cases h
theorem low_app {a b : List Nat} (h : low a) (g : low b) : low (a ++ b) := fun c hc => (List.mem_append.mp hc).elim (h c) (g c)
theorem low_one {c : Nat} (h : 97 ≤ c ∧ c ≤ 122) : low [c] := fun d hd => by
  rw [List.mem_singleton.mp hd]
  exact h
theorem low_rep {c n : Nat} (h : 97 ≤ c ∧ c ≤ 122) : low (List.replicate n c) := fun d hd => by
  rw [(List.mem_replicate.mp hd).2]
  exact h
theorem low_take {a : List Nat} (h : low a) (n : Nat) : low (a.take n) := fun c hc => h c (List.mem_of_mem_take hc)
theorem repL_one (c n : Nat) : repL [c] n = List.replicate n c := by
  unfold repL
  induction n with
  | zero => rfl
  | succ n ih => rw [List.replicate_succ, List.flatten_cons, ih, List.replicate_succ]; rfl

/-- _law_line(pool, most): slots 0:pool 1:most 2:letters 3:shift 4:found 5:turn 6:letter -/
noncomputable def b_law_line : M Fl :=
    (mSeq (mAsg (mSl slS (mC (.str [97, 98, 99, 100, 101, 102, 103, 104, 105, 106, 107, 108, 109, 110, 111, 112, 113, 114, 115, 116, 117, 118, 119, 120, 121, 122])) mNo (mSo (mBin ixF (mLst (mCons (mC (.int 2)) (mCons (mC (.int 2)) (mCons (mC (.int 3)) (mCons (mC (.int 26)) mNil))))) (mCall 2 n_law_draw_3 (mCons (mVar 0) (mCons (mC (.int 4)) mNil)))))) (gV 2))
    (mSeq (mAsg (mCall 2 n_law_draw_3 (mCons (mVar 0) (mCons (mBin subI (mC (.int 27)) (mFn lenF (mCons (mVar 2) mNil))) mNil))) (gV 3))
    (mSeq (mAsg (mC (.str [])) (gV 4))
    (mSeq (mFor (mItA rng1 (mCons (mCall 2 n_law_draw_3 (mCons (mVar 0) (mCons (mBin ixF (mLst (mCons (mC (.int 6)) (mCons (mBin addI (mVar 1) (mC (.int 1))) mNil))) (mCall 2 n_law_draw_3 (mCons (mVar 0) (mCons (mC (.int 2)) mNil)))) mNil))) mNil)) (gV 5) (mSeq (mAsg (mBin ixF (mC (.str [97, 98, 99, 100, 101, 102, 103, 104, 105, 106, 107, 108, 109, 110, 111, 112, 113, 114, 115, 116, 117, 118, 119, 120, 121, 122])) (mBin addI (mVar 3) (mCall 2 n_law_draw_3 (mCons (mVar 0) (mCons (mFn lenF (mCons (mVar 2) mNil)) mNil))))) (gV 6))
    (mAsg (mBin addS (mVar 4) (mBin mulS (mVar 6) (mBin ixF (mLst (mCons (mC (.int 1)) (mCons (mC (.int 1)) (mCons (mC (.int 2)) (mCons (mC (.int 2)) (mCons (mC (.int 3)) (mCons (mBin addI (mC (.int 1)) (mCall 2 n_law_draw_3 (mCons (mVar 0) (mCons (mC (.int 9)) mNil)))) mNil))))))) (mCall 2 n_law_draw_3 (mCons (mVar 0) (mCons (mC (.int 6)) mNil)))))) (gV 4))))
    (mRet (mSl slS (mVar 4) mNo (mSo (mVar 1))))))))
noncomputable abbrev n_law_line : Fn := fnOf 7 b_law_line
-- uses: IXL
theorem w_law_line {r : Nat} {most n : Int} {hp : List AO} {Q : D → List AO → Prop} (h0 : 0 ≤ most) (h1 : most ≤ 1000) (hn : n ≤ 900000) (h : PoolAt hp r n)
    (q : ∀ (l : List Nat) hp', low l → (l.length : Int) ≤ most → Only r hp hp' → PoolAt hp' r (n + 3 * most + 30) → Q (.str l) hp') : FnWp n_law_line [.ref r, .int most] hp Q := by
  apply w_fnOf
  unfold b_law_line
  refine w_seq (w_set (w_sl (w_C (w_no (w_so (w_bin (w_lst (w_cons (w_C (w_cons (w_C (w_cons (w_C (w_cons (w_C (w_nil ⟨rfl, ?_⟩))))))))))))))))
  refine w_call (w_cons (w_V rfl (w_cons (w_C (w_nil ⟨rfl, w_law_draw_3 (by decide) (by decide) (by omega) h fun k hp1 k0 k1 o1 a1 => ?_⟩)))))
  obtain ⟨kd, hk, ek⟩ := ixl (l := [.int 2, .int 2, .int 3, .int 26]) k0 k1
  have hkd : ∃ m : Nat, kd = .int (m : Nat) ∧ 1 ≤ m ∧ m ≤ 26 := by
    have : kd = .int 2 ∨ kd = .int 2 ∨ kd = .int 3 ∨ kd = .int 26 := by simpa using hk
    rcases this with rfl | rfl | rfl | rfl
    · exact ⟨2, rfl, by decide, by decide⟩
    · exact ⟨2, rfl, by decide, by decide⟩
    · exact ⟨3, rfl, by decide, by decide⟩
    · exact ⟨26, rfl, by decide, by decide⟩
  obtain ⟨m, rfl, m0, m1⟩ := hkd
  refine ⟨_, ek, _, rfl, _, slS_e (by decide), ?_⟩
  rw [cuts_to]
  have hm : ([97, 98, 99, 100, 101, 102, 103, 104, 105, 106, 107, 108, 109, 110, 111, 112, 113, 114, 115, 116, 117, 118, 119, 120, 121, 122].take m).length = m := by
    rw [List.length_take]
    show min m 26 = m
    omega
  generalize [97, 98, 99, 100, 101, 102, 103, 104, 105, 106, 107, 108, 109, 110, 111, 112, 113, 114, 115, 116, 117, 118, 119, 120, 121, 122].take m = ls at hm
  refine w_seq (w_set (w_call (w_cons (w_V rfl (w_cons (w_bin (w_C (w_fn (w_cons (w_V rfl (w_nil ⟨_, lenS_e (by omega), _, rfl, w_nil ⟨rfl, ?_⟩⟩)))))))))))
  refine w_law_draw_3 (by omega) (by omega) (by omega) a1 fun sh hp2 s0 s1 o2 a2 => ?_
  refine w_seq (w_set (w_C ?_))
  refine w_seq (w_bnd ?_)
  refine w_itA (w_cons (w_call (w_cons (w_V rfl (w_cons (w_bin (w_lst (w_cons (w_C (w_cons (w_bin (w_V rfl (w_C ⟨_, rfl, w_nil ⟨rfl, ?_⟩⟩)))))))))))))
  refine w_call (w_cons (w_V rfl (w_cons (w_C (w_nil ⟨rfl, w_law_draw_3 (by decide) (by decide) (by omega) a2 fun u hp3 u0 u1 o3 a3 => ?_⟩)))))
  obtain ⟨td, ht, et⟩ := ixl (l := [.int 6, .int (most + 1)]) u0 u1
  have htd : ∃ t : Int, td = .int t ∧ 1 ≤ t ∧ t ≤ most + 6 := by
    have : td = .int 6 ∨ td = .int (most + 1) := by simpa using ht
    rcases this with rfl | rfl
    · exact ⟨6, rfl, by decide, by omega⟩
    · exact ⟨_, rfl, by omega, by omega⟩
  obtain ⟨t, rfl, t0, t1⟩ := htd
  refine ⟨_, et, w_nil ⟨rfl, w_law_draw_3 (by omega) (by omega) (by omega) a3 fun v hp4 v0 v1 o4 a4 => ?_⟩⟩
  refine w_nil ⟨_, rng1_e (by omega) (by omega), ?_⟩
  refine w_forL (e := fun i : Nat => D.int (0 + (i : Nat))) (fun pre s' => ∃ (f : List Nat) (x y : Option SV) (hp5 : List AO), s' = st [vl (.ref r), vl (.int most), vl (.str ls), vl (.int sh), vl (.str f), x, y] hp5 ∧ low f ∧ f.length ≤ 9 * pre.length ∧ Only r hp hp5 ∧ PoolAt hp5 r (n + 4 + 3 * pre.length)) (List.range v.toNat) [] _ ⟨[], none, none, hp4, rfl, low_nil, Nat.le_refl _, ((o1.trans o2).trans o3).trans o4, a4.le (by simp; omega)⟩ ?_ ?_
  · rintro pre i post s1 hE ⟨f, x, y, hp5, rfl, tf, lf, o5, a5⟩
    have hlt : pre.length < v.toNat := by
      have := congrArg List.length hE
      rw [List.nil_append, List.length_range, List.length_append, List.length_cons] at this
      omega
    refine w_gV (w_seq (w_set (w_bin (w_C (w_bin (w_V rfl (w_call (w_cons (w_V rfl (w_cons (w_fn (w_cons (w_V rfl (w_nil ⟨_, lenS_e (by omega), w_nil ⟨rfl, ?_⟩⟩))))))))))))))
    refine w_law_draw_3 (by omega) (by omega) (by omega) a5 fun w hp6 w0 w1 o6 a6 => ?_
    refine ⟨_, rfl, ?_⟩
    obtain ⟨c, m1, e1⟩ := ixt (x := [97, 98, 99, 100, 101, 102, 103, 104, 105, 106, 107, 108, 109, 110, 111, 112, 113, 114, 115, 116, 117, 118, 119, 120, 121, 122]) (i := sh + w) (by omega) (by show sh + w < 26; omega) (by decide)
    have hc := (mem_abc c).mp m1
    refine ⟨_, e1, ?_⟩
    refine w_set (w_bin (w_V rfl (w_bin (w_V rfl (w_bin (w_lst (w_cons (w_C (w_cons (w_C (w_cons (w_C (w_cons (w_C (w_cons (w_C (w_cons (w_bin (w_C (w_call (w_cons (w_V rfl (w_cons (w_C (w_nil ⟨rfl, ?_⟩)))))))))))))))))))))))))
    refine w_law_draw_3 (by decide) (by decide) (by omega) a6 fun z hp7 z0 z1 o7 a7 => ?_
    refine ⟨_, rfl, w_nil ⟨rfl, w_call (w_cons (w_V rfl (w_cons (w_C (w_nil ⟨rfl, ?_⟩)))))⟩⟩
    refine w_law_draw_3 (by decide) (by decide) (by omega) a7 fun y hp8 y0 y1 o8 a8 => ?_
    obtain ⟨gd, hg, eg⟩ := ixl (l := [.int 1, .int 1, .int 2, .int 2, .int 3, .int (1 + z)]) y0 y1
    have hgd : ∃ g : Nat, gd = .int (g : Nat) ∧ g ≤ 9 := by
      have : gd = .int 1 ∨ gd = .int 1 ∨ gd = .int 2 ∨ gd = .int 2 ∨ gd = .int 3 ∨ gd = .int (1 + z) := by simpa using hg
      rcases this with rfl | rfl | rfl | rfl | rfl | rfl
      · exact ⟨1, rfl, by decide⟩
      · exact ⟨1, rfl, by decide⟩
      · exact ⟨2, rfl, by decide⟩
      · exact ⟨2, rfl, by decide⟩
      · exact ⟨3, rfl, by decide⟩
      · exact ⟨(1 + z).toNat, by rw [Int.toNat_of_nonneg (by omega)], by omega⟩
    obtain ⟨g, rfl, g1⟩ := hgd
    refine ⟨_, eg, _, mulS_e (by omega) (by omega) (by rw [Int.toNat_natCast]; show 1 * g ≤ _; omega), ?_⟩
    rw [Int.toNat_natCast, repL_one]
    refine ⟨_, addS_e (by rw [List.length_replicate]; omega), f ++ List.replicate g c, _, _, hp8, rfl, low_app tf (low_rep hc), ?_, ((o5.trans o6).trans o7).trans o8, a8.le ?_⟩
    · rw [List.length_append, List.length_append, List.length_replicate, List.length_singleton]
      omega
    · rw [List.length_append, List.length_singleton]
      omega
  · rintro s1 ⟨f, x, y, hp5, rfl, tf, lf, o5, a5⟩
    rw [List.nil_append, List.length_range] at lf a5
    refine w_rt (w_sl (w_V rfl (w_no (w_so (w_V rfl ⟨_, rfl, _, slS_e (by omega), ?_⟩)))))
    have e : cutL f none (some most) = f.take most.toNat := by
      have := cuts_to f most.toNat
      rw [Int.toNat_of_nonneg h0] at this
      exact this
    rw [e]
    exact q _ _ (low_take tf _) (by rw [List.length_take]; omega) o5 (a5.le (by omega))
theorem sp_law_line : ∀ ds hp r, ds.length = 2 → n_law_line ds hp = some r → fnOf 7 b_law_line ds hp = some r := fun _ _ _ _ h => h

/-- _law_steps(pool, most): slots 0:pool 1:most 2:turn -/
noncomputable def b_law_steps : M Fl :=
    (mRet (mJoin (mC (.str [])) (mLc (mItA rng1 (mCons (mCall 2 n_law_draw_3 (mCons (mVar 0) (mCons (mBin addI (mVar 1) (mC (.int 1))) mNil))) mNil)) (gV 2) (ret true) (mBin ixF (mC (.str [84, 83])) (mCall 2 n_law_draw_3 (mCons (mVar 0) (mCons (mC (.int 2)) mNil)))) [2])))
noncomputable abbrev n_law_steps : Fn := fnOf 3 b_law_steps
theorem w_law_steps {r : Nat} {most n : Int} {hp : List AO} {Q : D → List AO → Prop} (h0 : 0 ≤ most) (h1 : most ≤ 1000) (hn : n ≤ 900000) (h : PoolAt hp r n)
    (q : ∀ (p : List Nat) hp', TSs p → (p.length : Int) ≤ most → Only r hp hp' → PoolAt hp' r (n + most + 1) → Q (.str p) hp') : FnWp n_law_steps [.ref r, .int most] hp Q := by
  apply w_fnOf
  unfold b_law_steps
  refine w_rt (w_join ?_)
  refine w_bnd ?_
  (repeat (first | refine w_seq ?_ | refine w_set ?_ | refine w_asg ?_ | refine w_gV ?_ | refine w_gT2 ?_ | refine w_gL2 ?_ | refine w_rt ?_ | refine w_drop ?_ | refine w_par ?_ | refine w_aug rfl ?_ | refine w_nx ?_ | refine w_and ?_ | refine w_or ?_ | refine w_not ?_ | refine w_tst ?_ | refine w_if ?_ | refine w_andV ?_ | refine w_orV ?_ | refine w_tup ?_ | refine w_lst ?_ | refine w_lstH ?_ | refine w_bin ?_ | refine w_un ?_ | refine w_fn ?_ | refine w_it ?_ | refine w_itA ?_ | refine w_cons ?_ | refine w_nil ?_ | refine w_V rfl ?_ | refine w_VO rfl ?_ | refine w_C ?_ | refine w_sl ?_ | refine w_so ?_ | refine w_no ?_ | refine w_call ?_ | refine w_join ?_ | refine w_setO ?_ | refine w_ixH ?_ | refine w_setIxH ?_ | refine w_cmpH ?_ | refine w_pop0H ?_ | refine w_appH ?_ | refine w_par3 ?_ | refine w_joinH ?_ | refine w_perm ?_ | refine w_split ?_ | refine w_notV ?_ | refine w_ret ?_ | refine And.intro rfl ?_ | refine Exists.intro _ (And.intro rfl ?_)))
  refine w_law_draw_3 (by omega) (by omega) (by omega) h fun k hp1 k0 k1 o1 a1 => ?_
  (repeat (first | refine w_seq ?_ | refine w_set ?_ | refine w_asg ?_ | refine w_gV ?_ | refine w_gT2 ?_ | refine w_gL2 ?_ | refine w_rt ?_ | refine w_drop ?_ | refine w_par ?_ | refine w_aug rfl ?_ | refine w_nx ?_ | refine w_and ?_ | refine w_or ?_ | refine w_not ?_ | refine w_tst ?_ | refine w_if ?_ | refine w_andV ?_ | refine w_orV ?_ | refine w_tup ?_ | refine w_lst ?_ | refine w_lstH ?_ | refine w_bin ?_ | refine w_un ?_ | refine w_fn ?_ | refine w_it ?_ | refine w_itA ?_ | refine w_cons ?_ | refine w_nil ?_ | refine w_V rfl ?_ | refine w_VO rfl ?_ | refine w_C ?_ | refine w_sl ?_ | refine w_so ?_ | refine w_no ?_ | refine w_call ?_ | refine w_join ?_ | refine w_setO ?_ | refine w_ixH ?_ | refine w_setIxH ?_ | refine w_cmpH ?_ | refine w_pop0H ?_ | refine w_appH ?_ | refine w_par3 ?_ | refine w_joinH ?_ | refine w_perm ?_ | refine w_split ?_ | refine w_notV ?_ | refine w_ret ?_ | refine And.intro rfl ?_ | refine Exists.intro _ (And.intro rfl ?_)))
  refine ⟨_, if_pos ⟨by omega, by omega⟩, ?_⟩
  have main : Wp (mLc (ret (rngD 0 k.toNat)) (gV 2) (ret true) (mBin ixF (mC (.str [84, 83])) (mCall 2 n_law_draw_3 (mCons (mVar 0) (mCons (mC (.int 2)) mNil)))) [2]) (st [vl (.ref r), vl (.int most), none] hp1)
      fun e s2 => ∃ z, joinD [] e = some z ∧ EndQ Q (.rt z) s2 := by
    refine w_lc' (fun i : Nat => D.int (0 + (i : Nat))) (List.range k.toNat) (fun pre acc s' => ∃ hp2 p, s' = st [vl (.ref r), vl (.int most), none] hp2 ∧ Only r hp1 hp2 ∧ PoolAt hp2 r (n + 1 + pre.length) ∧ acc = p.map (fun c => D.str [c]) ∧ TSs p ∧ p.length = pre.length) ?_ ?_ ?_ ?_
    · rw [List.length_range]
      omega
    · exact w_ret ⟨rfl, hp1, [], rfl, Only.refl _ _, a1.le (by simp), rfl, fun _ h => (by cases h), rfl⟩
    · rintro pre a post acc s1 hE ⟨hp2, p, rfl, o2, a2, rfl, hts, hlen⟩
      have hlt : pre.length < k.toNat := by
        have := congrArg List.length hE
        rw [List.length_range, List.length_append, List.length_cons] at this
        omega
      refine w_gV (w_ret ⟨fun _ => ?_, fun hb => (by cases hb)⟩)
      (repeat (first | refine w_seq ?_ | refine w_set ?_ | refine w_asg ?_ | refine w_gV ?_ | refine w_gT2 ?_ | refine w_gL2 ?_ | refine w_rt ?_ | refine w_drop ?_ | refine w_par ?_ | refine w_aug rfl ?_ | refine w_nx ?_ | refine w_and ?_ | refine w_or ?_ | refine w_not ?_ | refine w_tst ?_ | refine w_if ?_ | refine w_andV ?_ | refine w_orV ?_ | refine w_tup ?_ | refine w_lst ?_ | refine w_lstH ?_ | refine w_bin ?_ | refine w_un ?_ | refine w_fn ?_ | refine w_it ?_ | refine w_itA ?_ | refine w_cons ?_ | refine w_nil ?_ | refine w_V rfl ?_ | refine w_VO rfl ?_ | refine w_C ?_ | refine w_sl ?_ | refine w_so ?_ | refine w_no ?_ | refine w_call ?_ | refine w_join ?_ | refine w_setO ?_ | refine w_ixH ?_ | refine w_setIxH ?_ | refine w_cmpH ?_ | refine w_pop0H ?_ | refine w_appH ?_ | refine w_par3 ?_ | refine w_joinH ?_ | refine w_perm ?_ | refine w_split ?_ | refine w_notV ?_ | refine w_ret ?_ | refine And.intro rfl ?_ | refine Exists.intro _ (And.intro rfl ?_)))
      refine w_law_draw_3 (by decide) (by decide) (by omega) a2 fun x hp3 x0 x1 o3 a3 => ?_
      have hx : x = 0 ∨ x = 1 := by omega
      have e0 : ∃ c, (c = 84 ∨ c = 83) ∧ ixF (.str [84, 83]) (.int x) = some (.str [c]) := by
        rcases hx with rfl | rfl
        · exact ⟨84, .inl rfl, ixS_e (by decide) rfl⟩
        · exact ⟨83, .inr rfl, ixS_e (by decide) rfl⟩
      obtain ⟨c, hc, e0⟩ := e0
      refine ⟨_, e0, hp3, p ++ [c], rfl, o2.trans o3, ?_, by simp, ?_, by simp [hlen]⟩
      · refine a3.le ?_
        rw [List.length_append, List.length_singleton]
        omega
      · intro d hd
        rcases List.mem_append.mp hd with hd | hd
        · exact hts d hd
        · rw [List.mem_singleton.mp hd]
          exact hc
    · rintro acc s' ⟨hp2, p, rfl, o2, a2, rfl, hts, hlen⟩
      rw [List.length_range] at hlen a2
      refine ⟨_, joinD_map (by omega), q p hp2 hts (by omega) (o1.trans o2) (a2.le (by omega))⟩
  exact main
theorem sp_law_steps : ∀ ds hp r, ds.length = 2 → n_law_steps ds hp = some r → fnOf 3 b_law_steps ds hp = some r := fun _ _ _ _ h => h

/-- SieveRow.row(self): slots 0:self -/
noncomputable def b_SieveRow_row : M Fl :=
    (mRet (mBin ixF (mFld "SieveRow" "passed" (mVar 0)) (mUn negI (mC (.int 1)))))
noncomputable abbrev n_SieveRow_row : Fn := fnOf 1 b_SieveRow_row
-- uses: LIVE
theorem w_SieveRow_row {r : Nat} {s p steps : List Nat} {hp : List AO} {Q : D → List AO → Prop} (h : LiveAt hp r (trail s p) steps) (q : Q (.str (sv s p)) hp) : FnWp n_SieveRow_row [.ref r] hp Q := by
  apply w_fnOf
  unfold b_SieveRow_row
  exact w_rt (w_bin (w_fld (w_V rfl ⟨_, _, getI_e h, live_p _ _, w_un (w_C ⟨_, rfl, _, trail_last p s, q⟩)⟩)))
theorem sp_SieveRow_row : ∀ ds hp r, ds.length = 1 → n_SieveRow_row ds hp = some r → fnOf 1 b_SieveRow_row ds hp = some r := fun _ _ _ _ h => h

/-- SieveRow.pipeline(self): slots 0:self -/
noncomputable def b_SieveRow_pipeline : M Fl :=
    (mRet (mFld "SieveRow" "applied" (mVar 0)))
noncomputable abbrev n_SieveRow_pipeline : Fn := fnOf 1 b_SieveRow_pipeline
-- uses: LIVE
theorem w_SieveRow_pipeline {r : Nat} {rows : List (List Nat)} {steps : List Nat} {hp : List AO} {Q : D → List AO → Prop} (h : LiveAt hp r rows steps) (q : Q (.str steps) hp) : FnWp n_SieveRow_pipeline [.ref r] hp Q := by
  apply w_fnOf
  unfold b_SieveRow_pipeline
  exact w_rt (w_fld (w_V rfl ⟨_, _, getI_e h, live_a _ _, q⟩))
theorem sp_SieveRow_pipeline : ∀ ds hp r, ds.length = 1 → n_SieveRow_pipeline ds hp = some r → fnOf 1 b_SieveRow_pipeline ds hp = some r := fun _ _ _ _ h => h

/-- _law_sieved(line, steps): slots 0:line 1:steps 2:step 3:found 4:here 5:letter -/
noncomputable def b_law_sieved_3 : M Fl :=
    (mSeq (mFor (mIt itS (mVar 1)) (gV 2) (mSeq (mAsg (mTup (mCons (mC (.str [])) (mCons (mC (.str [])) mNil))) (gT (gC (gV 3) (gC (gV 4) gN)) 2))
    (mSeq (mFor (mIt itS (mBin addS (mVar 0) (mC (.str [32])))) (gV 5) (mSeq (mIf (mAnd (mTst (mBin neSc (mVar 4) (mC (.str [])))) (mTst (mBin neSc (mVar 5) (mBin ixF (mVar 4) (mC (.int 0)))))) (mSeq (mAsg (mBin addS (mVar 3) (mBin mulS (mSl slS (mVar 4) mNo (mSo (mC (.int 1)))) (mFn intF (mCons (mBin eqSc (mBin gtI (mFn lenF (mCons (mVar 4) mNil)) (mC (.int 1))) (mBin eqSc (mVar 2) (mC (.str [84])))) mNil)))) (gV 3))
    (mAsg (mC (.str [])) (gV 4))) mNx)
    (mAsg (mBin addS (mVar 4) (mVar 5)) (gV 4))))
    (mAsg (mVar 3) (gV 0)))))
    (mRet (mVar 0)))
noncomputable abbrev n_law_sieved_3 : Fn := fnOf 6 b_law_sieved_3
-- uses: runs_of sieved_once POOL
theorem runs_end : ∀ {l : List Nat}, l ≠ [] → ∃ R d n, runs l = R ++ [(d, n)] ∧ 1 ≤ n := by
  intro l h
  rcases snoc_or (runs l) with e | ⟨R, ⟨d, n⟩, e⟩
  · have := expand_runs l
    rw [e] at this
    exact absurd this.symm h
  · refine ⟨R, d, n, e, ?_⟩
    have hv := runs_vld l
    rw [e] at hv
    clear e
    induction R with
    | nil => exact vld_pos hv
    | cons x R ih => exact ih (vld_tail hv)
theorem kp_app (k : Nat → Bool) (a b : List (Nat × Nat)) : kp k (a ++ b) = kp k a ++ kp k b := List.filterMap_append
theorem expand_app : ∀ a b : List (Nat × Nat), expand (a ++ b) = expand a ++ expand b
  | [], b => rfl
  | (c, n) :: a, b => by
    show List.replicate n c ++ expand (a ++ b) = List.replicate n c ++ expand a ++ expand b
    rw [expand_app a b, List.append_assoc]
theorem pushR_snoc (R : List (Nat × Nat)) (d n c : Nat) : pushR (R ++ [(d, n)]) c = if d = c then R ++ [(d, n + 1)] else R ++ [(d, n)] ++ [(c, 1)] := by
  unfold pushR
  rw [List.getLast?_append]
  by_cases h : d = c
  · simp [h]
  · simp [h]
theorem atI0 (c : Nat) (l : List Nat) : atI (c :: l) 0 = some c := by
  unfold atI ixN
  rw [if_pos (by decide), if_pos (by show (0 : Int) < ((l.length + 1 : Nat) : Int); omega)]
  rfl
/-- found and here, as the runs have it -/
def sift (k : Nat → Bool) (l : List Nat) (fnd here : List Nat) : Prop := (l = [] ∧ fnd = [] ∧ here = []) ∨ ∃ R d n, runs l = R ++ [(d, n + 1)] ∧ fnd = kp k R ∧ here = List.replicate (n + 1) d
def keepT (c n : Nat) : Bool := decide (decide (n = 1) = decide (c = 83))
theorem sift_len {k : Nat → Bool} {l fnd here : List Nat} (h : sift k l fnd here) : fnd.length + here.length ≤ l.length := by
  rcases h with ⟨rfl, rfl, rfl⟩ | ⟨R, d, n, e, rfl, rfl⟩
  · exact Nat.le_refl 0
  · have h1 := expand_runs l
    rw [e, expand_app] at h1
    have h2 := congrArg List.length h1
    rw [List.length_append] at h2
    have h3 : (expand [(d, n + 1)]).length = n + 1 := by simp [expand]
    have h4 : (kp k R).length ≤ (expand R).length := by
      have hv := runs_vld l
      rw [e] at hv
      clear h1 h2 h3 e
      induction R with
      | nil => exact Nat.le_refl 0
      | cons x R ih =>
        obtain ⟨c, m⟩ := x
        have hm := vld_pos hv
        have := ih (vld_tail hv)
        rw [kp_cons]
        show _ ≤ (List.replicate m c ++ expand R).length
        rw [List.length_append, List.length_replicate]
        split
        · simp only [List.length_cons]
          omega
        · omega
    rw [List.length_replicate]
    omega
theorem w_law_sieved_3 {s p : List Nat} {hp : List AO} {Q : D → List AO → Prop} (h : rok s) (hs : ∀ c ∈ s, c ≠ 32) (ht : TSs p) (q : Q (.str (sv s p)) hp) : FnWp n_law_sieved_3 [.str s, .str p] hp Q := by
  apply w_fnOf
  unfold b_law_sieved_3
  refine w_seq (w_for (fun c : Nat => D.str [c]) p (fun pre s' => ∃ x y z w, s' = st [vl (.str (sv s pre)), vl (.str p), x, y, z, w] hp) ?_ ?_ ?_)
  · exact w_it (w_V rfl ⟨_, rfl, rfl, none, none, none, none, rfl⟩)
  · rintro pre a post s1 hE ⟨x, y, z, w, rfl⟩
    have hr := rok_sv h pre
    have hrs : ∀ c ∈ sv s pre, c ≠ 32 := by
      have : ∀ (p l : List Nat), (∀ c ∈ l, c ≠ 32) → ∀ c ∈ sv l p, c ≠ 32 := by
        intro p
        induction p with
        | nil => intro l h; exact h
        | cons d p ih => intro l h; exact ih (sv1 l d) fun c hc => h c (sv1_mem hc)
      exact this pre s hs
    have hta : a = 84 ∨ a = 83 := ht a (by rw [hE]; exact List.mem_append_right _ List.mem_cons_self)
    have e0 : sv s (pre ++ [a]) = sv1 (sv s pre) a := by rw [sv_app]; rfl
    rw [e0]
    generalize sv s pre = l at hr hrs
    (repeat (first | refine w_seq ?_ | refine w_set ?_ | refine w_asg ?_ | refine w_gV ?_ | refine w_gT2 ?_ | refine w_gL2 ?_ | refine w_rt ?_ | refine w_drop ?_ | refine w_par ?_ | refine w_aug rfl ?_ | refine w_nx ?_ | refine w_and ?_ | refine w_or ?_ | refine w_not ?_ | refine w_tst ?_ | refine w_if ?_ | refine w_andV ?_ | refine w_orV ?_ | refine w_tup ?_ | refine w_lst ?_ | refine w_lstH ?_ | refine w_bin ?_ | refine w_un ?_ | refine w_fn ?_ | refine w_it ?_ | refine w_itA ?_ | refine w_cons ?_ | refine w_nil ?_ | refine w_V rfl ?_ | refine w_VO rfl ?_ | refine w_C ?_ | refine w_sl ?_ | refine w_so ?_ | refine w_no ?_ | refine w_call ?_ | refine w_join ?_ | refine w_setO ?_ | refine w_ixH ?_ | refine w_setIxH ?_ | refine w_cmpH ?_ | refine w_pop0H ?_ | refine w_appH ?_ | refine w_par3 ?_ | refine w_joinH ?_ | refine w_perm ?_ | refine w_split ?_ | refine w_notV ?_ | refine w_ret ?_ | refine And.intro rfl ?_ | refine Exists.intro _ (And.intro rfl ?_)))
    refine w_for (fun c : Nat => D.str [c]) (l ++ [32]) (fun pre2 s' => ∃ f g w, s' = st [vl (.str l), vl (.str p), vl (.str [a]), vl (.str f), vl (.str g), w] hp ∧ sift (keepT a) pre2 f g) ?_ ?_ ?_
    · (repeat (first | refine w_seq ?_ | refine w_set ?_ | refine w_asg ?_ | refine w_gV ?_ | refine w_gT2 ?_ | refine w_gL2 ?_ | refine w_rt ?_ | refine w_drop ?_ | refine w_par ?_ | refine w_aug rfl ?_ | refine w_nx ?_ | refine w_and ?_ | refine w_or ?_ | refine w_not ?_ | refine w_tst ?_ | refine w_if ?_ | refine w_andV ?_ | refine w_orV ?_ | refine w_tup ?_ | refine w_lst ?_ | refine w_lstH ?_ | refine w_bin ?_ | refine w_un ?_ | refine w_fn ?_ | refine w_it ?_ | refine w_itA ?_ | refine w_cons ?_ | refine w_nil ?_ | refine w_V rfl ?_ | refine w_VO rfl ?_ | refine w_C ?_ | refine w_sl ?_ | refine w_so ?_ | refine w_no ?_ | refine w_call ?_ | refine w_join ?_ | refine w_setO ?_ | refine w_ixH ?_ | refine w_setIxH ?_ | refine w_cmpH ?_ | refine w_pop0H ?_ | refine w_appH ?_ | refine w_par3 ?_ | refine w_joinH ?_ | refine w_perm ?_ | refine w_split ?_ | refine w_notV ?_ | refine w_ret ?_ | refine And.intro rfl ?_ | refine Exists.intro _ (And.intro rfl ?_)))
      exact ⟨_, addS_e (by have := hr.1; show l.length + 1 ≤ _; omega), _, rfl, rfl, [], [], w, rfl, .inl ⟨rfl, rfl, rfl⟩⟩
    · rintro pre2 c post2 s2 hE2 ⟨f, g, w, rfl, hf⟩
      have hlen := sift_len hf
      have hl2 : pre2.length ≤ 1000000 := by
        have := congrArg List.length hE2
        simp only [List.length_append, List.length_cons, List.length_nil] at this
        have := hr.1
        omega
      have app : ∀ f' g', f'.length + g'.length ≤ 1000001 → sift (keepT a) (pre2 ++ [c]) f' (g' ++ [c]) → Wp (mAsg (mBin addS (mVar 4) (mVar 5)) (gV 4)) (st [vl (.str l), vl (.str p), vl (.str [a]), vl (.str f'), vl (.str g'), vl (.str [c])] hp) fun f_1 s2 => LoopQ (fun s' => ∃ f g w, s' = st [vl (.str l), vl (.str p), vl (.str [a]), vl (.str f), vl (.str g), w] hp ∧ sift (keepT a) (pre2 ++ [c]) f g) (fun f s1 => match f with | .nx => Wp (mAsg (mVar 3) (gV 0)) s1 fun f s2 => LoopQ (fun s' => ∃ x y z w, s' = st [vl (.str (sv1 l a)), vl (.str p), x, y, z, w] hp) (fun f s1 => match f with | .nx => Wp (mRet (mVar 0)) s1 (EndQ Q) | f => EndQ Q f s1) f s2 | f => LoopQ (fun s' => ∃ x y z w, s' = st [vl (.str (sv1 l a)), vl (.str p), x, y, z, w] hp) (fun f s1 => match f with | .nx => Wp (mRet (mVar 0)) s1 (EndQ Q) | f => EndQ Q f s1) f s1) f_1 s2 := by
        intro f' g' hl hs'
        refine w_set (w_bin (w_V rfl (w_V rfl ⟨_, addS_e (by show g'.length + 1 ≤ _; omega), f', g' ++ [c], _, rfl, hs'⟩)))
      (repeat (first | refine w_seq ?_ | refine w_set ?_ | refine w_asg ?_ | refine w_gV ?_ | refine w_gT2 ?_ | refine w_gL2 ?_ | refine w_rt ?_ | refine w_drop ?_ | refine w_par ?_ | refine w_aug rfl ?_ | refine w_nx ?_ | refine w_and ?_ | refine w_or ?_ | refine w_not ?_ | refine w_tst ?_ | refine w_if ?_ | refine w_andV ?_ | refine w_orV ?_ | refine w_tup ?_ | refine w_lst ?_ | refine w_lstH ?_ | refine w_bin ?_ | refine w_un ?_ | refine w_fn ?_ | refine w_it ?_ | refine w_itA ?_ | refine w_cons ?_ | refine w_nil ?_ | refine w_V rfl ?_ | refine w_VO rfl ?_ | refine w_C ?_ | refine w_sl ?_ | refine w_so ?_ | refine w_no ?_ | refine w_call ?_ | refine w_join ?_ | refine w_setO ?_ | refine w_ixH ?_ | refine w_setIxH ?_ | refine w_cmpH ?_ | refine w_pop0H ?_ | refine w_appH ?_ | refine w_par3 ?_ | refine w_joinH ?_ | refine w_perm ?_ | refine w_split ?_ | refine w_notV ?_ | refine w_ret ?_ | refine And.intro rfl ?_ | refine Exists.intro _ (And.intro rfl ?_)))
      refine ⟨fun hb => ?_, fun hb => ⟨fun z => (by cases z), fun _ => ?_⟩⟩
      · rcases hf with ⟨rfl, rfl, rfl⟩ | ⟨R, d, n, e, rfl, rfl⟩
        · simp at hb
        · refine w_tst (w_bin (w_V rfl (w_bin (w_V rfl (w_C ⟨.str [d], ixS_e (by rw [List.length_replicate] at hlen ⊢; omega) (atI0 _ _), ?_⟩)))))
          have er : runs (pre2 ++ [c]) = if d = c then R ++ [(d, n + 1 + 1)] else R ++ [(d, n + 1)] ++ [(c, 1)] := by rw [runs_snoc, e, pushR_snoc]
          refine ⟨_, rfl, _, rfl, fun hb2 => ?_, fun hb2 => ?_⟩
          · have hcd : ¬ d = c := by
              have : ¬ c = d := by simpa using hb2
              exact fun z => this z.symm
            rw [if_neg hcd] at er
            (repeat (first | refine w_seq ?_ | refine w_set ?_ | refine w_asg ?_ | refine w_gV ?_ | refine w_gT2 ?_ | refine w_gL2 ?_ | refine w_rt ?_ | refine w_drop ?_ | refine w_par ?_ | refine w_aug rfl ?_ | refine w_nx ?_ | refine w_and ?_ | refine w_or ?_ | refine w_not ?_ | refine w_tst ?_ | refine w_if ?_ | refine w_andV ?_ | refine w_orV ?_ | refine w_tup ?_ | refine w_lst ?_ | refine w_lstH ?_ | refine w_bin ?_ | refine w_un ?_ | refine w_fn ?_ | refine w_it ?_ | refine w_itA ?_ | refine w_cons ?_ | refine w_nil ?_ | refine w_V rfl ?_ | refine w_VO rfl ?_ | refine w_C ?_ | refine w_sl ?_ | refine w_so ?_ | refine w_no ?_ | refine w_call ?_ | refine w_join ?_ | refine w_setO ?_ | refine w_ixH ?_ | refine w_setIxH ?_ | refine w_cmpH ?_ | refine w_pop0H ?_ | refine w_appH ?_ | refine w_par3 ?_ | refine w_joinH ?_ | refine w_perm ?_ | refine w_split ?_ | refine w_notV ?_ | refine w_ret ?_ | refine And.intro rfl ?_ | refine Exists.intro _ (And.intro rfl ?_)))
            refine ⟨_, slS_e (by rw [List.length_replicate] at hlen ⊢; omega), ?_⟩
            (repeat (first | refine w_seq ?_ | refine w_set ?_ | refine w_asg ?_ | refine w_gV ?_ | refine w_gT2 ?_ | refine w_gL2 ?_ | refine w_rt ?_ | refine w_drop ?_ | refine w_par ?_ | refine w_aug rfl ?_ | refine w_nx ?_ | refine w_and ?_ | refine w_or ?_ | refine w_not ?_ | refine w_tst ?_ | refine w_if ?_ | refine w_andV ?_ | refine w_orV ?_ | refine w_tup ?_ | refine w_lst ?_ | refine w_lstH ?_ | refine w_bin ?_ | refine w_un ?_ | refine w_fn ?_ | refine w_it ?_ | refine w_itA ?_ | refine w_cons ?_ | refine w_nil ?_ | refine w_V rfl ?_ | refine w_VO rfl ?_ | refine w_C ?_ | refine w_sl ?_ | refine w_so ?_ | refine w_no ?_ | refine w_call ?_ | refine w_join ?_ | refine w_setO ?_ | refine w_ixH ?_ | refine w_setIxH ?_ | refine w_cmpH ?_ | refine w_pop0H ?_ | refine w_appH ?_ | refine w_par3 ?_ | refine w_joinH ?_ | refine w_perm ?_ | refine w_split ?_ | refine w_notV ?_ | refine w_ret ?_ | refine And.intro rfl ?_ | refine Exists.intro _ (And.intro rfl ?_)))
            refine ⟨_, lenS_e (by rw [List.length_replicate] at hlen ⊢; omega), ?_⟩
            (repeat (first | refine w_seq ?_ | refine w_set ?_ | refine w_asg ?_ | refine w_gV ?_ | refine w_gT2 ?_ | refine w_gL2 ?_ | refine w_rt ?_ | refine w_drop ?_ | refine w_par ?_ | refine w_aug rfl ?_ | refine w_nx ?_ | refine w_and ?_ | refine w_or ?_ | refine w_not ?_ | refine w_tst ?_ | refine w_if ?_ | refine w_andV ?_ | refine w_orV ?_ | refine w_tup ?_ | refine w_lst ?_ | refine w_lstH ?_ | refine w_bin ?_ | refine w_un ?_ | refine w_fn ?_ | refine w_it ?_ | refine w_itA ?_ | refine w_cons ?_ | refine w_nil ?_ | refine w_V rfl ?_ | refine w_VO rfl ?_ | refine w_C ?_ | refine w_sl ?_ | refine w_so ?_ | refine w_no ?_ | refine w_call ?_ | refine w_join ?_ | refine w_setO ?_ | refine w_ixH ?_ | refine w_setIxH ?_ | refine w_cmpH ?_ | refine w_pop0H ?_ | refine w_appH ?_ | refine w_par3 ?_ | refine w_joinH ?_ | refine w_perm ?_ | refine w_split ?_ | refine w_notV ?_ | refine w_ret ?_ | refine And.intro rfl ?_ | refine Exists.intro _ (And.intro rfl ?_)))
            have ec : cutL (List.replicate (n + 1) d) none (some 1) = [d] := by
              unfold cutL
              have : HT.sIx (List.replicate (n + 1) d).length (List.replicate (n + 1) d).length (some 1) = min 1 (n + 1) := by
                have := HT.sIx_nat (List.replicate (n + 1) d).length (List.replicate (n + 1) d).length 1
                rw [List.length_replicate] at this ⊢
                exact this
              rw [this, show min 1 (n + 1) = 1 by omega]
              rfl
            rw [ec]
            have hk : decide (decide (((List.replicate (n + 1) d).length : Int) > 1) = decide ([a] = [84])) = keepT a (n + 1) := by
              unfold keepT
              rw [List.length_replicate]
              rcases hta with rfl | rfl
              · by_cases hn : n = 0 <;> simp [hn] <;> omega
              · by_cases hn : n = 0 <;> simp [hn] <;> omega
            rw [hk]
            refine ⟨_, mulS_e (by split <;> decide) (by split <;> decide) (by split <;> simp), ?_⟩
            refine ⟨_, addS_e (by rw [List.length_replicate] at hlen; split <;> simp [repL] <;> omega), ?_⟩
            refine w_set (w_C ?_)
            refine app _ [] ?_ (.inr ⟨R ++ [(d, n + 1)], c, 0, er, ?_, rfl⟩)
            · rw [List.length_replicate] at hlen
              split <;> simp [repL] <;> omega
            · rw [kp_app]
              congr 1
              show _ = kp (keepT a) [(d, n + 1)]
              rw [kp_cons]
              cases keepT a (n + 1) <;> rfl
          · have hcd : d = c := by
              have : c = d := by simpa using hb2
              exact this.symm
            rw [if_pos hcd] at er
            subst hcd
            refine w_nx (app _ _ (by omega) (.inr ⟨R, d, n + 1, er, rfl, ?_⟩))
            rw [← List.replicate_succ']
      · rcases hf with ⟨rfl, rfl, rfl⟩ | ⟨R, d, n, e, rfl, rfl⟩
        · refine w_nx (app [] [] (by decide) (.inr ⟨[], c, 0, rfl, rfl, rfl⟩))
        · simp [List.replicate_succ] at hb
    · rintro s2 ⟨f, g, w, rfl, hf⟩
      have : f = sv1 l a := by
        rcases hf with ⟨h1, _⟩ | ⟨R, d, n, e, rfl, rfl⟩
        · simp at h1
        · rw [runs_snoc] at e
          show _ = kp (keepT a) (runs l)
          by_cases hl : l = []
          · subst hl
            have : R = [] := by
              have e' : [(32, 1)] = R ++ [(d, n + 1)] := e
              have := congrArg List.length e'
              rw [List.length_append] at this
              exact List.eq_nil_of_length_eq_zero (by simpa using this)
            rw [this]
            rfl
          · obtain ⟨R', d', n', e2, _⟩ := runs_end hl
            have hd' : d' ≠ 32 := by
              refine hrs d' ?_
              have : (d', n') ∈ runs l := by rw [e2]; simp
              exact runs_mem l _ this
            rw [e2, pushR_snoc, if_neg hd'] at e
            rw [e2]
            have := List.append_inj' e rfl
            rw [← this.1]
      rw [← this]
      exact w_set (w_V rfl ⟨_, _, _, _, rfl⟩)
  · rintro s' ⟨x, y, z, w, rfl⟩
    exact w_rt (w_V rfl q)
theorem sp_law_sieved_3 : ∀ ds hp r, ds.length = 2 → n_law_sieved_3 ds hp = some r → fnOf 6 b_law_sieved_3 ds hp = some r := fun _ _ _ _ h => h

/-- SieveRow.__eq__(self, other): slots 0:self 1:other -/
noncomputable def b_SieveRow___eq___k : M Fl :=
    (mSeq (mIf (mNot (mTst (mIsK "SieveRow" (mVar 1)))) (mRet (mC (.bl false))) mNx)
    (mRet (mAndV (mBin eqSc (mBin ixF (mFld "SieveRow" "passed" (mVar 0)) (mC (.int 0))) (mBin ixF (mFld "SieveRow" "passed" (mVar 1)) (mC (.int 0)))) (mBin eqSc (mFld "SieveRow" "applied" (mVar 0)) (mFld "SieveRow" "applied" (mVar 1))))))
noncomputable abbrev n_SieveRow___eq___k : Fn := fnOf 2 b_SieveRow___eq___k
-- uses: LIVE
theorem w_isK_t {c : Str} {mo : M D} {s : A} {Q : D → A → Prop} (h : Wp mo s fun o s1 => ∃ fs, getI s1 c o = some fs ∧ Q (.bl true) s1) : Wp (mIsK c mo) s Q :=
  w_bnd (h.mono fun o s1 ⟨fs, e, q⟩ => by
    refine ⟨_, s1, ?_, q⟩
    show (match getI s1 c o with | some _ => _ | none => _) = _
    rw [e])
theorem getI_plain {s : A} {c : Str} {d : D} (h : plainK d = true) : getI s c d = none := by
  cases d <;> first | rfl | cases h
theorem w_isK_f {c : Str} {mo : M D} {s : A} {Q : D → A → Prop} (h : Wp mo s fun o s1 => plainK o = true ∧ Q (.bl false) s1) : Wp (mIsK c mo) s Q :=
  w_bnd (h.mono fun o s1 ⟨e, q⟩ => by
    refine ⟨_, s1, ?_, q⟩
    show (match getI s1 c o with | some _ => _ | none => if plainK o = true then some (O.ok (D.bl false) s1) else none) = _
    rw [getI_plain e]
    exact if_pos e)
theorem w_eqO {c : Str} {n : Fn} {ma mb : M D} {s : A} {Q : D → A → Prop} (h : Wp ma s fun x s1 => Wp mb s1 fun y s2 => (∃ fs, getI s2 c x = some fs) ∧ (∃ gs, getI s2 c y = some gs) ∧ FnWp n [x, y] s2.hp fun d hp' => ∃ b, d = .bl b ∧ Q (.bl b) { s2 with hp := hp' }) : Wp (mEqO c n ma mb) s Q :=
  w_bnd (h.mono fun x s1 h1 => w_bnd (h1.mono fun y s2 ⟨⟨fs, e1⟩, ⟨gs, e2⟩, d, hp', e3, b, ed, q⟩ => by
    subst ed
    refine ⟨_, _, ?_, q⟩
    show (match getI s2 c x, getI s2 c y with | some _, some _ => _ | _, _ => none) = _
    rw [e1, e2]
    show (match n [x, y] s2.hp with | some (.ok (.bl b) hp') => _ | _ => none) = _
    rw [e3]))
theorem w_neO {c : Str} {n : Fn} {ma mb : M D} {s : A} {Q : D → A → Prop} (h : Wp ma s fun x s1 => Wp mb s1 fun y s2 => (∃ fs, getI s2 c x = some fs) ∧ ((getI s2 c y).isSome = true ∨ plainK y = true) ∧ FnWp n [x, y] s2.hp fun d hp' => ∃ b, d = .bl b ∧ Q (.bl (!b)) { s2 with hp := hp' }) : Wp (mNeO c n ma mb) s Q :=
  w_bnd (h.mono fun x s1 h1 => w_bnd (h1.mono fun y s2 ⟨⟨fs, e1⟩, e2, d, hp', e3, b, ed, q⟩ => by
    subst ed
    refine ⟨.bl (!b), { s2 with hp := hp' }, ?_, q⟩
    show (match getI s2 c x with | some _ => _ | none => none) = _
    rw [e1]
    show (if (getI s2 c y).isSome = true ∨ plainK y = true then _ else none) = _
    rw [if_pos e2]
    show (match n [x, y] s2.hp with | some (.ok (.bl b) hp') => some (O.ok (D.bl (!b)) { s2 with hp := hp' }) | _ => none) = _
    rw [e3]))
theorem w_notInK {c : Str} {n : Fn} {ma mb : M D} {s : A} {Q : D → A → Prop} (h : Wp ma s fun x s1 => Wp mb s1 fun y s2 => (∃ fs, getI s2 c x = some fs) ∧ ∃ l, y = .lst l ∧ (∀ d ∈ l, plainK d = true ∧ n [x, d] s2.hp = some (FR.ok (.bl false) s2.hp)) ∧ Q (.bl true) s2) : Wp (mNotInK c n ma mb) s Q :=
  w_bnd (h.mono fun x s1 h1 => w_bnd (h1.mono fun y s2 ⟨⟨fs, e1⟩, l, ey, hl, q⟩ => by
    subst ey
    refine ⟨.bl true, s2, ?_, q⟩
    show (match getI s2 c x, D.lst l with | some _, .lst l => (if ∀ d ∈ l, plainK d = true ∧ n [x, d] s2.hp = some (FR.ok (.bl false) s2.hp) then some (O.ok (D.bl true) s2) else none) | _, _ => none) = _
    rw [e1]
    exact if_pos hl))
theorem trail_head (s p : List Nat) : ∃ r, trail s p = s :: r := by cases p <;> exact ⟨_, rfl⟩
/-- equal: the rows at the start, the sieves -/
theorem w_eq_k {r r' : Nat} {s s' p p' : List Nat} {hp : List AO} {Q : D → List AO → Prop} (h : LiveAt hp r (trail s p) p) (h' : LiveAt hp r' (trail s' p') p') (q : Q (.bl (decide (s = s' ∧ p = p'))) hp) : FnWp n_SieveRow___eq___k [.ref r, .ref r'] hp Q := by
  apply w_fnOf
  unfold b_SieveRow___eq___k
  refine w_seq (w_if (w_not (w_tst (w_isK_t (w_V rfl ⟨_, getI_e h', _, rfl, fun z => (by cases z), fun _ => w_nx ?_⟩)))))
  have i0 : ∀ s p, ixF (.lst ((trail s p).map D.str)) (.int 0) = some (.str s) := fun s p => by
    obtain ⟨t, e⟩ := trail_head s p
    rw [e, List.map_cons]
    exact ix_head _ _
  refine w_rt (w_andV (w_bin (w_bin (w_fld (w_V rfl ⟨_, _, getI_e h, live_p _ _, w_C ⟨_, i0 s p, w_bin (w_fld (w_V rfl ⟨_, _, getI_e h', live_p _ _, w_C ⟨_, i0 s' p', _, rfl, _, rfl, fun hb => ?_, fun hb => ?_⟩⟩))⟩⟩)))))
  · have e : s = s' := by simpa using hb
    refine w_bin (w_fld (w_V rfl ⟨_, _, getI_e h, live_a _ _, w_fld (w_V rfl ⟨_, _, getI_e h', live_a _ _, _, rfl, ?_⟩)⟩))
    have : decide (p = p') = decide (s = s' ∧ p = p') := by simp [e]
    rw [this]
    exact q
  · have e : ¬ s = s' := by simpa using hb
    have : decide (s = s' ∧ p = p') = false := by simp [e]
    rw [this] at q
    exact q
/-- a thing of another kind -/
theorem eq_k_alien {r : Nat} {d : D} {hp : List AO} (h : plainK d = true) : n_SieveRow___eq___k [.ref r, d] hp = some (FR.ok (.bl false) hp) := by
  have w : FnWp n_SieveRow___eq___k [.ref r, d] hp fun z hp' => z = .bl false ∧ hp' = hp := by
    apply w_fnOf
    unfold b_SieveRow___eq___k
    exact w_seq (w_if (w_not (w_tst (w_isK_f (w_V rfl ⟨h, _, rfl, fun _ => w_rt (w_C ⟨rfl, rfl⟩), fun z => (by cases z)⟩)))))
  obtain ⟨z, hp', e, rfl, rfl⟩ := w
  exact e
theorem sp_SieveRow___eq___k : ∀ ds hp r, ds.length = 2 → n_SieveRow___eq___k ds hp = some r → fnOf 2 b_SieveRow___eq___k ds hp = some r := fun _ _ _ _ h => h

/-- _law_right(pool): slots 0:pool 1:line 2:steps 3:one 4:turn 5:at 6:others 7:way 8:begun 9:two 10:due -/
noncomputable def b_law_right_15 : M Fl :=
    (mSeq (mPar 1 2 (mCons (mCall 2 n_law_line (mCons (mVar 0) (mCons (mC (.int 30)) mNil))) (mCons (mCall 2 n_law_steps (mCons (mVar 0) (mCons (mC (.int 6)) mNil))) mNil)))
    (mSeq (mAsg (mCall 3 n_law_object_2 (mCons (mVar 0) (mCons (mVar 1) (mCons (mVar 2) mNil)))) (gV 3))
    (mSeq (mFor (mItA rng1 (mCons (mC (.int 6)) mNil)) (gV 4) (mSeq (mAsg (mCall 2 n_law_draw_3 (mCons (mVar 0) (mCons (mBin addI (mFn lenF (mCons (mVar 2) mNil)) (mC (.int 1))) mNil))) (gV 5))
    (mSeq (mAsg (mLst (mCons (mVar 2) (mCons (mVar 2) (mCons (mBin addS (mVar 2) (mC (.str [83]))) (mCons (mSl slS (mVar 2) mNo (mSo (mVar 5))) (mCons (mBin addS (mBin addS (mSl slS (mVar 2) mNo (mSo (mVar 5))) (mBin ixF (mC (.str [83, 84])) (mCall 2 n_law_draw_3 (mCons (mVar 0) (mCons (mC (.int 2)) mNil))))) (mSl slS (mVar 2) (mSo (mBin addI (mVar 5) (mC (.int 1)))) mNo)) mNil)))))) (gV 6))
    (mSeq (mAsg (mBin ixF (mVar 6) (mCall 2 n_law_draw_3 (mCons (mVar 0) (mCons (mC (.int 5)) mNil)))) (gV 7))
    (mSeq (mAsg (mBin ixF (mLst (mCons (mVar 1) (mCons (mVar 1) (mCons (mCall 2 n_law_sieved_3 (mCons (mVar 1) (mCons (mC (.str [83])) mNil))) (mCons (mBin addS (mVar 1) (mC (.str [113]))) (mCons (mCall 2 n_law_line (mCons (mVar 0) (mCons (mC (.int 30)) mNil))) mNil)))))) (mCall 2 n_law_draw_3 (mCons (mVar 0) (mCons (mC (.int 5)) mNil)))) (gV 8))
    (mSeq (mAsg (mCall 3 n_law_object_2 (mCons (mVar 0) (mCons (mVar 8) (mCons (mVar 7) mNil)))) (gV 9))
    (mSeq (mAsg (mAndV (mBin eqSc (mVar 8) (mVar 1)) (mBin eqSc (mVar 7) (mVar 2))) (gV 10))
    (mIf (mOr (mTst (mBin neSc (mEqO "SieveRow" n_SieveRow___eq___k (mVar 3) (mVar 9)) (mVar 10))) (mOr (mTst (mBin neSc (mEqO "SieveRow" n_SieveRow___eq___k (mVar 9) (mVar 3)) (mVar 10))) (mTst (mBin eqSc (mNeO "SieveRow" n_SieveRow___eq___k (mVar 3) (mVar 9)) (mVar 10))))) (mRet (mC (.bl false))) mNx))))))))
    (mRet (mNotInK "SieveRow" n_SieveRow___eq___k (mVar 3) (mLst (mCons (mC .non) (mCons (mVar 1) (mCons (mVar 2) (mCons (mTup (mCons (mVar 1) (mCons (mVar 2) mNil))) (mCons (mLst (mCons (mVar 1) (mCons (mVar 2) mNil))) (mCons (mProp "SieveRow" 1 n_SieveRow_row (mVar 3)) (mCons (mProp "SieveRow" 1 n_SieveRow_pipeline (mVar 3)) (mCons (mC (.int 0)) (mCons (mC (.str [])) mNil)))))))))))))))
noncomputable abbrev n_law_right_15 : Fn := fnOf 11 b_law_right_15
-- uses: LIVE POOL2 CUTS CUTS2 IXL law_object_2 SieveRow___eq___k BASE
theorem low_rok22 {l : List Nat} (h : low l) (hl : l.length ≤ 1000000) : rok l := ⟨hl, fun c hc => by have := h c hc; omega⟩
theorem low_3222 {l : List Nat} (h : low l) : ∀ c ∈ l, c ≠ 32 := fun c hc => by have := h c hc; omega
theorem sv_mem22 {c : Nat} : ∀ {p s : List Nat}, c ∈ sv s p → c ∈ s
  | [], s, h => h
  | x :: p, s, h => sv1_mem (sv_mem22 (p := p) h)
theorem sv_len22 (s : List Nat) : ∀ p : List Nat, (sv s p).length ≤ s.length
  | [] => Nat.le_refl _
  | c :: p => Nat.le_trans (sv_len22 (sv1 s c) p) (sv1_len s c)
theorem low_sv22 {l : List Nat} (h : low l) (p : List Nat) : low (sv l p) := fun c hc => h c (sv_mem22 hc)
theorem ts_app22 {a b : List Nat} (h : TSs a) (g : TSs b) : TSs (a ++ b) := fun c hc => (List.mem_append.mp hc).elim (h c) (g c)
theorem due22 {s0 : A} {s p b y : List Nat} {Q : D → A → Prop} (e8 : s0.sl[8]? = some (some (.val (.str b)))) (e1 : s0.sl[1]? = some (some (.val (.str s)))) (e7 : s0.sl[7]? = some (some (.val (.str y)))) (e2 : s0.sl[2]? = some (some (.val (.str p))))
    (q : Q (.bl (decide (s = b ∧ p = y))) s0) : Wp (mAndV (mBin eqSc (mVar 8) (mVar 1)) (mBin eqSc (mVar 7) (mVar 2))) s0 Q := by
  refine w_andV (w_bin (w_V e8 (w_V e1 ⟨_, rfl, _, rfl, fun hb => ?_, fun hb => ?_⟩)))
  · have e : b = s := by simpa using hb
    have e3 : decide (s = b ∧ p = y) = decide (y = p) := by
      subst e
      simp [eq_comm]
    rw [e3] at q
    exact w_bin (w_V e7 (w_V e2 ⟨_, rfl, q⟩))
  · have e : ¬ b = s := by simpa using hb
    have e3 : decide (s = b ∧ p = y) = false := decide_eq_false fun z => e z.1.symm
    rw [e3] at q
    exact q
theorem w_law_right_15 {rp : Nat} {n : Int} {hp : List AO} {Q : D → List AO → Prop} (hn : n ≤ 500000) (h : PoolAt hp rp n) (q : ∀ hp', PoolAt hp' rp (n + 1500) → Q (.bl true) hp') : FnWp n_law_right_15 [.ref rp] hp Q := by
  apply w_fnOf
  unfold b_law_right_15
  refine w_seq (w_par (w_call (w_cons (w_V rfl (w_cons (w_C (w_nil ⟨rfl, ?_⟩)))))))
  refine w_law_line (by decide) (by decide) (by omega) h fun s hp1 ls hsl o1 a1 => ?_
  refine w_call (w_cons (w_V rfl (w_cons (w_C (w_nil ⟨rfl, ?_⟩)))))
  refine w_law_steps (by decide) (by decide) (by omega) a1 fun p hp2 tp hpl o2 a2 => ?_
  have hrok : rok s := low_rok22 ls (by omega)
  refine w_seq (w_set (w_call (w_cons (w_V rfl (w_cons (w_V rfl (w_cons (w_V rfl (w_nil ⟨rfl, ?_⟩)))))))))
  refine w_law_object_2 (by omega) a2 ls hrok tp (by omega) fun hp3 v1 f3 a3 => ?_
  have hk : hp2.length ≠ rp := by have := pool_pos a2; omega
  generalize hp2.length = k1 at v1 hk
  refine w_seq (w_for (fun i : Nat => D.int (0 + (i : Nat))) (List.range 6) (fun pre s' => ∃ (x4 x5 x6 x7 x8 x9 x10 : Option SV) (hp' : List AO), s' = st [vl (.ref rp), vl (.str s), vl (.str p), vl (.ref k1), x4, x5, x6, x7, x8, x9, x10] hp' ∧ LiveAt hp' k1 (trail s p) p ∧ PoolAt hp' rp (n + 130 + 200 * pre.length)) ?_ ?_ ?_)
  · exact w_itA (w_cons (w_C (w_nil ⟨_, rfl, rfl, _, _, _, _, _, _, _, hp3, rfl, v1, a3.le (by simp; omega)⟩)))
  · rintro pre i post s1 hE ⟨x4, x5, x6, x7, x8, x9, x10, hp4, rfl, v4, a4⟩
    have hlt : pre.length < 6 := by
      have := congrArg List.length hE
      rw [List.length_range, List.length_append, List.length_cons] at this
      omega
    refine w_gV (w_seq (w_set (w_call (w_cons (w_V rfl (w_cons (w_bin (w_fn (w_cons (w_V rfl (w_nil ⟨_, lenS_e (by omega), w_C ⟨_, rfl, w_nil ⟨rfl, ?_⟩⟩⟩)))))))))))
    refine w_law_draw_3 (by omega) (by omega) (by omega) a4 fun at0 hp5 b0 b1 o5 a5 => ?_
    obtain ⟨j, rfl⟩ := Int.eq_ofNat_of_zero_le b0
    have hj : j ≤ p.length := by omega
    -- the pipelines to choose from
    refine w_seq (w_set (w_lst (w_cons (w_V rfl (w_cons (w_V rfl (w_cons (w_bin (w_V rfl (w_C ⟨_, addS_e (by show p.length + 1 ≤ _; omega), ?_⟩))))))))))
    refine w_cons (w_sl (w_V rfl (w_no (w_so (w_V rfl ⟨_, rfl, _, slS_e (by omega), ?_⟩)))))
    refine w_cons (w_bin (w_bin (w_sl (w_V rfl (w_no (w_so (w_V rfl ⟨_, rfl, _, slS_e (by omega), ?_⟩)))))))
    refine w_bin (w_C (w_call (w_cons (w_V rfl (w_cons (w_C (w_nil ⟨rfl, ?_⟩)))))))
    refine w_law_draw_3 (by decide) (by decide) (by omega) a5 fun e hp6 e0 e1 o6 a6 => ?_
    obtain ⟨c, hc, ec⟩ := ixs_text (x := [83, 84]) e0 e1 (by decide)
    have hct : c = 84 ∨ c = 83 := by
      have : c = 83 ∨ c = 84 := by simpa using hc
      omega
    refine ⟨_, ec, ?_⟩
    rw [cuts_to]
    have t1 : (p.take j).length ≤ p.length := by rw [List.length_take]; omega
    refine ⟨_, addS_e (by show (p.take j).length + 1 ≤ _; omega), ?_⟩
    refine w_sl (w_V rfl (w_so (w_bin (w_V rfl (w_C ⟨_, rfl, _, rfl, w_no ⟨_, slS_e (by omega), ?_⟩⟩)))))
    rw [show ((j : Int) + 1) = ((j + 1 : Nat) : Int) by omega, cuts_from]
    have t2 : (p.drop (j + 1)).length ≤ p.length := by rw [List.length_drop]; omega
    refine ⟨_, addS_e (by rw [List.length_append]; show (p.take j).length + 1 + (p.drop (j + 1)).length ≤ _; omega), w_nil ⟨rfl, ?_⟩⟩
    have ttake : TSs (p.take j) := fun d hd => tp d (List.mem_of_mem_take hd)
    have tdrop : TSs (p.drop (j + 1)) := fun d hd => tp d (List.mem_of_mem_drop hd)
    have tc : TSs [c] := fun d hd => by
      have : d = c := by simpa using hd
      rw [this]
      exact hct
    have t83 : TSs [83] := fun d hd => by
      have : d = 83 := by simpa using hd
      exact .inr this
    refine w_seq (w_set (w_bin (w_V rfl (w_call (w_cons (w_V rfl (w_cons (w_C (w_nil ⟨rfl, ?_⟩)))))))))
    refine w_law_draw_3 (by decide) (by decide) (by omega) a6 fun w hp7 w0 w1 o7 a7 => ?_
    have hway : ∃ y : List Nat, TSs y ∧ y.length ≤ 20 ∧ ixF (.lst [.str p, .str p, .str (p ++ [83]), .str (p.take j), .str (p.take j ++ [c] ++ p.drop (j + 1))]) (.int w) = some (.str y) := by
      have : w = 0 ∨ w = 1 ∨ w = 2 ∨ w = 3 ∨ w = 4 := by omega
      rcases this with rfl | rfl | rfl | rfl | rfl
      · exact ⟨p, tp, by omega, rfl⟩
      · exact ⟨p, tp, by omega, rfl⟩
      · exact ⟨_, ts_app22 tp t83, by rw [List.length_append, List.length_singleton]; omega, rfl⟩
      · exact ⟨_, ttake, by omega, rfl⟩
      · exact ⟨_, ts_app22 (ts_app22 ttake tc) tdrop, by rw [List.length_append, List.length_append, List.length_singleton]; omega, rfl⟩
    obtain ⟨y, ty, hyl, ey⟩ := hway
    refine ⟨_, ey, ?_⟩
    -- the rows to choose from
    refine w_seq (w_set (w_bin (w_lst (w_cons (w_V rfl (w_cons (w_V rfl (w_cons (w_call (w_cons (w_V rfl (w_cons (w_C (w_nil ⟨rfl, ?_⟩))))))))))))))
    refine w_law_sieved_3 hrok (low_3222 ls) t83 ?_
    refine w_cons (w_bin (w_V rfl (w_C ⟨_, addS_e (by show s.length + 1 ≤ _; omega), ?_⟩)))
    refine w_cons (w_call (w_cons (w_V rfl (w_cons (w_C (w_nil ⟨rfl, ?_⟩))))))
    refine w_law_line (by decide) (by decide) (by omega) a7 fun s2 hp8 ls2 hsl2 o8 a8 => w_nil ⟨rfl, ?_⟩
    refine w_call (w_cons (w_V rfl (w_cons (w_C (w_nil ⟨rfl, ?_⟩)))))
    refine w_law_draw_3 (by decide) (by decide) (by omega) a8 fun v hp9 y0 y1 o9 a9 => ?_
    have hq : low [113] := fun d hd => by
      have : d = 113 := by simpa using hd
      omega
    have hbeg : ∃ b : List Nat, low b ∧ b.length ≤ 1000 ∧ ixF (.lst [.str s, .str s, .str (sv s [83]), .str (s ++ [113]), .str s2]) (.int v) = some (.str b) := by
      have : v = 0 ∨ v = 1 ∨ v = 2 ∨ v = 3 ∨ v = 4 := by omega
      rcases this with rfl | rfl | rfl | rfl | rfl
      · exact ⟨s, ls, by omega, rfl⟩
      · exact ⟨s, ls, by omega, rfl⟩
      · exact ⟨_, low_sv22 ls _, Nat.le_trans (sv_len22 _ _) (by omega), rfl⟩
      · exact ⟨_, fun d hd => (List.mem_append.mp hd).elim (ls d) (hq d), by rw [List.length_append, List.length_singleton]; omega, rfl⟩
      · exact ⟨s2, ls2, by omega, rfl⟩
    obtain ⟨b, lb, hbl, eb⟩ := hbeg
    refine ⟨_, eb, ?_⟩
    have ofar : Far rp hp4 hp9 := (o5.trans (o6.trans (o7.trans (o8.trans o9)))).far
    have v9 : LiveAt hp9 k1 (trail s p) p := ofar.live hk v4
    refine w_seq (w_set (w_call (w_cons (w_V rfl (w_cons (w_V rfl (w_cons (w_V rfl (w_nil ⟨rfl, ?_⟩)))))))))
    refine w_law_object_2 (by omega) a9 lb (low_rok22 lb (by omega)) ty (by omega) fun hp10 v10 f10 a10 => ?_
    have v11 : LiveAt hp10 k1 (trail s p) p := f10.live hk v9
    generalize hp9.length = k2 at v10
    refine w_seq (w_set (due22 rfl rfl rfl rfl ?_))
    have esym : decide (b = s ∧ y = p) = decide (s = b ∧ p = y) := by simp [eq_comm]
    have out : PoolAt hp10 rp (n + 130 + 200 * ((pre ++ [i]).length : Nat)) := a10.le (by
      rw [List.length_append, List.length_singleton]
      omega)
    generalize hd : decide (s = b ∧ p = y) = due at esym
    refine w_if (w_or (w_tst (w_bin (w_eqO (w_V rfl (w_V rfl ⟨⟨_, getI_e v11⟩, ⟨_, getI_e v10⟩, w_eq_k v11 v10 ?_⟩))))))
    rw [hd]
    refine ⟨_, rfl, w_V rfl ⟨.bl (!decide (due = due)), rfl, _, rfl, fun hb => (by simp at hb), fun _ => ?_⟩⟩
    refine w_or (w_tst (w_bin (w_eqO (w_V rfl (w_V rfl ⟨⟨_, getI_e v10⟩, ⟨_, getI_e v11⟩, w_eq_k v10 v11 ?_⟩)))))
    rw [esym]
    refine ⟨_, rfl, w_V rfl ⟨.bl (!decide (due = due)), rfl, _, rfl, fun hb => (by simp at hb), fun _ => ?_⟩⟩
    refine w_tst (w_bin (w_neO (w_V rfl (w_V rfl ⟨⟨_, getI_e v11⟩, .inl (by rw [getI_e v10]; rfl), w_eq_k v11 v10 ?_⟩))))
    rw [hd]
    refine ⟨_, rfl, w_V rfl ⟨.bl (decide ((!due) = due)), rfl, _, rfl, fun hb => ?_, fun _ => w_nx ⟨_, _, _, _, _, _, _, hp10, rfl, v11, out⟩⟩⟩
    cases due <;> cases hb
  · rintro s1 ⟨x4, x5, x6, x7, x8, x9, x10, hp4, rfl, v4, a4⟩
    refine w_rt (w_notInK (w_V rfl (w_lst ?_)))
    refine w_cons (w_C (w_cons (w_V rfl (w_cons (w_V rfl (w_cons (w_tup (w_cons (w_V rfl (w_cons (w_V rfl (w_nil ⟨rfl, ?_⟩))))))))))))
    refine w_cons (w_lst (w_cons (w_V rfl (w_cons (w_V rfl (w_nil ⟨rfl, ?_⟩))))))
    refine w_cons (w_prop (w_V rfl ⟨_, getI_e v4, rfl, w_SieveRow_row v4 ?_⟩))
    refine w_cons (w_prop (w_V rfl ⟨_, getI_e v4, rfl, w_SieveRow_pipeline v4 ?_⟩))
    refine w_cons (w_C (w_cons (w_C (w_nil ⟨rfl, ⟨_, getI_e v4⟩, _, rfl, ?_, ?_⟩))))
    · intro d hd
      have hp : plainK d = true := by
        simp only [List.mem_cons, List.not_mem_nil, or_false] at hd
        rcases hd with rfl | rfl | rfl | rfl | rfl | rfl | rfl | rfl | rfl <;> rfl
      exact ⟨hp, eq_k_alien hp⟩
    · exact q hp4 (a4.le (by rw [List.length_range]; omega))
theorem sp_law_right_15 : ∀ ds hp r, ds.length = 1 → n_law_right_15 ds hp = some r → fnOf 11 b_law_right_15 ds hp = some r := fun _ _ _ _ h => h

/-- law(script): slots 0:script 1:at 2:pool 3:turn -/
noncomputable def b_law_37 : M Fl :=
    (mSeq (mFor (mItA rng1 (mCons (mFn maxF (mCons (mC (.int 1)) (mCons (mFn minF (mCons (mC (.int 8)) (mCons (mFn lenF (mCons (mVar 0) mNil)) mNil))) mNil))) mNil)) (gV 1) (mSeq (mAsg (mCall 2 n_law_pool (mCons (mVar 0) (mCons (mVar 1) mNil))) (gV 2))
    (mFor (mItA rng1 (mCons (mC (.int 4)) mNil)) (gV 3) (mIf (mNot (mTst (mCall 1 n_law_right_15 (mCons (mVar 2) mNil)))) (mRet (mC (.bl false))) mNx))))
    (mRet (mAndV (mNeO "SieveRow" n_SieveRow___eq___k (mMake "SieveRow" 2 n_SieveRow___init__ (mCons (mC (.str [])) mNil)) (mC (.str []))) (mEqO "SieveRow" n_SieveRow___eq___k (mMake "SieveRow" 2 n_SieveRow___init__ (mCons (mC (.str [97, 98])) mNil)) (mMake "SieveRow" 2 n_SieveRow___init__ (mCons (mC (.str [97, 98])) mNil))))))
noncomputable abbrev n_law_37 : Fn := fnOf 4 b_law_37
-- uses: POOL2 LIVE
theorem law_law_37 (ns : List Int) (h : ns.length ≤ 63) : ∃ hp, n_law_37 [.fz (ns.map D.int)] [] = some (.ok (.bl true) hp) := by
  suffices hw : FnWp n_law_37 [.fz (ns.map D.int)] [] (fun d _ => d = .bl true) by
    obtain ⟨d, hp', e, rfl⟩ := hw
    exact ⟨hp', e⟩
  apply w_fnOf
  unfold b_law_37
  have hlen : lenF [.fz (ns.map D.int)] = some (.int (ns.length : Nat)) := by
    show some (D.int ((ns.map D.int).length : Nat)) = _
    rw [List.length_map]
  refine w_seq (w_bnd ?_)
  refine w_itA (w_cons (w_fn (w_cons (w_C (w_cons (w_fn (w_cons (w_C (w_cons (w_fn (w_cons (w_V rfl (w_nil ⟨_, hlen, w_nil ⟨_, rfl, w_nil ⟨_, rfl, w_nil ⟨_, rng1_e (by split <;> split <;> omega) (by split <;> split <;> omega), ?_⟩⟩⟩⟩)))))))))))))
  have hm : ∃ m : Nat, (if (if ((ns.length : Nat) : Int) < 8 then ((ns.length : Nat) : Int) else 8) > 1 then (if ((ns.length : Nat) : Int) < 8 then ((ns.length : Nat) : Int) else 8) else 1).toNat = m ∧ m ≤ 8 := ⟨_, rfl, by split <;> split <;> omega⟩
  obtain ⟨m, hm, hm5⟩ := hm
  rw [hm]
  refine w_forL (e := fun i : Nat => D.int (0 + (i : Nat))) (fun pre s' => ∃ (x y z : Option SV) (hp : List AO), s' = st [vl (.fz (ns.map D.int)), x, y, z] hp) (List.range m) [] _ ⟨none, none, none, [], rfl⟩ ?_ ?_
  · rintro pre i post s1 hE ⟨x, y, z, hp, rfl⟩
    have hi : i < m := by
      have : i ∈ List.range m := by rw [show List.range m = pre ++ i :: post from hE]; simp
      exact List.mem_range.mp this
    refine w_gV (w_seq (w_set (w_call (w_cons (w_V rfl (w_cons (w_V rfl (w_nil ⟨rfl, ?_⟩))))))))
    refine w_law_pool h (by omega) (by omega) fun l a1 => ?_
    refine w_for (fun i : Nat => D.int (0 + (i : Nat))) (List.range 4) (fun pre s' => ∃ (x y : Option SV) (hp' : List AO), s' = st [vl (.fz (ns.map D.int)), y, vl (.ref hp.length), x] hp' ∧ PoolAt hp' hp.length (1500 * pre.length)) ?_ ?_ ?_
    · exact w_itA (w_cons (w_C (w_nil ⟨_, rfl, rfl, _, _, _, rfl, a1⟩)))
    · rintro pre2 j post2 s2 hE2 ⟨x2, y2, hp2, rfl, a2⟩
      have hlt : pre2.length < 4 := by
        have := congrArg List.length hE2
        rw [List.length_range, List.length_append, List.length_cons] at this
        omega
      refine w_gV (w_if (w_not (w_tst (w_call (w_cons (w_V rfl (w_nil ⟨rfl, w_law_right_15 (by omega) a2 fun hp3 a3 => ⟨_, rfl, fun hb => (by cases hb), fun _ => w_nx ?_⟩⟩)))))))
      refine ⟨_, _, hp3, rfl, a3.le ?_⟩
      rw [List.length_append, List.length_singleton]
      omega
    · rintro s2 ⟨x2, y2, hp2, rfl, a2⟩
      exact ⟨_, _, _, _, rfl⟩
  · rintro s1 ⟨x, y, z, hp, rfl⟩
    have l0 : low [] := fun c hc => by cases hc
    have lab : low [97, 98] := by
      intro c hc
      have : c = 97 ∨ c = 98 := by simpa using hc
      omega
    have made : ∀ (hp : List AO) (s : List Nat), (hp ++ [AO.ins "SieveRow" []]).set hp.length (liveO (trail s []) []) = hp ++ [liveO (trail s []) []] := fun hp s => by
      rw [List.set_append_right _ _ (Nat.le_refl _), Nat.sub_self]
      rfl
    refine w_rt (w_andV (w_neO (w_make (w_cons (w_C (w_nil ⟨rfl, w_SieveRow___init__ app_at l0 ⟨rfl, ?_⟩⟩))))))
    show Wp _ (st [vl (.fz (ns.map D.int)), x, y, z] ((hp ++ [AO.ins "SieveRow" []]).set hp.length (liveO (trail [] []) []))) _
    rw [made]
    have v0 : LiveAt (hp ++ [liveO (trail [] []) []]) hp.length (trail [] []) [] := app_at
    refine w_C ⟨⟨_, getI_e v0⟩, .inr rfl, .bl false, _, eq_k_alien rfl, false, rfl, _, rfl, fun _ => ?_, fun hb => (by cases hb)⟩
    refine w_eqO (w_make (w_cons (w_C (w_nil ⟨rfl, w_SieveRow___init__ app_at lab ⟨rfl, ?_⟩⟩))))
    generalize hg : hp ++ [liveO (trail [] []) []] = hp5
    show Wp _ (st [vl (.fz (ns.map D.int)), x, y, z] ((hp5 ++ [AO.ins "SieveRow" []]).set hp5.length (liveO (trail [97, 98] []) []))) _
    rw [made]
    have v1 : LiveAt (hp5 ++ [liveO (trail [97, 98] []) []]) hp5.length (trail [97, 98] []) [] := app_at
    generalize hk : hp5.length = k1 at v1
    generalize hp5 ++ [liveO (trail [97, 98] []) []] = hp6 at v1
    refine w_make (w_cons (w_C (w_nil ⟨rfl, w_SieveRow___init__ app_at lab ⟨rfl, ?_⟩⟩)))
    have v2 : LiveAt ((hp6 ++ [AO.ins "SieveRow" []]).set hp6.length (liveO (trail [97, 98] []) [])) hp6.length (trail [97, 98] []) [] := by
      rw [made]
      exact app_at
    have v3 : LiveAt ((hp6 ++ [AO.ins "SieveRow" []]).set hp6.length (liveO (trail [97, 98] []) [])) k1 (trail [97, 98] []) [] := by
      rw [made]
      exact LiveAt.app v1 _
    refine ⟨⟨_, getI_e v3⟩, ⟨_, getI_e v2⟩, w_eq_k v3 v2 ⟨_, rfl, ?_⟩⟩
    show D.bl (decide _) = .bl true
    exact congrArg D.bl (decide_eq_true ⟨rfl, rfl⟩)
theorem sp_law_37 : ∀ ds hp r, ds.length = 1 → n_law_37 ds hp = some r → fnOf 4 b_law_37 ds hp = some r := fun _ _ _ _ h => h

end Z
namespace Lw
open PySem L2 Z
/-! ### the text by places -/
def tryB (s : Stmt) : List Stmt := match s with
  | .Try b _ _ _ _ => b
  | _ => []
def topS (i : Nat) : Stmt := PySem.Challenge.pw_twinsieve_k22_equal_live_rows.main.body.getD i (.Pass ⟨0, 0, 0, 0⟩)
theorem Str_da39a3ee : ("" : Str) = ⟨[].toArray⟩ := by decide +kernel
theorem Str_b858cb28 : (" " : Str) = ⟨[32].toArray⟩ := by decide +kernel
theorem Str_02aa629c : ("S" : Str) = ⟨[83].toArray⟩ := by decide +kernel
theorem Str_95061581 : ("ST" : Str) = ⟨[83, 84].toArray⟩ := by decide +kernel
theorem Str_c2c53d66 : ("T" : Str) = ⟨[84].toArray⟩ := by decide +kernel
theorem Str_d3a2460e : ("TS" : Str) = ⟨[84, 83].toArray⟩ := by decide +kernel
theorem Str_da23614e : ("ab" : Str) = ⟨[97, 98].toArray⟩ := by decide +kernel
theorem Str_32d10c7b : ("abcdefghijklmnopqrstuvwxyz" : Str) = ⟨[97, 98, 99, 100, 101, 102, 103, 104, 105, 106, 107, 108, 109, 110, 111, 112, 113, 114, 115, 116, 117, 118, 119, 120, 121, 122].toArray⟩ := by decide +kernel
theorem Str_22ea1c64 : ("q" : Str) = ⟨[113].toArray⟩ := by decide +kernel
/-- what the walk asks of the module's names -/
structure Bl (P : Program) (K : PySem.W.Frag) (mg : Str → Option Value) (t_LETTERS : Tok) (t_SINGLES : Tok) (t_TWINS : Tok) (C_InvalidPipeline : Addr) (C_InvalidRow : Addr) (C_NothingToUndo : Addr) : Prop where
  xt : XTab P K
  g_InvalidPipeline : mg "InvalidPipeline" = some (.ref C_InvalidPipeline)
  g_InvalidRow : mg "InvalidRow" = some (.ref C_InvalidRow)
  g_NothingToUndo : mg "NothingToUndo" = some (.ref C_NothingToUndo)
  n_InvalidRow : PySem.W.nsIn K mainGlobals "InvalidRow" = some (some (.ref C_InvalidRow))
  n_InvalidPipeline : PySem.W.nsIn K mainGlobals "InvalidPipeline" = some (some (.ref C_InvalidPipeline))
  n_NothingToUndo : PySem.W.nsIn K mainGlobals "NothingToUndo" = some (some (.ref C_NothingToUndo))
  f_SieveRow_applied : ∀ C, PySem.W.nsIn K mainGlobals "SieveRow" = some (some (.ref C)) → Cls K C ∧ NoAttr K C "applied"
  f_SieveRow_passed : ∀ C, PySem.W.nsIn K mainGlobals "SieveRow" = some (some (.ref C)) → Cls K C ∧ NoAttr K C "passed"
  i_SieveRow : ∃ C, mg "SieveRow" = some (.ref C) ∧ PySem.W.nsIn K mainGlobals "SieveRow" = some (some (.ref C)) ∧ C8.InsC K C ∧ OwnK K C
  w_SieveRow : OwnAll K "SieveRow"
  b_abs : mg "abs" = none
  b_enumerate : mg "enumerate" = none
  b_int : mg "int" = none
  b_isinstance : mg "isinstance" = none
  b_len : mg "len" = none
  b_list : mg "list" = none
  b_max : mg "max" = none
  b_min : mg "min" = none
  b_range : mg "range" = none
  g_LETTERS : mg "LETTERS" = some (.str "abcdefghijklmnopqrstuvwxyz" t_LETTERS)
  g_SINGLES : mg "SINGLES" = some (.str "S" t_SINGLES)
  g_TWINS : mg "TWINS" = some (.str "T" t_TWINS)
abbrev s__law_pool : Stmt := topS 18
theorem sc__law_pool : FnScope ["script", "at", "cell"] ["script", "at"] (defScope s__law_pool) := ⟨rfl, rfl, rfl, by decide +kernel, rfl, by decide +kernel, by decide +kernel⟩
abbrev s_check_row : Stmt := topS 10
theorem sc_check_row : FnScope ["row", "index", "letter"] ["row"] (defScope s_check_row) := ⟨rfl, rfl, rfl, by decide +kernel, rfl, by decide +kernel, by decide +kernel⟩
abbrev s_SieveRow___init__ : Stmt := (clsB (topS 16)).getD 0 (.Pass ⟨0, 0, 0, 0⟩)
theorem sc_SieveRow___init__ : FnScope ["self", "row"] ["self", "row"] (defScope s_SieveRow___init__) := ⟨rfl, rfl, rfl, by decide +kernel, rfl, by decide +kernel, by decide +kernel⟩
abbrev s__law_draw : Stmt := topS 19
theorem sc__law_draw : FnScope ["pool", "many", "drawn", "mixed"] ["pool", "many"] (defScope s__law_draw) := ⟨rfl, rfl, rfl, by decide +kernel, rfl, by decide +kernel, by decide +kernel⟩
abbrev s_check_pipeline : Stmt := topS 11
theorem sc_check_pipeline : FnScope ["pipeline", "index", "letter"] ["pipeline"] (defScope s_check_pipeline) := ⟨rfl, rfl, rfl, by decide +kernel, rfl, by decide +kernel, by decide +kernel⟩
abbrev s_runs_of : Stmt := topS 12
theorem sc_runs_of : FnScope ["row", "found", "letter"] ["row"] (defScope s_runs_of) := ⟨rfl, rfl, rfl, by decide +kernel, rfl, by decide +kernel, by decide +kernel⟩
abbrev s_sieved_once : Stmt := topS 13
theorem sc_sieved_once : FnScope ["row", "letter", "kept", "length"] ["row", "letter"] (defScope s_sieved_once) := ⟨rfl, rfl, rfl, by decide +kernel, rfl, by decide +kernel, by decide +kernel⟩
abbrev s_sieved : Stmt := topS 14
theorem sc_sieved : FnScope ["row", "pipeline", "letter"] ["row", "pipeline"] (defScope s_sieved) := ⟨rfl, rfl, rfl, by decide +kernel, rfl, by decide +kernel, by decide +kernel⟩
abbrev s_SieveRow_sieve : Stmt := (clsB (topS 16)).getD 6 (.Pass ⟨0, 0, 0, 0⟩)
theorem sc_SieveRow_sieve : FnScope ["self", "pipelines", "whole", "found", "name"] ["self", "pipelines"] (defScope s_SieveRow_sieve) := ⟨rfl, rfl, rfl, by decide +kernel, rfl, by decide +kernel, by decide +kernel⟩
abbrev s_SieveRow_undo : Stmt := (clsB (topS 16)).getD 7 (.Pass ⟨0, 0, 0, 0⟩)
theorem sc_SieveRow_undo : FnScope ["self"] ["self"] (defScope s_SieveRow_undo) := ⟨rfl, rfl, rfl, by decide +kernel, rfl, by decide +kernel, by decide +kernel⟩
abbrev s__law_object : Stmt := topS 23
theorem sc__law_object : FnScope ["pool", "line", "steps", "live", "way", "step"] ["pool", "line", "steps"] (defScope s__law_object) := ⟨rfl, rfl, rfl, by decide +kernel, rfl, by decide +kernel, by decide +kernel⟩
abbrev s__law_line : Stmt := topS 21
theorem sc__law_line : FnScope ["pool", "most", "letters", "shift", "found", "turn", "letter"] ["pool", "most"] (defScope s__law_line) := ⟨rfl, rfl, rfl, by decide +kernel, rfl, by decide +kernel, by decide +kernel⟩
abbrev s__law_steps : Stmt := topS 22
theorem sc__law_steps : FnScope ["pool", "most", "turn"] ["pool", "most"] (defScope s__law_steps) := ⟨rfl, rfl, rfl, by decide +kernel, rfl, by decide +kernel, by decide +kernel⟩
abbrev s_SieveRow_row : Stmt := (clsB (topS 16)).getD 3 (.Pass ⟨0, 0, 0, 0⟩)
theorem sc_SieveRow_row : FnScope ["self"] ["self"] (defScope s_SieveRow_row) := ⟨rfl, rfl, rfl, by decide +kernel, rfl, by decide +kernel, by decide +kernel⟩
abbrev s_SieveRow_pipeline : Stmt := (clsB (topS 16)).getD 4 (.Pass ⟨0, 0, 0, 0⟩)
theorem sc_SieveRow_pipeline : FnScope ["self"] ["self"] (defScope s_SieveRow_pipeline) := ⟨rfl, rfl, rfl, by decide +kernel, rfl, by decide +kernel, by decide +kernel⟩
abbrev s__law_sieved : Stmt := topS 20
theorem sc__law_sieved : FnScope ["line", "steps", "step", "found", "here", "letter"] ["line", "steps"] (defScope s__law_sieved) := ⟨rfl, rfl, rfl, by decide +kernel, rfl, by decide +kernel, by decide +kernel⟩
abbrev s_SieveRow___eq__ : Stmt := (clsB (topS 16)).getD 1 (.Pass ⟨0, 0, 0, 0⟩)
theorem sc_SieveRow___eq__ : FnScope ["self", "other"] ["self", "other"] (defScope s_SieveRow___eq__) := ⟨rfl, rfl, rfl, by decide +kernel, rfl, by decide +kernel, by decide +kernel⟩
abbrev s__law_right : Stmt := topS 24
theorem sc__law_right : FnScope ["pool", "line", "steps", "one", "turn", "at", "others", "way", "begun", "two", "due"] ["pool"] (defScope s__law_right) := ⟨rfl, rfl, rfl, by decide +kernel, rfl, by decide +kernel, by decide +kernel⟩
abbrev s_law : Stmt := topS 25
theorem sc_law : FnScope ["script", "at", "pool", "turn"] ["script"] (defScope s_law) := ⟨rfl, rfl, rfl, by decide +kernel, rfl, by decide +kernel, by decide +kernel⟩
section
variable {P : Program} {w : World} {K : PySem.W.Frag} {mg : Str → Option Value} {base : Heap} {t_LETTERS : Tok} {t_SINGLES : Tok} {t_TWINS : Tok} {C_InvalidPipeline : Addr} {C_InvalidRow : Addr} {C_NothingToUndo : Addr}
theorem d__law_pool {f : Addr} {fd : FuncData} (B : Bl P K mg t_LETTERS t_SINGLES t_TWINS C_InvalidPipeline C_InvalidRow C_NothingToUndo) (d : Dfn K mg "_law_pool" "_law_pool" s__law_pool ["script", "at"] f fd) : Cal P w K mg base "_law_pool" "_law_pool" s__law_pool ["script", "at"] 1 2 n_law_pool :=
  (calD (N := ["script", "at", "cell"]) (m := b_law_pool) (k := 0) d sc__law_pool rfl fun cdv A outer s H E hr =>
    have hu := hr.units
    have tk := takes_of (X := cxOf (L2.CX P w) P w K mg base ["script", "at", "cell"] "_law_pool" (defScope s__law_pool) f cdv A outer s H E) rfl rfl rfl rfl
    ⟨_, (dss_cons (ds_set 2 sc__law_pool.nd de_int)
    (dss_cons (ds_if (dt_cmp o_ltI (de_var 1) (de_callB (kb_len K) (by rfl) B.b_len (by decide +kernel) (da_cons (de_var 0) da_nil))) (dss_one (ds_set 2 sc__law_pool.nd (de_ix (k_ix K) (de_var 0) (de_var 1)))) dss_nil)
    (dss_one (ds_ret (de_lstH (da_cons (de_callB (b_max rfl) (by rfl) B.b_max (by decide +kernel) (da_cons de_int (da_cons (de_op o_subI (de_callB b_abs (by rfl) B.b_abs (by decide +kernel) (da_cons (de_var 2) da_nil)) (de_op o_powI de_int de_int)) da_nil))) (da_cons (de_op o_addI (de_op o_modI (de_var 2) de_int) (de_op o_mulI de_int (de_op o_addI (de_var 1) de_int))) (da_cons de_int da_nil))))))))⟩).imp sp_law_pool
theorem d_check_row {f : Addr} {fd : FuncData} (B : Bl P K mg t_LETTERS t_SINGLES t_TWINS C_InvalidPipeline C_InvalidRow C_NothingToUndo) (d : Dfn K mg "check_row" "check_row" s_check_row ["row"] f fd) : Cal P w K mg base "check_row" "check_row" s_check_row ["row"] 2 1 n_check_row :=
  (calD (N := ["row", "index", "letter"]) (m := b_check_row) (k := 1) d sc_check_row rfl fun cdv A outer s H E hr =>
    have hu := hr.units
    have tk := takes_of (X := cxOf (L2.CX P w) P w K mg base ["row", "index", "letter"] "check_row" (defScope s_check_row) f cdv A outer s H E) rfl rfl rfl rfl
    ⟨_, (dss_one (ds_for (passes_of rfl) rfl (di_enS (by rfl) B.b_enumerate (da_cons (de_var 0) da_nil)) (kg_tup K rfl (dgs_cons (dg_name 1 sc_check_row.nd) (dgs_cons (dg_name 2 sc_check_row.nd) dgs_nil))) (dss_one (ds_if (dt_cmp o_notInS (de_var 2) (de_globS [97, 98, 99, 100, 101, 102, 103, 104, 105, 106, 107, 108, 109, 110, 111, 112, 113, 114, 115, 116, 117, 118, 119, 120, 121, 122] (by rfl) B.g_LETTERS Str_32d10c7b)) (dss_one (ds_raise (c := .row) rfl (B.xt .row _ B.n_InvalidRow) hr (by decide) tk B.g_InvalidRow (da_cons (de_var 1) da_nil))) dss_nil))))⟩).imp sp_check_row
theorem d_SieveRow___init__ {f : Addr} {fd : FuncData} {C p : Addr} (B : Bl P K mg t_LETTERS t_SINGLES t_TWINS C_InvalidPipeline C_InvalidRow C_NothingToUndo) (h1 : mg "SieveRow" = some (.ref C)) (h2 : PySem.W.nsIn K mainGlobals "SieveRow" = some (some (.ref C))) (h3 : Mk K C f) (Fk : Fun K "__init__" "SieveRow.__init__" s_SieveRow___init__ f fd) (bd : Binds K fd ["self", "row"] []) (C_check_row : Cal P w K mg base "check_row" "check_row" s_check_row ["row"] 2 1 n_check_row) : CalK P w K mg base "SieveRow" "SieveRow.__init__" s_SieveRow___init__ ["self", "row"] 3 2 n_SieveRow___init__ :=
  (calK (N := ["self", "row"]) (mm := b_SieveRow___init__) (k := 2) h1 h2 h3 Fk bd sc_SieveRow___init__ rfl fun cdv A outer s H E hr =>
    have hu := hr.units
    have tk := takes_of (X := cxOf (L2.CX P w) P w K mg base ["self", "row"] "SieveRow.__init__" (defScope s_SieveRow___init__) f cdv A outer s H E) rfl rfl rfl rfl
    ⟨_, (dss_cons (ds_expr (ke_call K mg C_check_row (hr.mono (by decide)) tk (da_cons (de_var 1) da_nil)))
    (dss_cons (ds_fld B.f_SieveRow_passed (de_lst (da_cons (de_var 1) da_nil)) (de_var 0))
    (dss_one (ds_fld B.f_SieveRow_applied (de_str [] Str_da39a3ee) (de_var 0)))))⟩).imp sp_SieveRow___init__
theorem d__law_draw {f : Addr} {fd : FuncData} (B : Bl P K mg t_LETTERS t_SINGLES t_TWINS C_InvalidPipeline C_InvalidRow C_NothingToUndo) (d : Dfn K mg "_law_draw" "_law_draw" s__law_draw ["pool", "many"] f fd) : Cal P w K mg base "_law_draw" "_law_draw" s__law_draw ["pool", "many"] 1 2 n_law_draw_3 :=
  (calD (N := ["pool", "many", "drawn", "mixed"]) (m := b_law_draw_3) (k := 0) d sc__law_draw rfl fun cdv A outer s H E hr =>
    have hu := hr.units
    have tk := takes_of (X := cxOf (L2.CX P w) P w K mg base ["pool", "many", "drawn", "mixed"] "_law_draw" (defScope s__law_draw) f cdv A outer s H E) rfl rfl rfl rfl
    ⟨_, (dss_cons (ds_if (dt_cmp o_gtI (ke_ixH K (de_var 0) de_int) de_int) (dss_cons (ds_set 2 sc__law_draw.nd (de_op o_modI (ke_ixH K (de_var 0) de_int) (de_var 1)))
    (dss_cons (ds_setIxH (de_op o_divI (ke_ixH K (de_var 0) de_int) (de_var 1)) (de_var 0) de_int)
    (dss_one (ds_ret (de_var 2))))) dss_nil)
    (dss_cons (ds_setIxH (de_op o_addI (ke_ixH K (de_var 0) de_int) de_int) (de_var 0) de_int)
    (dss_cons (ds_set 3 sc__law_draw.nd (de_op o_modI (de_op o_powI (de_op o_addI (ke_ixH K (de_var 0) de_int) (de_op o_mulI de_int (ke_ixH K (de_var 0) de_int))) de_int) de_int))
    (dss_cons (ds_set 3 sc__law_draw.nd (de_op o_modI (de_op o_powI (de_op o_addI (de_var 3) (de_op o_mulI de_int (ke_ixH K (de_var 0) de_int))) de_int) de_int))
    (dss_one (ds_ret (de_op o_modI (de_op o_divI (de_var 3) de_int) (de_var 1))))))))⟩).imp sp_law_draw_3
theorem d_check_pipeline {f : Addr} {fd : FuncData} (B : Bl P K mg t_LETTERS t_SINGLES t_TWINS C_InvalidPipeline C_InvalidRow C_NothingToUndo) (d : Dfn K mg "check_pipeline" "check_pipeline" s_check_pipeline ["pipeline"] f fd) : Cal P w K mg base "check_pipeline" "check_pipeline" s_check_pipeline ["pipeline"] 2 1 n_check_pipeline :=
  (calD (N := ["pipeline", "index", "letter"]) (m := b_check_pipeline) (k := 1) d sc_check_pipeline rfl fun cdv A outer s H E hr =>
    have hu := hr.units
    have tk := takes_of (X := cxOf (L2.CX P w) P w K mg base ["pipeline", "index", "letter"] "check_pipeline" (defScope s_check_pipeline) f cdv A outer s H E) rfl rfl rfl rfl
    ⟨_, (dss_one (ds_for (passes_of rfl) rfl (di_enS (by rfl) B.b_enumerate (da_cons (de_var 0) da_nil)) (kg_tup K rfl (dgs_cons (dg_name 1 sc_check_pipeline.nd) (dgs_cons (dg_name 2 sc_check_pipeline.nd) dgs_nil))) (dss_one (ds_if (dt_cmp (k_notInL K) (de_var 2) (de_tup (da_cons (de_globS [84] (by rfl) B.g_TWINS Str_c2c53d66) (da_cons (de_globS [83] (by rfl) B.g_SINGLES Str_02aa629c) da_nil)))) (dss_one (ds_raise (c := .pip) rfl (B.xt .pip _ B.n_InvalidPipeline) hr (by decide) tk B.g_InvalidPipeline (da_cons (de_var 1) da_nil))) dss_nil))))⟩).imp sp_check_pipeline
theorem d_runs_of {f : Addr} {fd : FuncData} (B : Bl P K mg t_LETTERS t_SINGLES t_TWINS C_InvalidPipeline C_InvalidRow C_NothingToUndo) (d : Dfn K mg "runs_of" "runs_of" s_runs_of ["row"] f fd) : Cal P w K mg base "runs_of" "runs_of" s_runs_of ["row"] 1 1 n_runs_of :=
  (calD (N := ["row", "found", "letter"]) (m := b_runs_of) (k := 0) d sc_runs_of rfl fun cdv A outer s H E hr =>
    have hu := hr.units
    have tk := takes_of (X := cxOf (L2.CX P w) P w K mg base ["row", "found", "letter"] "runs_of" (defScope s_runs_of) f cdv A outer s H E) rfl rfl rfl rfl
    ⟨_, (dss_cons (ds_setO 1 sc_runs_of.nd da_nil)
    (dss_cons (ds_for (passes_of rfl) rfl (di_str (de_var 0)) (dg_name 2 sc_runs_of.nd) (dss_one (ds_if (dt_w (dw_and (dt_neO 1 hu (de_lst da_nil)) (dw_and1 (dt_cmp o_eqS (de_ix (k_ix K) (de_ixO 1 (de_neg de_int)) de_int) (de_var 2))))) (dss_one (ds_setIxO 1 (de_tup (da_cons (de_var 2) (da_cons (de_op o_addI (de_ix (k_ix K) (de_ixO 1 (de_neg de_int)) de_int) de_int) da_nil))) (de_neg de_int))) (dss_one (ds_expr (de_appO 1 (de_tup (da_cons (de_var 2) (da_cons de_int da_nil)))))))))
    (dss_one (ds_ret (de_var 1)))))⟩).imp sp_runs_of
theorem d_sieved_once {f : Addr} {fd : FuncData} (B : Bl P K mg t_LETTERS t_SINGLES t_TWINS C_InvalidPipeline C_InvalidRow C_NothingToUndo) (d : Dfn K mg "sieved_once" "sieved_once" s_sieved_once ["row", "letter"] f fd) (C_runs_of : Cal P w K mg base "runs_of" "runs_of" s_runs_of ["row"] 1 1 n_runs_of) : Cal P w K mg base "sieved_once" "sieved_once" s_sieved_once ["row", "letter"] 2 2 n_sieved_once :=
  (calD (N := ["row", "letter", "kept", "length"]) (m := b_sieved_once) (k := 1) d sc_sieved_once rfl fun cdv A outer s H E hr =>
    have hu := hr.units
    have tk := takes_of (X := cxOf (L2.CX P w) P w K mg base ["row", "letter", "kept", "length"] "sieved_once" (defScope s_sieved_once) f cdv A outer s H E) rfl rfl rfl rfl
    ⟨_, (dss_one (ds_ret (ke_join K (de_str [] Str_da39a3ee) (de_lc [("kept", 2), ("length", 3)] rfl sc_sieved_once.nd (ki_lst K (ke_call K mg C_runs_of (hr.mono (by decide)) tk (da_cons (de_var 0) da_nil))) (blkOk_by (N := ["row", "letter", "kept", "length"]) (sc := defScope s_sieved_once) (by decide +kernel)) (fun _ _ _ _ _ => (kg_tup K rfl (dgs_cons (dg_name 2 sc_sieved_once.nd) (dgs_cons (dg_name 3 sc_sieved_once.nd) dgs_nil)))) (gk_tup (gk_cons (by decide) (gk_cons (by decide) gk_nil))) (fun _ _ _ _ _ => (dts_one (dt_cmp o_eqS (de_cmp o_eqS (de_var 3) de_int) (de_cmp o_eqS (de_var 1) (de_globS [83] (by rfl) B.g_SINGLES Str_02aa629c))))) (fun _ _ _ _ _ => (de_var 2))))))⟩).imp sp_sieved_once
theorem d_sieved {f : Addr} {fd : FuncData} (B : Bl P K mg t_LETTERS t_SINGLES t_TWINS C_InvalidPipeline C_InvalidRow C_NothingToUndo) (d : Dfn K mg "sieved" "sieved" s_sieved ["row", "pipeline"] f fd) (C_sieved_once : Cal P w K mg base "sieved_once" "sieved_once" s_sieved_once ["row", "letter"] 2 2 n_sieved_once) : Cal P w K mg base "sieved" "sieved" s_sieved ["row", "pipeline"] 3 2 n_sieved :=
  (calD (N := ["row", "pipeline", "letter"]) (m := b_sieved) (k := 2) d sc_sieved rfl fun cdv A outer s H E hr =>
    have hu := hr.units
    have tk := takes_of (X := cxOf (L2.CX P w) P w K mg base ["row", "pipeline", "letter"] "sieved" (defScope s_sieved) f cdv A outer s H E) rfl rfl rfl rfl
    ⟨_, (dss_cons (ds_for (passes_of rfl) rfl (di_str (de_var 1)) (dg_name 2 sc_sieved.nd) (dss_one (ds_set 0 sc_sieved.nd (ke_call K mg C_sieved_once (hr.mono (by decide)) tk (da_cons (de_var 0) (da_cons (de_var 2) da_nil))))))
    (dss_one (ds_ret (de_var 0))))⟩).imp sp_sieved
theorem d_SieveRow_sieve {f : Addr} {fd : FuncData} {C p : Addr} (B : Bl P K mg t_LETTERS t_SINGLES t_TWINS C_InvalidPipeline C_InvalidRow C_NothingToUndo) (hm : ∀ C, PySem.W.nsIn K mainGlobals "SieveRow" = some (some (.ref C)) → Cls K C ∧ Meth K C "sieve" f) (Fk : Fun K "sieve" "SieveRow.sieve" s_SieveRow_sieve f fd) (C_check_pipeline : Cal P w K mg base "check_pipeline" "check_pipeline" s_check_pipeline ["pipeline"] 2 1 n_check_pipeline) (C_sieved : Cal P w K mg base "sieved" "sieved" s_sieved ["row", "pipeline"] 3 2 n_sieved) : CalS P w K mg base "SieveRow" "sieve" "SieveRow.sieve" s_SieveRow_sieve ["self", "pipelines"] 4 n_SieveRow_sieve :=
  (calS (N := ["self", "pipelines", "whole", "found", "name"]) (mm := b_SieveRow_sieve) (k := 3) (p1 := "self") (pv := "pipelines") hm Fk sc_SieveRow_sieve (by decide) (fun _ _ _ _ _ _ _ => rfl) (fun _ _ _ _ _ _ _ _ _ => rfl) fun cdv A outer s H E hr =>
    have hu := hr.units
    have tk := takes_of (X := cxOf (L2.CX P w) P w K mg base ["self", "pipelines", "whole", "found", "name"] "SieveRow.sieve" (defScope s_SieveRow_sieve) f cdv A outer s H E) rfl rfl rfl rfl
    ⟨_, (dss_cons (ds_set 2 sc_SieveRow_sieve.nd (ke_join K (de_str [] Str_da39a3ee) (de_var 1)))
    (dss_cons (ds_expr (ke_call K mg C_check_pipeline (hr.mono (by decide)) tk (da_cons (de_var 2) da_nil)))
    (dss_cons (ds_setOL 3 sc_SieveRow_sieve.nd (by rfl) B.b_list (da_cons (ke_fld K B.f_SieveRow_passed (de_var 0)) da_nil))
    (dss_cons (ds_for (passes_of rfl) rfl (di_str (de_var 2)) (dg_name 4 sc_SieveRow_sieve.nd) (dss_one (ds_expr (de_appO 3 (ke_call K mg C_sieved (hr.mono (by decide)) tk (da_cons (de_ixO 3 (de_neg de_int)) (da_cons (de_var 4) da_nil)))))))
    (dss_cons (ds_fld B.f_SieveRow_passed (de_var 3) (de_var 0))
    (dss_one (ds_fldA B.f_SieveRow_applied o_iaddS (de_var 0) (de_var 2))))))))⟩).imp sp_SieveRow_sieve
theorem d_SieveRow_undo {f : Addr} {fd : FuncData} {C p : Addr} (B : Bl P K mg t_LETTERS t_SINGLES t_TWINS C_InvalidPipeline C_InvalidRow C_NothingToUndo) (hm : ∀ C, PySem.W.nsIn K mainGlobals "SieveRow" = some (some (.ref C)) → Cls K C ∧ Meth K C "undo" f) (Fk : Fun K "undo" "SieveRow.undo" s_SieveRow_undo f fd) (bd : Binds K fd ["self"] []) : CalM P w K mg base "SieveRow" "undo" "SieveRow.undo" s_SieveRow_undo ["self"] 2 1 n_SieveRow_undo :=
  (calM (N := ["self"]) (mm := b_SieveRow_undo) (k := 1) hm Fk bd sc_SieveRow_undo rfl fun cdv A outer s H E hr =>
    have hu := hr.units
    have tk := takes_of (X := cxOf (L2.CX P w) P w K mg base ["self"] "SieveRow.undo" (defScope s_SieveRow_undo) f cdv A outer s H E) rfl rfl rfl rfl
    ⟨_, (dss_cons (ds_if (dt_cmp o_eqS (ke_fld K B.f_SieveRow_applied (de_var 0)) (de_str [] Str_da39a3ee)) (dss_one (ds_raise (c := .und) rfl (B.xt .und _ B.n_NothingToUndo) hr (by decide) tk B.g_NothingToUndo (da_cons de_int da_nil))) dss_nil)
    (dss_cons (ds_fld B.f_SieveRow_passed (de_slice (k_slL K) (ke_fld K B.f_SieveRow_passed (de_var 0)) do_none (do_some (de_neg de_int))) (de_var 0))
    (dss_one (ds_fld B.f_SieveRow_applied (de_slice o_slS (ke_fld K B.f_SieveRow_applied (de_var 0)) do_none (do_some (de_neg de_int))) (de_var 0)))))⟩).imp sp_SieveRow_undo
theorem d__law_object {f : Addr} {fd : FuncData} (B : Bl P K mg t_LETTERS t_SINGLES t_TWINS C_InvalidPipeline C_InvalidRow C_NothingToUndo) (d : Dfn K mg "_law_object" "_law_object" s__law_object ["pool", "line", "steps"] f fd) (C_SieveRow___init__ : CalK P w K mg base "SieveRow" "SieveRow.__init__" s_SieveRow___init__ ["self", "row"] 3 2 n_SieveRow___init__) (C__law_draw : Cal P w K mg base "_law_draw" "_law_draw" s__law_draw ["pool", "many"] 1 2 n_law_draw_3) (C_SieveRow_sieve : CalS P w K mg base "SieveRow" "sieve" "SieveRow.sieve" s_SieveRow_sieve ["self", "pipelines"] 4 n_SieveRow_sieve) (C_SieveRow_undo : CalM P w K mg base "SieveRow" "undo" "SieveRow.undo" s_SieveRow_undo ["self"] 2 1 n_SieveRow_undo) : Cal P w K mg base "_law_object" "_law_object" s__law_object ["pool", "line", "steps"] 5 3 n_law_object_2 :=
  (calD (N := ["pool", "line", "steps", "live", "way", "step"]) (m := b_law_object_2) (k := 4) d sc__law_object rfl fun cdv A outer s H E hr =>
    have hu := hr.units
    have tk := takes_of (X := cxOf (L2.CX P w) P w K mg base ["pool", "line", "steps", "live", "way", "step"] "_law_object" (defScope s__law_object) f cdv A outer s H E) rfl rfl rfl rfl
    ⟨_, (dss_cons (ds_par 3 4 rfl sc__law_object.nd (da_cons (ke_make K mg C_SieveRow___init__ (hr.mono (by decide)) (by decide) tk (by rfl) (da_cons (de_var 1) da_nil)) (da_cons (ke_call K mg C__law_draw (hr.mono (by decide)) tk (da_cons (de_var 0) (da_cons de_int da_nil))) da_nil)))
    (dss_cons (ds_if (dt_cmp o_eqS (de_var 4) de_int) (dss_one (ds_expr (ke_methS K mg C_SieveRow_sieve (hr.mono (by decide)) tk (de_var 3) (da_cons (de_var 2) da_nil)))) (dss_one (ds_if (dt_cmp o_eqS (de_var 4) de_int) (dss_one (ds_for (passes_of rfl) rfl (di_str (de_var 2)) (dg_name 5 sc__law_object.nd) (dss_one (ds_expr (ke_methS K mg C_SieveRow_sieve (hr.mono (by decide)) tk (de_var 3) (da_cons (de_var 5) da_nil)))))) (dss_cons (ds_expr (ke_methS K mg C_SieveRow_sieve (hr.mono (by decide)) tk (de_var 3) (da_cons (de_str [84, 83] Str_d3a2460e) da_nil)))
    (dss_cons (ds_expr (ke_meth0 K mg C_SieveRow_undo (hr.mono (by decide)) tk (de_var 3)))
    (dss_cons (ds_expr (ke_meth0 K mg C_SieveRow_undo (hr.mono (by decide)) tk (de_var 3)))
    (dss_one (ds_expr (ke_methS K mg C_SieveRow_sieve (hr.mono (by decide)) tk (de_var 3) (da_cons (de_slice o_slS (de_var 2) do_none (do_some de_int)) (da_cons (de_str [] Str_da39a3ee) (da_cons (de_slice o_slS (de_var 2) (do_some de_int) do_none) da_nil))))))))))))
    (dss_one (ds_ret (de_var 3)))))⟩).imp sp_law_object_2
theorem d__law_line {f : Addr} {fd : FuncData} (B : Bl P K mg t_LETTERS t_SINGLES t_TWINS C_InvalidPipeline C_InvalidRow C_NothingToUndo) (d : Dfn K mg "_law_line" "_law_line" s__law_line ["pool", "most"] f fd) (C__law_draw : Cal P w K mg base "_law_draw" "_law_draw" s__law_draw ["pool", "many"] 1 2 n_law_draw_3) : Cal P w K mg base "_law_line" "_law_line" s__law_line ["pool", "most"] 2 2 n_law_line :=
  (calD (N := ["pool", "most", "letters", "shift", "found", "turn", "letter"]) (m := b_law_line) (k := 1) d sc__law_line rfl fun cdv A outer s H E hr =>
    have hu := hr.units
    have tk := takes_of (X := cxOf (L2.CX P w) P w K mg base ["pool", "most", "letters", "shift", "found", "turn", "letter"] "_law_line" (defScope s__law_line) f cdv A outer s H E) rfl rfl rfl rfl
    ⟨_, (dss_cons (ds_set 2 sc__law_line.nd (de_slice o_slS (de_str [97, 98, 99, 100, 101, 102, 103, 104, 105, 106, 107, 108, 109, 110, 111, 112, 113, 114, 115, 116, 117, 118, 119, 120, 121, 122] Str_32d10c7b) do_none (do_some (de_ix (k_ix K) (de_lst (da_cons de_int (da_cons de_int (da_cons de_int (da_cons de_int da_nil))))) (ke_call K mg C__law_draw (hr.mono (by decide)) tk (da_cons (de_var 0) (da_cons de_int da_nil)))))))
    (dss_cons (ds_set 3 sc__law_line.nd (ke_call K mg C__law_draw (hr.mono (by decide)) tk (da_cons (de_var 0) (da_cons (de_op o_subI de_int (de_callB (kb_len K) (by rfl) B.b_len (by decide +kernel) (da_cons (de_var 2) da_nil))) da_nil))))
    (dss_cons (ds_set 4 sc__law_line.nd (de_str [] Str_da39a3ee))
    (dss_cons (ds_for (passes_of rfl) rfl (di_rng1 (by rfl) B.b_range (da_cons (ke_call K mg C__law_draw (hr.mono (by decide)) tk (da_cons (de_var 0) (da_cons (de_ix (k_ix K) (de_lst (da_cons de_int (da_cons (de_op o_addI (de_var 1) de_int) da_nil))) (ke_call K mg C__law_draw (hr.mono (by decide)) tk (da_cons (de_var 0) (da_cons de_int da_nil)))) da_nil))) da_nil)) (dg_name 5 sc__law_line.nd) (dss_cons (ds_set 6 sc__law_line.nd (de_ix (k_ix K) (de_str [97, 98, 99, 100, 101, 102, 103, 104, 105, 106, 107, 108, 109, 110, 111, 112, 113, 114, 115, 116, 117, 118, 119, 120, 121, 122] Str_32d10c7b) (de_op o_addI (de_var 3) (ke_call K mg C__law_draw (hr.mono (by decide)) tk (da_cons (de_var 0) (da_cons (de_callB (kb_len K) (by rfl) B.b_len (by decide +kernel) (da_cons (de_var 2) da_nil)) da_nil))))))
    (dss_one (ds_set 4 sc__law_line.nd (de_op o_addS (de_var 4) (de_op o_mulS (de_var 6) (de_ix (k_ix K) (de_lst (da_cons de_int (da_cons de_int (da_cons de_int (da_cons de_int (da_cons de_int (da_cons (de_op o_addI de_int (ke_call K mg C__law_draw (hr.mono (by decide)) tk (da_cons (de_var 0) (da_cons de_int da_nil)))) da_nil))))))) (ke_call K mg C__law_draw (hr.mono (by decide)) tk (da_cons (de_var 0) (da_cons de_int da_nil))))))))))
    (dss_one (ds_ret (de_slice o_slS (de_var 4) do_none (do_some (de_var 1)))))))))⟩).imp sp_law_line
theorem d__law_steps {f : Addr} {fd : FuncData} (B : Bl P K mg t_LETTERS t_SINGLES t_TWINS C_InvalidPipeline C_InvalidRow C_NothingToUndo) (d : Dfn K mg "_law_steps" "_law_steps" s__law_steps ["pool", "most"] f fd) (C__law_draw : Cal P w K mg base "_law_draw" "_law_draw" s__law_draw ["pool", "many"] 1 2 n_law_draw_3) : Cal P w K mg base "_law_steps" "_law_steps" s__law_steps ["pool", "most"] 2 2 n_law_steps :=
  (calD (N := ["pool", "most", "turn"]) (m := b_law_steps) (k := 1) d sc__law_steps rfl fun cdv A outer s H E hr =>
    have hu := hr.units
    have tk := takes_of (X := cxOf (L2.CX P w) P w K mg base ["pool", "most", "turn"] "_law_steps" (defScope s__law_steps) f cdv A outer s H E) rfl rfl rfl rfl
    ⟨_, (dss_one (ds_ret (ke_join K (de_str [] Str_da39a3ee) (de_lc [("turn", 2)] rfl sc__law_steps.nd (di_rng1 (by rfl) B.b_range (da_cons (ke_call K mg C__law_draw (hr.mono (by decide)) tk (da_cons (de_var 0) (da_cons (de_op o_addI (de_var 1) de_int) da_nil))) da_nil)) (blkOk_by (N := ["pool", "most", "turn"]) (sc := defScope s__law_steps) (by decide +kernel)) (fun _ _ _ _ _ => (dg_name 2 sc__law_steps.nd)) (gk_name (by decide)) (fun _ _ _ _ _ => dts_nil) (fun _ _ _ _ _ => (de_ix (k_ix K) (de_str [84, 83] Str_d3a2460e) (ke_call K mg C__law_draw (hr.mono (by decide)) takes0 (da_cons (de_var 0) (da_cons de_int da_nil)))))))))⟩).imp sp_law_steps
theorem d_SieveRow_row {f : Addr} {fd : FuncData} {C p : Addr} (B : Bl P K mg t_LETTERS t_SINGLES t_TWINS C_InvalidPipeline C_InvalidRow C_NothingToUndo) (hm : ∀ C, PySem.W.nsIn K mainGlobals "SieveRow" = some (some (.ref C)) → Cls K C ∧ PropOf K C "row" p f) (Fk : Fun K "row" "SieveRow.row" s_SieveRow_row f fd) (bd : Binds K fd ["self"] []) : CalP P w K mg base "SieveRow" "row" "SieveRow.row" s_SieveRow_row ["self"] 1 1 n_SieveRow_row :=
  (calP (N := ["self"]) (mm := b_SieveRow_row) (k := 0) hm Fk bd sc_SieveRow_row rfl fun cdv A outer s H E hr =>
    have hu := hr.units
    have tk := takes_of (X := cxOf (L2.CX P w) P w K mg base ["self"] "SieveRow.row" (defScope s_SieveRow_row) f cdv A outer s H E) rfl rfl rfl rfl
    ⟨_, (dss_one (ds_ret (de_ix (k_ix K) (ke_fld K B.f_SieveRow_passed (de_var 0)) (de_neg de_int))))⟩).imp sp_SieveRow_row
theorem d_SieveRow_pipeline {f : Addr} {fd : FuncData} {C p : Addr} (B : Bl P K mg t_LETTERS t_SINGLES t_TWINS C_InvalidPipeline C_InvalidRow C_NothingToUndo) (hm : ∀ C, PySem.W.nsIn K mainGlobals "SieveRow" = some (some (.ref C)) → Cls K C ∧ PropOf K C "pipeline" p f) (Fk : Fun K "pipeline" "SieveRow.pipeline" s_SieveRow_pipeline f fd) (bd : Binds K fd ["self"] []) : CalP P w K mg base "SieveRow" "pipeline" "SieveRow.pipeline" s_SieveRow_pipeline ["self"] 1 1 n_SieveRow_pipeline :=
  (calP (N := ["self"]) (mm := b_SieveRow_pipeline) (k := 0) hm Fk bd sc_SieveRow_pipeline rfl fun cdv A outer s H E hr =>
    have hu := hr.units
    have tk := takes_of (X := cxOf (L2.CX P w) P w K mg base ["self"] "SieveRow.pipeline" (defScope s_SieveRow_pipeline) f cdv A outer s H E) rfl rfl rfl rfl
    ⟨_, (dss_one (ds_ret (ke_fld K B.f_SieveRow_applied (de_var 0))))⟩).imp sp_SieveRow_pipeline
theorem d__law_sieved {f : Addr} {fd : FuncData} (B : Bl P K mg t_LETTERS t_SINGLES t_TWINS C_InvalidPipeline C_InvalidRow C_NothingToUndo) (d : Dfn K mg "_law_sieved" "_law_sieved" s__law_sieved ["line", "steps"] f fd) : Cal P w K mg base "_law_sieved" "_law_sieved" s__law_sieved ["line", "steps"] 1 2 n_law_sieved_3 :=
  (calD (N := ["line", "steps", "step", "found", "here", "letter"]) (m := b_law_sieved_3) (k := 0) d sc__law_sieved rfl fun cdv A outer s H E hr =>
    have hu := hr.units
    have tk := takes_of (X := cxOf (L2.CX P w) P w K mg base ["line", "steps", "step", "found", "here", "letter"] "_law_sieved" (defScope s__law_sieved) f cdv A outer s H E) rfl rfl rfl rfl
    ⟨_, (dss_cons (ds_for (passes_of rfl) rfl (di_str (de_var 1)) (dg_name 2 sc__law_sieved.nd) (dss_cons (ds_asg (swt := rfl) (de_tup (da_cons (de_str [] Str_da39a3ee) (da_cons (de_str [] Str_da39a3ee) da_nil))) (kg_tup K rfl (dgs_cons (dg_name 3 sc__law_sieved.nd) (dgs_cons (dg_name 4 sc__law_sieved.nd) dgs_nil))))
    (dss_cons (ds_for (passes_of rfl) rfl (di_str (de_op o_addS (de_var 0) (de_str [32] Str_b858cb28))) (dg_name 5 sc__law_sieved.nd) (dss_cons (ds_if (dt_w (dw_and (dt_cmp o_neS (de_var 4) (de_str [] Str_da39a3ee)) (dw_and1 (dt_cmp o_neS (de_var 5) (de_ix (k_ix K) (de_var 4) de_int))))) (dss_cons (ds_set 3 sc__law_sieved.nd (de_op o_addS (de_var 3) (de_op o_mulS (de_slice o_slS (de_var 4) do_none (do_some de_int)) (de_callTy b_int (by rfl) B.b_int (by decide +kernel) (da_cons (de_cmp o_eqS (de_cmp o_gtI (de_callB (kb_len K) (by rfl) B.b_len (by decide +kernel) (da_cons (de_var 4) da_nil)) de_int) (de_cmp o_eqS (de_var 2) (de_str [84] Str_c2c53d66))) da_nil)))))
    (dss_one (ds_set 4 sc__law_sieved.nd (de_str [] Str_da39a3ee)))) dss_nil)
    (dss_one (ds_set 4 sc__law_sieved.nd (de_op o_addS (de_var 4) (de_var 5))))))
    (dss_one (ds_set 0 sc__law_sieved.nd (de_var 3))))))
    (dss_one (ds_ret (de_var 0))))⟩).imp sp_law_sieved_3
theorem d_SieveRow___eq__ {f : Addr} {fd : FuncData} {C p : Addr} (B : Bl P K mg t_LETTERS t_SINGLES t_TWINS C_InvalidPipeline C_InvalidRow C_NothingToUndo) (hm : ∀ C, PySem.W.nsIn K mainGlobals "SieveRow" = some (some (.ref C)) → Cls K C ∧ Meth K C "__eq__" f) (Fk : Fun K "__eq__" "SieveRow.__eq__" s_SieveRow___eq__ f fd) (bd : Binds K fd ["self", "other"] []) : CalM P w K mg base "SieveRow" "__eq__" "SieveRow.__eq__" s_SieveRow___eq__ ["self", "other"] 5 2 n_SieveRow___eq___k :=
  (calM (N := ["self", "other"]) (mm := b_SieveRow___eq___k) (k := 4) hm Fk bd sc_SieveRow___eq__ rfl fun cdv A outer s H E hr =>
    have hu := hr.units
    have tk := takes_of (X := cxOf (L2.CX P w) P w K mg base ["self", "other"] "SieveRow.__eq__" (defScope s_SieveRow___eq__) f cdv A outer s H E) rfl rfl rfl rfl
    ⟨_, (dss_cons (ds_if (dt_not (dt_val (de_isK B.i_SieveRow (by rfl) B.b_isinstance (by rfl) (de_var 1)).choose_spec)) (dss_one (ds_ret de_bl)) dss_nil)
    (dss_one (ds_ret (de_and (de_cmp o_eqS (de_ix (k_ix K) (ke_fld K B.f_SieveRow_passed (de_var 0)) de_int) (de_ix (k_ix K) (ke_fld K B.f_SieveRow_passed (de_var 1)) de_int)) (de_one (de_cmp o_eqS (ke_fld K B.f_SieveRow_applied (de_var 0)) (ke_fld K B.f_SieveRow_applied (de_var 1))))))))⟩).imp sp_SieveRow___eq___k
theorem d__law_right {f : Addr} {fd : FuncData} (B : Bl P K mg t_LETTERS t_SINGLES t_TWINS C_InvalidPipeline C_InvalidRow C_NothingToUndo) (d : Dfn K mg "_law_right" "_law_right" s__law_right ["pool"] f fd) (C__law_line : Cal P w K mg base "_law_line" "_law_line" s__law_line ["pool", "most"] 2 2 n_law_line) (C__law_steps : Cal P w K mg base "_law_steps" "_law_steps" s__law_steps ["pool", "most"] 2 2 n_law_steps) (C__law_object : Cal P w K mg base "_law_object" "_law_object" s__law_object ["pool", "line", "steps"] 5 3 n_law_object_2) (C__law_draw : Cal P w K mg base "_law_draw" "_law_draw" s__law_draw ["pool", "many"] 1 2 n_law_draw_3) (C__law_sieved : Cal P w K mg base "_law_sieved" "_law_sieved" s__law_sieved ["line", "steps"] 1 2 n_law_sieved_3) (C_SieveRow___eq__ : CalM P w K mg base "SieveRow" "__eq__" "SieveRow.__eq__" s_SieveRow___eq__ ["self", "other"] 5 2 n_SieveRow___eq___k) (C_SieveRow_row : CalP P w K mg base "SieveRow" "row" "SieveRow.row" s_SieveRow_row ["self"] 1 1 n_SieveRow_row) (C_SieveRow_pipeline : CalP P w K mg base "SieveRow" "pipeline" "SieveRow.pipeline" s_SieveRow_pipeline ["self"] 1 1 n_SieveRow_pipeline) : Cal P w K mg base "_law_right" "_law_right" s__law_right ["pool"] 7 1 n_law_right_15 :=
  (calD (N := ["pool", "line", "steps", "one", "turn", "at", "others", "way", "begun", "two", "due"]) (m := b_law_right_15) (k := 6) d sc__law_right rfl fun cdv A outer s H E hr =>
    have hu := hr.units
    have tk := takes_of (X := cxOf (L2.CX P w) P w K mg base ["pool", "line", "steps", "one", "turn", "at", "others", "way", "begun", "two", "due"] "_law_right" (defScope s__law_right) f cdv A outer s H E) rfl rfl rfl rfl
    ⟨_, (dss_cons (ds_par 1 2 rfl sc__law_right.nd (da_cons (ke_call K mg C__law_line (hr.mono (by decide)) tk (da_cons (de_var 0) (da_cons de_int da_nil))) (da_cons (ke_call K mg C__law_steps (hr.mono (by decide)) tk (da_cons (de_var 0) (da_cons de_int da_nil))) da_nil)))
    (dss_cons (ds_set 3 sc__law_right.nd (ke_call K mg C__law_object (hr.mono (by decide)) tk (da_cons (de_var 0) (da_cons (de_var 1) (da_cons (de_var 2) da_nil)))))
    (dss_cons (ds_for (passes_of rfl) rfl (di_rng1 (by rfl) B.b_range (da_cons de_int da_nil)) (dg_name 4 sc__law_right.nd) (dss_cons (ds_set 5 sc__law_right.nd (ke_call K mg C__law_draw (hr.mono (by decide)) tk (da_cons (de_var 0) (da_cons (de_op o_addI (de_callB (kb_len K) (by rfl) B.b_len (by decide +kernel) (da_cons (de_var 2) da_nil)) de_int) da_nil))))
    (dss_cons (ds_set 6 sc__law_right.nd (de_lst (da_cons (de_var 2) (da_cons (de_var 2) (da_cons (de_op o_addS (de_var 2) (de_str [83] Str_02aa629c)) (da_cons (de_slice o_slS (de_var 2) do_none (do_some (de_var 5))) (da_cons (de_op o_addS (de_op o_addS (de_slice o_slS (de_var 2) do_none (do_some (de_var 5))) (de_ix (k_ix K) (de_str [83, 84] Str_95061581) (ke_call K mg C__law_draw (hr.mono (by decide)) tk (da_cons (de_var 0) (da_cons de_int da_nil))))) (de_slice o_slS (de_var 2) (do_some (de_op o_addI (de_var 5) de_int)) do_none)) da_nil)))))))
    (dss_cons (ds_set 7 sc__law_right.nd (de_ix (k_ix K) (de_var 6) (ke_call K mg C__law_draw (hr.mono (by decide)) tk (da_cons (de_var 0) (da_cons de_int da_nil)))))
    (dss_cons (ds_set 8 sc__law_right.nd (de_ix (k_ix K) (de_lst (da_cons (de_var 1) (da_cons (de_var 1) (da_cons (ke_call K mg C__law_sieved (hr.mono (by decide)) tk (da_cons (de_var 1) (da_cons (de_str [83] Str_02aa629c) da_nil))) (da_cons (de_op o_addS (de_var 1) (de_str [113] Str_22ea1c64)) (da_cons (ke_call K mg C__law_line (hr.mono (by decide)) tk (da_cons (de_var 0) (da_cons de_int da_nil))) da_nil)))))) (ke_call K mg C__law_draw (hr.mono (by decide)) tk (da_cons (de_var 0) (da_cons de_int da_nil)))))
    (dss_cons (ds_set 9 sc__law_right.nd (ke_call K mg C__law_object (hr.mono (by decide)) tk (da_cons (de_var 0) (da_cons (de_var 8) (da_cons (de_var 7) da_nil)))))
    (dss_cons (ds_set 10 sc__law_right.nd (de_and (de_cmp o_eqS (de_var 8) (de_var 1)) (de_one (de_cmp o_eqS (de_var 7) (de_var 2)))))
    (dss_one (ds_if (dt_w (dw_or (dt_cmp o_neS (ke_eqO K mg C_SieveRow___eq__ (hr.mono (by decide)) (de_var 3) (de_var 9)) (de_var 10)) (dw_or (dt_cmp o_neS (ke_eqO K mg C_SieveRow___eq__ (hr.mono (by decide)) (de_var 9) (de_var 3)) (de_var 10)) (dw_or1 (dt_cmp o_eqS (ke_neO K mg C_SieveRow___eq__ B.w_SieveRow (hr.mono (by decide)) (by decide) (de_var 3) (de_var 9)) (de_var 10)))))) (dss_one (ds_ret de_bl)) dss_nil)))))))))
    (dss_one (ds_ret (ke_notInK K mg C_SieveRow___eq__ B.w_SieveRow (hr.mono (by decide)) (by decide) (de_var 3) (de_lst (da_cons de_non (da_cons (de_var 1) (da_cons (de_var 2) (da_cons (de_tup (da_cons (de_var 1) (da_cons (de_var 2) da_nil))) (da_cons (de_lst (da_cons (de_var 1) (da_cons (de_var 2) da_nil))) (da_cons (ke_prop K mg C_SieveRow_row (hr.mono (by decide)) (by decide) (de_var 3)) (da_cons (ke_prop K mg C_SieveRow_pipeline (hr.mono (by decide)) (by decide) (de_var 3)) (da_cons de_int (da_cons (de_str [] Str_da39a3ee) da_nil))))))))))))))))⟩).imp sp_law_right_15
theorem d_law {f : Addr} {fd : FuncData} (B : Bl P K mg t_LETTERS t_SINGLES t_TWINS C_InvalidPipeline C_InvalidRow C_NothingToUndo) (d : Dfn K mg "law" "law" s_law ["script"] f fd) (C__law_pool : Cal P w K mg base "_law_pool" "_law_pool" s__law_pool ["script", "at"] 1 2 n_law_pool) (C__law_right : Cal P w K mg base "_law_right" "_law_right" s__law_right ["pool"] 7 1 n_law_right_15) (C_SieveRow___init__ : CalK P w K mg base "SieveRow" "SieveRow.__init__" s_SieveRow___init__ ["self", "row"] 3 2 n_SieveRow___init__) (C_SieveRow___eq__ : CalM P w K mg base "SieveRow" "__eq__" "SieveRow.__eq__" s_SieveRow___eq__ ["self", "other"] 5 2 n_SieveRow___eq___k) : Cal P w K mg base "law" "law" s_law ["script"] 8 1 n_law_37 :=
  (calD (N := ["script", "at", "pool", "turn"]) (m := b_law_37) (k := 7) d sc_law rfl fun cdv A outer s H E hr =>
    have hu := hr.units
    have tk := takes_of (X := cxOf (L2.CX P w) P w K mg base ["script", "at", "pool", "turn"] "law" (defScope s_law) f cdv A outer s H E) rfl rfl rfl rfl
    ⟨_, (dss_cons (ds_for (passes_of rfl) rfl (di_rng1 (by rfl) B.b_range (da_cons (de_callB (b_max rfl) (by rfl) B.b_max (by decide +kernel) (da_cons de_int (da_cons (de_callB (b_min rfl) (by rfl) B.b_min (by decide +kernel) (da_cons de_int (da_cons (de_callB (kb_len K) (by rfl) B.b_len (by decide +kernel) (da_cons (de_var 0) da_nil)) da_nil))) da_nil))) da_nil)) (dg_name 1 sc_law.nd) (dss_cons (ds_set 2 sc_law.nd (ke_call K mg C__law_pool (hr.mono (by decide)) tk (da_cons (de_var 0) (da_cons (de_var 1) da_nil))))
    (dss_one (ds_for (passes_of rfl) rfl (di_rng1 (by rfl) B.b_range (da_cons de_int da_nil)) (dg_name 3 sc_law.nd) (dss_one (ds_if (dt_not (dt_val (ke_call K mg C__law_right (hr.mono (by decide)) tk (da_cons (de_var 2) da_nil)))) (dss_one (ds_ret de_bl)) dss_nil))))))
    (dss_one (ds_ret (de_and (ke_neO K mg C_SieveRow___eq__ B.w_SieveRow (hr.mono (by decide)) (by decide) (ke_make K mg C_SieveRow___init__ (hr.mono (by decide)) (by decide) tk (by rfl) (da_cons (de_str [] Str_da39a3ee) da_nil)) (de_str [] Str_da39a3ee)) (de_one (ke_eqO K mg C_SieveRow___eq__ (hr.mono (by decide)) (ke_make K mg C_SieveRow___init__ (hr.mono (by decide)) (by decide) tk (by rfl) (da_cons (de_str [97, 98] Str_da23614e) da_nil)) (ke_make K mg C_SieveRow___init__ (hr.mono (by decide)) (by decide) tk (by rfl) (da_cons (de_str [97, 98] Str_da23614e) da_nil))))))))⟩).imp sp_law_37
end
theorem all_mk {l : PySem.W.OpenLaw} {w : World} {K : PySem.W.Frag} {h : Heap} {mg : Str → Option Value} {fa f0 f1 f2 f3 f4 f5 f6 f7 f8 f9 f10 f11 f12 f13 f14 f15 f16 f17 f18 : Addr} (X : K.In h) (G : h.Ns mainGlobals mg) (hfa : mg "law" = some (.ref fa))
    {od0 an0 : Option Addr} {sl0 : Array (Option Value)} {oc0 kV0 dc0 pm0 cd0 ct0 : Value}
    {od1 an1 : Option Addr} {sl1 : Array (Option Value)} {oc1 kV1 dc1 pm1 cd1 ct1 : Value}
    {od2 an2 : Option Addr} {sl2 : Array (Option Value)} {oc2 kV2 dc2 pm2 cd2 ct2 : Value}
    {od3 an3 : Option Addr} {sl3 : Array (Option Value)} {oc3 kV3 dc3 pm3 cd3 ct3 : Value}
    {od4 an4 : Option Addr} {sl4 : Array (Option Value)} {oc4 kV4 dc4 pm4 cd4 ct4 : Value}
    {od5 an5 : Option Addr} {sl5 : Array (Option Value)} {oc5 kV5 dc5 pm5 cd5 ct5 : Value}
    {od6 an6 : Option Addr} {sl6 : Array (Option Value)} {oc6 kV6 dc6 pm6 cd6 ct6 : Value}
    {od7 an7 : Option Addr} {sl7 : Array (Option Value)} {oc7 kV7 dc7 pm7 cd7 ct7 : Value}
    {od8 an8 : Option Addr} {sl8 : Array (Option Value)} {oc8 kV8 dc8 pm8 cd8 ct8 : Value}
    {od9 an9 : Option Addr} {sl9 : Array (Option Value)} {oc9 kV9 dc9 pm9 cd9 ct9 : Value}
    {od10 an10 : Option Addr} {sl10 : Array (Option Value)} {oc10 kV10 dc10 pm10 cd10 ct10 : Value}
    {od11 an11 : Option Addr} {sl11 : Array (Option Value)} {oc11 kV11 dc11 pm11 cd11 ct11 : Value}
    {od12 an12 : Option Addr} {sl12 : Array (Option Value)} {oc12 kV12 dc12 pm12 cd12 ct12 : Value}
    {od13 an13 : Option Addr} {sl13 : Array (Option Value)} {oc13 kV13 dc13 pm13 cd13 ct13 : Value}
    {od14 an14 : Option Addr} {sl14 : Array (Option Value)} {oc14 kV14 dc14 pm14 cd14 ct14 : Value}
    {od15 an15 : Option Addr} {sl15 : Array (Option Value)} {oc15 kV15 dc15 pm15 cd15 ct15 : Value}
    {od16 an16 : Option Addr} {sl16 : Array (Option Value)} {oc16 kV16 dc16 pm16 cd16 ct16 : Value}
    {od17 an17 : Option Addr} {sl17 : Array (Option Value)} {oc17 kV17 dc17 pm17 cd17 ct17 : Value}
    {od18 an18 : Option Addr} {sl18 : Array (Option Value)} {oc18 kV18 dc18 pm18 cd18 ct18 : Value}
    {t_LETTERS t_SINGLES t_TWINS : Tok}
    (a0 : PySem.W.nsIn K mainGlobals "_law_pool" = some (some (.ref f0))) (l0 : K.lookup f0 = some ⟨oc0, od0, .func (PySem.W.fnOf "_law_pool" "_law_pool" (defArgs s__law_pool) (defBody s__law_pool) (defScope s__law_pool) .none kV0 dc0 pm0 an0 cd0 ct0), sl0⟩) (c0 : PySem.W.codeIn K cd0 "_law_pool" = true) (k0 : PySem.W.keepIn K (.ref f0) = true)
    (a1 : PySem.W.nsIn K mainGlobals "check_row" = some (some (.ref f1))) (l1 : K.lookup f1 = some ⟨oc1, od1, .func (PySem.W.fnOf "check_row" "check_row" (defArgs s_check_row) (defBody s_check_row) (defScope s_check_row) .none kV1 dc1 pm1 an1 cd1 ct1), sl1⟩) (c1 : PySem.W.codeIn K cd1 "check_row" = true) (k1 : PySem.W.keepIn K (.ref f1) = true)
    (l2 : K.lookup f2 = some ⟨oc2, od2, .func (PySem.W.fnOf "__init__" "SieveRow.__init__" (defArgs s_SieveRow___init__) (defBody s_SieveRow___init__) (defScope s_SieveRow___init__) .none kV2 dc2 pm2 an2 cd2 ct2), sl2⟩) (c2 : PySem.W.codeIn K cd2 "SieveRow.__init__" = true) (k2 : PySem.W.keepIn K (.ref f2) = true)
    (a3 : PySem.W.nsIn K mainGlobals "_law_draw" = some (some (.ref f3))) (l3 : K.lookup f3 = some ⟨oc3, od3, .func (PySem.W.fnOf "_law_draw" "_law_draw" (defArgs s__law_draw) (defBody s__law_draw) (defScope s__law_draw) .none kV3 dc3 pm3 an3 cd3 ct3), sl3⟩) (c3 : PySem.W.codeIn K cd3 "_law_draw" = true) (k3 : PySem.W.keepIn K (.ref f3) = true)
    (a4 : PySem.W.nsIn K mainGlobals "check_pipeline" = some (some (.ref f4))) (l4 : K.lookup f4 = some ⟨oc4, od4, .func (PySem.W.fnOf "check_pipeline" "check_pipeline" (defArgs s_check_pipeline) (defBody s_check_pipeline) (defScope s_check_pipeline) .none kV4 dc4 pm4 an4 cd4 ct4), sl4⟩) (c4 : PySem.W.codeIn K cd4 "check_pipeline" = true) (k4 : PySem.W.keepIn K (.ref f4) = true)
    (a5 : PySem.W.nsIn K mainGlobals "runs_of" = some (some (.ref f5))) (l5 : K.lookup f5 = some ⟨oc5, od5, .func (PySem.W.fnOf "runs_of" "runs_of" (defArgs s_runs_of) (defBody s_runs_of) (defScope s_runs_of) .none kV5 dc5 pm5 an5 cd5 ct5), sl5⟩) (c5 : PySem.W.codeIn K cd5 "runs_of" = true) (k5 : PySem.W.keepIn K (.ref f5) = true)
    (a6 : PySem.W.nsIn K mainGlobals "sieved_once" = some (some (.ref f6))) (l6 : K.lookup f6 = some ⟨oc6, od6, .func (PySem.W.fnOf "sieved_once" "sieved_once" (defArgs s_sieved_once) (defBody s_sieved_once) (defScope s_sieved_once) .none kV6 dc6 pm6 an6 cd6 ct6), sl6⟩) (c6 : PySem.W.codeIn K cd6 "sieved_once" = true) (k6 : PySem.W.keepIn K (.ref f6) = true)
    (a7 : PySem.W.nsIn K mainGlobals "sieved" = some (some (.ref f7))) (l7 : K.lookup f7 = some ⟨oc7, od7, .func (PySem.W.fnOf "sieved" "sieved" (defArgs s_sieved) (defBody s_sieved) (defScope s_sieved) .none kV7 dc7 pm7 an7 cd7 ct7), sl7⟩) (c7 : PySem.W.codeIn K cd7 "sieved" = true) (k7 : PySem.W.keepIn K (.ref f7) = true)
    (l8 : K.lookup f8 = some ⟨oc8, od8, .func (PySem.W.fnOf "sieve" "SieveRow.sieve" (defArgs s_SieveRow_sieve) (defBody s_SieveRow_sieve) (defScope s_SieveRow_sieve) .none kV8 dc8 pm8 an8 cd8 ct8), sl8⟩) (c8 : PySem.W.codeIn K cd8 "SieveRow.sieve" = true) (k8 : PySem.W.keepIn K (.ref f8) = true)
    (l9 : K.lookup f9 = some ⟨oc9, od9, .func (PySem.W.fnOf "undo" "SieveRow.undo" (defArgs s_SieveRow_undo) (defBody s_SieveRow_undo) (defScope s_SieveRow_undo) .none kV9 dc9 pm9 an9 cd9 ct9), sl9⟩) (c9 : PySem.W.codeIn K cd9 "SieveRow.undo" = true) (k9 : PySem.W.keepIn K (.ref f9) = true)
    (a10 : PySem.W.nsIn K mainGlobals "_law_object" = some (some (.ref f10))) (l10 : K.lookup f10 = some ⟨oc10, od10, .func (PySem.W.fnOf "_law_object" "_law_object" (defArgs s__law_object) (defBody s__law_object) (defScope s__law_object) .none kV10 dc10 pm10 an10 cd10 ct10), sl10⟩) (c10 : PySem.W.codeIn K cd10 "_law_object" = true) (k10 : PySem.W.keepIn K (.ref f10) = true)
    (a11 : PySem.W.nsIn K mainGlobals "_law_line" = some (some (.ref f11))) (l11 : K.lookup f11 = some ⟨oc11, od11, .func (PySem.W.fnOf "_law_line" "_law_line" (defArgs s__law_line) (defBody s__law_line) (defScope s__law_line) .none kV11 dc11 pm11 an11 cd11 ct11), sl11⟩) (c11 : PySem.W.codeIn K cd11 "_law_line" = true) (k11 : PySem.W.keepIn K (.ref f11) = true)
    (a12 : PySem.W.nsIn K mainGlobals "_law_steps" = some (some (.ref f12))) (l12 : K.lookup f12 = some ⟨oc12, od12, .func (PySem.W.fnOf "_law_steps" "_law_steps" (defArgs s__law_steps) (defBody s__law_steps) (defScope s__law_steps) .none kV12 dc12 pm12 an12 cd12 ct12), sl12⟩) (c12 : PySem.W.codeIn K cd12 "_law_steps" = true) (k12 : PySem.W.keepIn K (.ref f12) = true)
    (l13 : K.lookup f13 = some ⟨oc13, od13, .func (PySem.W.fnOf "row" "SieveRow.row" (defArgs s_SieveRow_row) (defBody s_SieveRow_row) (defScope s_SieveRow_row) .none kV13 dc13 pm13 an13 cd13 ct13), sl13⟩) (c13 : PySem.W.codeIn K cd13 "SieveRow.row" = true) (k13 : PySem.W.keepIn K (.ref f13) = true)
    (l14 : K.lookup f14 = some ⟨oc14, od14, .func (PySem.W.fnOf "pipeline" "SieveRow.pipeline" (defArgs s_SieveRow_pipeline) (defBody s_SieveRow_pipeline) (defScope s_SieveRow_pipeline) .none kV14 dc14 pm14 an14 cd14 ct14), sl14⟩) (c14 : PySem.W.codeIn K cd14 "SieveRow.pipeline" = true) (k14 : PySem.W.keepIn K (.ref f14) = true)
    (a15 : PySem.W.nsIn K mainGlobals "_law_sieved" = some (some (.ref f15))) (l15 : K.lookup f15 = some ⟨oc15, od15, .func (PySem.W.fnOf "_law_sieved" "_law_sieved" (defArgs s__law_sieved) (defBody s__law_sieved) (defScope s__law_sieved) .none kV15 dc15 pm15 an15 cd15 ct15), sl15⟩) (c15 : PySem.W.codeIn K cd15 "_law_sieved" = true) (k15 : PySem.W.keepIn K (.ref f15) = true)
    (l16 : K.lookup f16 = some ⟨oc16, od16, .func (PySem.W.fnOf "__eq__" "SieveRow.__eq__" (defArgs s_SieveRow___eq__) (defBody s_SieveRow___eq__) (defScope s_SieveRow___eq__) .none kV16 dc16 pm16 an16 cd16 ct16), sl16⟩) (c16 : PySem.W.codeIn K cd16 "SieveRow.__eq__" = true) (k16 : PySem.W.keepIn K (.ref f16) = true)
    (a17 : PySem.W.nsIn K mainGlobals "_law_right" = some (some (.ref f17))) (l17 : K.lookup f17 = some ⟨oc17, od17, .func (PySem.W.fnOf "_law_right" "_law_right" (defArgs s__law_right) (defBody s__law_right) (defScope s__law_right) .none kV17 dc17 pm17 an17 cd17 ct17), sl17⟩) (c17 : PySem.W.codeIn K cd17 "_law_right" = true) (k17 : PySem.W.keepIn K (.ref f17) = true)
    (a18 : PySem.W.nsIn K mainGlobals "law" = some (some (.ref f18))) (l18 : K.lookup f18 = some ⟨oc18, od18, .func (PySem.W.fnOf "law" "law" (defArgs s_law) (defBody s_law) (defScope s_law) .none kV18 dc18 pm18 an18 cd18 ct18), sl18⟩) (c18 : PySem.W.codeIn K cd18 "law" = true) (k18 : PySem.W.keepIn K (.ref f18) = true)
    (z_abs : PySem.W.nsIn K mainGlobals "abs" = some none)
    (z_enumerate : PySem.W.nsIn K mainGlobals "enumerate" = some none)
    (z_int : PySem.W.nsIn K mainGlobals "int" = some none)
    (z_isinstance : PySem.W.nsIn K mainGlobals "isinstance" = some none)
    (z_len : PySem.W.nsIn K mainGlobals "len" = some none)
    (z_list : PySem.W.nsIn K mainGlobals "list" = some none)
    (z_max : PySem.W.nsIn K mainGlobals "max" = some none)
    (z_min : PySem.W.nsIn K mainGlobals "min" = some none)
    (z_range : PySem.W.nsIn K mainGlobals "range" = some none)
    (z_LETTERS : PySem.W.nsIn K mainGlobals "LETTERS" = some (some (.str "abcdefghijklmnopqrstuvwxyz" t_LETTERS)))
    (z_SINGLES : PySem.W.nsIn K mainGlobals "SINGLES" = some (some (.str "S" t_SINGLES)))
    (z_TWINS : PySem.W.nsIn K mainGlobals "TWINS" = some (some (.str "T" t_TWINS)))
    {A_SieveRow : Addr} (oa_SieveRow : PySem.W.nsIn K mainGlobals "SieveRow" = some (some (.ref A_SieveRow))) (op_SieveRow : PySem.W.plainGet K A_SieveRow Str.empty = true) (oh_SieveRow : PySem.W.hasDictIn K A_SieveRow = true) (oo_SieveRow : PySem.W.plainOver K A_SieveRow = true) (os_SieveRow : PySem.W.findIn K (.ref A_SieveRow) "__setattr__" = some (some (.builtin "object.__setattr__")))
    (ic1_SieveRow : PySem.W.findIn K (.ref A_SieveRow) "__class__" = some (some (.builtin "object.__class__"))) (ic2_SieveRow : PySem.W.specialIn K (.builtin "object.__class__") "__get__" = some (some (.builtin "getset_descriptor.__get__"))) (ic3_SieveRow : PySem.W.takesIn K (.builtin "object.__class__") = some true) (ic4_SieveRow : PySem.W.mroIn K A_SieveRow (.type "object") = some true) (ic5_SieveRow : PySem.W.isClsIn K A_SieveRow = true) (ic6_SieveRow : PySem.W.typeIn K (.ref A_SieveRow) = some (.type "type")) (ic7_SieveRow : PySem.W.subIn K (.ref A_SieveRow) (.ref A_SieveRow) = some true)
    (kn_SieveRow : PySem.W.findIn K (.ref A_SieveRow) "__ne__" = some (some (.builtin "object.__ne__")))
    (ks_SieveRow_NoneType : PySem.W.subIn K (.ref A_SieveRow) (.type "NoneType") = some false) (kb_SieveRow_NoneType : PySem.W.subIn K (.type "NoneType") (.ref A_SieveRow) = some false)
    (ks_SieveRow_int : PySem.W.subIn K (.ref A_SieveRow) (.type "int") = some false) (kb_SieveRow_int : PySem.W.subIn K (.type "int") (.ref A_SieveRow) = some false)
    (ks_SieveRow_str : PySem.W.subIn K (.ref A_SieveRow) (.type "str") = some false) (kb_SieveRow_str : PySem.W.subIn K (.type "str") (.ref A_SieveRow) = some false)
    (ks_SieveRow_list : PySem.W.subIn K (.ref A_SieveRow) (.type "list") = some false) (kb_SieveRow_list : PySem.W.subIn K (.type "list") (.ref A_SieveRow) = some false)
    (ks_SieveRow_tuple : PySem.W.subIn K (.ref A_SieveRow) (.type "tuple") = some false) (kb_SieveRow_tuple : PySem.W.subIn K (.type "tuple") (.ref A_SieveRow) = some false)
    (of_SieveRow_applied : PySem.W.findIn K (.ref A_SieveRow) "applied" = some none)
    (of_SieveRow_passed : PySem.W.findIn K (.ref A_SieveRow) "passed" = some none)
    (ma_SieveRow___init__ : PySem.W.findIn K (.ref A_SieveRow) "__init__" = some (some (.ref f2))) (mf_SieveRow___init__ : PySem.W.isFn K (.ref f2) = true)
    (mk_SieveRow___init__ : PySem.W.makesIn K A_SieveRow = true) (mq_SieveRow___init__ : PySem.W.keepIn K (.ref A_SieveRow) = true)
    (ma_SieveRow_sieve : PySem.W.findIn K (.ref A_SieveRow) "sieve" = some (some (.ref f8))) (mf_SieveRow_sieve : PySem.W.isFn K (.ref f8) = true)
    (ma_SieveRow_undo : PySem.W.findIn K (.ref A_SieveRow) "undo" = some (some (.ref f9))) (mf_SieveRow_undo : PySem.W.isFn K (.ref f9) = true)
    {P_SieveRow_row : Addr} {re_SieveRow_row : List Value} (pa_SieveRow_row : PySem.W.findIn K (.ref A_SieveRow) "row" = some (some (.ref P_SieveRow_row))) (pg_SieveRow_row : PySem.W.specialIn K (.ref P_SieveRow_row) "__get__" = some (some (.builtin "property.__get__"))) (pt_SieveRow_row : PySem.W.takesIn K (.ref P_SieveRow_row) = some true) (pr_SieveRow_row : PySem.W.recIn K P_SieveRow_row "property" = some (.ref f13 :: re_SieveRow_row))
    {P_SieveRow_pipeline : Addr} {re_SieveRow_pipeline : List Value} (pa_SieveRow_pipeline : PySem.W.findIn K (.ref A_SieveRow) "pipeline" = some (some (.ref P_SieveRow_pipeline))) (pg_SieveRow_pipeline : PySem.W.specialIn K (.ref P_SieveRow_pipeline) "__get__" = some (some (.builtin "property.__get__"))) (pt_SieveRow_pipeline : PySem.W.takesIn K (.ref P_SieveRow_pipeline) = some true) (pr_SieveRow_pipeline : PySem.W.recIn K P_SieveRow_pipeline "property" = some (.ref f14 :: re_SieveRow_pipeline))
    (ma_SieveRow___eq__ : PySem.W.findIn K (.ref A_SieveRow) "__eq__" = some (some (.ref f16))) (mf_SieveRow___eq__ : PySem.W.isFn K (.ref f16) = true)
    {C_InvalidPipeline : Addr}
    {C_InvalidRow : Addr}
    {C_NothingToUndo : Addr}
    {nm_InvalidRow q_InvalidRow qu_InvalidRow fi_InvalidRow ms_InvalidRow : Str} {N_InvalidRow f_InvalidRow cc_InvalidRow cda_InvalidRow : Addr} {bs_InvalidRow bm_InvalidRow sub_InvalidRow : List Value} {sn_InvalidRow : List Str} {ab_InvalidRow : Bool} {col_InvalidRow : Option Bool} {dd_InvalidRow od_InvalidRow an_InvalidRow cdd_InvalidRow cld_InvalidRow : Option Addr} {k0_InvalidRow k1_InvalidRow k2_InvalidRow k3_InvalidRow k5_InvalidRow : Option Value}
    {oc_InvalidRow dc_InvalidRow pm_InvalidRow ct_InvalidRow ccl_InvalidRow cl_InvalidRow : Value} {sl_InvalidRow ccs_InvalidRow csl_InvalidRow : Array (Option Value)} {vs_InvalidRow : Array Value} {tf_InvalidRow : Tok} {j_InvalidRow : Nat} {p1_InvalidRow p2_InvalidRow r0_InvalidRow r1_InvalidRow r2_InvalidRow r3_InvalidRow r4_InvalidRow r5_InvalidRow q1_InvalidRow q2_InvalidRow q3_InvalidRow q4_InvalidRow : Pos}
    {nm_InvalidPipeline q_InvalidPipeline qu_InvalidPipeline fi_InvalidPipeline ms_InvalidPipeline : Str} {N_InvalidPipeline f_InvalidPipeline cc_InvalidPipeline cda_InvalidPipeline : Addr} {bs_InvalidPipeline bm_InvalidPipeline sub_InvalidPipeline : List Value} {sn_InvalidPipeline : List Str} {ab_InvalidPipeline : Bool} {col_InvalidPipeline : Option Bool} {dd_InvalidPipeline od_InvalidPipeline an_InvalidPipeline cdd_InvalidPipeline cld_InvalidPipeline : Option Addr} {k0_InvalidPipeline k1_InvalidPipeline k2_InvalidPipeline k3_InvalidPipeline k5_InvalidPipeline : Option Value}
    {oc_InvalidPipeline dc_InvalidPipeline pm_InvalidPipeline ct_InvalidPipeline ccl_InvalidPipeline cl_InvalidPipeline : Value} {sl_InvalidPipeline ccs_InvalidPipeline csl_InvalidPipeline : Array (Option Value)} {vs_InvalidPipeline : Array Value} {tf_InvalidPipeline : Tok} {j_InvalidPipeline : Nat} {p1_InvalidPipeline p2_InvalidPipeline r0_InvalidPipeline r1_InvalidPipeline r2_InvalidPipeline r3_InvalidPipeline r4_InvalidPipeline r5_InvalidPipeline q1_InvalidPipeline q2_InvalidPipeline q3_InvalidPipeline q4_InvalidPipeline : Pos}
    {nm_NothingToUndo q_NothingToUndo qu_NothingToUndo fi_NothingToUndo ms_NothingToUndo : Str} {N_NothingToUndo f_NothingToUndo cc_NothingToUndo cda_NothingToUndo : Addr} {bs_NothingToUndo bm_NothingToUndo sub_NothingToUndo : List Value} {sn_NothingToUndo : List Str} {ab_NothingToUndo : Bool} {col_NothingToUndo : Option Bool} {dd_NothingToUndo od_NothingToUndo an_NothingToUndo cdd_NothingToUndo cld_NothingToUndo : Option Addr} {k0_NothingToUndo k1_NothingToUndo k2_NothingToUndo k3_NothingToUndo k5_NothingToUndo : Option Value}
    {oc_NothingToUndo dc_NothingToUndo pm_NothingToUndo ct_NothingToUndo ccl_NothingToUndo cl_NothingToUndo : Value} {sl_NothingToUndo ccs_NothingToUndo csl_NothingToUndo : Array (Option Value)} {vs_NothingToUndo : Array Value} {tf_NothingToUndo : Tok} {j_NothingToUndo : Nat} {p1_NothingToUndo p2_NothingToUndo r0_NothingToUndo r1_NothingToUndo r2_NothingToUndo r3_NothingToUndo r4_NothingToUndo r5_NothingToUndo q1_NothingToUndo q2_NothingToUndo q3_NothingToUndo q4_NothingToUndo : Pos}
    (ga_InvalidPipeline : PySem.W.nsIn K mainGlobals "InvalidPipeline" = some (some (.ref C_InvalidPipeline)))
    (ga_InvalidRow : PySem.W.nsIn K mainGlobals "InvalidRow" = some (some (.ref C_InvalidRow)))
    (ga_NothingToUndo : PySem.W.nsIn K mainGlobals "NothingToUndo" = some (some (.ref C_NothingToUndo)))
    (na_InvalidNumber : PySem.W.nsIn K mainGlobals "InvalidNumber" = some none)
    (na_Unreadable : PySem.W.nsIn K mainGlobals "Unreadable" = some none)
    (cG : PySem.W.specialIn K (.builtin "object.__class__") "__get__" = some (some (.builtin "getset_descriptor.__get__")))
    (cT : PySem.W.takesIn K (.builtin "object.__class__") = some true)
    (sup : PySem.W.nsIn K mainGlobals "super" = some none)
    (tpa : PySem.W.nsIn K cStatics "thirdparty.any" = some none)
    (tops : (l.prog.main.scope.names.lookup ("super" : Str)).isSome = false)
    (lk_InvalidRow : K.lookup C_InvalidRow = some (excClassObj nm_InvalidRow q_InvalidRow C_InvalidRow N_InvalidRow bs_InvalidRow bm_InvalidRow true sn_InvalidRow sub_InvalidRow ab_InvalidRow col_InvalidRow dd_InvalidRow k0_InvalidRow k1_InvalidRow k2_InvalidRow k3_InvalidRow k5_InvalidRow "ValueError.__new__"))
    (rf_InvalidRow : PySem.HandSPX.refsVE bm_InvalidRow = true)
    (sa_InvalidRow : PySem.W.findIn K (.ref C_InvalidRow) "__setattr__" = some (some (.builtin "object.__setattr__")))
    (eb_InvalidRow : PySem.W.subIn K (.ref C_InvalidRow) (.type "BaseException") = some true)
    (ty_InvalidRow : PySem.W.typeIn K (.ref C_InvalidRow) = some (.type "type"))
    (kp_InvalidRow : PySem.W.keepIn K (.ref C_InvalidRow) = true)
    (gt_InvalidRow : PySem.W.findIn K (.ref C_InvalidRow) "__getattribute__" = some (some (.builtin "BaseException.__getattribute__")))
    (gg_InvalidRow : PySem.W.findIn K (.ref C_InvalidRow) "__getattr__" = some none)
    (nv_InvalidRow : PySem.W.findIn K (.ref C_InvalidRow) "value" = some none)
    (hd_InvalidRow : PySem.W.hasDictIn K C_InvalidRow = true)
    (su_InvalidRow : PySem.W.ks_superIn K C_InvalidRow C_InvalidRow "__init__" = some (some (.builtin "ValueError.__init__")))
    (sv_InvalidRow : PySem.W.subIn K (.ref C_InvalidRow) (.type "ValueError") = some true)
    (mc_InvalidRow : PySem.W.mroIn K C_InvalidRow (.ref C_InvalidRow) = some true)
    (mo_InvalidRow : PySem.W.mroIn K C_InvalidRow (.type "object") = some true)
    (ca_InvalidRow : PySem.W.findIn K (.ref C_InvalidRow) "__class__" = some (some (.builtin "object.__class__")))
    (xi_InvalidRow : PySem.W.excInitIn K C_InvalidRow [.type "ValueError", .type "Exception", .type "BaseException", .type "object"] "ValueError.__new__" = true)
    (ii_InvalidRow : PySem.W.findIn K (.ref C_InvalidRow) "__init__" = some (some (.ref f_InvalidRow)))
    (it_InvalidRow : PySem.W.typeIn K (.ref f_InvalidRow) = some (.type "function"))
    (if_InvalidRow : K.lookup f_InvalidRow = some ⟨oc_InvalidRow, od_InvalidRow, .func (PySem.W.fnX "__init__" qu_InvalidRow (xcA p1_InvalidRow p2_InvalidRow) (xcB ms_InvalidRow j_InvalidRow r0_InvalidRow r1_InvalidRow r2_InvalidRow r3_InvalidRow r4_InvalidRow r5_InvalidRow q1_InvalidRow q2_InvalidRow q3_InvalidRow q4_InvalidRow) xcS [("__class__", cc_InvalidRow)] .none .none dc_InvalidRow pm_InvalidRow an_InvalidRow (.ref cda_InvalidRow) ct_InvalidRow), sl_InvalidRow⟩)
    (ic_InvalidRow : PySem.W.codeIn K (.ref cda_InvalidRow) qu_InvalidRow = true)
    (id_InvalidRow : K.lookup cda_InvalidRow = some ⟨ccl_InvalidRow, cdd_InvalidRow, .fields vs_InvalidRow, ccs_InvalidRow⟩)
    (iv_InvalidRow : vs_InvalidRow[2]? = some (.str fi_InvalidRow tf_InvalidRow))
    (ip_InvalidRow : ((l.prog.main.file : Str) == fi_InvalidRow) = true)
    (ix_InvalidRow : K.lookup cc_InvalidRow = some ⟨cl_InvalidRow, cld_InvalidRow, .cell (some (.ref C_InvalidRow)), csl_InvalidRow⟩)
    (io_InvalidRow : (r2_InvalidRow.endLine == r4_InvalidRow.line) = true)
    (lk_InvalidPipeline : K.lookup C_InvalidPipeline = some (excClassObj nm_InvalidPipeline q_InvalidPipeline C_InvalidPipeline N_InvalidPipeline bs_InvalidPipeline bm_InvalidPipeline true sn_InvalidPipeline sub_InvalidPipeline ab_InvalidPipeline col_InvalidPipeline dd_InvalidPipeline k0_InvalidPipeline k1_InvalidPipeline k2_InvalidPipeline k3_InvalidPipeline k5_InvalidPipeline "ValueError.__new__"))
    (rf_InvalidPipeline : PySem.HandSPX.refsVE bm_InvalidPipeline = true)
    (sa_InvalidPipeline : PySem.W.findIn K (.ref C_InvalidPipeline) "__setattr__" = some (some (.builtin "object.__setattr__")))
    (eb_InvalidPipeline : PySem.W.subIn K (.ref C_InvalidPipeline) (.type "BaseException") = some true)
    (ty_InvalidPipeline : PySem.W.typeIn K (.ref C_InvalidPipeline) = some (.type "type"))
    (kp_InvalidPipeline : PySem.W.keepIn K (.ref C_InvalidPipeline) = true)
    (gt_InvalidPipeline : PySem.W.findIn K (.ref C_InvalidPipeline) "__getattribute__" = some (some (.builtin "BaseException.__getattribute__")))
    (gg_InvalidPipeline : PySem.W.findIn K (.ref C_InvalidPipeline) "__getattr__" = some none)
    (nv_InvalidPipeline : PySem.W.findIn K (.ref C_InvalidPipeline) "value" = some none)
    (hd_InvalidPipeline : PySem.W.hasDictIn K C_InvalidPipeline = true)
    (su_InvalidPipeline : PySem.W.ks_superIn K C_InvalidPipeline C_InvalidPipeline "__init__" = some (some (.builtin "ValueError.__init__")))
    (sv_InvalidPipeline : PySem.W.subIn K (.ref C_InvalidPipeline) (.type "ValueError") = some true)
    (mc_InvalidPipeline : PySem.W.mroIn K C_InvalidPipeline (.ref C_InvalidPipeline) = some true)
    (mo_InvalidPipeline : PySem.W.mroIn K C_InvalidPipeline (.type "object") = some true)
    (ca_InvalidPipeline : PySem.W.findIn K (.ref C_InvalidPipeline) "__class__" = some (some (.builtin "object.__class__")))
    (xi_InvalidPipeline : PySem.W.excInitIn K C_InvalidPipeline [.type "ValueError", .type "Exception", .type "BaseException", .type "object"] "ValueError.__new__" = true)
    (ii_InvalidPipeline : PySem.W.findIn K (.ref C_InvalidPipeline) "__init__" = some (some (.ref f_InvalidPipeline)))
    (it_InvalidPipeline : PySem.W.typeIn K (.ref f_InvalidPipeline) = some (.type "function"))
    (if_InvalidPipeline : K.lookup f_InvalidPipeline = some ⟨oc_InvalidPipeline, od_InvalidPipeline, .func (PySem.W.fnX "__init__" qu_InvalidPipeline (xcA p1_InvalidPipeline p2_InvalidPipeline) (xcB ms_InvalidPipeline j_InvalidPipeline r0_InvalidPipeline r1_InvalidPipeline r2_InvalidPipeline r3_InvalidPipeline r4_InvalidPipeline r5_InvalidPipeline q1_InvalidPipeline q2_InvalidPipeline q3_InvalidPipeline q4_InvalidPipeline) xcS [("__class__", cc_InvalidPipeline)] .none .none dc_InvalidPipeline pm_InvalidPipeline an_InvalidPipeline (.ref cda_InvalidPipeline) ct_InvalidPipeline), sl_InvalidPipeline⟩)
    (ic_InvalidPipeline : PySem.W.codeIn K (.ref cda_InvalidPipeline) qu_InvalidPipeline = true)
    (id_InvalidPipeline : K.lookup cda_InvalidPipeline = some ⟨ccl_InvalidPipeline, cdd_InvalidPipeline, .fields vs_InvalidPipeline, ccs_InvalidPipeline⟩)
    (iv_InvalidPipeline : vs_InvalidPipeline[2]? = some (.str fi_InvalidPipeline tf_InvalidPipeline))
    (ip_InvalidPipeline : ((l.prog.main.file : Str) == fi_InvalidPipeline) = true)
    (ix_InvalidPipeline : K.lookup cc_InvalidPipeline = some ⟨cl_InvalidPipeline, cld_InvalidPipeline, .cell (some (.ref C_InvalidPipeline)), csl_InvalidPipeline⟩)
    (io_InvalidPipeline : (r2_InvalidPipeline.endLine == r4_InvalidPipeline.line) = true)
    (lk_NothingToUndo : K.lookup C_NothingToUndo = some (excClassObj nm_NothingToUndo q_NothingToUndo C_NothingToUndo N_NothingToUndo bs_NothingToUndo bm_NothingToUndo true sn_NothingToUndo sub_NothingToUndo ab_NothingToUndo col_NothingToUndo dd_NothingToUndo k0_NothingToUndo k1_NothingToUndo k2_NothingToUndo k3_NothingToUndo k5_NothingToUndo "ValueError.__new__"))
    (rf_NothingToUndo : PySem.HandSPX.refsVE bm_NothingToUndo = true)
    (sa_NothingToUndo : PySem.W.findIn K (.ref C_NothingToUndo) "__setattr__" = some (some (.builtin "object.__setattr__")))
    (eb_NothingToUndo : PySem.W.subIn K (.ref C_NothingToUndo) (.type "BaseException") = some true)
    (ty_NothingToUndo : PySem.W.typeIn K (.ref C_NothingToUndo) = some (.type "type"))
    (kp_NothingToUndo : PySem.W.keepIn K (.ref C_NothingToUndo) = true)
    (gt_NothingToUndo : PySem.W.findIn K (.ref C_NothingToUndo) "__getattribute__" = some (some (.builtin "BaseException.__getattribute__")))
    (gg_NothingToUndo : PySem.W.findIn K (.ref C_NothingToUndo) "__getattr__" = some none)
    (nv_NothingToUndo : PySem.W.findIn K (.ref C_NothingToUndo) "value" = some none)
    (hd_NothingToUndo : PySem.W.hasDictIn K C_NothingToUndo = true)
    (su_NothingToUndo : PySem.W.ks_superIn K C_NothingToUndo C_NothingToUndo "__init__" = some (some (.builtin "ValueError.__init__")))
    (sv_NothingToUndo : PySem.W.subIn K (.ref C_NothingToUndo) (.type "ValueError") = some true)
    (mc_NothingToUndo : PySem.W.mroIn K C_NothingToUndo (.ref C_NothingToUndo) = some true)
    (mo_NothingToUndo : PySem.W.mroIn K C_NothingToUndo (.type "object") = some true)
    (ca_NothingToUndo : PySem.W.findIn K (.ref C_NothingToUndo) "__class__" = some (some (.builtin "object.__class__")))
    (xi_NothingToUndo : PySem.W.excInitIn K C_NothingToUndo [.type "ValueError", .type "Exception", .type "BaseException", .type "object"] "ValueError.__new__" = true)
    (ii_NothingToUndo : PySem.W.findIn K (.ref C_NothingToUndo) "__init__" = some (some (.ref f_NothingToUndo)))
    (it_NothingToUndo : PySem.W.typeIn K (.ref f_NothingToUndo) = some (.type "function"))
    (if_NothingToUndo : K.lookup f_NothingToUndo = some ⟨oc_NothingToUndo, od_NothingToUndo, .func (PySem.W.fnX "__init__" qu_NothingToUndo (xcA p1_NothingToUndo p2_NothingToUndo) (xcB ms_NothingToUndo j_NothingToUndo r0_NothingToUndo r1_NothingToUndo r2_NothingToUndo r3_NothingToUndo r4_NothingToUndo r5_NothingToUndo q1_NothingToUndo q2_NothingToUndo q3_NothingToUndo q4_NothingToUndo) xcS [("__class__", cc_NothingToUndo)] .none .none dc_NothingToUndo pm_NothingToUndo an_NothingToUndo (.ref cda_NothingToUndo) ct_NothingToUndo), sl_NothingToUndo⟩)
    (ic_NothingToUndo : PySem.W.codeIn K (.ref cda_NothingToUndo) qu_NothingToUndo = true)
    (id_NothingToUndo : K.lookup cda_NothingToUndo = some ⟨ccl_NothingToUndo, cdd_NothingToUndo, .fields vs_NothingToUndo, ccs_NothingToUndo⟩)
    (iv_NothingToUndo : vs_NothingToUndo[2]? = some (.str fi_NothingToUndo tf_NothingToUndo))
    (ip_NothingToUndo : ((l.prog.main.file : Str) == fi_NothingToUndo) = true)
    (ix_NothingToUndo : K.lookup cc_NothingToUndo = some ⟨cl_NothingToUndo, cld_NothingToUndo, .cell (some (.ref C_NothingToUndo)), csl_NothingToUndo⟩)
    (io_NothingToUndo : (r2_NothingToUndo.endLine == r4_NothingToUndo.line) = true)
    : ∃ fd : FuncData, (∀ (s : Shared) (v : Value), BindsTo s fd ⟨[v], []⟩ [("script", v)]) ∧ ∀ base : Heap, K.In base → base.Ns mainGlobals mg → FnG l.prog w K mg base 8 fa fd ["script"] (spD K mg 1 n_law_37) := by
  have xt : XTab l.prog K := fun c C h => by
    cases c
    · have e := h.symm.trans ga_InvalidRow
      cases e
      exact ⟨ga_InvalidRow, ⟨⟨_, _, _, _, _, _, _, _, _, _, _, _, _, _, _, lk_InvalidRow, rf_InvalidRow⟩, sa_InvalidRow, eb_InvalidRow, ty_InvalidRow, kp_InvalidRow⟩, gt_InvalidRow, gg_InvalidRow, nv_InvalidRow, hd_InvalidRow, su_InvalidRow, sv_InvalidRow, mc_InvalidRow, mo_InvalidRow, ca_InvalidRow, cG, cT, xi_InvalidRow, sup, tpa, tops, ⟨_, _, _, _, _, _, _, _, _, _, _, _, _, _, _, _, _, _, _, _, _, _, _, _, _, _, _, _, _, _, _, _, _, _, ii_InvalidRow, it_InvalidRow, if_InvalidRow, ic_InvalidRow, id_InvalidRow, iv_InvalidRow, ip_InvalidRow, ix_InvalidRow, io_InvalidRow⟩⟩
    · have e := h.symm.trans ga_InvalidPipeline
      cases e
      exact ⟨ga_InvalidPipeline, ⟨⟨_, _, _, _, _, _, _, _, _, _, _, _, _, _, _, lk_InvalidPipeline, rf_InvalidPipeline⟩, sa_InvalidPipeline, eb_InvalidPipeline, ty_InvalidPipeline, kp_InvalidPipeline⟩, gt_InvalidPipeline, gg_InvalidPipeline, nv_InvalidPipeline, hd_InvalidPipeline, su_InvalidPipeline, sv_InvalidPipeline, mc_InvalidPipeline, mo_InvalidPipeline, ca_InvalidPipeline, cG, cT, xi_InvalidPipeline, sup, tpa, tops, ⟨_, _, _, _, _, _, _, _, _, _, _, _, _, _, _, _, _, _, _, _, _, _, _, _, _, _, _, _, _, _, _, _, _, _, ii_InvalidPipeline, it_InvalidPipeline, if_InvalidPipeline, ic_InvalidPipeline, id_InvalidPipeline, iv_InvalidPipeline, ip_InvalidPipeline, ix_InvalidPipeline, io_InvalidPipeline⟩⟩
    · have e := h.symm.trans na_InvalidNumber
      cases e
    · have e := h.symm.trans ga_NothingToUndo
      cases e
      exact ⟨ga_NothingToUndo, ⟨⟨_, _, _, _, _, _, _, _, _, _, _, _, _, _, _, lk_NothingToUndo, rf_NothingToUndo⟩, sa_NothingToUndo, eb_NothingToUndo, ty_NothingToUndo, kp_NothingToUndo⟩, gt_NothingToUndo, gg_NothingToUndo, nv_NothingToUndo, hd_NothingToUndo, su_NothingToUndo, sv_NothingToUndo, mc_NothingToUndo, mo_NothingToUndo, ca_NothingToUndo, cG, cT, xi_NothingToUndo, sup, tpa, tops, ⟨_, _, _, _, _, _, _, _, _, _, _, _, _, _, _, _, _, _, _, _, _, _, _, _, _, _, _, _, _, _, _, _, _, _, ii_NothingToUndo, it_NothingToUndo, if_NothingToUndo, ic_NothingToUndo, id_NothingToUndo, iv_NothingToUndo, ip_NothingToUndo, ix_NothingToUndo, io_NothingToUndo⟩⟩
    · have e := h.symm.trans na_Unreadable
      cases e
  have ok_SieveRow : OwnK K A_SieveRow := OwnK.mk5 kn_SieveRow ic4_SieveRow ks_SieveRow_NoneType ks_SieveRow_int ks_SieveRow_str ks_SieveRow_list ks_SieveRow_tuple kb_SieveRow_NoneType kb_SieveRow_int kb_SieveRow_str kb_SieveRow_list kb_SieveRow_tuple ic5_SieveRow ic6_SieveRow ic7_SieveRow
  have B : Bl l.prog K mg t_LETTERS t_SINGLES t_TWINS C_InvalidPipeline C_InvalidRow C_NothingToUndo := ⟨xt, PySem.W.mg_of X G ga_InvalidPipeline, PySem.W.mg_of X G ga_InvalidRow, PySem.W.mg_of X G ga_NothingToUndo, ga_InvalidRow, ga_InvalidPipeline, ga_NothingToUndo, fun C h => by
    have e := h.symm.trans oa_SieveRow
    cases e
    exact ⟨⟨op_SieveRow, oh_SieveRow, oo_SieveRow, os_SieveRow⟩, of_SieveRow_applied⟩, fun C h => by
    have e := h.symm.trans oa_SieveRow
    cases e
    exact ⟨⟨op_SieveRow, oh_SieveRow, oo_SieveRow, os_SieveRow⟩, of_SieveRow_passed⟩, ⟨A_SieveRow, PySem.W.mg_of X G oa_SieveRow, oa_SieveRow, ⟨⟨op_SieveRow, oh_SieveRow, oo_SieveRow, os_SieveRow⟩, ic1_SieveRow, ic2_SieveRow, ic3_SieveRow, ic4_SieveRow, kit_own ic5_SieveRow ic6_SieveRow ic7_SieveRow ic7_SieveRow⟩, ok_SieveRow⟩, fun C h => by
    have e := h.symm.trans oa_SieveRow
    cases e
    exact ok_SieveRow, PySem.W.mg_none_of X G z_abs, PySem.W.mg_none_of X G z_enumerate, PySem.W.mg_none_of X G z_int, PySem.W.mg_none_of X G z_isinstance, PySem.W.mg_none_of X G z_len, PySem.W.mg_none_of X G z_list, PySem.W.mg_none_of X G z_max, PySem.W.mg_none_of X G z_min, PySem.W.mg_none_of X G z_range, PySem.W.mg_of X G z_LETTERS, PySem.W.mg_of X G z_SINGLES, PySem.W.mg_of X G z_TWINS⟩
  have F0 := fun_mk (st := s__law_pool) l0 c0 k0
  have D0 : Dfn K mg "_law_pool" "_law_pool" s__law_pool ["script", "at"] f0 _ := ⟨PySem.W.mg_of X G a0, F0, F0.binds (ps := ["script", "at"]) fun _ _ _ _ _ _ us hl => match us, hl with | [_, _], _ => rfl⟩
  have F1 := fun_mk (st := s_check_row) l1 c1 k1
  have D1 : Dfn K mg "check_row" "check_row" s_check_row ["row"] f1 _ := ⟨PySem.W.mg_of X G a1, F1, F1.binds (ps := ["row"]) fun _ _ _ _ _ _ us hl => match us, hl with | [_], _ => rfl⟩
  have F2 := fun_mk (st := s_SieveRow___init__) l2 c2 k2
  have bd2 := F2.binds (ps := ["self", "row"]) fun _ _ _ _ _ _ us hl => match us, hl with | [_, _], _ => rfl
  have F3 := fun_mk (st := s__law_draw) l3 c3 k3
  have D3 : Dfn K mg "_law_draw" "_law_draw" s__law_draw ["pool", "many"] f3 _ := ⟨PySem.W.mg_of X G a3, F3, F3.binds (ps := ["pool", "many"]) fun _ _ _ _ _ _ us hl => match us, hl with | [_, _], _ => rfl⟩
  have F4 := fun_mk (st := s_check_pipeline) l4 c4 k4
  have D4 : Dfn K mg "check_pipeline" "check_pipeline" s_check_pipeline ["pipeline"] f4 _ := ⟨PySem.W.mg_of X G a4, F4, F4.binds (ps := ["pipeline"]) fun _ _ _ _ _ _ us hl => match us, hl with | [_], _ => rfl⟩
  have F5 := fun_mk (st := s_runs_of) l5 c5 k5
  have D5 : Dfn K mg "runs_of" "runs_of" s_runs_of ["row"] f5 _ := ⟨PySem.W.mg_of X G a5, F5, F5.binds (ps := ["row"]) fun _ _ _ _ _ _ us hl => match us, hl with | [_], _ => rfl⟩
  have F6 := fun_mk (st := s_sieved_once) l6 c6 k6
  have D6 : Dfn K mg "sieved_once" "sieved_once" s_sieved_once ["row", "letter"] f6 _ := ⟨PySem.W.mg_of X G a6, F6, F6.binds (ps := ["row", "letter"]) fun _ _ _ _ _ _ us hl => match us, hl with | [_, _], _ => rfl⟩
  have F7 := fun_mk (st := s_sieved) l7 c7 k7
  have D7 : Dfn K mg "sieved" "sieved" s_sieved ["row", "pipeline"] f7 _ := ⟨PySem.W.mg_of X G a7, F7, F7.binds (ps := ["row", "pipeline"]) fun _ _ _ _ _ _ us hl => match us, hl with | [_, _], _ => rfl⟩
  have F8 := fun_mk (st := s_SieveRow_sieve) l8 c8 k8
  have Hm8 : ∀ C, PySem.W.nsIn K mainGlobals "SieveRow" = some (some (.ref C)) → Cls K C ∧ Meth K C "sieve" f8 := fun C h => by
    have e := h.symm.trans oa_SieveRow
    cases e
    exact ⟨⟨op_SieveRow, oh_SieveRow, oo_SieveRow, os_SieveRow⟩, ma_SieveRow_sieve, mf_SieveRow_sieve, k8⟩
  have F9 := fun_mk (st := s_SieveRow_undo) l9 c9 k9
  have bd9 := F9.binds (ps := ["self"]) fun _ _ _ _ _ _ us hl => match us, hl with | [_], _ => rfl
  have Hm9 : ∀ C, PySem.W.nsIn K mainGlobals "SieveRow" = some (some (.ref C)) → Cls K C ∧ Meth K C "undo" f9 := fun C h => by
    have e := h.symm.trans oa_SieveRow
    cases e
    exact ⟨⟨op_SieveRow, oh_SieveRow, oo_SieveRow, os_SieveRow⟩, ma_SieveRow_undo, mf_SieveRow_undo, k9⟩
  have F10 := fun_mk (st := s__law_object) l10 c10 k10
  have D10 : Dfn K mg "_law_object" "_law_object" s__law_object ["pool", "line", "steps"] f10 _ := ⟨PySem.W.mg_of X G a10, F10, F10.binds (ps := ["pool", "line", "steps"]) fun _ _ _ _ _ _ us hl => match us, hl with | [_, _, _], _ => rfl⟩
  have F11 := fun_mk (st := s__law_line) l11 c11 k11
  have D11 : Dfn K mg "_law_line" "_law_line" s__law_line ["pool", "most"] f11 _ := ⟨PySem.W.mg_of X G a11, F11, F11.binds (ps := ["pool", "most"]) fun _ _ _ _ _ _ us hl => match us, hl with | [_, _], _ => rfl⟩
  have F12 := fun_mk (st := s__law_steps) l12 c12 k12
  have D12 : Dfn K mg "_law_steps" "_law_steps" s__law_steps ["pool", "most"] f12 _ := ⟨PySem.W.mg_of X G a12, F12, F12.binds (ps := ["pool", "most"]) fun _ _ _ _ _ _ us hl => match us, hl with | [_, _], _ => rfl⟩
  have F13 := fun_mk (st := s_SieveRow_row) l13 c13 k13
  have bd13 := F13.binds (ps := ["self"]) fun _ _ _ _ _ _ us hl => match us, hl with | [_], _ => rfl
  have Hm13 : ∀ C, PySem.W.nsIn K mainGlobals "SieveRow" = some (some (.ref C)) → Cls K C ∧ PropOf K C "row" P_SieveRow_row f13 := fun C h => by
    have e := h.symm.trans oa_SieveRow
    cases e
    exact ⟨⟨op_SieveRow, oh_SieveRow, oo_SieveRow, os_SieveRow⟩, pa_SieveRow_row, pg_SieveRow_row, pt_SieveRow_row, _, pr_SieveRow_row⟩
  have F14 := fun_mk (st := s_SieveRow_pipeline) l14 c14 k14
  have bd14 := F14.binds (ps := ["self"]) fun _ _ _ _ _ _ us hl => match us, hl with | [_], _ => rfl
  have Hm14 : ∀ C, PySem.W.nsIn K mainGlobals "SieveRow" = some (some (.ref C)) → Cls K C ∧ PropOf K C "pipeline" P_SieveRow_pipeline f14 := fun C h => by
    have e := h.symm.trans oa_SieveRow
    cases e
    exact ⟨⟨op_SieveRow, oh_SieveRow, oo_SieveRow, os_SieveRow⟩, pa_SieveRow_pipeline, pg_SieveRow_pipeline, pt_SieveRow_pipeline, _, pr_SieveRow_pipeline⟩
  have F15 := fun_mk (st := s__law_sieved) l15 c15 k15
  have D15 : Dfn K mg "_law_sieved" "_law_sieved" s__law_sieved ["line", "steps"] f15 _ := ⟨PySem.W.mg_of X G a15, F15, F15.binds (ps := ["line", "steps"]) fun _ _ _ _ _ _ us hl => match us, hl with | [_, _], _ => rfl⟩
  have F16 := fun_mk (st := s_SieveRow___eq__) l16 c16 k16
  have bd16 := F16.binds (ps := ["self", "other"]) fun _ _ _ _ _ _ us hl => match us, hl with | [_, _], _ => rfl
  have Hm16 : ∀ C, PySem.W.nsIn K mainGlobals "SieveRow" = some (some (.ref C)) → Cls K C ∧ Meth K C "__eq__" f16 := fun C h => by
    have e := h.symm.trans oa_SieveRow
    cases e
    exact ⟨⟨op_SieveRow, oh_SieveRow, oo_SieveRow, os_SieveRow⟩, ma_SieveRow___eq__, mf_SieveRow___eq__, k16⟩
  have F17 := fun_mk (st := s__law_right) l17 c17 k17
  have D17 : Dfn K mg "_law_right" "_law_right" s__law_right ["pool"] f17 _ := ⟨PySem.W.mg_of X G a17, F17, F17.binds (ps := ["pool"]) fun _ _ _ _ _ _ us hl => match us, hl with | [_], _ => rfl⟩
  have F18 := fun_mk (st := s_law) l18 c18 k18
  have D18 : Dfn K mg "law" "law" s_law ["script"] f18 _ := ⟨PySem.W.mg_of X G a18, F18, F18.binds (ps := ["script"]) fun _ _ _ _ _ _ us hl => match us, hl with | [_], _ => rfl⟩
  have e := hfa.symm.trans (PySem.W.mg_of X G a18)
  cases e
  refine ⟨PySem.W.fnOf "law" "law" (defArgs s_law) (defBody s_law) (defScope s_law) .none kV18 dc18 pm18 an18 cd18 ct18, fun s v => .of_eq rfl, fun base _ _ => ?_⟩
  have C__law_pool := d__law_pool (P := l.prog) (w := w) (base := base) B D0
  have C_check_row := d_check_row (P := l.prog) (w := w) (base := base) B D1
  have C_SieveRow___init__ := d_SieveRow___init__ (P := l.prog) (w := w) (base := base) (C := A_SieveRow) (p := A_SieveRow) B (PySem.W.mg_of X G oa_SieveRow) oa_SieveRow ⟨mk_SieveRow___init__, ma_SieveRow___init__, mf_SieveRow___init__, mq_SieveRow___init__⟩ F2 bd2 C_check_row
  have C__law_draw := d__law_draw (P := l.prog) (w := w) (base := base) B D3
  have C_check_pipeline := d_check_pipeline (P := l.prog) (w := w) (base := base) B D4
  have C_runs_of := d_runs_of (P := l.prog) (w := w) (base := base) B D5
  have C_sieved_once := d_sieved_once (P := l.prog) (w := w) (base := base) B D6 C_runs_of
  have C_sieved := d_sieved (P := l.prog) (w := w) (base := base) B D7 C_sieved_once
  have C_SieveRow_sieve := d_SieveRow_sieve (P := l.prog) (w := w) (base := base) (C := A_SieveRow) (p := A_SieveRow) B Hm8 F8 C_check_pipeline C_sieved
  have C_SieveRow_undo := d_SieveRow_undo (P := l.prog) (w := w) (base := base) (C := A_SieveRow) (p := A_SieveRow) B Hm9 F9 bd9
  have C__law_object := d__law_object (P := l.prog) (w := w) (base := base) B D10 C_SieveRow___init__ C__law_draw C_SieveRow_sieve C_SieveRow_undo
  have C__law_line := d__law_line (P := l.prog) (w := w) (base := base) B D11 C__law_draw
  have C__law_steps := d__law_steps (P := l.prog) (w := w) (base := base) B D12 C__law_draw
  have C_SieveRow_row := d_SieveRow_row (P := l.prog) (w := w) (base := base) (C := A_SieveRow) B Hm13 F13 bd13
  have C_SieveRow_pipeline := d_SieveRow_pipeline (P := l.prog) (w := w) (base := base) (C := A_SieveRow) B Hm14 F14 bd14
  have C__law_sieved := d__law_sieved (P := l.prog) (w := w) (base := base) B D15
  have C_SieveRow___eq__ := d_SieveRow___eq__ (P := l.prog) (w := w) (base := base) (C := A_SieveRow) (p := A_SieveRow) B Hm16 F16 bd16
  have C__law_right := d__law_right (P := l.prog) (w := w) (base := base) B D17 C__law_line C__law_steps C__law_object C__law_draw C__law_sieved C_SieveRow___eq__ C_SieveRow_row C_SieveRow_pipeline
  have C_law := d_law (P := l.prog) (w := w) (base := base) B D18 C__law_pool C__law_right C_SieveRow___init__ C_SieveRow___eq__
  obtain ⟨f, fd, dd, o⟩ := C_law.ex
  have e1 := dd.mg.symm.trans D18.mg
  cases e1
  have e2 : fd = _ := dfn_fd dd D18
  subst e2
  exact o
end Lw
open PySem PySem.W PyProof.Rows
set_option maxRecDepth 100000 in
set_option maxHeartbeats 0 in
theorem PySem.Challenge.cw_twinsieve_k22_equal_live_rows_holds : PySem.Challenge.rw_twinsieve_k22_equal_live_rows.Holds := by
  w_on; o_law; k_head; (case hw => w_witness2)
  k_fill
  refine Z.endD (l := PySem.Challenge.rw_twinsieve_k22_equal_live_rows) (k := 8) (n := Z.n_law_37) (qual := "law") (x := "law") (st := Lw.s_law) rfl rfl ⟨⟨rfl, by decide, by decide⟩, fun _ => rfl⟩ (fun w h Y => PySem.W.kIn_of Y) ?F Z.law_law_37
  case F =>
    intro w mg fa h KX G hmg
    refine' Lw.all_mk KX G hmg ?a0 ?l0 ?c0 ?k0 ?a1 ?l1 ?c1 ?k1 ?l2 ?c2 ?k2 ?a3 ?l3 ?c3 ?k3 ?a4 ?l4 ?c4 ?k4 ?a5 ?l5 ?c5 ?k5 ?a6 ?l6 ?c6 ?k6 ?a7 ?l7 ?c7 ?k7 ?l8 ?c8 ?k8 ?l9 ?c9 ?k9 ?a10 ?l10 ?c10 ?k10 ?a11 ?l11 ?c11 ?k11 ?a12 ?l12 ?c12 ?k12 ?l13 ?c13 ?k13 ?l14 ?c14 ?k14 ?a15 ?l15 ?c15 ?k15 ?l16 ?c16 ?k16 ?a17 ?l17 ?c17 ?k17 ?a18 ?l18 ?c18 ?k18 ?z_abs ?z_enumerate ?z_int ?z_isinstance ?z_len ?z_list ?z_max ?z_min ?z_range ?z_LETTERS ?z_SINGLES ?z_TWINS ?oa_SieveRow ?op_SieveRow ?oh_SieveRow ?oo_SieveRow ?os_SieveRow ?ic1_SieveRow ?ic2_SieveRow ?ic3_SieveRow ?ic4_SieveRow ?ic5_SieveRow ?ic6_SieveRow ?ic7_SieveRow ?kn_SieveRow ?ks_SieveRow_NoneType ?kb_SieveRow_NoneType ?ks_SieveRow_int ?kb_SieveRow_int ?ks_SieveRow_str ?kb_SieveRow_str ?ks_SieveRow_list ?kb_SieveRow_list ?ks_SieveRow_tuple ?kb_SieveRow_tuple ?of_SieveRow_applied ?of_SieveRow_passed ?ma_SieveRow___init__ ?mf_SieveRow___init__ ?mk_SieveRow___init__ ?mq_SieveRow___init__ ?ma_SieveRow_sieve ?mf_SieveRow_sieve ?ma_SieveRow_undo ?mf_SieveRow_undo ?pa_SieveRow_row ?pg_SieveRow_row ?pt_SieveRow_row ?pr_SieveRow_row ?pa_SieveRow_pipeline ?pg_SieveRow_pipeline ?pt_SieveRow_pipeline ?pr_SieveRow_pipeline ?ma_SieveRow___eq__ ?mf_SieveRow___eq__ ?ga_InvalidPipeline ?ga_InvalidRow ?ga_NothingToUndo ?na_InvalidNumber ?na_Unreadable ?cG ?cT ?sup ?tpa ?tops ?lk_InvalidRow ?rf_InvalidRow ?sa_InvalidRow ?eb_InvalidRow ?ty_InvalidRow ?kp_InvalidRow ?gt_InvalidRow ?gg_InvalidRow ?nv_InvalidRow ?hd_InvalidRow ?su_InvalidRow ?sv_InvalidRow ?mc_InvalidRow ?mo_InvalidRow ?ca_InvalidRow ?xi_InvalidRow ?ii_InvalidRow ?it_InvalidRow ?if_InvalidRow ?ic_InvalidRow ?id_InvalidRow ?iv_InvalidRow ?ip_InvalidRow ?ix_InvalidRow ?io_InvalidRow ?lk_InvalidPipeline ?rf_InvalidPipeline ?sa_InvalidPipeline ?eb_InvalidPipeline ?ty_InvalidPipeline ?kp_InvalidPipeline ?gt_InvalidPipeline ?gg_InvalidPipeline ?nv_InvalidPipeline ?hd_InvalidPipeline ?su_InvalidPipeline ?sv_InvalidPipeline ?mc_InvalidPipeline ?mo_InvalidPipeline ?ca_InvalidPipeline ?xi_InvalidPipeline ?ii_InvalidPipeline ?it_InvalidPipeline ?if_InvalidPipeline ?ic_InvalidPipeline ?id_InvalidPipeline ?iv_InvalidPipeline ?ip_InvalidPipeline ?ix_InvalidPipeline ?io_InvalidPipeline ?lk_NothingToUndo ?rf_NothingToUndo ?sa_NothingToUndo ?eb_NothingToUndo ?ty_NothingToUndo ?kp_NothingToUndo ?gt_NothingToUndo ?gg_NothingToUndo ?nv_NothingToUndo ?hd_NothingToUndo ?su_NothingToUndo ?sv_NothingToUndo ?mc_NothingToUndo ?mo_NothingToUndo ?ca_NothingToUndo ?xi_NothingToUndo ?ii_NothingToUndo ?it_NothingToUndo ?if_NothingToUndo ?ic_NothingToUndo ?id_NothingToUndo ?iv_NothingToUndo ?ip_NothingToUndo ?ix_NothingToUndo ?io_NothingToUndo
    (case oa_SieveRow => k_is)
    (case ma_SieveRow___init__ => k_is)
    (case ma_SieveRow_sieve => k_is)
    (case ma_SieveRow_undo => k_is)
    (case pa_SieveRow_row => k_is)
    (case pa_SieveRow_pipeline => k_is)
    (case ma_SieveRow___eq__ => k_is)
    (case pr_SieveRow_row => k_is)
    (case pr_SieveRow_pipeline => k_is)
    (case a0 => k_is)
    (case l0 => k_is)
    (case c0 => k_is)
    (case k0 => k_is)
    (case a1 => k_is)
    (case l1 => k_is)
    (case c1 => k_is)
    (case k1 => k_is)
    (case l2 => k_is)
    (case c2 => k_is)
    (case k2 => k_is)
    (case a3 => k_is)
    (case l3 => k_is)
    (case c3 => k_is)
    (case k3 => k_is)
    (case a4 => k_is)
    (case l4 => k_is)
    (case c4 => k_is)
    (case k4 => k_is)
    (case a5 => k_is)
    (case l5 => k_is)
    (case c5 => k_is)
    (case k5 => k_is)
    (case a6 => k_is)
    (case l6 => k_is)
    (case c6 => k_is)
    (case k6 => k_is)
    (case a7 => k_is)
    (case l7 => k_is)
    (case c7 => k_is)
    (case k7 => k_is)
    (case l8 => k_is)
    (case c8 => k_is)
    (case k8 => k_is)
    (case l9 => k_is)
    (case c9 => k_is)
    (case k9 => k_is)
    (case a10 => k_is)
    (case l10 => k_is)
    (case c10 => k_is)
    (case k10 => k_is)
    (case a11 => k_is)
    (case l11 => k_is)
    (case c11 => k_is)
    (case k11 => k_is)
    (case a12 => k_is)
    (case l12 => k_is)
    (case c12 => k_is)
    (case k12 => k_is)
    (case l13 => k_is)
    (case c13 => k_is)
    (case k13 => k_is)
    (case l14 => k_is)
    (case c14 => k_is)
    (case k14 => k_is)
    (case a15 => k_is)
    (case l15 => k_is)
    (case c15 => k_is)
    (case k15 => k_is)
    (case l16 => k_is)
    (case c16 => k_is)
    (case k16 => k_is)
    (case a17 => k_is)
    (case l17 => k_is)
    (case c17 => k_is)
    (case k17 => k_is)
    (case a18 => k_is)
    (case l18 => k_is)
    (case c18 => k_is)
    (case k18 => k_is)
    (case z_abs => k_is)
    (case z_enumerate => k_is)
    (case z_int => k_is)
    (case z_isinstance => k_is)
    (case z_len => k_is)
    (case z_list => k_is)
    (case z_max => k_is)
    (case z_min => k_is)
    (case z_range => k_is)
    (case z_LETTERS => k_is)
    (case z_SINGLES => k_is)
    (case z_TWINS => k_is)
    (case op_SieveRow => k_is)
    (case oh_SieveRow => k_is)
    (case oo_SieveRow => k_is)
    (case os_SieveRow => k_is)
    (case ic1_SieveRow => k_is)
    (case ic2_SieveRow => k_is)
    (case ic3_SieveRow => k_is)
    (case ic4_SieveRow => k_is)
    (case ic5_SieveRow => k_is)
    (case ic6_SieveRow => k_is)
    (case ic7_SieveRow => first | rfl | k_is)
    (case kn_SieveRow => k_is)
    (case ks_SieveRow_NoneType => first | k_is | rfl)
    (case kb_SieveRow_NoneType => first | k_is | rfl)
    (case ks_SieveRow_int => first | k_is | rfl)
    (case kb_SieveRow_int => first | k_is | rfl)
    (case ks_SieveRow_str => first | k_is | rfl)
    (case kb_SieveRow_str => first | k_is | rfl)
    (case ks_SieveRow_list => first | k_is | rfl)
    (case kb_SieveRow_list => first | k_is | rfl)
    (case ks_SieveRow_tuple => first | k_is | rfl)
    (case kb_SieveRow_tuple => first | k_is | rfl)
    (case of_SieveRow_applied => k_is)
    (case of_SieveRow_passed => k_is)
    (case mf_SieveRow___init__ => k_is)
    (case mk_SieveRow___init__ => k_is)
    (case mq_SieveRow___init__ => k_is)
    (case mf_SieveRow_sieve => k_is)
    (case mf_SieveRow_undo => k_is)
    (case pg_SieveRow_row => k_is)
    (case pt_SieveRow_row => k_is)
    (case pg_SieveRow_pipeline => k_is)
    (case pt_SieveRow_pipeline => k_is)
    (case mf_SieveRow___eq__ => k_is)
    (case ga_InvalidPipeline => k_is)
    (case ga_InvalidRow => k_is)
    (case ga_NothingToUndo => k_is)
    (case na_InvalidNumber => k_is)
    (case na_Unreadable => k_is)
    (case cG => k_is)
    (case cT => k_is)
    (case sup => k_is)
    (case tpa => k_is)
    (case tops => first | rfl | decide +kernel)
    (case lk_InvalidRow => k_is)
    (case rf_InvalidRow => first | rfl | decide +kernel)
    (case sa_InvalidRow => k_is)
    (case eb_InvalidRow => k_is)
    (case ty_InvalidRow => k_is)
    (case kp_InvalidRow => k_is)
    (case gt_InvalidRow => k_is)
    (case gg_InvalidRow => k_is)
    (case nv_InvalidRow => k_is)
    (case hd_InvalidRow => k_is)
    (case su_InvalidRow => ks_is)
    (case sv_InvalidRow => k_is)
    (case mc_InvalidRow => k_is)
    (case mo_InvalidRow => k_is)
    (case ca_InvalidRow => k_is)
    (case xi_InvalidRow => kx_is)
    (case ii_InvalidRow => k_is)
    (case it_InvalidRow => k_is)
    (case if_InvalidRow => k_is)
    (case ic_InvalidRow => k_is)
    (case id_InvalidRow => k_is)
    (case iv_InvalidRow => rfl)
    (case ip_InvalidRow => first | rfl | decide +kernel)
    (case ix_InvalidRow => k_is)
    (case io_InvalidRow => rfl)
    (case lk_InvalidPipeline => k_is)
    (case rf_InvalidPipeline => first | rfl | decide +kernel)
    (case sa_InvalidPipeline => k_is)
    (case eb_InvalidPipeline => k_is)
    (case ty_InvalidPipeline => k_is)
    (case kp_InvalidPipeline => k_is)
    (case gt_InvalidPipeline => k_is)
    (case gg_InvalidPipeline => k_is)
    (case nv_InvalidPipeline => k_is)
    (case hd_InvalidPipeline => k_is)
    (case su_InvalidPipeline => ks_is)
    (case sv_InvalidPipeline => k_is)
    (case mc_InvalidPipeline => k_is)
    (case mo_InvalidPipeline => k_is)
    (case ca_InvalidPipeline => k_is)
    (case xi_InvalidPipeline => kx_is)
    (case ii_InvalidPipeline => k_is)
    (case it_InvalidPipeline => k_is)
    (case if_InvalidPipeline => k_is)
    (case ic_InvalidPipeline => k_is)
    (case id_InvalidPipeline => k_is)
    (case iv_InvalidPipeline => rfl)
    (case ip_InvalidPipeline => first | rfl | decide +kernel)
    (case ix_InvalidPipeline => k_is)
    (case io_InvalidPipeline => rfl)
    (case lk_NothingToUndo => k_is)
    (case rf_NothingToUndo => first | rfl | decide +kernel)
    (case sa_NothingToUndo => k_is)
    (case eb_NothingToUndo => k_is)
    (case ty_NothingToUndo => k_is)
    (case kp_NothingToUndo => k_is)
    (case gt_NothingToUndo => k_is)
    (case gg_NothingToUndo => k_is)
    (case nv_NothingToUndo => k_is)
    (case hd_NothingToUndo => k_is)
    (case su_NothingToUndo => ks_is)
    (case sv_NothingToUndo => k_is)
    (case mc_NothingToUndo => k_is)
    (case mo_NothingToUndo => k_is)
    (case ca_NothingToUndo => k_is)
    (case xi_NothingToUndo => kx_is)
    (case ii_NothingToUndo => k_is)
    (case it_NothingToUndo => k_is)
    (case if_NothingToUndo => k_is)
    (case ic_NothingToUndo => k_is)
    (case id_NothingToUndo => k_is)
    (case iv_NothingToUndo => rfl)
    (case ip_NothingToUndo => first | rfl | decide +kernel)
    (case ix_NothingToUndo => k_is)
    (case io_NothingToUndo => rfl)
