import PyProof.Rows.All
import Wide.All
import OpenK.AllK
import Wide.FinOn
import HandS.ForMost
import HandS.More
import HandS.HeadHook3
import HandS.Exc
import HandS.Deep
import HandS.IsInst
import HandS.Style
import HandS.TupAny
import HandS.Flow
import HandS.Zip
import HandS.Rev
import HandS.Codes
import HandS.RaiseMore
import HandS.Defaults
import KE.SortData
import HandS.TupMul
import KE.GoesEnum
import HandS.Small
import HandS.Set
import HandS.SetBool
import HandS.HeadHook4
import HandS.EndBits
import PySem.Challenge.RW_linesure_k77_what_records_tell
set_option Elab.async false
set_option linter.all false
set_option maxRecDepth 100000
set_option maxHeartbeats 0
/-! Mi1: abstract data, the store, and how they lie in the abstract heap of the hand layer. -/
namespace Mi
open PySem PySem.Spec PyProof.Rows L2

/-- data: plain values, tuples, lists and dicts that nobody changes any more, references into the store, things that a global name stands for -/
inductive D where
  | non | bl (b : Bool) | int (i : Int) | str (x : Str)
  | tup (ds : List D) | lst (ds : List D) | scr (ds : List D) | dic (kvs : List (D × D)) | tab (ks : List Str) (ds : List D) | ref (n : Nat) | glo (x : Str)
  deriving Inhabited
/-- what stands in the store: it may change -/
inductive O where
  | lst (ds : List D) | dic (kvs : List (D × D)) | ins (c : Str) (fs : List (Str × D)) | dead
  deriving Inhabited
abbrev Mem := List O
abbrev Env := List (Option D)
/-- an exception: its class by name, its fields -/
structure Ex where
  cls : Str
  fs : List (Str × D)
inductive Res (α : Type) where
  | ok (a : α) (M : Mem)
  | exn (x : Ex) (M : Mem)
  | bad
def Res.bind {α β : Type} : Res α → (α → Mem → Res β) → Res β
  | .ok a M, f => f a M
  | .exn x M, _ => .exn x M
  | .bad, _ => .bad
@[simp] theorem Res.bind_ok {α β : Type} (a : α) (M : Mem) (f : α → Mem → Res β) : (Res.ok a M).bind f = f a M := rfl
@[simp] theorem Res.bind_exn {α β : Type} (x : Ex) (M : Mem) (f : α → Mem → Res β) : (Res.exn x M : Res α).bind f = .exn x M := rfl
@[simp] theorem Res.bind_bad {α β : Type} (f : α → Mem → Res β) : (Res.bad : Res α).bind f = .bad := rfl
theorem Res.bind_assoc {α β γ : Type} (r : Res α) (f : α → Mem → Res β) (g : β → Mem → Res γ) : (r.bind f).bind g = r.bind fun a M => (f a M).bind g := by
  cases r <;> rfl

/-! ### the context -/
structure Cn where
  K : PySem.W.Frag
  w : World
  mg : Str → Option Value

/-- a key of a dict -/
def keyD : D → Option Key
  | .int i => some (.inl i)
  | .str x => some (.inr x)
  | _ => none
def keysD : List D → Option (List Key)
  | [] => some []
  | d :: ds => match keyD d, keysD ds with
    | some k, some ks => some (k :: ks)
    | _, _ => none
def keyT : D → Option (List Key)
  | .tup ds => keysD ds
  | _ => none

section
variable (C : Cn) (φ X : List Addr) (H : Hp)
/-- written by the top: a tuple, a list -/
def KT (K : PySem.W.Frag) (a : Addr) (vs : List V) : Prop :=
  ∃ (o : Obj) (its : Array Value) (n : Nat), K.lookup a = some o ∧ o.cls = .type "tuple" ∧ o.data = .seq its n ∧ its.size ≤ sizeLine ∧ Vals vs its.toList
def KL (K : PySem.W.Frag) (a : Addr) (vs : List V) : Prop :=
  ∃ (o : Obj) (its : Array Value) (n : Nat), K.lookup a = some o ∧ o.cls = .type "list" ∧ o.dict = none ∧ o.data = .seq its n ∧ its.size ≤ sizeLine ∧ Vals vs its.toList
/-- a dict of the top with text keys -/
def KD (C : Cn) (a : Addr) (ks : List Str) (vs : List V) : Prop :=
  (∃ es n, KDict C.K C.w a es n) ∧ ∀ z : Str, ∃ r, PySem.W.nsIn C.K a z = some r ∧ RelO ((ks.zip vs).lookup z) r
def FzT (a : Addr) (vs : List V) : Prop := (H a = some (.tup vs) ∧ a ∉ φ ∧ a ∉ X) ∨ KT C.K a vs
def FzL (a : Addr) (vs : List V) : Prop := H a = some (.lst vs) ∧ a ∉ φ ∧ a ∉ X
/-- a list that is only read: the script, a list of the top -/
def FzS (a : Addr) (vs : List V) : Prop := (Rd H a (.lst vs) ∧ a ∉ φ ∧ a ∉ X) ∨ KL C.K a vs
def FzD (a : Addr) (ks : List Key) (vs : List V) : Prop := H a = some (.dK (ks.zip vs)) ∧ a ∉ φ ∧ a ∉ X ∧ ks.length = vs.length
def FzX (a : Addr) (ks : List (List Key)) (vs : List V) : Prop := H a = some (.dT (ks.zip vs)) ∧ a ∉ φ ∧ a ∉ X ∧ ks.length = vs.length
mutual
inductive R : D → V → Prop
  | non : R .non .non
  | bl (b : Bool) : R (.bl b) (.bl b)
  | int (i : Int) : R (.int i) (.int i)
  | str (x : Str) : R (.str x) (.str x)
  | tup {ds : List D} {vs : List V} {a : Addr} (h : FzT C φ X H a vs) (r : Rs ds vs) : R (.tup ds) (.ref a)
  | lst {ds : List D} {vs : List V} {a : Addr} (h : FzL φ X H a vs) (r : Rs ds vs) : R (.lst ds) (.ref a)
  | scr {ds : List D} {vs : List V} {a : Addr} (h : FzS C φ X H a vs) (r : Rs ds vs) : R (.scr ds) (.ref a)
  | dic {kvs : List (D × D)} {ks : List Key} {vs : List V} {a : Addr} (h : FzD φ X H a ks vs) (hk : kvs.map (fun p => keyD p.1) = ks.map some) (r : Rs (kvs.map (·.2)) vs) : R (.dic kvs) (.ref a)
  | dix {kvs : List (D × D)} {ks : List (List Key)} {vs : List V} {a : Addr} (ne : kvs ≠ []) (h : FzX φ X H a ks vs) (hk : kvs.map (fun p => keyT p.1) = ks.map some) (r : Rs (kvs.map (·.2)) vs) : R (.dic kvs) (.ref a)
  | tab {ks : List Str} {ds : List D} {vs : List V} {a : Addr} (h : KD C a ks vs) (r : Rs ds vs) : R (.tab ks ds) (.ref a)
  | ref {n : Nat} {a : Addr} (h : φ[n]? = some a) : R (.ref n) (.ref a)
  | glo {x : Str} {v : V} {u : Value} (h : C.mg x = some u) (r : RelV v u) (ok : ∃ a, v = .ref a) : R (.glo x) v
inductive Rs : List D → List V → Prop
  | nil : Rs [] []
  | cons {d : D} {ds : List D} {v : V} {vs : List V} (r : R d v) (rs : Rs ds vs) : Rs (d :: ds) (v :: vs)
end
end

section
variable {C : Cn} {φ φ' X X' : List Addr} {H H' : Hp}
theorem Rs.length : ∀ {ds : List D} {vs : List V}, Rs C φ X H ds vs → ds.length = vs.length
  | _, _, .nil => rfl
  | _, _, .cons _ rs => congrArg (· + 1) rs.length
theorem Rs.get : ∀ {ds : List D} {vs : List V} {i : Nat} {d : D}, Rs C φ X H ds vs → ds[i]? = some d → ∃ v, vs[i]? = some v ∧ R C φ X H d v
  | _, _, _, _, .nil, e => by simp at e
  | _, _, 0, _, .cons r _, e => by simp at e; subst e; exact ⟨_, rfl, r⟩
  | _, _, i + 1, _, .cons _ rs, e => by
    obtain ⟨v, h1, h2⟩ := Rs.get (i := i) rs (by simpa using e)
    exact ⟨v, by simpa using h1, h2⟩
theorem Rs.append : ∀ {ds es : List D} {vs us : List V}, Rs C φ X H ds vs → Rs C φ X H es us → Rs C φ X H (ds ++ es) (vs ++ us)
  | _, _, _, _, .nil, s => s
  | _, _, _, _, .cons r rs, s => .cons r (rs.append s)
theorem Rs.take : ∀ {ds : List D} {vs : List V} (n : Nat), Rs C φ X H ds vs → Rs C φ X H (ds.take n) (vs.take n)
  | _, _, 0, _ => by simp; exact .nil
  | _, _, _ + 1, .nil => by simp; exact .nil
  | _, _, n + 1, .cons r rs => .cons r (rs.take n)
theorem Rs.drop : ∀ {ds : List D} {vs : List V} (n : Nat), Rs C φ X H ds vs → Rs C φ X H (ds.drop n) (vs.drop n)
  | _, _, 0, r => r
  | _, _, _ + 1, .nil => by simp; exact .nil
  | _, _, n + 1, .cons _ rs => rs.drop n
theorem Rs.reverse : ∀ {ds : List D} {vs : List V}, Rs C φ X H ds vs → Rs C φ X H ds.reverse vs.reverse
  | _, _, .nil => .nil
  | _, _, .cons r rs => by
    rw [List.reverse_cons, List.reverse_cons]
    exact rs.reverse.append (.cons r .nil)
theorem Rs.set : ∀ {ds : List D} {vs : List V} (i : Nat) {d : D} {v : V}, R C φ X H d v → Rs C φ X H ds vs → Rs C φ X H (ds.set i d) (vs.set i v)
  | _, _, _, _, _, _, .nil => .nil
  | _, _, 0, _, _, r, .cons _ rs => .cons r rs
  | _, _, i + 1, _, _, r, .cons q rs => .cons q (rs.set i r)
theorem Rs.eraseIdx : ∀ {ds : List D} {vs : List V} (i : Nat), Rs C φ X H ds vs → Rs C φ X H (ds.eraseIdx i) (vs.eraseIdx i)
  | _, _, _, .nil => by simp; exact .nil
  | _, _, 0, .cons _ rs => rs
  | _, _, i + 1, .cons q rs => .cons q (rs.eraseIdx i)
theorem Rs.one {d : D} {v : V} (r : R C φ X H d v) : Rs C φ X H [d] [v] := .cons r .nil

/-- what was frozen stays, references stay -/
structure Mo (φ X : List Addr) (H : Hp) (φ' X' : List Addr) (H' : Hp) : Prop where
  fz : ∀ a o, H a = some o → a ∉ φ → a ∉ X → H' a = some o ∧ a ∉ φ' ∧ a ∉ X'
  rf : ∀ (n : Nat) (a : Addr), φ[n]? = some a → φ'[n]? = some a
theorem FzT.mono {a : Addr} {vs : List V} (m : Mo φ X H φ' X' H') (h : FzT C φ X H a vs) : FzT C φ' X' H' a vs := by
  rcases h with ⟨h, h1, h2⟩ | h
  · exact .inl (m.fz a _ h h1 h2)
  · exact .inr h
theorem FzL.mono {a : Addr} {vs : List V} (m : Mo φ X H φ' X' H') (h : FzL φ X H a vs) : FzL φ' X' H' a vs := m.fz a _ h.1 h.2.1 h.2.2
theorem FzS.mono {a : Addr} {vs : List V} (m : Mo φ X H φ' X' H') (h : FzS C φ X H a vs) : FzS C φ' X' H' a vs := by
  rcases h with ⟨h | ⟨o, h⟩, h1, h2⟩ | h
  · obtain ⟨k1, k2⟩ := m.fz a _ h h1 h2
    exact .inl ⟨.inl k1, k2⟩
  · obtain ⟨k1, k2⟩ := m.fz a _ h h1 h2
    exact .inl ⟨.inr ⟨o, k1⟩, k2⟩
  · exact .inr h
theorem FzD.mono {a : Addr} {ks : List Key} {vs : List V} (m : Mo φ X H φ' X' H') (h : FzD φ X H a ks vs) : FzD φ' X' H' a ks vs := by
  obtain ⟨h, h1, h2, h3⟩ := h
  obtain ⟨k1, k2, k3⟩ := m.fz a _ h h1 h2
  exact ⟨k1, k2, k3, h3⟩
theorem FzX.mono {a : Addr} {ks : List (List Key)} {vs : List V} (m : Mo φ X H φ' X' H') (h : FzX φ X H a ks vs) : FzX φ' X' H' a ks vs := by
  obtain ⟨h, h1, h2, h3⟩ := h
  obtain ⟨k1, k2, k3⟩ := m.fz a _ h h1 h2
  exact ⟨k1, k2, k3, h3⟩
mutual
theorem R.mono (m : Mo φ X H φ' X' H') : ∀ {d : D} {v : V}, R C φ X H d v → R C φ' X' H' d v
  | _, _, .non => .non
  | _, _, .bl b => .bl b
  | _, _, .int i => .int i
  | _, _, .str x => .str x
  | _, _, .tup h r => .tup (h.mono m) (Rs.mono m r)
  | _, _, .lst h r => .lst (h.mono m) (Rs.mono m r)
  | _, _, .scr h r => .scr (h.mono m) (Rs.mono m r)
  | _, _, .dic h hk r => .dic (h.mono m) hk (Rs.mono m r)
  | _, _, .dix ne h hk r => .dix ne (h.mono m) hk (Rs.mono m r)
  | _, _, .tab h r => .tab h (Rs.mono m r)
  | _, _, .ref h => .ref (m.rf _ _ h)
  | _, _, .glo h r ok => .glo h r ok
theorem Rs.mono (m : Mo φ X H φ' X' H') : ∀ {ds : List D} {vs : List V}, Rs C φ X H ds vs → Rs C φ' X' H' ds vs
  | _, _, .nil => .nil
  | _, _, .cons r rs => .cons (R.mono m r) (Rs.mono m rs)
end

/-! ### what lies in the store -/
variable (C φ X H) in
def RO (a : Addr) : O → Prop
  | .lst ds => ∃ vs, H a = some (.lst vs) ∧ Rs C φ X H ds vs
  | .dic kvs => (∃ (ks : List Key) (vs : List V), H a = some (.dK (ks.zip vs)) ∧ ks.length = vs.length ∧ kvs.map (fun p => keyD p.1) = ks.map some ∧ Rs C φ X H (kvs.map (·.2)) vs) ∨
      ∃ (ks : List (List Key)) (vs : List V), kvs ≠ [] ∧ H a = some (.dT (ks.zip vs)) ∧ ks.length = vs.length ∧ kvs.map (fun p => keyT p.1) = ks.map some ∧ Rs C φ X H (kvs.map (·.2)) vs
  | .ins c fs => ∃ (K dx : Addr) (vs : List V), C.mg c = some (.ref K) ∧ H a = some (.ins K dx ((fs.map (·.1)).zip vs)) ∧ Rs C φ X H (fs.map (·.2)) vs ∧ fs.length = vs.length
  | .dead => ∃ o, H a = some o
theorem RO.there {a : Addr} {o : O} (h : RO C φ X H a o) : H a ≠ none := by
  intro e
  cases o with
  | lst ds => obtain ⟨_, h, _⟩ := h; rw [e] at h; cases h
  | dic kvs => rcases h with ⟨_, _, h, _⟩ | ⟨_, _, _, h, _⟩ <;> (rw [e] at h; cases h)
  | ins c fs => obtain ⟨_, _, _, _, h, _⟩ := h; rw [e] at h; cases h
  | dead => obtain ⟨_, h⟩ := h; rw [e] at h; cases h
/-- an object that is itself untouched -/
theorem RO.mono {a : Addr} {o : O} (m : Mo φ X H φ' X' H') (e : H' a = H a) (h : RO C φ X H a o) : RO C φ' X' H' a o := by
  cases o with
  | lst ds => obtain ⟨vs, h1, h2⟩ := h; exact ⟨vs, by rw [e]; exact h1, h2.mono m⟩
  | dic kvs =>
    rcases h with ⟨ks, vs, h1, h2, h3, h4⟩ | ⟨ks, vs, h0, h1, h2, h3, h4⟩
    · exact .inl ⟨ks, vs, by rw [e]; exact h1, h2, h3, h4.mono m⟩
    · exact .inr ⟨ks, vs, h0, by rw [e]; exact h1, h2, h3, h4.mono m⟩
  | ins c fs =>
    obtain ⟨K, dx, vs, h1, h2, h3, h4⟩ := h
    exact ⟨K, dx, vs, h1, by rw [e]; exact h2, h3.mono m, h4⟩
  | dead => obtain ⟨o, h⟩ := h; exact ⟨o, by rw [e]; exact h⟩
end
end Mi
set_option Elab.async false
set_option linter.all false
set_option maxRecDepth 100000
set_option maxHeartbeats 0
/-! Mi2: terms of the small language and what they say (a pure evaluator over data and store). -/
namespace Mi
open PySem PySem.Spec PyProof.Rows L2

/-! ### equality of data is decided -/
mutual
def D.eqb : D → D → Bool
  | .non, .non => true
  | .bl a, .bl b => a == b
  | .int a, .int b => a == b
  | .str a, .str b => decide (a = b)
  | .tup a, .tup b => D.eqbs a b
  | .lst a, .lst b => D.eqbs a b
  | .scr a, .scr b => D.eqbs a b
  | .dic a, .dic b => D.eqbk a b
  | .tab a c, .tab b d => decide (a = b) && D.eqbs c d
  | .ref a, .ref b => a == b
  | .glo a, .glo b => decide (a = b)
  | _, _ => false
def D.eqbs : List D → List D → Bool
  | [], [] => true
  | a :: as, b :: bs => D.eqb a b && D.eqbs as bs
  | _, _ => false
def D.eqbk : List (D × D) → List (D × D) → Bool
  | [], [] => true
  | (a, c) :: as, (b, d) :: bs => (D.eqb a b && D.eqb c d) && D.eqbk as bs
  | _, _ => false
end
mutual
theorem D.eqb_refl : ∀ a : D, D.eqb a a = true
  | .non => rfl
  | .bl a => by simp [D.eqb]
  | .int a => by simp [D.eqb]
  | .str a => by simp [D.eqb]
  | .tup a => by simp [D.eqb, D.eqbs_refl a]
  | .lst a => by simp [D.eqb, D.eqbs_refl a]
  | .scr a => by simp [D.eqb, D.eqbs_refl a]
  | .dic a => by simp [D.eqb, D.eqbk_refl a]
  | .tab a c => by simp [D.eqb, D.eqbs_refl c]
  | .ref a => by simp [D.eqb]
  | .glo a => by simp [D.eqb]
theorem D.eqbs_refl : ∀ a : List D, D.eqbs a a = true
  | [] => rfl
  | a :: as => by simp [D.eqbs, D.eqb_refl a, D.eqbs_refl as]
theorem D.eqbk_refl : ∀ a : List (D × D), D.eqbk a a = true
  | [] => rfl
  | (a, b) :: as => by simp [D.eqbk, D.eqb_refl a, D.eqb_refl b, D.eqbk_refl as]
end
mutual
theorem D.eq_of_eqb : ∀ a b : D, D.eqb a b = true → a = b
  | .non, b, h => by cases b <;> simp_all [D.eqb]
  | .bl a, b, h => by cases b <;> simp_all [D.eqb]
  | .int a, b, h => by cases b <;> simp_all [D.eqb]
  | .str a, b, h => by cases b <;> simp_all [D.eqb]
  | .tup a, b, h => by
    cases b with
    | tup b => rw [D.eqbs_eq a b (by simpa [D.eqb] using h)]
    | _ => simp [D.eqb] at h
  | .lst a, b, h => by
    cases b with
    | lst b => rw [D.eqbs_eq a b (by simpa [D.eqb] using h)]
    | _ => simp [D.eqb] at h
  | .scr a, b, h => by
    cases b with
    | scr b => rw [D.eqbs_eq a b (by simpa [D.eqb] using h)]
    | _ => simp [D.eqb] at h
  | .dic a, b, h => by
    cases b with
    | dic b => rw [D.eqbk_eq a b (by simpa [D.eqb] using h)]
    | _ => simp [D.eqb] at h
  | .tab a c, b, h => by
    cases b with
    | tab b d =>
      have h' := Bool.and_eq_true_iff.mp (show (decide (a = b) && D.eqbs c d) = true from h)
      rw [of_decide_eq_true h'.1, D.eqbs_eq c d h'.2]
    | _ => simp [D.eqb] at h
  | .ref a, b, h => by cases b <;> simp_all [D.eqb]
  | .glo a, b, h => by cases b <;> simp_all [D.eqb]
theorem D.eqbs_eq : ∀ a b : List D, D.eqbs a b = true → a = b
  | [], [], _ => rfl
  | a :: as, b :: bs, h => by
    have h' := Bool.and_eq_true_iff.mp (show (D.eqb a b && D.eqbs as bs) = true from h)
    rw [D.eq_of_eqb a b h'.1, D.eqbs_eq as bs h'.2]
  | [], _ :: _, h => by simp [D.eqbs] at h
  | _ :: _, [], h => by simp [D.eqbs] at h
theorem D.eqbk_eq : ∀ a b : List (D × D), D.eqbk a b = true → a = b
  | [], [], _ => rfl
  | (a, c) :: as, (b, d) :: bs, h => by
    have h' := Bool.and_eq_true_iff.mp (show ((D.eqb a b && D.eqb c d) && D.eqbk as bs) = true from h)
    have h'' := Bool.and_eq_true_iff.mp h'.1
    rw [D.eq_of_eqb a b h''.1, D.eq_of_eqb c d h''.2, D.eqbk_eq as bs h'.2]
  | [], _ :: _, h => by simp [D.eqbk] at h
  | _ :: _, [], h => by simp [D.eqbk] at h
end
instance : DecidableEq D := fun a b => if h : D.eqb a b = true then .isTrue (D.eq_of_eqb a b h) else .isFalse fun e => h (by rw [e]; exact D.eqb_refl b)
instance : DecidableEq O := fun a b => match a, b with
  | .lst a, .lst b => if h : a = b then .isTrue (by rw [h]) else .isFalse fun e => h (by injection e)
  | .dic a, .dic b => if h : a = b then .isTrue (by rw [h]) else .isFalse fun e => h (by injection e)
  | .ins a c, .ins b d => if h : a = b ∧ c = d then .isTrue (by rw [h.1, h.2]) else .isFalse fun e => h (by injection e with h1 h2; exact ⟨h1, h2⟩)
  | .dead, .dead => .isTrue rfl
  | .lst _, .dic _ | .lst _, .ins .. | .lst _, .dead | .dic _, .lst _ | .dic _, .ins .. | .dic _, .dead | .ins .., .lst _ | .ins .., .dic _ | .ins .., .dead | .dead, .lst _ | .dead, .dic _ | .dead, .ins .. => .isFalse fun e => by cases e

/-! ### no reference at or above L -/
mutual
def D.refsLt (L : Nat) : D → Bool
  | .ref n => decide (n < L)
  | .tup ds => D.refsLts L ds
  | .lst ds => D.refsLts L ds
  | .scr ds => D.refsLts L ds
  | .dic kvs => D.refsLtk L kvs
  | .tab _ ds => D.refsLts L ds
  | _ => true
def D.refsLts (L : Nat) : List D → Bool
  | [] => true
  | d :: ds => D.refsLt L d && D.refsLts L ds
def D.refsLtk (L : Nat) : List (D × D) → Bool
  | [] => true
  | (a, b) :: ds => (D.refsLt L a && D.refsLt L b) && D.refsLtk L ds
end
def O.refsLt (L : Nat) : O → Bool
  | .lst ds => D.refsLts L ds
  | .dic kvs => D.refsLtk L kvs
  | .ins _ fs => D.refsLts L (fs.map (·.2))
  | .dead => true
/-- the store at a call's end: what was there ahead of it is untouched, or names nothing that the call has made -/
def keptFrom (L : Nat) (M M' : Mem) : Nat → Bool
  | 0 => true
  | k + 1 => (decide (M'[k]? = M[k]?) || (match M'[k]? with
    | some o => O.refsLt L o
    | none => false)) && keptFrom L M M' k
/-- references that the call has made are handed out as what they hold -/
def freeze (M : Mem) (L : Nat) : Nat → D → D
  | 0, d => d
  | k + 1, .ref n => if n < L then .ref n else match M[n]? with
    | some (.lst ds) => .lst (ds.map (freeze M L k))
    | some (.dic kvs) => .dic (kvs.map fun p => (p.1, freeze M L k p.2))
    | _ => .ref n
  | k + 1, .tup ds => .tup (ds.map (freeze M L k))
  | _ + 1, d => d
def finish (M : Mem) : Res D → Res D
  | .ok d M' => let d' := freeze M' M.length 3 d
    if D.refsLt M.length d' && keptFrom M.length M M' M.length then .ok d' (M'.take M.length) else .bad
  | .exn x M' => if D.refsLts M.length (x.fs.map (·.2)) && keptFrom M.length M M' M.length then .exn x (M'.take M.length) else .bad
  | .bad => .bad

/-! ### operations -/
def SL : Nat := 16777216
/-- what can be walked or counted by places -/
def view (M : Mem) : D → Option (List D)
  | .tup ds => some ds
  | .lst ds => some ds
  | .scr ds => some ds
  | .ref n => match M[n]? with
    | some (.lst ds) => some ds
    | _ => none
  | _ => none
/-- a list, frozen or in the store -/
def lview (M : Mem) : D → Option (List D)
  | .lst xs => some xs
  | .ref n => match M[n]? with
    | some (.lst xs) => some xs
    | _ => none
  | _ => none
mutual
def D.py : D → PyData
  | .non => .none
  | .bl b => .bool b
  | .int i => .int i
  | .str x => .str x
  | .tup ds => .tuple (D.pys ds)
  | .lst ds => .list (D.pys ds)
  | _ => .dict []
def D.pys : List D → List PyData
  | [] => []
  | d :: ds => D.py d :: D.pys ds
end
def deref (M : Mem) : D → D
  | .ref n => match M[n]? with
    | some (.lst ds) => .lst ds
    | _ => .ref n
  | d => d
/-- == where it is told without looking into anything -/
def flatEq : D → D → Option Bool
  | .non, .non => some true
  | .non, .int _ | .int _, .non | .non, .bl _ | .bl _, .non | .non, .str _ | .str _, .non => some false
  | .int a, .int b => some (decide (a = b))
  | .bl a, .bl b => some (decide (a = b))
  | .str a, .str b => some (decide (a = b))
  | .int _, .str _ | .str _, .int _ | .bl _, .str _ | .str _, .bl _ => some false
  | _, _ => none
def eqD (M : Mem) (a b : D) : Option Bool := match flatEq a b with
  | some r => some r
  | none => if SeqAt.shaped (deref M a).py && SeqAt.shaped (deref M b).py then some (PyData.eqv (deref M a).py (deref M b).py) else none
/-- x == y of plain things, for in -/
def plain : D → Bool
  | .non | .bl _ | .int _ | .str _ => true
  | _ => false
def eqPl : D → D → Bool
  | .non, .non => true
  | .bl a, .bl b => a == b
  | .bl a, .int b => (if a then 1 else 0) == b
  | .int a, .bl b => a == (if b then 1 else 0)
  | .int a, .int b => a == b
  | .str a, .str b => a == b
  | _, _ => false
inductive P2 where
  | add | sub | mul | fdiv | mod | pow | eq | ne | lt | le | gt | ge | isin | notin | is | isnot | item | min2 | max2
  deriving DecidableEq
inductive P1 where
  | neg | len | sum | all | any | sorted | tuple | list | int | str
  deriving DecidableEq
def okS (x : Str) (M : Mem) : Res D := if x.length ≤ SL then .ok (.str x) M else .bad
def strRep (x : Str) (n : Nat) : Str := ⟨(List.replicate n x.cps).foldl (· ++ ·) #[]⟩
def addD (a b : D) (M : Mem) : Res D := match a, b with
  | .int i, .int j => .ok (.int (i + j)) M
  | .str x, .str y => if x.length + y.length ≤ SL then .ok (.str (x ++ y)) M else .bad
  | .tup xs, .tup ys => if xs.length + ys.length ≤ SL then .ok (.tup (xs ++ ys)) M else .bad
  | a, b => match lview M a, lview M b with
    | some xs, some ys => if xs.length + ys.length ≤ SL then .ok (.lst (xs ++ ys)) M else .bad
    | _, _ => .bad
def subD (a b : D) (M : Mem) : Res D := match a, b with
  | .int i, .int j => .ok (.int (i - j)) M
  | _, _ => .bad
def mulOk (i j : Int) : Bool := (decide (-(2 ^ 64) < i) && decide (i < 2 ^ 64)) || (decide (-(2 ^ 64) < j) && decide (j < 2 ^ 64))
def mulD (a b : D) (M : Mem) : Res D := match a, b with
  | .int i, .int j => if mulOk i j then .ok (.int (i * j)) M else .bad
  | .str x, .int j => if 0 ≤ j ∧ j < 2 ^ 63 ∧ x.length * j.toNat ≤ SL then .ok (.str (strRep x j.toNat)) M else .bad
  | .tup xs, .int j => if 2 ≤ j ∧ j ≤ 1000 ∧ xs.length ≤ 1000 ∧ xs ≠ [] then .ok (.tup (List.replicate j.toNat xs).flatten) M else .bad
  | .lst xs, .int j => if 0 ≤ j ∧ j < 2 ^ 63 ∧ xs.length * j.toNat ≤ SL then .ok (.lst (List.replicate j.toNat xs).flatten) M else .bad
  | _, _ => .bad
def fdivD (a b : D) (M : Mem) : Res D := match a, b with
  | .int i, .int j => if 0 < j ∧ j < 1073741824 then .ok (.int (i / j)) M else .bad
  | _, _ => .bad
def modD (a b : D) (M : Mem) : Res D := match a, b with
  | .int i, .int j => if 0 < j then .ok (.int (i % j)) M else .bad
  | _, _ => .bad
def powD (a b : D) (M : Mem) : Res D := match a, b with
  | .int i, .int j => if 0 ≤ j ∧ j ≤ 1000000 ∧ i.natAbs < 2 ^ 64 then .ok (.int (i ^ j.toNat)) M else .bad
  | _, _ => .bad
def cmpD (f : Int → Int → Bool) (g : List Nat → List Nat → Bool) (a b : D) (M : Mem) : Res D := match a, b with
  | .int i, .int j => .ok (.bl (f i j)) M
  | .str x, .str y => .ok (.bl (g x.cps.toList y.cps.toList)) M
  | _, _ => .bad
def ltD : D → D → Mem → Res D := cmpD (fun i j => decide (i < j)) fun x y => decide (x < y)
def leD : D → D → Mem → Res D := cmpD (fun i j => decide (i ≤ j)) fun x y => !decide (y < x)
def gtD : D → D → Mem → Res D := cmpD (fun i j => decide (j < i)) fun x y => decide (y < x)
def geD : D → D → Mem → Res D := cmpD (fun i j => decide (j ≤ i)) fun x y => !decide (x < y)
def eqOp (neg : Bool) (a b : D) (M : Mem) : Res D := match eqD M a b with
  | some r => .ok (.bl (r != neg)) M
  | none => .bad
def lookD (k : D) : List (D × D) → Option D
  | [] => none
  | p :: r => if p.1 = k then some p.2 else lookD k r
/-- a dict, frozen or in the store, with keys that are ints or texts -/
def dview (M : Mem) : D → Option (List (D × D))
  | .dic kvs => if kvs.all fun p => (keyD p.1).isSome then some kvs else none
  | .ref n => match M[n]? with
    | some (.dic kvs) => if kvs.all fun p => (keyD p.1).isSome then some kvs else none
    | _ => none
  | _ => none
/-- a in b -/
def inB (M : Mem) (a b : D) : Option Bool := match a, b with
  | .str x, .str y => match x.cps.toList with
    | [c] => some (decide (c ∈ y.cps.toList))
    | _ => none
  | .str x, .tab ks ds => some ((ks.zip ds).lookup x).isSome
  | a, b => match view M b with
    | some ds => if plain a && ds.all plain then some (ds.any fun d => eqPl d a)
      else match lview M b with
        | some _ => if SeqAt.shaped a.py && SeqAt.shaped (.list (D.pys ds)) then some (ds.any fun d => PyData.eqv d.py a.py) else none
        | none => none
    | none => match dview M b, keyD a with
      | some kvs, some _ => some (lookD a kvs).isSome
      | _, _ => none
def inD (neg : Bool) (a b : D) (M : Mem) : Res D := match inB M a b with
  | some r => .ok (.bl (r != neg)) M
  | none => .bad
/-- is: None, True, False -/
def isB : D → D → Option Bool
  | a, .non => some (decide (a = .non))
  | .bl a, .bl b => some (decide (a = b))
  | _, _ => none
def isOp (neg : Bool) (a b : D) (M : Mem) : Res D := match isB a b with
  | some r => .ok (.bl (r != neg)) M
  | none => .bad
def itemK (a k : D) (M : Mem) : Res D := match dview M a, keyD k with
  | some kvs, some _ => match lookD k kvs with
    | some d => .ok d M
    | none => .bad
  | _, _ => .bad
def itemD (a b : D) (M : Mem) : Res D := match a, b with
  | .str x, .int i => if x.length ≤ SL then match atI x.cps.toList i with
    | some c => .ok (.str ⟨#[c]⟩) M
    | none => .bad
    else .bad
  | .tab ks ds, .str x => match (ks.zip ds).lookup x with
    | some d => .ok d M
    | none => .bad
  | a, .int i => match view M a with
    | some ds => match atI ds i with
      | some d => .ok d M
      | none => .bad
    | none => itemK a (.int i) M
  | a, k => itemK a k M
def minD (a b : D) (M : Mem) : Res D := match a, b with
  | .int i, .int j => .ok (.int (if j < i then j else i)) M
  | _, _ => .bad
def maxD (a b : D) (M : Mem) : Res D := match a, b with
  | .int i, .int j => .ok (.int (if j > i then j else i)) M
  | _, _ => .bad
def op2 : P2 → D → D → Mem → Res D
  | .add => addD | .sub => subD | .mul => mulD | .fdiv => fdivD | .mod => modD | .pow => powD
  | .eq => eqOp false | .ne => eqOp true | .lt => ltD | .le => leD | .gt => gtD | .ge => geD
  | .isin => inD false | .notin => inD true | .is => isOp false | .isnot => isOp true | .item => itemD | .min2 => minD | .max2 => maxD
def intsOf : List D → Option (List Int)
  | [] => some []
  | .int i :: ds => (intsOf ds).map (i :: ·)
  | _ :: _ => none
def strsOf : List D → Option (List Str)
  | [] => some []
  | .str i :: ds => (strsOf ds).map (i :: ·)
  | _ :: _ => none
def blsOf : List D → Option (List Bool)
  | [] => some []
  | .bl i :: ds => (blsOf ds).map (i :: ·)
  | _ :: _ => none
/-- what can be sorted: alike data -/
def isTupC : PyData → Bool
  | .tuple (_ :: _) => true
  | _ => false
def isPlainS : PyData → Bool
  | .none => false
  | .tuple _ => false
  | _ => true
def okSort (ds : List D) : Bool := decide (ds.length ≤ SL) && ((ds.all fun a => ds.all fun b => PySem.W.alike a.py b.py) && (((ds.all fun d => isTupC d.py) || (ds.all fun d => isPlainS d.py)) && ds.all fun d => SeqAt.shaped d.py))
def sortD (ds : List D) : List D := ds.mergeSort (PySem.W.dataLe false D.py)
/-- lists that are viewed and are no tuples -/
def lv (M : Mem) : D → Option (List D)
  | .tup _ => none
  | d => view M d
def lenD (d : D) (M : Mem) : Res D := match d with
  | .str x => if x.length ≤ SL then .ok (.int x.length) M else .bad
  | d => match view M d with
    | some ds => .ok (.int ds.length) M
    | none => match dview M d with
      | some kvs => .ok (.int kvs.length) M
      | none => .bad
def op1 : P1 → D → Mem → Res D
  | .neg, d, M => match d with
    | .int i => .ok (.int (-i)) M
    | _ => .bad
  | .len, d, M => lenD d M
  | .sum, d, M => match (lv M d).bind intsOf with
    | some ns => .ok (.int ns.sum) M
    | none => .bad
  | .all, d, M => match (lv M d).bind blsOf with
    | some bs => .ok (.bl (bs.all id)) M
    | none => .bad
  | .any, d, M => match (lv M d).bind blsOf with
    | some bs => .ok (.bl (bs.any id)) M
    | none => .bad
  | .sorted, d, M => match lview M d with
    | some ds => if okSort ds then .ok (.lst (sortD ds)) M else .bad
    | none => .bad
  | .tuple, d, M => match view M d with
    | some ds => .ok (.tup ds) M
    | none => .bad
  | .list, d, M => match view M d with
    | some ds => .ok (.lst ds) M
    | none => .bad
  | .int, d, M => match d with
    | .int i => .ok (.int i) M
    | .str x => match PySem.intText? x with
      | some n => if x.length ≤ 640 then .ok (.int n) M else .bad
      | none => .bad
    | _ => .bad
  | .str, d, M => match d with
    | .int i => if i.natAbs.log2 < 1920 then .ok (.str (toString i)) M else .bad
    | .str x => .ok (.str x) M
    | _ => .bad
/-- a cut by two bounds -/
def cutD (lo hi : Option Int) (ds : List D) : List D := (ds.drop (HT.sIx ds.length 0 lo)).take (HT.sIx ds.length ds.length hi - HT.sIx ds.length 0 lo)
/-- a bound: none is written, or an int -/
def bndOf (absent : Bool) (d : D) : Option (Option Int) := if absent then some none else match d with
  | .int i => some (some i)
  | _ => none
def sliD (a : D) (lo hi : Option (Option Int)) (M : Mem) : Res D := match lo, hi with
  | some l, some h => match a with
    | .tup ds => .ok (.tup (cutD l h ds)) M
    | .str x => if x.length ≤ SL then .ok (.str (Txt.slice x l h)) M else .bad
    | a => match lv M a with
      | some ds => .ok (.lst (cutD l h ds)) M
      | none => .bad
  | _, _ => .bad
/-- the built-in class of a value -/
def tyOf (M : Mem) : D → Option String
  | .non => some "NoneType"
  | .bl _ => some "bool"
  | .int _ => some "int"
  | .str _ => some "str"
  | .tup _ => some "tuple"
  | .lst _ => some "list"
  | .scr _ => some "list"
  | .dic _ => some "dict"
  | .tab _ _ => some "dict"
  | .ref n => match M[n]? with
    | some (.lst _) => some "list"
    | some (.dic _) => some "dict"
    | _ => none
  | _ => none
/-- isinstance with built-in classes: a class, and those above it -/
def subTy (a b : String) : Bool := a == b || (a == "bool" && b == "int")
def isTys (M : Mem) (d : D) (ts : List String) : Option Bool := (tyOf M d).map fun a => ts.any (subTy a)

/-! ### terms -/
/-- a target: a slot, a tuple of targets -/
inductive MT where
  | nm (i : Nat)
  | tp (is : List Nat)
/-- what a for walks -/
inductive IK where
  | seq | range | range2 | enum | zip
  deriving DecidableEq
mutual
inductive ME where
  | var (i : Nat) | con (d : D) | glo (x : Str)
  | p1 (p : P1) (a : ME) | p2 (p : P2) (a b : ME)
  | chain (p q : P2) (a b c : ME)
  | and (a b : ME) | or (a b : ME) | not (a : ME) | ife (c a b : ME)
  | tup (es : MEs) | lst (es : MEs) | dic0
  | isi (a : ME) (ts : List String)
  | sli (a lo hi : ME) | rev (a : ME)
  | call (f : Str) (es : MEs)
  | comp (k : IK) (es : MEs) (t : MT) (own : List Nat) (c e : ME)
  | scomp (e : ME)
  | new (e : ME)
inductive MEs where
  | nil | cons (e : ME) (es : MEs)
end
mutual
inductive MS where
  | asg (t : MT) (e : ME)
  | par (is : List Nat) (es : MEs)
  | setI (o i e : ME)
  | app (o e : ME) | ext (o e : ME)
  | aug (i : Nat) (p : P2) (e : ME)
  | expr (e : ME)
  | ite (c : ME) (a b : MSs)
  | for_ (k : IK) (es : MEs) (t : MT) (b : MSs)
  | whl (c : ME) (b : MSs)
  | ret (e : ME) | retN | brk | cnt | pas
  | raise (c : Str) (es : MEs)
inductive MSs where
  | nil | cons (s : MS) (ss : MSs)
end

/-- nothing is written -/
def ME.isNon : ME → Bool
  | .con .non => true
  | _ => false

/-! ### meaning -/
inductive Fl where
  | nx (env : Env) | ret (d : D) | brk (env : Env) | cnt (env : Env)
/-- what is called, what global names hold, how often a while may turn -/
structure Ce where
  call : Str → List D → Mem → Res D
  gl : Str → Option D
  turns : Nat
def wipeE (env : Env) : List Nat → Env
  | [] => env
  | v :: vs => (wipeE env vs).set v none
def setMany : List Nat → List D → Env → Option Env
  | [], [], env => some env
  | i :: is, d :: ds, env => if i < env.length then setMany is ds (env.set i (some d)) else none
  | _, _, _ => none
def asgT (t : MT) (d : D) (env : Env) : Option Env := match t with
  | .nm i => if i < env.length then some (env.set i (some d)) else none
  | .tp is => match d with
    | .tup ds => setMany is ds env
    | _ => none
/-- what is walked: the store lists it is read through, and the things -/
structure Its where
  src : List (Nat × List D)
  ds : List D
/-- a list: the store list it is, if any, and its things -/
def lsrc (M : Mem) (d : D) : Option Its := match d with
  | .lst ds => some ⟨[], ds⟩
  | .scr ds => some ⟨[], ds⟩
  | .ref n => match M[n]? with
    | some (.lst ds) => some ⟨[(n, ds)], ds⟩
    | _ => none
  | _ => none
def seqD (M : Mem) (d : D) : Option Its := match d with
  | .tup ds => some ⟨[], ds⟩
  | .str x => some ⟨[], x.cps.toList.map fun c => .str ⟨#[c]⟩⟩
  | d => lsrc M d
def zipD : List D → List D → List D
  | a :: as, b :: bs => .tup [a, b] :: zipD as bs
  | _, _ => []
def enumD (ds : List D) : List D := (List.range ds.length).zip ds |>.map fun p => .tup [.int p.1, p.2]
def rangeD (lo hi : Int) : List D := (List.range (hi - lo).toNat).map fun k => .int (lo + (k : Nat))
def inR (j : Int) : Bool := decide (-(2 ^ 62) ≤ j) && decide (j < 2 ^ 62)
def enuD (M : Mem) (d : D) : Option Its := match d with
  | .tup ds => some ⟨[], enumD ds⟩
  | d => (lsrc M d).map fun i => ⟨i.src, enumD i.ds⟩
def zpD (M : Mem) (a b : D) : Option Its := match a, b with
  | .tup xs, .tup ys => some ⟨[], zipD xs ys⟩
  | a, b => match lsrc M a, lsrc M b with
    | some i, some j => some ⟨i.src ++ j.src, zipD i.ds j.ds⟩
    | _, _ => none
def okIt (M : Mem) : Option Its → Res Its
  | some i => .ok i M
  | none => .bad
def itOf (k : IK) (ds : List D) (M : Mem) : Res Its := match k, ds with
  | .seq, [d] => okIt M (seqD M d)
  | .range, [.int j] => if inR j then .ok ⟨[], rangeD 0 j⟩ M else .bad
  | .range2, [.int i, .int j] => if inR i && inR j then .ok ⟨[], rangeD i j⟩ M else .bad
  | .enum, [d] => okIt M (enuD M d)
  | .zip, [a, b] => okIt M (zpD M a b)
  | _, _ => .bad
def stillS : List (Nat × List D) → Mem → Bool
  | [], _ => true
  | (n, ds) :: r, M => decide (M[n]? = some (.lst ds)) && stillS r M
abbrev still (i : Its) (M : Mem) : Bool := stillS i.src M
/-- the turns of a comprehension -/
def compL (f : D → Mem → Res (Option D)) (ok : Mem → Bool) : List D → Mem → Res (List D)
  | [], M => if ok M then .ok [] M else .bad
  | d :: ds, M => if ok M then (f d M).bind fun o M1 => (compL f ok ds M1).bind fun r M2 => .ok (o.toList ++ r) M2 else .bad
/-- an exception here is not covered -/
def Res.noX {α : Type} : Res α → Res α
  | .exn _ _ => .bad
  | r => r
def compT (ec ee : Env → Mem → Res D) (t : MT) (env0 : Env) (d : D) (M : Mem) : Res (Option D) := match asgT t d env0 with
  | some env' => (ec env' M).noX.bind fun b M1 => match b with
    | .bl true => (ee env' M1).noX.bind fun v M2 => .ok (some v) M2
    | .bl false => .ok none M1
    | _ => .bad
  | none => .bad
def compR (ec ee : Env → Mem → Res D) (t : MT) (env0 : Env) (its : Its) (M : Mem) : Res D :=
  if its.ds.length ≤ SL then (compL (compT ec ee t env0) (still its) its.ds M).bind fun r M3 => .ok (.lst r) M3 else .bad
def forT (eb : Env → Mem → Res Fl) (t : MT) (d : D) (env : Env) (M : Mem) : Res Fl := match asgT t d env with
  | some env' => eb env' M
  | none => .bad
/-- the turns of a for -/
def forL (f : D → Env → Mem → Res Fl) (ok : Mem → Bool) : List D → Env → Mem → Res Fl
  | [], env, M => if ok M then .ok (.nx env) M else .bad
  | d :: ds, env, M => if ok M then (f d env M).bind fun fl M1 => match fl with
    | .nx e => forL f ok ds e M1
    | .cnt e => forL f ok ds e M1
    | .brk e => .ok (.nx e) M1
    | .ret d => .ok (.ret d) M1 else .bad
/-- the turns of a while -/
def whlL (c : Env → Mem → Res D) (f : Env → Mem → Res Fl) : Nat → Env → Mem → Res Fl
  | 0, _, _ => .bad
  | n + 1, env, M => (c env M).bind fun b M1 => match b with
    | .bl true => (f env M1).bind fun fl M2 => match fl with
      | .nx e => whlL c f n e M2
      | .cnt e => whlL c f n e M2
      | .brk e => .ok (.nx e) M2
      | .ret d => .ok (.ret d) M2
    | .bl false => .ok (.nx env) M1
    | _ => .bad
/-- turned around -/
def revD (d : D) (M : Mem) : Res D := match lv M d with
  | some ds => .ok (.lst ds.reverse) M
  | none => .bad
def newD (d : D) (M : Mem) : Res D := match d with
  | .lst ds => .ok (.ref M.length) (M ++ [.lst ds])
  | .dic kvs => .ok (.ref M.length) (M ++ [.dic kvs])
  | _ => .bad
def putD (k v : D) (kvs : List (D × D)) : List (D × D) :=
  if (kvs.any fun p => decide (p.1 = k)) = true then kvs.map (fun p => if p.1 = k then (p.1, v) else p) else kvs ++ [(k, v)]
/-- o[k] = d -/
def setD (o k d : D) (M : Mem) : Res Unit := match o with
  | .ref n => match M[n]? with
    | some (.lst ds) => match k with
      | .int i => match ixN ds.length i with
        | some j => .ok () (M.set n (.lst (ds.set j d)))
        | none => .bad
      | _ => .bad
    | some (.dic kvs) => match keyD k with
      | some _ => if kvs.length < SL ∧ (kvs.all fun p => (keyD p.1).isSome) = true then .ok () (M.set n (.dic (putD k d kvs))) else .bad
      | none => .bad
    | _ => .bad
  | _ => .bad
/-- x += y, x -= y of ints -/
def augD (p : P2) (x y : D) (M : Mem) : Res D := match p, x, y with
  | .add, .int i, .int j => .ok (.int (i + j)) M
  | .sub, .int i, .int j => .ok (.int (i - j)) M
  | _, _, _ => .bad
def lstAt (a : D) (M : Mem) : Bool := match a with
  | .ref n => match M[n]? with
    | some (.lst _) => true
    | _ => false
  | _ => false
def appD (o d : D) (M : Mem) : Res Unit := match o with
  | .ref n => match M[n]? with
    | some (.lst ds) => if ds.length < SL then .ok () (M.set n (.lst (ds ++ [d]))) else .bad
    | _ => .bad
  | _ => .bad
def extD (o d : D) (M : Mem) : Res Unit := match o, d with
  | .ref n, .lst es => match M[n]? with
    | some (.lst ds) => if ds.length + es.length ≤ SL then .ok () (M.set n (.lst (ds ++ es))) else .bad
    | _ => .bad
  | _, _ => .bad
/-- a set made of things, told as their sorted list: it is only handed to sorted -/
def strsD : List D → Option (List Str)
  | [] => some []
  | .str x :: ds => (strsD ds).map (x :: ·)
  | _ => none
def leS (a b : Str) : Bool := decide (a.cps.toList ≤ b.cps.toList)
def sortS (xs : List Str) : List Str := xs.mergeSort leS
/-- the members of a set, as they are added -/
def setS (xs : List Str) : List Str := xs.foldl (fun acc z => if z ∈ acc then acc else z :: acc) []
def sortSet (ds : List D) (M : Mem) : Res D := match strsD ds with
  | some xs => if xs.length ≤ 4000 then .ok (.lst ((sortS (setS xs)).map D.str)) M else .bad
  | none => .bad
section
variable (G : Ce)
mutual
def evE : ME → Env → Mem → Res D
  | .var i, env, M => match env[i]? with
    | some (some d) => .ok d M
    | _ => .bad
  | .con d, _, M => .ok d M
  | .glo x, _, M => match G.gl x with
    | some d => .ok d M
    | none => .bad
  | .p1 p a, env, M => (evE a env M).bind fun d M1 => op1 p d M1
  | .p2 p a b, env, M => (evE a env M).bind fun d M1 => (evE b env M1).bind fun e M2 => op2 p d e M2
  | .chain p q a b c, env, M => (evE a env M).bind fun x M1 => (evE b env M1).bind fun y M2 => (op2 p x y M2).bind fun r M3 => match r with
    | .bl true => (evE c env M3).bind fun z M4 => op2 q y z M4
    | .bl false => .ok (.bl false) M3
    | _ => .bad
  | .and a b, env, M => (evE a env M).bind fun d M1 => match d with
    | .bl true => evE b env M1
    | .bl false => .ok (.bl false) M1
    | _ => .bad
  | .or a b, env, M => (evE a env M).bind fun d M1 => match d with
    | .bl false => evE b env M1
    | .bl true => .ok (.bl true) M1
    | _ => .bad
  | .not a, env, M => (evE a env M).bind fun d M1 => match d with
    | .bl b => .ok (.bl (!b)) M1
    | _ => .bad
  | .ife c a b, env, M => (evE c env M).bind fun d M1 => match d with
    | .bl true => evE a env M1
    | .bl false => evE b env M1
    | _ => .bad
  | .tup es, env, M => (evEs es env M).bind fun ds M1 => if ds.length ≤ SL then .ok (.tup ds) M1 else .bad
  | .lst es, env, M => (evEs es env M).bind fun ds M1 => if ds.length ≤ SL then .ok (.lst ds) M1 else .bad
  | .dic0, _, M => .ok (.dic []) M
  | .isi a ts, env, M => (evE a env M).bind fun d M1 => match isTys M1 d ts with
    | some b => .ok (.bl b) M1
    | none => .bad
  | .sli a lo hi, env, M => (evE a env M).bind fun d M1 => (evE lo env M1).bind fun l M2 => match bndOf lo.isNon l with
    | some lb => (evE hi env M2).bind fun h M3 => sliD d (some lb) (bndOf hi.isNon h) M3
    | none => .bad
  | .rev a, env, M => (evE a env M).bind fun d M1 => revD d M1
  | .call f es, env, M => (evEs es env M).bind fun ds M1 => G.call f ds M1
  | .comp k es t own c e, env, M => ((evEs es env M).bind fun ds M1 => itOf k ds M1).bind fun its M2 => compR (evE c) (evE e) t (wipeE env own) its M2
  | .scomp e, env, M => (evE e env M).bind fun d M1 => match d with
    | .lst ds => sortSet ds M1
    | _ => .bad
  | .new e, env, M => (evE e env M).bind fun d M1 => newD d M1
def evEs : MEs → Env → Mem → Res (List D)
  | .nil, _, M => .ok [] M
  | .cons e es, env, M => (evE e env M).bind fun d M1 => (evEs es env M1).bind fun ds M2 => .ok (d :: ds) M2
end
def toFl (r : Res Unit) (env : Env) : Res Fl := r.bind fun _ M => .ok (.nx env) M
mutual
def evS : MS → Env → Mem → Res Fl
  | .asg t e, env, M => (evE G e env M).bind fun d M1 => match asgT t d env with
    | some env' => .ok (.nx env') M1
    | none => .bad
  | .par is es, env, M => (evEs G es env M).bind fun ds M1 => match setMany is ds env with
    | some env' => .ok (.nx env') M1
    | none => .bad
  | .setI o i e, env, M => (evE G e env M).bind fun d M1 => (evE G o env M1).bind fun a M2 => (evE G i env M2).bind fun k M3 => toFl (setD a k d M3) env
  | .app o e, env, M => (evE G o env M).bind fun a M1 => if lstAt a M1 then (evE G e env M1).bind fun d M2 => toFl (appD a d M2) env else .bad
  | .ext o e, env, M => (evE G o env M).bind fun a M1 => if lstAt a M1 then (evE G e env M1).bind fun d M2 => toFl (extD a d M2) env else .bad
  | .aug i p e, env, M => match env[i]? with
    | some (some x) => (evE G e env M).bind fun y M1 => (augD p x y M1).bind fun d M2 => .ok (.nx (env.set i (some d))) M2
    | _ => .bad
  | .expr e, env, M => (evE G e env M).bind fun _ M1 => .ok (.nx env) M1
  | .ite c a b, env, M => (evE G c env M).bind fun d M1 => match d with
    | .bl true => evSs a env M1
    | .bl false => evSs b env M1
    | _ => .bad
  | .for_ k es t b, env, M => ((evEs G es env M).bind fun ds M1 => itOf k ds M1).bind fun its M2 => forL (forT (evSs b) t) (still its) its.ds env M2
  | .whl c b, env, M => whlL (evE G c) (evSs b) G.turns env M
  | .ret e, env, M => (evE G e env M).bind fun d M1 => .ok (.ret d) M1
  | .retN, _, M => .ok (.ret .non) M
  | .brk, env, M => .ok (.brk env) M
  | .cnt, env, M => .ok (.cnt env) M
  | .pas, env, M => .ok (.nx env) M
  | .raise c es, env, M => .bad
def evSs : MSs → Env → Mem → Res Fl
  | .nil, env, M => .ok (.nx env) M
  | .cons s ss, env, M => (evS s env M).bind fun fl M1 => match fl with
    | .nx env' => evSs ss env' M1
    | fl => .ok fl M1
end
end
/-- a def: its name, parameters and other slots, its body -/
structure Fn where
  name : Str
  np : Nat
  ns : Nat
  body : MSs
def bodyRes : Res Fl → Res D
  | .ok (.ret d) M => .ok d M
  | .ok (.nx _) M => .ok .non M
  | .ok _ _ => .bad
  | .exn x M => .exn x M
  | .bad => .bad
def findFn (x : Str) : List Fn → Option Fn
  | [] => none
  | f :: r => if f.name = x then some f else findFn x r
/-- a call, n deep -/
def callF (T : List Fn) (gl : Str → Option D) (W : Nat) : Nat → Str → List D → Mem → Res D
  | 0, _, _, _ => .bad
  | n + 1, x, ds, M => match findFn x T with
    | some f => if ds.length = f.np then finish M (bodyRes (evSs ⟨callF T gl W n, gl, W⟩ f.body (ds.map some ++ List.replicate (f.ns - f.np) none) M)) else .bad
    | none => .bad
end Mi
set_option Elab.async false
set_option linter.all false
set_option maxRecDepth 100000
set_option maxHeartbeats 0
/-! Mi3: the store lies in the abstract heap (Sim), how a step goes on (Ext), the readings of the small language. -/
namespace Mi
open PySem PySem.Spec PyProof.Rows L2

structure Sim (C : Cn) (φ X : List Addr) (M : Mem) (H : Hp) : Prop where
  len : φ.length = M.length
  nd : φ.Nodup
  xs : ∀ a ∈ X, a ∉ φ ∧ H a ≠ none
  obj : ∀ (n : Nat) (o : O) (a : Addr), M[n]? = some o → φ[n]? = some a → RO C φ X H a o
/-- from one state to a later one -/
structure Ext (φ : List Addr) (H : Hp) (φ' : List Addr) (H' : Hp) : Prop where
  pre : ∃ ψ, φ' = φ ++ ψ
  keep : ∀ a o, H a = some o → a ∉ φ → H' a = some o ∧ a ∉ φ'
section
variable {C : Cn} {φ φ' φ'' X : List Addr} {M M' : Mem} {H H' H'' : Hp}
theorem Ext.refl : Ext φ H φ H := ⟨⟨[], by simp⟩, fun _ _ h n => ⟨h, n⟩⟩
theorem Ext.trans (a : Ext φ H φ' H') (b : Ext φ' H' φ'' H'') : Ext φ H φ'' H'' := by
  obtain ⟨ψ, e⟩ := a.pre
  obtain ⟨ψ', e'⟩ := b.pre
  refine ⟨⟨ψ ++ ψ', by rw [e', e, List.append_assoc]⟩, fun x o h n => ?_⟩
  obtain ⟨h1, n1⟩ := a.keep x o h n
  exact b.keep x o h1 n1
theorem Ext.get (a : Ext φ H φ' H') {n : Nat} {x : Addr} (h : φ[n]? = some x) : φ'[n]? = some x := by
  obtain ⟨ψ, e⟩ := a.pre
  have hl : n < φ.length := (List.getElem?_eq_some_iff.mp h).1
  rw [e, List.getElem?_append_left hl, h]
theorem Ext.mo (a : Ext φ H φ' H') : Mo φ X H φ' X H' := ⟨fun x o h n nX => ⟨(a.keep x o h n).1, (a.keep x o h n).2, nX⟩, fun _ _ h => a.get h⟩
theorem R.ext {d : D} {v : V} (r : R C φ X H d v) (a : Ext φ H φ' H') : R C φ' X H' d v := R.mono a.mo r
theorem Rs.ext {d : List D} {v : List V} (r : Rs C φ X H d v) (a : Ext φ H φ' H') : Rs C φ' X H' d v := Rs.mono a.mo r
theorem Sim.fresh (s : Sim C φ X M H) {p : Addr} (h : H p = none) : p ∉ φ ∧ p ∉ X := by
  constructor
  · intro hp
    obtain ⟨n, hn⟩ := List.mem_iff_getElem?.mp hp
    have hl : n < M.length := by rw [← s.len]; exact (List.getElem?_eq_some_iff.mp hn).1
    exact (s.obj n _ p (List.getElem?_eq_getElem hl) hn).there h
  · intro hp
    exact (s.xs p hp).2 h
theorem Sim.at (s : Sim C φ X M H) {n : Nat} {o : O} (h : M[n]? = some o) : ∃ a, φ[n]? = some a ∧ RO C φ X H a o := by
  have hl : n < φ.length := by rw [s.len]; exact (List.getElem?_eq_some_iff.mp h).1
  exact ⟨φ[n], List.getElem?_eq_getElem hl, s.obj n o _ h (List.getElem?_eq_getElem hl)⟩
theorem Sim.idx (s : Sim C φ X M H) {n m : Nat} {a : Addr} (h : φ[n]? = some a) (h' : φ[m]? = some a) : n = m := by
  obtain ⟨l1, e1⟩ := List.getElem?_eq_some_iff.mp h
  obtain ⟨l2, e2⟩ := List.getElem?_eq_some_iff.mp h'
  exact (List.getElem_inj s.nd).mp (e1.trans e2.symm)
theorem mem_of_get {n : Nat} {a : Addr} (h : φ[n]? = some a) : a ∈ φ := List.mem_of_getElem? h
/-- a new object that nobody changes -/
theorem Mo.new {p : Addr} {o : HO} (h : H p = none) : Mo φ X H φ X (upd H p o) := ⟨fun a u e n nX => ⟨by rw [upd_ne (ne_of_none e h)]; exact e, n, nX⟩, fun _ _ e => e⟩
theorem Ext.new {p : Addr} {o : HO} (h : H p = none) : Ext φ H φ (upd H p o) := ⟨⟨[], by simp⟩, fun a u e n => ⟨by rw [upd_ne (ne_of_none e h)]; exact e, n⟩⟩
theorem Sim.new {p : Addr} {o : HO} (s : Sim C φ X M H) (h : H p = none) : Sim C φ X M (upd H p o) := by
  refine ⟨s.len, s.nd, fun a ha => ⟨(s.xs a ha).1, ?_⟩, fun n u a e1 e2 => ?_⟩
  · have hne : a ≠ p := fun z => (s.xs a ha).2 (by rw [z]; exact h)
    rw [upd_ne hne]
    exact (s.xs a ha).2
  · have hro := s.obj n u a e1 e2
    have hne : a ≠ p := fun z => hro.there (by rw [z]; exact h)
    exact RO.mono (Mo.new h) (upd_ne hne) hro
/-- a new object set apart -/
theorem Mo.newX {p : Addr} {o : HO} (h : H p = none) : Mo φ X H φ (p :: X) (upd H p o) := ⟨fun a u e n nX => by
  have hne := ne_of_none e h
  refine ⟨by rw [upd_ne hne]; exact e, n, fun z => ?_⟩
  rcases List.mem_cons.mp z with z | z
  · exact hne z
  · exact nX z, fun _ _ e => e⟩
theorem Sim.newX {p : Addr} {o : HO} (s : Sim C φ X M H) (h : H p = none) : Sim C φ (p :: X) M (upd H p o) := by
  obtain ⟨f1, f2⟩ := s.fresh h
  refine ⟨s.len, s.nd, fun a ha => ?_, fun n u a e1 e2 => ?_⟩
  · by_cases hne : a = p
    · subst hne
      exact ⟨f1, by rw [upd_same]; exact fun z => by cases z⟩
    · rw [upd_ne hne]
      rcases List.mem_cons.mp ha with z | z
      · exact absurd z hne
      · exact s.xs a z
  · have hro := s.obj n u a e1 e2
    have hne : a ≠ p := fun z => hro.there (by rw [z]; exact h)
    exact RO.mono (Mo.newX h) (upd_ne hne) hro
/-- what was set apart is frozen -/
theorem Mo.dropX {p : Addr} : Mo φ (p :: X) H φ X H := ⟨fun a u e n nX => ⟨e, n, fun z => nX (List.mem_cons_of_mem _ z)⟩, fun _ _ e => e⟩
theorem Sim.dropX {p : Addr} (s : Sim C φ (p :: X) M H) : Sim C φ X M H :=
  ⟨s.len, s.nd, fun a ha => s.xs a (List.mem_cons_of_mem _ ha), fun n u a e1 e2 => RO.mono Mo.dropX rfl (s.obj n u a e1 e2)⟩
/-- what was set apart comes into the store -/
theorem Mo.push {p : Addr} : Mo φ (p :: X) H (φ ++ [p]) X H := ⟨fun a u e n nX => by
  refine ⟨e, fun z => ?_, fun z => nX (List.mem_cons_of_mem _ z)⟩
  rcases List.mem_append.mp z with z | z
  · exact n z
  · exact nX (by simp at z; simp [z]), fun n a e => by
  rw [List.getElem?_append_left (List.getElem?_eq_some_iff.mp e).1]
  exact e⟩
theorem Sim.push {p : Addr} {o : O} (s : Sim C φ (p :: X) M H) (hp : p ∉ X) (ho : RO C (φ ++ [p]) X H p o) : Sim C (φ ++ [p]) X (M ++ [o]) H := by
  have hpφ : p ∉ φ := (s.xs p List.mem_cons_self).1
  refine ⟨by simp [s.len], List.nodup_append.mpr ⟨s.nd, by simp, fun a ha b hb => ?_⟩, fun a ha => ?_, fun n u a e1 e2 => ?_⟩
  · simp at hb
    rw [hb]
    exact fun z => hpφ (by rw [← z]; exact ha)
  · obtain ⟨h1, h2⟩ := s.xs a (List.mem_cons_of_mem _ ha)
    refine ⟨fun z => ?_, h2⟩
    rcases List.mem_append.mp z with z | z
    · exact h1 z
    · simp at z
      exact hp (by rw [← z]; exact ha)
  · by_cases hn : n < M.length
    · rw [List.getElem?_append_left hn] at e1
      rw [List.getElem?_append_left (by rw [s.len]; exact hn)] at e2
      exact RO.mono Mo.push rfl (s.obj n u a e1 e2)
    · have hl := (List.getElem?_eq_some_iff.mp e1).1
      simp at hl
      have hn' : n = M.length := by omega
      subst hn'
      simp at e1
      have e2' : (φ ++ [p])[φ.length]? = some a := by rw [s.len]; exact e2
      simp at e2'
      subst e1 e2'
      exact ho
theorem Ext.push {p : Addr} (h : H p = none) (e : Ext φ H φ' H') : Ext φ H (φ' ++ [p]) H' := by
  obtain ⟨ψ, z⟩ := e.pre
  refine ⟨⟨ψ ++ [p], by rw [z, List.append_assoc]⟩, fun a o e1 n => ?_⟩
  obtain ⟨k1, k2⟩ := e.keep a o e1 n
  refine ⟨k1, fun q => ?_⟩
  rcases List.mem_append.mp q with q | q
  · exact k2 q
  · simp at q
    exact ne_of_none e1 h q
/-- an object of the store is written -/
theorem Mo.write {a : Addr} {o : HO} (h : a ∈ φ) : Mo φ X H φ X (upd H a o) := ⟨fun b u e n nX => ⟨by rw [upd_ne fun z => n (by rw [z]; exact h)]; exact e, n, nX⟩, fun _ _ e => e⟩
theorem Ext.write {a : Addr} {o : HO} (h : a ∈ φ) : Ext φ H φ (upd H a o) := ⟨⟨[], by simp⟩, fun b u e n => ⟨by rw [upd_ne fun z => n (by rw [z]; exact h)]; exact e, n⟩⟩
theorem Sim.write {n : Nat} {a : Addr} {o : HO} {u : O} (s : Sim C φ X M H) (h : φ[n]? = some a) (ho : RO C φ X (upd H a o) a u) : Sim C φ X (M.set n u) (upd H a o) := by
  have ha : a ∈ φ := mem_of_get h
  refine ⟨by simp [s.len], s.nd, fun b hb => ⟨(s.xs b hb).1, ?_⟩, fun m x b e1 e2 => ?_⟩
  · rw [upd_ne fun z => (s.xs b hb).1 (by rw [z]; exact ha)]
    exact (s.xs b hb).2
  · by_cases hm : n = m
    · subst hm
      rw [h] at e2
      cases e2
      have hl := (List.getElem?_eq_some_iff.mp e1).1
      rw [List.length_set] at hl
      rw [List.getElem?_set_self hl] at e1
      cases e1
      exact ho
    · rw [List.getElem?_set_ne hm] at e1
      have hne : b ≠ a := fun z => hm (s.idx h (by rw [← z]; exact e2))
      exact RO.mono (Mo.write ha) (upd_ne hne) (s.obj m x b e1 e2)
/-- what is set apart is written -/
theorem Mo.writeX {a : Addr} {o : HO} (h : a ∈ X) : Mo φ X H φ X (upd H a o) := ⟨fun b u e n nX => ⟨by rw [upd_ne fun z => nX (by rw [z]; exact h)]; exact e, n, nX⟩, fun _ _ e => e⟩
theorem Sim.writeX {a : Addr} {o : HO} (s : Sim C φ X M H) (h : a ∈ X) : Sim C φ X M (upd H a o) := by
  refine ⟨s.len, s.nd, fun b hb => ⟨(s.xs b hb).1, ?_⟩, fun m x b e1 e2 => ?_⟩
  · by_cases hb' : b = a
    · rw [hb', upd_same]
      exact fun z => by cases z
    · rw [upd_ne hb']
      exact (s.xs b hb).2
  · have hb : b ≠ a := fun z => (s.xs a h).1 (by rw [← z]; exact mem_of_get e2)
    exact RO.mono (Mo.writeX h) (upd_ne hb) (s.obj m x b e1 e2)

/-! ### slots -/
structure RE (C : Cn) (φ X : List Addr) (H : Hp) (env : Env) (σ : L2.St) : Prop where
  len : env.length = σ.length
  at_ : ∀ (i : Nat) (d : D), env[i]? = some (some d) → ∃ v, σ[i]? = some (some v) ∧ R C φ X H d v
variable {env : Env} {σ : L2.St}
theorem RE.mono {X' : List Addr} (r : RE C φ X H env σ) (m : Mo φ X H φ' X' H') : RE C φ' X' H' env σ :=
  ⟨r.len, fun i d e => let ⟨v, h1, h2⟩ := r.at_ i d e; ⟨v, h1, h2.mono m⟩⟩
theorem RE.ext (r : RE C φ X H env σ) (a : Ext φ H φ' H') : RE C φ' X H' env σ := r.mono a.mo
theorem RE.set (r : RE C φ X H env σ) {i : Nat} {d : D} {v : V} (q : R C φ X H d v) : RE C φ X H (env.set i (some d)) (σ.set i (some v)) := by
  refine ⟨by simp [r.len], fun j e h => ?_⟩
  by_cases hj : i = j
  · subst hj
    have hl := (List.getElem?_eq_some_iff.mp h).1
    rw [List.length_set] at hl
    rw [List.getElem?_set_self hl] at h
    cases h
    exact ⟨v, List.getElem?_set_self (by rw [← r.len]; exact hl), q⟩
  · rw [List.getElem?_set_ne hj] at h ⊢
    exact r.at_ j e h
theorem RE.wipe (r : RE C φ X H env σ) : ∀ vs : List Nat, RE C φ X H (wipeE env vs) (wipe σ vs)
  | [] => r
  | v :: vs => by
    have ih := r.wipe vs
    refine ⟨by simp [wipeE, L2.wipe, ih.len], fun j e h => ?_⟩
    unfold wipeE at h
    unfold L2.wipe
    by_cases hj : v = j
    · subst hj
      have hl := (List.getElem?_eq_some_iff.mp h).1
      rw [List.length_set] at hl
      rw [List.getElem?_set_self hl] at h
      cases h
    · rw [List.getElem?_set_ne hj] at h ⊢
      exact ih.at_ j e h

/-! ### readings -/
/-- where a body began, and the exception it ends in, if it does -/
structure Bs where
  φ : List Addr
  H : Hp
  out : Option (Ex × Mem)
/-- a new object that nobody else knows -/
def Fr (C : Cn) (φ X : List Addr) (M : Mem) (H H' : Hp) (d : D) (v : V) : Prop := match d with
  | .lst ds => ∃ (p : Addr) (vs : List V), v = .ref p ∧ H p = none ∧ p ∉ X ∧ Sim C φ (p :: X) M H' ∧ H' p = some (.lst vs) ∧ Rs C φ (p :: X) H' ds vs
  | .dic kvs => ∃ (p : Addr) (ks : List Key) (vs : List V), v = .ref p ∧ H p = none ∧ p ∉ X ∧ Sim C φ (p :: X) M H' ∧ H' p = some (.dK (ks.zip vs)) ∧ ks.length = vs.length ∧ kvs.map (fun p => keyD p.1) = ks.map some ∧ Rs C φ (p :: X) H' (kvs.map (·.2)) vs
  | _ => True
/-- what is wanted of a value -/
def Post (C : Cn) (X : List Addr) (B : Bs) (fr : Bool) (φ : List Addr) (H : Hp) (Q : VK) : Res D → Prop
  | .ok d M' => ∀ φ' H' v, Sim C φ' X M' H' → Ext φ H φ' H' → R C φ' X H' d v → (fr = true → Fr C φ' X M' H H' d v) → Q v H'
  | .exn x M' => B.out = some (x, M')
  | .bad => False
def PostS (C : Cn) (X : List Addr) (B : Bs) (φ : List Addr) (H : Hp) (Q : List V → Hp → Prop) : Res (List D) → Prop
  | .ok ds M' => ∀ φ' H' vs, Sim C φ' X M' H' → Ext φ H φ' H' → Rs C φ' X H' ds vs → Q vs H'
  | .exn x M' => B.out = some (x, M')
  | .bad => False
structure Now (C : Cn) (X : List Addr) (B : Bs) (φ : List Addr) (M : Mem) (env : Env) (σ : L2.St) (H : Hp) : Prop where
  sim : Sim C φ X M H
  env : RE C φ X H env σ
  ext : Ext B.φ B.H φ H
theorem Now.go {B : Bs} (n : Now C X B φ M env σ H) (s : Sim C φ' X M' H') (e : Ext φ H φ' H') : Now C X B φ' M' env σ H' := ⟨s, n.env.ext e, n.ext.trans e⟩
/-- the reading of a term by what it says -/
def tM (C : Cn) (B : Bs) (fr : Bool) (r : Env → Mem → Res D) : TE := fun σ H Q => ∃ φ X M env, Now C X B φ M env σ H ∧ Post C X B fr φ H Q (r env M)
def tMs (C : Cn) (B : Bs) (r : Env → Mem → Res (List D)) : TA := fun σ H Q => ∃ φ X M env, Now C X B φ M env σ H ∧ PostS C X B φ H Q (r env M)
/-- as a test -/
def tMb (C : Cn) (B : Bs) (r : Env → Mem → Res D) : TT := fun σ H Q => ∃ φ X M env, Now C X B φ M env σ H ∧ (match r env M with
  | .ok d M' => ∃ b, d = .bl b ∧ ∀ φ' H', Sim C φ' X M' H' → Ext φ H φ' H' → Q b H'
  | .exn x M' => B.out = some (x, M')
  | .bad => False)
theorem tM_weak {B : Bs} {r : Env → Mem → Res D} {Q : VK} (h : tM C B false r σ H Q) : tM C B true r σ H Q := by
  obtain ⟨φ, X, M, env, n, h⟩ := h
  refine ⟨φ, X, M, env, n, ?_⟩
  cases e : r env M with
  | ok d M' => rw [e] at h; exact fun φ' H' v s x q _ => h φ' H' v s x q (fun z => by cases z)
  | exn x M' => rw [e] at h; exact h
  | bad => rw [e] at h; exact h
theorem _root_.L2.PE.imp {X : Cx} {e : Expr} {t u : TE} (h : PE X e t) (k : ∀ σ H Q, u σ H Q → t σ H Q) : PE X e u := ⟨fun pins s σ H Q I q => h.run pins s σ H Q I (k σ H Q q)⟩
theorem _root_.L2.PT.imp {X : Cx} {e : Expr} {t u : TT} (h : PT X e t) (k : ∀ σ H Q, u σ H Q → t σ H Q) : PT X e u := ⟨fun pins s σ H Q I q => h.run pins s σ H Q I (k σ H Q q)⟩
theorem _root_.L2.PW.imp {X : Cx} {e : Expr} {t u : TT} (h : PW X e t) (k : ∀ σ H Q, u σ H Q → t σ H Q) : PW X e u := ⟨fun w pins s σ H Q I q => h.run w pins s σ H Q I (k σ H Q q)⟩
theorem _root_.L2.PA.imp {X : Cx} {e : List Expr} {t u : TA} (h : PA X e t) (k : ∀ σ H Q, u σ H Q → t σ H Q) : PA X e u := ⟨fun p pins s σ H Q I q => h.run p pins s σ H Q I (k σ H Q q)⟩
theorem _root_.L2.PS.imp {X : Cx} {e : Stmt} {t u : TS} (h : PS X e t) (k : ∀ D σ H, u D σ H → t D σ H) : PS X e u := ⟨fun pins s σ H D I q => h.run pins s σ H D I (k D σ H q)⟩
theorem _root_.L2.PSs.imp {X : Cx} {e : List Stmt} {t u : TS} (h : PSs X e t) (k : ∀ D σ H, u D σ H → t D σ H) : PSs X e u := ⟨fun pins s σ H D I q => h.run pins s σ H D I (k D σ H q)⟩
end
end Mi
set_option Elab.async false
set_option linter.all false
set_option maxRecDepth 100000
set_option maxHeartbeats 0
/-! Mi4: the operations of the evaluator are those of the model: by values. -/
namespace Mi
open PySem PySem.Spec PyProof.Rows L2

abbrev cn (X : Cx) : Cn := ⟨X.K, X.w, X.mg⟩
/-- a two-place operation, by what it says of data -/
def rD2 (C : Cn) (B : Bs) (fr : Bool) (f : D → D → Mem → Res D) : R2 := fun x y H Q => ∃ φ XX M a b, Sim C φ XX M H ∧ R C φ XX H a x ∧ R C φ XX H b y ∧ Post C XX B fr φ H Q (f a b M)
section
variable {C : Cn} {φ X XX : List Addr} {H : Hp} {M : Mem} {B : Bs} {fr : Bool} {Q : VK} {d : D} {v : V}
/-- nothing has changed -/
theorem Post.same (s : Sim C φ X M H) (r : R C φ X H d v) (hf : fr = true → Fr C φ X M H H d v) (p : Post C X B fr φ H Q (.ok d M)) : Q v H := p φ H v s Ext.refl r hf
theorem nofr_int {i : Int} {v : V} {H' : Hp} : Fr C φ X M H H' (.int i) v := trivial
/-- a new tuple -/
theorem Post.newTup {ds : List D} {vs : List V} (s : Sim C φ X M H) (r : Rs C φ X H ds vs) (p : Post C X B fr φ H Q (.ok (.tup ds) M)) : ∀ q, H q = none → Q (.ref q) (upd H q (.tup vs)) := fun q hq => by
  obtain ⟨f1, f2⟩ := s.fresh hq
  exact p φ _ _ (s.new hq) (Ext.new hq) (.tup (.inl ⟨upd_same, f1, f2⟩) (r.mono (Mo.new hq))) fun _ => trivial
/-- a new list -/
theorem Post.newLst {ds : List D} {vs : List V} (s : Sim C φ X M H) (r : Rs C φ X H ds vs) (p : Post C X B fr φ H Q (.ok (.lst ds) M)) : ∀ q, H q = none → Q (.ref q) (upd H q (.lst vs)) := fun q hq => by
  obtain ⟨f1, f2⟩ := s.fresh hq
  exact p φ _ _ (s.new hq) (Ext.new hq) (.lst ⟨upd_same, f1, f2⟩ (r.mono (Mo.new hq))) fun _ => ⟨q, vs, rfl, hq, f2, s.newX hq, upd_same, r.mono (Mo.newX hq)⟩
theorem Post.newDic (s : Sim C φ X M H) (p : Post C X B fr φ H Q (.ok (.dic []) M)) : ∀ q, H q = none → Q (.ref q) (upd H q (.dK [])) := fun q hq => by
  obtain ⟨f1, f2⟩ := s.fresh hq
  exact p φ _ _ (s.new hq) (Ext.new hq) (.dic (ks := []) (vs := []) ⟨upd_same, f1, f2, rfl⟩ rfl .nil) fun _ => ⟨q, [], [], rfl, hq, f2, s.newX hq, upd_same, rfl, rfl, .nil⟩
theorem FzT.sq {a : Addr} {vs : List V} (h : FzT C φ X H a vs) : SqT C.K H a vs := by
  rcases h with ⟨h, _⟩ | h
  · exact .inl (.inl h)
  · exact .inr h
theorem FzL.sq {K : PySem.W.Frag} {a : Addr} {vs : List V} (h : FzL φ X H a vs) : SqL K H a vs := .inl (.inl h.1)
theorem FzS.sq {a : Addr} {vs : List V} (h : FzS C φ X H a vs) : SqL C.K H a vs := by
  rcases h with ⟨h, _⟩ | h
  · exact .inl h
  · exact .inr h
/-- a list, frozen or in the store: where it lies -/
theorem lview_at {ds : List D} (s : Sim C φ X M H) (r : R C φ X H d v) (h : lview M d = some ds) : ∃ a vs, v = .ref a ∧ H a = some (.lst vs) ∧ Rs C φ X H ds vs := by
  cases r with
  | lst h' rs => cases h; exact ⟨_, _, rfl, h'.1, rs⟩
  | @ref n a h' =>
    simp only [lview] at h
    split at h
    · rename_i hn
      cases h
      obtain ⟨vs, h1, h2⟩ := s.obj n _ a hn h'
      exact ⟨a, vs, rfl, h1, h2⟩
    · cases h
  | _ => cases h
/-- what can be viewed: a tuple, or a list -/
theorem view_at {ds : List D} (s : Sim C φ X M H) (r : R C φ X H d v) (h : view M d = some ds) : ∃ a vs, v = .ref a ∧ (SqT C.K H a vs ∨ SqL C.K H a vs) ∧ Rs C φ X H ds vs := by
  cases r with
  | tup h' rs => cases h; exact ⟨_, _, rfl, .inl h'.sq, rs⟩
  | lst h' rs => cases h; exact ⟨_, _, rfl, .inr h'.sq, rs⟩
  | scr h' rs => cases h; exact ⟨_, _, rfl, .inr h'.sq, rs⟩
  | @ref n a h' =>
    simp only [view] at h
    split at h
    · rename_i hn
      cases h
      obtain ⟨vs, h1, h2⟩ := s.obj n _ a hn h'
      exact ⟨a, vs, rfl, .inr (SqL.of h1), h2⟩
    · cases h
  | _ => cases h

/-! ### data by the library's words -/
mutual
theorem R.dp : ∀ {d : D} {v : V}, R C φ X H d v → d.py.canLay0 = true → Dp C.K H v d.py
  | _, _, .non, _ => .non
  | _, _, .bl b, _ => .bl b
  | _, _, .int i, _ => .int i
  | _, _, .str x, _ => .str x
  | _, _, .tup h r, hc => .tup h.sq (Rs.dp r (by simpa [D.py, PyData.canLay0] using hc))
  | _, _, .lst h r, hc => .lst h.sq (Rs.dp r (by simpa [D.py, PyData.canLay0] using hc))
  | _, _, .scr _ _, hc => by simp [D.py, PyData.canLay0] at hc
  | _, _, .dic _ _ _, hc => by simp [D.py, PyData.canLay0] at hc
  | _, _, .dix _ _ _ _, hc => by simp [D.py, PyData.canLay0] at hc
  | _, _, .tab _ _, hc => by simp [D.py, PyData.canLay0] at hc
  | _, _, .ref _, hc => by simp [D.py, PyData.canLay0] at hc
  | _, _, .glo _ _ _, hc => by simp [D.py, PyData.canLay0] at hc
theorem Rs.dp : ∀ {ds : List D} {vs : List V}, Rs C φ X H ds vs → PyData.canLayAll0 (D.pys ds) = true → DpAll C.K H vs (D.pys ds)
  | _, _, .nil, _ => .nil
  | _, _, .cons r rs, hc => by
    have h := Bool.and_eq_true_iff.mp (show (_ && _) = true from hc)
    exact .cons (R.dp r h.1) (Rs.dp rs h.2)
end
theorem shaped_lay {d : PyData} (h : SeqAt.shaped d = true) : d.canLay0 = true := SeqAt.canLay_of_shaped h
theorem R.dpD (s : Sim C φ X M H) (r : R C φ X H d v) (h : SeqAt.shaped (deref M d).py = true) : Dp C.K H v (deref M d).py := by
  cases r with
  | @ref n a h' =>
    unfold deref at h ⊢
    split at h
    · rename_i e
      split at h
      · rename_i ds hn
        cases e
        obtain ⟨vs, h1, h2⟩ := s.obj _ _ a hn h'
        exact .lst (SqL.of h1) (Rs.dp h2 (by simpa [D.py, PyData.canLay0] using shaped_lay h))
      · rename_i e2
        have := shaped_lay h
        simp [D.py, PyData.canLay0] at this
    · rename_i e
      exact absurd rfl (e n)
  | non => exact .non
  | bl b => exact .bl b
  | int i => exact .int i
  | str x => exact .str x
  | tup h' rs => exact R.dp (.tup h' rs) (shaped_lay h)
  | lst h' rs => exact R.dp (.lst h' rs) (shaped_lay h)
  | scr h' rs => have := shaped_lay h; simp [deref, D.py, PyData.canLay0] at this
  | dic h' hk rs => have := shaped_lay h; simp [deref, D.py, PyData.canLay0] at this
  | dix ne h' hk rs => have := shaped_lay h; simp [deref, D.py, PyData.canLay0] at this
  | tab h' rs => have := shaped_lay h; simp [deref, D.py, PyData.canLay0] at this
  | glo h' rs ok => have := shaped_lay h; simp [deref, D.py, PyData.canLay0] at this
end

section
variable {X : Cx} {XX : List Addr} {B : Bs} {fr : Bool}
/-! ### + -/
theorem op_addD : OpR X (binaryOp .Add) (rD2 (cn X) B fr addD) := by
  rintro pins s σ H x y v u Q I rx ry ⟨φ, XX, M, a, b, S, ra, rb, p⟩
  have lists : ∀ {xs ys : List D}, lview M a = some xs → lview M b = some ys → Post (cn X) XX B fr φ H Q (if xs.length + ys.length ≤ SL then .ok (.lst (xs ++ ys)) M else .bad) →
      wpAny (model X.prog X.w) X.A (binaryOp .Add v u) (EP X pins σ Q) X.xe s := by
    intro xs ys h1 h2 p
    obtain ⟨l, vs, rfl, hl, r1⟩ := lview_at S ra h1
    obtain ⟨m, us, rfl, hm, r2⟩ := lview_at S rb h2
    split at p
    · rename_i hz
      exact op_cat pins s σ H _ _ v u Q I rx ry ⟨l, m, vs, us, rfl, rfl, hl, hm, by rw [← r1.length, ← r2.length]; exact hz, p.newLst S (r1.append r2)⟩
    · exact p.elim
  unfold addD at p
  split at p
  · cases ra; cases rb
    exact op_add pins s σ H _ _ v u Q I rx ry ⟨_, _, rfl, rfl, p.same S (.int _) fun _ => trivial⟩
  · cases ra; cases rb
    split at p
    · rename_i hz
      exact op_add_str pins s σ H _ _ v u Q I rx ry ⟨_, _, rfl, rfl, hz, p.same S (.str _) fun _ => trivial⟩
    · exact p.elim
  · cases ra with
    | tup h1 r1 =>
      cases rb with
      | tup h2 r2 =>
        split at p
        · rename_i hz
          refine op_catA pins s σ H _ _ v u Q I rx ry ⟨_, _, _, _, rfl, rfl, h1.sq, h2.sq, by rw [← r1.length, ← r2.length]; exact hz, fun e => ?_, fun _ e => ?_, fun _ _ => p.newTup S (r1.append r2)⟩
          · subst e
            cases r1
            exact p.same S (.tup h2 r2) fun _ => trivial
          · subst e
            cases r2
            rw [List.append_nil] at p
            exact p.same S (.tup h1 r1) fun _ => trivial
        · exact p.elim
  · split at p
    · rename_i h1 h2
      exact lists h1 h2 p
    · exact p.elim
/-! ### -, *, //, %, ** -/
theorem op_subD : OpR X (binaryOp .Sub) (rD2 (cn X) B fr subD) := by
  rintro pins s σ H x y v u Q I rx ry ⟨φ, XX, M, a, b, S, ra, rb, p⟩
  unfold subD at p
  split at p
  · cases ra; cases rb
    exact op_sub pins s σ H _ _ v u Q I rx ry ⟨_, _, rfl, rfl, p.same S (.int _) fun _ => trivial⟩
  · exact p.elim
theorem mulOk_of {i j : Int} (h : mulOk i j = true) : CMul i j := by
  simp only [mulOk, Bool.or_eq_true, Bool.and_eq_true, decide_eq_true_eq] at h
  exact h
theorem op_fdivD : OpR X (binaryOp .FloorDiv) (rD2 (cn X) B fr fdivD) := by
  rintro pins s σ H x y v u Q I rx ry ⟨φ, XX, M, a, b, S, ra, rb, p⟩
  unfold fdivD at p
  split at p
  · cases ra; cases rb
    split at p
    · rename_i hz
      exact op_fdiv pins s σ H _ _ v u Q I rx ry ⟨_, _, rfl, rfl, hz, p.same S (.int _) fun _ => trivial⟩
    · exact p.elim
  · exact p.elim
theorem op_modD : OpR X (binaryOp .Mod) (rD2 (cn X) B fr modD) := by
  rintro pins s σ H x y v u Q I rx ry ⟨φ, XX, M, a, b, S, ra, rb, p⟩
  unfold modD at p
  split at p
  · cases ra; cases rb
    split at p
    · rename_i hz
      exact op_mod pins s σ H _ _ v u Q I rx ry ⟨_, _, rfl, rfl, hz, p.same S (.int _) fun _ => trivial⟩
    · exact p.elim
  · exact p.elim
theorem op_powD : OpR X (binaryOp .Pow) (rD2 (cn X) B fr powD) := by
  rintro pins s σ H x y v u Q I rx ry ⟨φ, XX, M, a, b, S, ra, rb, p⟩
  unfold powD at p
  split at p
  · cases ra; cases rb
    split at p
    · rename_i hz
      exact op_pow pins s σ H _ _ v u Q I rx ry ⟨_, _, rfl, rfl, hz, p.same S (.int _) fun _ => trivial⟩
    · exact p.elim
  · exact p.elim
/-! ### order -/
theorem op_cmpD {op : CmpOp} {f : Int → Int → Bool} {g : List Nat → List Nat → Bool} (h1 : OpR X (compareOp op) (rI0 fun i j => .bl (f i j)))
    (h2 : OpR X (compareOp op) (fun x y H Q => ∃ i j, x = .str i ∧ y = .str j ∧ Q (.bl (g i.cps.toList j.cps.toList)) H)) : OpR X (compareOp op) (rD2 (cn X) B fr (cmpD f g)) := by
  rintro pins s σ H x y v u Q I rx ry ⟨φ, XX, M, a, b, S, ra, rb, p⟩
  unfold cmpD at p
  split at p
  · cases ra; cases rb
    exact h1 pins s σ H _ _ v u Q I rx ry ⟨_, _, rfl, rfl, p.same S (.bl _) fun _ => trivial⟩
  · cases ra; cases rb
    exact h2 pins s σ H _ _ v u Q I rx ry ⟨_, _, rfl, rfl, p.same S (.bl _) fun _ => trivial⟩
  · exact p.elim
theorem op_ltD : OpR X (compareOp .Lt) (rD2 (cn X) B fr ltD) := op_cmpD op_lt op_lt_str
theorem op_leD : OpR X (compareOp .LtE) (rD2 (cn X) B fr leD) := op_cmpD op_le op_le_str
theorem op_gtD : OpR X (compareOp .Gt) (rD2 (cn X) B fr gtD) := op_cmpD op_gt op_gt_str
theorem op_geD : OpR X (compareOp .GtE) (rD2 (cn X) B fr geD) := op_cmpD op_ge op_ge_str
/-! ### == -/
theorem flatEq_ok {C : Cn} {φ : List Addr} {H : Hp} {a b : D} {x y : V} {r : Bool} (ra : R C φ XX H a x) (rb : R C φ XX H b y) (h : flatEq a b = some r) : scal x y = true ∧ r = decide (x = y) := by
  cases ra <;> cases rb <;> simp [flatEq] at h <;> subst h <;> simp [scal]
theorem eqD_ok {φ : List Addr} {M : Mem} {H : Hp} {a b : D} {x y : V} {r : Bool} (S : Sim (cn X) φ XX M H) (ra : R (cn X) φ XX H a x) (rb : R (cn X) φ XX H b y) (h : eqD M a b = some r) :
    (scal x y = true ∧ r = decide (x = y)) ∨ ∃ d e, Dp X.K H x d ∧ Dp X.K H y e ∧ SeqAt.shaped d = true ∧ SeqAt.shaped e = true ∧ r = PyData.eqv d e := by
  unfold eqD at h
  split at h
  · rename_i q
    cases h
    exact .inl (flatEq_ok ra rb q)
  · split at h
    · rename_i q
      cases h
      obtain ⟨q1, q2⟩ := Bool.and_eq_true_iff.mp q
      exact .inr ⟨_, _, ra.dpD S q1, rb.dpD S q2, q1, q2, rfl⟩
    · cases h
theorem op_eqOp (hu : X.A.units + 64 < cLine) : OpR X (compareOp .Eq) (rD2 (cn X) B fr (eqOp false)) := by
  rintro pins s σ H x y v u Q I rx ry ⟨φ, XX, M, a, b, S, ra, rb, p⟩
  unfold eqOp at p
  split at p
  · rename_i r q
    have z : Q (.bl r) H := by
      have e : (r != false) = r := by cases r <;> rfl
      rw [e] at p
      exact p.same S (.bl _) fun _ => trivial
    rcases eqD_ok S ra rb q with ⟨h1, h2⟩ | ⟨d, e, h1, h2, h3, h4, h5⟩
    · exact op_eq pins s σ H x y v u Q I rx ry ⟨h1, by rw [← h2]; exact z⟩
    · exact op_eqD hu pins s σ H x y v u Q I rx ry ⟨d, e, h1, h2, h3, h4, by rw [← h5]; exact z⟩
  · exact p.elim
theorem op_neOp (hu : X.A.units + 64 < cLine) : OpR X (compareOp .NotEq) (rD2 (cn X) B fr (eqOp true)) := by
  rintro pins s σ H x y v u Q I rx ry ⟨φ, XX, M, a, b, S, ra, rb, p⟩
  unfold eqOp at p
  split at p
  · rename_i r q
    have z : Q (.bl (!r)) H := by
      have e : (r != true) = !r := by cases r <;> rfl
      rw [e] at p
      exact p.same S (.bl _) fun _ => trivial
    rcases eqD_ok S ra rb q with ⟨h1, h2⟩ | ⟨d, e, h1, h2, h3, h4, h5⟩
    · exact op_ne pins s σ H x y v u Q I rx ry ⟨h1, by rw [← h2]; exact z⟩
    · exact op_neD hu pins s σ H x y v u Q I rx ry ⟨d, e, h1, h2, h3, h4, by rw [← h5]; exact z⟩
  · exact p.elim
/-! ### is -/
theorem op_isD : OpR X (compareOp .Is) (rD2 (cn X) B fr (isOp false)) := by
  rintro pins s σ H x y v u Q I rx ry ⟨φ, XX, M, a, b, S, ra, rb, p⟩
  unfold isOp at p
  split at p
  · rename_i r q
    have z : Q (.bl r) H := by
      have e : (r != false) = r := by cases r <;> rfl
      rw [e] at p
      exact p.same S (.bl _) fun _ => trivial
    unfold isB at q
    split at q
    · cases q
      cases rb
      refine op_isN pins s σ H _ _ v u Q I rx ry ⟨rfl, ?_⟩
      have e : decide (x = V.non) = decide (a = D.non) := by
        cases ra <;> first
          | (simp; done)
          | (rename_i ok; obtain ⟨a, rfl⟩ := ok; simp)
      rw [e]
      exact z
    · rename_i c bb
      cases rb
      cases q
      cases ra
      exact op_isBl pins s σ H _ _ v u Q I rx ry ⟨c, bb, rfl, rfl, z⟩
    · cases q
  · exact p.elim
theorem op_isnotD : OpR X (compareOp .IsNot) (rD2 (cn X) B fr (isOp true)) := by
  rintro pins s σ H x y v u Q I rx ry ⟨φ, XX, M, a, b, S, ra, rb, p⟩
  unfold isOp at p
  split at p
  · rename_i r q
    have z : Q (.bl (!r)) H := by
      have e : (r != true) = !r := by cases r <;> rfl
      rw [e] at p
      exact p.same S (.bl _) fun _ => trivial
    unfold isB at q
    split at q
    · cases q
      cases rb
      refine op_notN pins s σ H _ _ v u Q I rx ry ⟨rfl, ?_⟩
      have e : decide (x = V.non) = decide (a = D.non) := by
        cases ra <;> first
          | (simp; done)
          | (rename_i ok; obtain ⟨a, rfl⟩ := ok; simp)
      rw [e]
      exact z
    · rename_i c bb
      cases rb
      cases q
      cases ra
      exact op_notBl pins s σ H _ _ v u Q I rx ry ⟨c, bb, rfl, rfl, z⟩
    · cases q
  · exact p.elim
end
end Mi
set_option Elab.async false
set_option linter.all false
set_option maxRecDepth 100000
set_option maxHeartbeats 0
/-! Mi5: more two-place operations: *, in, items, min, max. -/
namespace Mi
open PySem PySem.Spec PyProof.Rows L2
section
variable {C : Cn} {φ X XX : List Addr} {H : Hp} {M : Mem} {B : Bs} {fr : Bool} {Q : VK} {d : D} {v : V}
theorem Rs.rep {ds : List D} {vs : List V} (r : Rs C φ X H ds vs) : ∀ n : Nat, Rs C φ X H (List.replicate n ds).flatten (List.replicate n vs).flatten
  | 0 => .nil
  | n + 1 => by
    rw [List.replicate_succ, List.replicate_succ, List.flatten_cons, List.flatten_cons]
    exact r.append (Rs.rep r n)
theorem Rs.atI {ds : List D} {vs : List V} {i : Int} (r : Rs C φ X H ds vs) (h : L2.atI ds i = some d) : ∃ v, L2.atI vs i = some v ∧ R C φ X H d v := by
  unfold L2.atI at h ⊢
  rw [← r.length]
  obtain ⟨j, h1, h2⟩ := Option.bind_eq_some_iff.mp h
  obtain ⟨v, h3, h4⟩ := r.get h2
  exact ⟨v, by rw [h1]; exact h3, h4⟩
/-! ### dicts by keys -/
theorem keyD_inj {a b : D} {k : Key} (ha : keyD a = some k) (hb : keyD b = some k) : a = b := by
  cases a <;> simp [keyD] at ha <;> cases b <;> simp [keyD] at hb <;> subst ha <;> cases hb <;> rfl
theorem kV_of {k : D} {y : V} {j : Key} (r : R C φ X H k y) (h : keyD k = some j) : y = kV j := by
  cases r <;> simp [keyD] at h <;> subst h <;> rfl
/-- what a dict has at a key -/
theorem look_at {k : D} {j : Key} (hj : keyD k = some j) : ∀ {kvs : List (D × D)} {ks : List Key} {vs : List V}, kvs.map (fun p => keyD p.1) = ks.map some → Rs C φ X H (kvs.map (·.2)) vs →
    (match lookD k kvs with
      | some d => ∃ v, valV (ks.zip vs) j = some v ∧ R C φ X H d v
      | none => valV (ks.zip vs) j = none)
  | [], ks, vs, hk, r => by
    cases ks with
    | nil => rfl
    | cons _ _ => simp at hk
  | (a, d) :: kvs, ks, vs, hk, r => by
    cases ks with
    | nil => simp at hk
    | cons i ks =>
      cases r with
      | @cons _ _ v vs r rs =>
        simp only [List.map_cons, List.cons.injEq] at hk
        have ih := look_at hj hk.2 rs
        rw [List.zip_cons_cons]
        unfold lookD
        by_cases e : a = k
        · rw [if_pos e]
          have ei : i = j := by
            have h1 := hk.1
            rw [e, hj] at h1
            exact (Option.some.inj h1).symm
          exact ⟨v, valV_pos ei, r⟩
        · rw [if_neg e]
          have ei : ¬ i = j := fun z => e (keyD_inj (by rw [← z]; exact hk.1) hj)
          rw [valV_neg ei]
          exact ih
theorem keys_not_t {kvs : List (D × D)} {ks : List (List Key)} (h1 : (kvs.all fun p => (keyD p.1).isSome) = true) (h2 : kvs.map (fun p => keyT p.1) = ks.map some) : kvs = [] := by
  cases kvs with
  | nil => rfl
  | cons p r =>
    cases ks with
    | nil => simp at h2
    | cons k ks =>
      simp only [List.map_cons, List.cons.injEq] at h2
      rw [List.all_cons, Bool.and_eq_true] at h1
      obtain ⟨a, b⟩ := p
      cases a <;> simp [keyD] at h1 <;> simp [keyT] at h2
/-- where a dict lies: tracked, or in the written part -/
theorem dview_at {kvs : List (D × D)} (s : Sim C φ X M H) (r : R C φ X H d v) (h : dview M d = some kvs) :
    ∃ a, v = .ref a ∧ ∃ (ks : List Key) (vs : List V), H a = some (.dK (ks.zip vs)) ∧ kvs.map (fun p => keyD p.1) = ks.map some ∧ Rs C φ X H (kvs.map (·.2)) vs := by
  cases r with
  | dic h' hk rs =>
    simp only [dview] at h
    split at h <;> cases h
    exact ⟨_, rfl, _, _, h'.1, hk, rs⟩
  | dix ne h' hk rs =>
    simp only [dview] at h
    split at h <;> cases h
    rename_i h1
    exact absurd (keys_not_t h1 hk) ne
  | @ref n a h' =>
    simp only [dview] at h
    split at h
    · rename_i hn
      split at h <;> cases h
      rename_i h1
      rcases s.obj n _ a hn h' with ⟨ks, vs, k1, _, k2, k3⟩ | ⟨ks, vs, k0, k1, _, k2, k3⟩
      · exact ⟨a, rfl, ks, vs, k1, k2, k3⟩
      · exact absurd (keys_not_t h1 k2) k0
    · cases h
  | _ => cases h
/-- a written dict at a text -/
theorem tab_at (z : Str) : ∀ {ks : List Str} {ds : List D} {vs : List V}, Rs C φ X H ds vs →
    (match (ks.zip ds).lookup z with
      | some d => ∃ v, (ks.zip vs).lookup z = some v ∧ R C φ X H d v
      | none => (ks.zip vs).lookup z = none)
  | [], _, _, _ => by simp
  | _ :: _, [], _, r => by cases r; simp
  | x :: ks, d :: ds, _, r => by
    cases r with
    | @cons _ _ v vs r rs =>
      have ih := tab_at z (ks := ks) rs
      rw [List.zip_cons_cons, List.zip_cons_cons, List.lookup_cons, List.lookup_cons]
      cases h : z == x with
      | true => exact ⟨v, rfl, r⟩
      | false => exact ih
end
section
variable {X : Cx} {XX : List Addr} {B : Bs} {fr : Bool}
/-! ### * -/
theorem foldl_app : ∀ (l : List (Array Nat)) (a : Array Nat), (l.foldl (· ++ ·) a).toList = a.toList ++ (l.map Array.toList).flatten
  | [], a => by simp
  | x :: l, a => by
    rw [List.foldl_cons, foldl_app l]
    simp
theorem strRep_one (x : Str) : strRep x 1 = x := by
  unfold strRep
  cases x
  simp
theorem strRep_nil {x : Str} (h : x.length = 0) (n : Nat) : strRep x n = x := by
  have hx : x.cps = #[] := Array.eq_empty_of_size_eq_zero h
  unfold strRep
  have e : ((List.replicate n x.cps).foldl (· ++ ·) #[]).toList = ([] : List Nat) := by
    rw [foldl_app]
    rw [hx]
    simp
  cases x with
  | mk c =>
    simp only at hx
    subst hx
    congr 1
    exact Array.toList_inj.mp e
theorem op_mulStr : OpR X (binaryOp .Mult) (fun x y H Q => ∃ z j, x = .str z ∧ y = .int j ∧ 0 ≤ j ∧ j < 2 ^ 63 ∧ z.length * j.toNat ≤ SL ∧ Q (.str (strRep z j.toNat)) H) := by
  rintro pins s σ H x y v u Q I rx ry ⟨z, j, rfl, rfl, h0, h1, h2, q⟩
  obtain ⟨t, rfl⟩ := rx
  obtain ⟨t', rfl⟩ := ry
  have hd1 : decide (j < -(2 ^ 63 : Int)) = false := decide_eq_false (by omega)
  have hd2 : decide (j ≥ 2 ^ 63) = false := decide_eq_false (by omega)
  refine PySem.P.mul_str (by rw [hd1, hd2]; rfl) (fun hn hb => ?_) (fun hn hb => ?_) ?_
  · intro hgt
    have hn' : 0 < j := by omega
    have hle : ((z.length * j.toNat : Nat) : Int) ≤ 16777216 := Int.ofNat_le.mpr h2
    have hmul : (z.length : Int) * j ≤ 16777216 := by
      have e : ((z.length * j.toNat : Nat) : Int) = (z.length : Int) * j := by
        rw [Int.natCast_mul, Int.toNat_of_nonneg h0]
      rw [← e]
      exact hle
    have hdiv : (2 ^ 63 - 1) / j < (z.length : Int) := hgt
    have := (Int.ediv_lt_iff_lt_mul hn').mp hdiv
    omega
  · show decide (sizeLine < z.length * j.toNat) = false
    refine decide_eq_false ?_
    have e : sizeLine = 16777216 := sizeLine_eq
    rw [e]
    have : SL = 16777216 := rfl
    omega
  · by_cases hn : j < 1
    · rw [if_pos hn]
      have e : j = 0 := by omega
      subst e
      exact ⟨by decide, .str Str.empty, H, I.tok _, ⟨_, rfl⟩, q⟩
    · rw [if_neg hn]
      by_cases hb : (j == 1 || z.length == 0) = true
      · rw [if_pos hb]
        have e : strRep z j.toNat = z := by
          rw [Bool.or_eq_true] at hb
          rcases hb with hb | hb
          · rw [beq_iff_eq.mp hb]
            exact strRep_one z
          · exact strRep_nil (beq_iff_eq.mp hb) _
        rw [e] at q
        exact ⟨.str z, H, I, ⟨_, rfl⟩, q⟩
      · rw [if_neg hb]
        refine ⟨?_, .str (strRep z j.toNat), H, I.tok _, ⟨_, rfl⟩, q⟩
        have e : ((List.replicate j.toNat z.cps).foldl (· ++ ·) #[]).size = z.length * j.toNat := by
          rw [← Array.length_toList, foldl_app]
          rw [List.map_replicate, List.length_append, List.length_flatten, List.map_replicate, List.sum_replicate_nat, Array.length_toList]
          show 0 + _ = _
          rw [Nat.zero_add, Nat.mul_comm]
          rfl
        show ((List.replicate j.toNat z.cps).foldl (· ++ ·) #[]).size ≤ sizeLine
        rw [e, sizeLine_eq]
        exact h2
theorem op_mulD : OpR X (binaryOp .Mult) (rD2 (cn X) B fr mulD) := by
  rintro pins s σ H x y v u Q I rx ry ⟨φ, XX, M, a, b, S, ra, rb, p⟩
  unfold mulD at p
  split at p
  · cases ra; cases rb
    split at p
    · rename_i hz
      exact op_mul pins s σ H _ _ v u Q I rx ry ⟨_, _, rfl, rfl, mulOk_of hz, p.same S (.int _) fun _ => trivial⟩
    · exact p.elim
  · cases ra; cases rb
    split at p
    · rename_i hz
      exact op_mulStr pins s σ H _ _ v u Q I rx ry ⟨_, _, rfl, rfl, hz.1, hz.2.1, hz.2.2, p.same S (.str _) fun _ => trivial⟩
    · exact p.elim
  · cases ra with
    | @tup xs vs l h1 r1 =>
      cases rb
      split at p
      · rename_i hz
        obtain ⟨h2, h3, h4, h5⟩ := hz
        refine op_repT pins s σ H _ _ v u Q I rx ry ⟨l, _, vs, rfl, rfl, h1.sq, fun e => h5 ?_, h2, h3, by rw [← r1.length]; exact h4, p.newTup S (r1.rep _)⟩
        subst e
        cases r1
        rfl
      · exact p.elim
  · cases ra with
    | @lst xs vs l h1 r1 =>
      cases rb
      split at p
      · rename_i hz
        obtain ⟨h2, h3, h4⟩ := hz
        exact op_rep pins s σ H _ _ v u Q I rx ry ⟨l, _, vs, rfl, rfl, h1.1, by omega, h3, by rw [← r1.length]; exact h4, p.newLst S (r1.rep _)⟩
      · exact p.elim
  · exact p.elim
/-! ### in -/
theorem flat_of {C : Cn} {φ : List Addr} {H : Hp} {d : D} {v : V} (r : R C φ XX H d v) (h : plain d = true) : flatV v = true := by
  cases r <;> simp [plain] at h <;> rfl
theorem flats_of {C : Cn} {φ : List Addr} {H : Hp} : ∀ {ds : List D} {vs : List V}, Rs C φ XX H ds vs → ds.all plain = true → vs.all flatV = true
  | _, _, .nil, _ => rfl
  | _, _, .cons r rs, h => by
    rw [List.all_cons, Bool.and_eq_true] at h ⊢
    exact ⟨flat_of r h.1, flats_of rs h.2⟩
theorem eqPl_of {C : Cn} {φ : List Addr} {H : Hp} {a b : D} {x y : V} (ra : R C φ XX H a x) (rb : R C φ XX H b y) (ha : plain a = true) (hb : plain b = true) : eqPl a b = eqV x y := by
  cases ra <;> simp [plain] at ha <;> cases rb <;> simp [plain] at hb <;> rfl
theorem any_of {C : Cn} {φ : List Addr} {H : Hp} {a : D} {x : V} (ra : R C φ XX H a x) (ha : plain a = true) : ∀ {ds : List D} {vs : List V}, Rs C φ XX H ds vs → ds.all plain = true → (ds.any fun d => eqPl d a) = inV x vs
  | _, _, .nil, _ => rfl
  | _, _, .cons r rs, h => by
    rw [List.all_cons, Bool.and_eq_true] at h
    have ih := any_of ra ha rs h.2
    unfold inV at ih ⊢
    rw [List.any_cons, List.any_cons, ih, eqPl_of r ra h.1 ha]
theorem any_py (a : PyData) : ∀ ds : List D, (ds.any fun d => PyData.eqv d.py a) = (D.pys ds).any fun z => PyData.eqv z a
  | [] => rfl
  | d :: ds => by rw [List.any_cons, D.pys, List.any_cons, any_py a ds]
/-- in, either way: what the model needs -/
theorem inB_ok (hu : X.A.units + 65 < cLine) {pins : List (Addr × Obj)} {s : Shared} {σ : L2.St} {H : Hp} {x y : V} {v u : Value} {φ : List Addr} {M : Mem} {a b : D} {r : Bool} (neg : Bool) {Q : VK} (I : L2.Inv X pins σ H s) (rx : RelV x v) (ry : RelV y u)
    (S : Sim (cn X) φ XX M H) (ra : R (cn X) φ XX H a x) (rb : R (cn X) φ XX H b y) (h : inB M a b = some r) (q : Q (.bl (r != neg)) H) :
    wpAny (model X.prog X.w) X.A (compareOp (if neg then .NotIn else .In) v u) (EP X pins σ Q) X.xe s := by
  have hb1 : ∀ c : Bool, (c != false) = c := fun c => by cases c <;> rfl
  have hb2 : ∀ c : Bool, (c != true) = !c := fun c => by cases c <;> rfl
  unfold inB at h
  split at h
  · rename_i zx zy
    cases ra; cases rb
    split at h
    · rename_i c e
      cases h
      have ex : zx = ⟨#[c]⟩ := by
        cases zx
        simp only at e
        congr 1
        exact Array.toList_inj.mp e
      subst ex
      cases neg with
      | false =>
        rw [hb1] at q
        exact op_in_sign pins s σ H _ _ v u Q I rx ry ⟨c, zy, rfl, rfl, q⟩
      | true =>
        rw [hb2] at q
        exact op_notIn_sign pins s σ H _ _ v u Q I rx ry ⟨c, zy, rfl, rfl, q⟩
    · cases h
  · rename_i zx ks ds
    cases h
    cases ra
    cases rb with
    | tab hK rs =>
      obtain ⟨⟨es, n, KDk⟩, hz⟩ := id hK
      obtain ⟨r, e1, e2⟩ := hz zx
      have lk := tab_at zx (ks := ks) rs
      have e3 : r.isSome = ((ks.zip ds).lookup zx).isSome := by
        rw [← RelO.isSome_eq e2]
        split at lk
        · rename_i dd e
          obtain ⟨vv, e4, _⟩ := lk
          rw [e, e4] <;> rfl
        · rename_i e
          rw [e, lk] <;> rfl
      rw [← e3] at q
      cases ry
      cases neg with
      | false =>
        rw [hb1] at q
        exact op_in_kd KDk pins s σ H _ (.ref _) v _ Q I rx rfl ⟨zx, r, rfl, rfl, e1, q⟩
      | true =>
        rw [hb2] at q
        exact op_notIn_kd KDk pins s σ H _ (.ref _) v _ Q I rx rfl ⟨zx, r, rfl, rfl, e1, q⟩
  · split at h
    · rename_i ds hv
      split at h
      · rename_i hp
        rw [Bool.and_eq_true] at hp
        cases h
        obtain ⟨p, vs, rfl, hq, rs⟩ := view_at S rb hv
        have e := any_of ra hp.1 rs hp.2
        rw [e] at q
        cases neg with
        | false =>
          rw [hb1] at q
          exact op_in_seq pins s σ H _ _ v u Q I rx ry ⟨p, vs, rfl, hq.symm, flat_of ra hp.1, flats_of rs hp.2, q⟩
        | true =>
          rw [hb2] at q
          exact op_notIn_seq pins s σ H _ _ v u Q I rx ry ⟨p, vs, rfl, hq.symm, flat_of ra hp.1, flats_of rs hp.2, q⟩
      · split at h
        · rename_i ds' hl
          split at h
          · rename_i hs
            rw [Bool.and_eq_true] at hs
            cases h
            obtain ⟨p, vs, rfl, hq, rs⟩ := lview_at S rb hl
            have eds : ds = ds' := by
              obtain ⟨p', vs', e1, e2, e3⟩ := lview_at S rb hl
              cases b with
              | lst b =>
                have h1 : some b = some ds := hv
                have h2 : some b = some ds' := hl
                rw [h1] at h2
                exact Option.some.inj h2
              | ref n =>
                simp only [view] at hv
                simp only [lview] at hl
                rw [hl] at hv
                exact (Option.some.inj hv).symm
              | _ => cases hl
            subst eds
            have hd : Dp X.K H (.ref p) (.list (D.pys ds)) := .lst (SqL.of hq) (Rs.dp rs (by simpa [PyData.canLay0] using shaped_lay hs.2))
            have hx : Dp X.K H x a.py := ra.dp (shaped_lay hs.1)
            rw [any_py] at q
            cases neg with
            | false =>
              rw [hb1] at q
              exact op_inD hu pins s σ H _ _ v u Q I rx ry ⟨_, _, hx, hd, hs.1, hs.2, q⟩
            | true =>
              rw [hb2] at q
              exact op_notInD hu pins s σ H _ _ v u Q I rx ry ⟨_, _, hx, hd, hs.1, hs.2, q⟩
          · cases h
        · cases h
    · split at h
      · rename_i kvs j hd hj
        cases h
        obtain ⟨p, rfl, hdv⟩ := dview_at S rb hd
        have ex := kV_of ra hj
        subst ex
        have heap : ∀ {o : Option V}, DGet H p (kV j) o → o.isSome = (lookD a kvs).isSome → wpAny (model X.prog X.w) X.A (compareOp (if neg then .NotIn else .In) v u) (EP X pins σ Q) X.xe s := fun {o} g e => by
          cases ry
          rw [← e] at q
          cases neg with
          | false =>
            rw [hb1] at q
            exact d_in (by omega) I g rx fun s' I' => ⟨.bl o.isSome, H, I', rfl, q⟩
          | true =>
            rw [hb2] at q
            exact d_notIn (by omega) I g rx fun s' I' => ⟨.bl (!o.isSome), H, I', rfl, q⟩
        obtain ⟨ks, vs, hw, hk, rs⟩ := hdv
        have lk := look_at hj hk rs
        refine heap (DGet.k hw) ?_
        split at lk
        · rename_i dd e
          obtain ⟨vv, e2, _⟩ := lk
          rw [e, e2] <;> rfl
        · rename_i e
          rw [e, lk] <;> rfl
      · cases h
theorem op_inOp (hu : X.A.units + 65 < cLine) : OpR X (compareOp .In) (rD2 (cn X) B fr (inD false)) := by
  rintro pins s σ H x y v u Q I rx ry ⟨φ, XX, M, a, b, S, ra, rb, p⟩
  unfold inD at p
  split at p
  · rename_i r q
    exact inB_ok hu false I rx ry S ra rb q (p.same S (.bl _) fun _ => trivial)
  · exact p.elim
theorem op_notinOp (hu : X.A.units + 65 < cLine) : OpR X (compareOp .NotIn) (rD2 (cn X) B fr (inD true)) := by
  rintro pins s σ H x y v u Q I rx ry ⟨φ, XX, M, a, b, S, ra, rb, p⟩
  unfold inD at p
  split at p
  · rename_i r q
    exact inB_ok hu true I rx ry S ra rb q (p.same S (.bl _) fun _ => trivial)
  · exact p.elim
/-! ### items -/
/-- a value that is handed on: nothing new (so not a fresh list) -/
theorem Post.old {C : Cn} {φ X : List Addr} {H : Hp} {M : Mem} {B : Bs} {Q : VK} {d : D} {v : V} (s : Sim C φ X M H) (r : R C φ X H d v) (p : Post C X B false φ H Q (.ok d M)) : Q v H := p φ H v s Ext.refl r fun z => by cases z
theorem ix_dict (hu : X.A.units + 1 < cLine) : IxR X (fun x y H Q => ∃ a v, x = .ref a ∧ DGet H a y (some v) ∧ Q v H) := by
  rintro value slice pins s σ H x y v u Q I rx ry ⟨a, r, rfl, g, q⟩ hs
  cases rx
  exact tail_any (dict_typeIs I g) PySem.F.slot_dict_getitem.lookup (d_getItem hu I g ry fun w' s' I' rw' => ⟨r, H, I', rw', q⟩) hs
theorem ix_itemK (hu : X.A.units + 1 < cLine) {value slice : Expr} {pins : List (Addr × Obj)} {s : Shared} {σ : L2.St} {H : Hp} {x y : V} {v u : Value} {φ : List Addr} {M : Mem} {a b : D} {Q : VK} (I : L2.Inv X pins σ H s) (rx : RelV x v) (ry : RelV y u)
    (S : Sim (cn X) φ XX M H) (ra : R (cn X) φ XX H a x) (rb : R (cn X) φ XX H b y) (p : Post (cn X) XX B false φ H Q (itemK a b M)) (hs : subscripted slice false v u = operate [v, u] (getItem v u)) :
    wpAny (model X.prog X.w) X.A (subscriptTail value slice v u) (EP X pins σ Q) X.xe s := by
  unfold itemK at p
  split at p
  · rename_i kvs j hd hj
    split at p
    · rename_i d hl
      obtain ⟨c, rfl, ks, vs, hw, hk, rs⟩ := dview_at S ra hd
      have lk := look_at hj hk rs
      rw [hl] at lk
      obtain ⟨w', e1, r1⟩ := lk
      have ey := kV_of rb hj
      subst ey
      exact ix_dict hu value slice pins s σ H _ _ v u Q I rx ry ⟨c, w', rfl, by rw [← e1]; exact DGet.k hw, p.old S r1⟩ hs
    · exact p.elim
  · exact p.elim
theorem ix_itemD (hu : X.A.units + 1 < cLine) : IxR X (rD2 (cn X) B false itemD) := by
  rintro value slice pins s σ H x y v u Q I rx ry ⟨φ, XX, M, a, b, S, ra, rb, p⟩ hs
  unfold itemD at p
  split at p
  · cases ra; cases rb
    split at p
    · rename_i hz
      split at p
      · rename_i c hc
        exact ix_str value slice pins s σ H _ _ v u Q I rx ry ⟨_, _, c, rfl, rfl, hz, hc, p.old S (.str _)⟩ hs
      · exact p.elim
    · exact p.elim
  · rename_i ks ds x
    split at p
    · rename_i d hl
      cases rb
      cases ra with
      | tab hK rs =>
        obtain ⟨⟨es, n, KDk⟩, hz⟩ := id hK
        obtain ⟨r, e1, e2⟩ := hz x
        have lk := tab_at x (ks := ks) rs
        rw [hl] at lk
        obtain ⟨w', e3, r1⟩ := lk
        rw [e3] at e2
        cases r with
        | none => exact e2.elim
        | some u0 => exact ix_kdict value slice pins s σ H _ _ v u Q I rx ry ⟨_, x, w', rfl, rfl, ⟨es, n, u0, KDk.at_, KDk.lit, e1, e2⟩, p.old S r1⟩ hs
    · exact p.elim
  · split at p
    · rename_i ds hv
      split at p
      · rename_i d hd
        obtain ⟨c, vs, rfl, hq, rs⟩ := view_at S ra hv
        obtain ⟨w', e1, r1⟩ := rs.atI hd
        cases rb
        rcases hq with hq | hq
        · exact ix_tup value slice pins s σ H _ _ v u Q I rx ry ⟨c, vs, _, w', rfl, rfl, hq, e1, p.old S r1⟩ hs
        · exact ix_list value slice pins s σ H _ _ v u Q I rx ry ⟨c, vs, _, w', rfl, rfl, hq, e1, p.old S r1⟩ hs
      · exact p.elim
    · exact ix_itemK hu I rx ry S ra rb p hs
  · exact ix_itemK hu I rx ry S ra rb p hs
end
section
variable {X : Cx} {XX : List Addr} {B : Bs} {fr : Bool}
/-! ### calls of built-ins by values -/
def rDs (C : Cn) (B : Bs) (fr : Bool) (f : List D → Mem → Res D) : List V → Hp → VK → Prop := fun vs H Q => ∃ φ XX M ds, Sim C φ XX M H ∧ Rs C φ XX H ds vs ∧ Post C XX B fr φ H Q (f ds M)
def on1 (f : D → Mem → Res D) : List D → Mem → Res D
  | [a], M => f a M
  | _, _ => .bad
def on2 (f : D → D → Mem → Res D) : List D → Mem → Res D
  | [a, b], M => f a b M
  | _, _ => .bad
theorem rDs1 {C : Cn} {f : D → Mem → Res D} {vs : List V} {H : Hp} {Q : VK} (h : rDs C B fr (on1 f) vs H Q) : ∃ φ XX M d v, vs = [v] ∧ Sim C φ XX M H ∧ R C φ XX H d v ∧ Post C XX B fr φ H Q (f d M) := by
  obtain ⟨φ, XX, M, ds, S, rs, p⟩ := h
  unfold on1 at p
  split at p
  · cases rs with
    | cons r rs => cases rs; exact ⟨φ, XX, M, _, _, rfl, S, r, p⟩
  · exact p.elim
theorem rDs2 {C : Cn} {f : D → D → Mem → Res D} {vs : List V} {H : Hp} {Q : VK} (h : rDs C B fr (on2 f) vs H Q) : ∃ φ XX M d e v u, vs = [v, u] ∧ Sim C φ XX M H ∧ R C φ XX H d v ∧ R C φ XX H e u ∧ Post C XX B fr φ H Q (f d e M) := by
  obtain ⟨φ, XX, M, ds, S, rs, p⟩ := h
  unfold on2 at p
  split at p
  · cases rs with
    | cons r rs => cases rs with
      | cons r2 rs => cases rs; exact ⟨φ, XX, M, _, _, _, _, rfl, S, r, r2, p⟩
  · exact p.elim
theorem cr_min (hc : X.calm = true) : CallR X (.builtin "min") (rDs (cn X) B fr (on2 minD)) := by
  intro pins s σ H xs us Q I r h
  obtain ⟨φ, XX, M, d, e, v, u, rfl, S, ra, rb, p⟩ := rDs2 h
  unfold minD at p
  split at p
  · cases ra; cases rb
    exact call_min2 hc pins s σ H _ us Q I r ⟨_, _, rfl, p.same S (.int _) fun _ => trivial⟩
  · exact p.elim
theorem cr_max (hc : X.calm = true) : CallR X (.builtin "max") (rDs (cn X) B fr (on2 maxD)) := by
  intro pins s σ H xs us Q I r h
  obtain ⟨φ, XX, M, d, e, v, u, rfl, S, ra, rb, p⟩ := rDs2 h
  unfold maxD at p
  split at p
  · cases ra; cases rb
    exact call_max2 hc pins s σ H _ us Q I r ⟨_, _, rfl, p.same S (.int _) fun _ => trivial⟩
  · exact p.elim
end
end Mi
set_option Elab.async false
set_option linter.all false
set_option maxRecDepth 100000
set_option maxHeartbeats 0
/-! Mi6: one-place operations, cuts, isinstance, sorted. -/
namespace Mi
open PySem PySem.Spec PyProof.Rows L2
section
variable {C : Cn} {φ X XX : List Addr} {H : Hp} {M : Mem} {B : Bs} {fr : Bool} {Q : VK} {d : D} {v : V}
theorem ints_of : ∀ {ds : List D} {ns : List Int} {vs : List V}, intsOf ds = some ns → Rs C φ X H ds vs → vs = ns.map V.int
  | [], _, _, h, .nil => by cases h; rfl
  | d :: ds, ns, _, h, .cons r rs => by
    cases d <;> simp only [intsOf] at h <;> try cases h
    obtain ⟨ms, h1, h2⟩ := Option.map_eq_some_iff.mp h
    subst h2
    cases r
    rw [List.map_cons, ← ints_of h1 rs]
theorem bls_of : ∀ {ds : List D} {ns : List Bool} {vs : List V}, blsOf ds = some ns → Rs C φ X H ds vs → vs = ns.map V.bl
  | [], _, _, h, .nil => by cases h; rfl
  | d :: ds, ns, _, h, .cons r rs => by
    cases d <;> simp only [blsOf] at h <;> try cases h
    obtain ⟨ms, h1, h2⟩ := Option.map_eq_some_iff.mp h
    subst h2
    cases r
    rw [List.map_cons, ← bls_of h1 rs]
theorem strs_of : ∀ {ds : List D} {ns : List Str} {vs : List V}, strsOf ds = some ns → Rs C φ X H ds vs → vs = ns.map V.str
  | [], _, _, h, .nil => by cases h; rfl
  | d :: ds, ns, _, h, .cons r rs => by
    cases d <;> simp only [strsOf] at h <;> try cases h
    obtain ⟨ms, h1, h2⟩ := Option.map_eq_some_iff.mp h
    subst h2
    cases r
    rw [List.map_cons, ← strs_of h1 rs]
theorem Rs.cut {ds : List D} {vs : List V} (lo hi : Option Int) (r : Rs C φ X H ds vs) : Rs C φ X H (cutD lo hi ds) (cutV vs lo hi) := by
  unfold cutD cutV
  rw [r.length]
  exact (r.drop _).take _
/-- the whole of it is itself -/
theorem cut_whole {ds : List D} {lo hi : Option Int} (h : HT.sIx ds.length 0 lo = 0 ∧ HT.sIx ds.length ds.length hi = ds.length) : cutD lo hi ds = ds := by
  unfold cutD
  rw [h.1, h.2]
  simp
end
section
variable {X : Cx} {XX : List Addr} {B : Bs} {fr : Bool}
theorem lv_at {C : Cn} {φ X : List Addr} {H : Hp} {M : Mem} {d : D} {v : V} {ds : List D} (s : Sim C φ X M H) (r : R C φ X H d v) (h : lv M d = some ds) : ∃ a vs, v = .ref a ∧ SqL C.K H a vs ∧ Rs C φ X H ds vs := by
  cases r with
  | tup h' rs => cases h
  | lst h' rs => cases h; exact ⟨_, _, rfl, h'.sq, rs⟩
  | scr h' rs => cases h; exact ⟨_, _, rfl, h'.sq, rs⟩
  | @ref n a h' =>
    simp only [lv, view] at h
    split at h
    · rename_i hn
      cases h
      obtain ⟨vs, h1, h2⟩ := s.obj n _ a hn h'
      exact ⟨a, vs, rfl, SqL.of h1, h2⟩
    · cases h
  | _ => cases h
theorem cr_len : CallR X (.builtin "len") (rDs (cn X) B fr (on1 (op1 .len))) := by
  intro pins s σ H xs us Q I r h
  obtain ⟨φ, XX, M, d, v, rfl, S, ra, p⟩ := rDs1 h
  simp only [op1] at p
  unfold lenD at p
  split at p
  · split at p
    · rename_i x hz
      cases ra
      exact call_len pins s σ H _ us Q I r ⟨_, x.length, rfl, ⟨hz, rfl⟩, p.same S (.int _) fun _ => trivial⟩
    · exact p.elim
  · split at p
    · rename_i ds hv
      obtain ⟨a, vs, rfl, hq, rs⟩ := view_at S ra hv
      refine call_len pins s σ H _ us Q I r ⟨.ref a, ds.length, rfl, ?_, p.same S (.int _) fun _ => trivial⟩
      rcases hq with hq | hq
      · exact .inr ⟨vs, hq, rs.length⟩
      · exact .inl ⟨vs, hq, rs.length⟩
    · split at p
      · rename_i kvs hd
        obtain ⟨a, rfl, ks, vs, hw, hk, rs⟩ := dview_at S ra hd
        obtain ⟨u, rfl, ru⟩ := vals1 r
        cases ru
        have e : (ks.zip vs).length = kvs.length := by
          have h1 := congrArg List.length hk
          have h2 := rs.length
          simp only [List.length_map] at h1 h2
          rw [List.length_zip]
          omega
        refine d_len I (.inl hw) fun t s' I' => ⟨.int (ks.zip vs).length, H, I', ⟨t, rfl⟩, ?_⟩
        rw [e]
        exact p.same S (.int _) fun _ => trivial
      · exact p.elim
theorem cr_sumD (hc : X.calm = true) : CallR X (.builtin "sum") (rDs (cn X) B fr (on1 (op1 .sum))) := by
  intro pins s σ H xs us Q I r h
  obtain ⟨φ, XX, M, d, v, rfl, S, ra, p⟩ := rDs1 h
  simp only [op1] at p
  split at p
  · rename_i ns e
    obtain ⟨ds, h1, h2⟩ := Option.bind_eq_some_iff.mp e
    obtain ⟨a, vs, rfl, hq, rs⟩ := lv_at S ra h1
    have e2 := ints_of h2 rs
    subst e2
    exact cr_sum hc pins s σ H _ us Q I r ⟨a, ns, rfl, hq, p.same S (.int _) fun _ => trivial⟩
  · exact p.elim
theorem cr_allD (hc : X.calm = true) : CallR X (.builtin "all") (rDs (cn X) B fr (on1 (op1 .all))) := by
  intro pins s σ H xs us Q I r h
  obtain ⟨φ, XX, M, d, v, rfl, S, ra, p⟩ := rDs1 h
  simp only [op1] at p
  split at p
  · rename_i ns e
    obtain ⟨ds, h1, h2⟩ := Option.bind_eq_some_iff.mp e
    obtain ⟨a, vs, rfl, hq, rs⟩ := lv_at S ra h1
    have e2 := bls_of h2 rs
    subst e2
    exact cr_all hc pins s σ H _ us Q I r ⟨a, ns, rfl, hq, p.same S (.bl _) fun _ => trivial⟩
  · exact p.elim
theorem cr_anyD (hc : X.calm = true) : CallR X (.builtin "any") (rDs (cn X) B fr (on1 (op1 .any))) := by
  intro pins s σ H xs us Q I r h
  obtain ⟨φ, XX, M, d, v, rfl, S, ra, p⟩ := rDs1 h
  simp only [op1] at p
  split at p
  · rename_i ns e
    obtain ⟨ds, h1, h2⟩ := Option.bind_eq_some_iff.mp e
    obtain ⟨a, vs, rfl, hq, rs⟩ := lv_at S ra h1
    have e2 := bls_of h2 rs
    subst e2
    exact cr_any hc pins s σ H _ us Q I r ⟨a, ns, rfl, hq, p.same S (.bl _) fun _ => trivial⟩
  · exact p.elim
theorem cr_tupleD : CallR X (.type "tuple") (rDs (cn X) B fr (on1 (op1 .tuple))) := by
  intro pins s σ H xs us Q I r h
  obtain ⟨φ, XX, M, d, v, rfl, S, ra, p⟩ := rDs1 h
  simp only [op1] at p
  split at p
  · rename_i ds hv
    cases ra with
    | tup h' rs =>
      cases hv
      exact call_tuple_of pins s σ H _ us Q I r ⟨_, _, rfl, .inr ⟨h'.sq, p.same S (.tup h' rs) fun _ => trivial⟩⟩
    | lst h' rs => cases hv; exact call_tuple_of pins s σ H _ us Q I r ⟨_, _, rfl, .inl ⟨h'.sq, p.newTup S rs⟩⟩
    | scr h' rs => cases hv; exact call_tuple_of pins s σ H _ us Q I r ⟨_, _, rfl, .inl ⟨h'.sq, p.newTup S rs⟩⟩
    | @ref n a h' =>
      simp only [view] at hv
      split at hv
      · rename_i hn
        cases hv
        obtain ⟨vs, h1, h2⟩ := S.obj n _ a hn h'
        exact call_tuple_of pins s σ H _ us Q I r ⟨_, _, rfl, .inl ⟨SqL.of h1, p.newTup S h2⟩⟩
      · cases hv
    | _ => cases hv
  · exact p.elim
theorem cr_listD : CallR X (.type "list") (rDs (cn X) B fr (on1 (op1 .list))) := by
  intro pins s σ H xs us Q I r h
  obtain ⟨φ, XX, M, d, v, rfl, S, ra, p⟩ := rDs1 h
  simp only [op1] at p
  split at p
  · rename_i ds hv
    obtain ⟨a, vs, rfl, hq, rs⟩ := view_at S ra hv
    exact call_list_of pins s σ H _ us Q I r ⟨a, vs, rfl, hq.symm, p.newLst S rs⟩
  · exact p.elim
theorem cr_intD : CallR X (.type "int") (rDs (cn X) B fr (on1 (op1 .int))) := by
  intro pins s σ H xs us Q I r h
  obtain ⟨φ, XX, M, d, v, rfl, S, ra, p⟩ := rDs1 h
  simp only [op1] at p
  split at p
  · cases ra
    exact call_int1 pins s σ H _ us Q I r (.inl ⟨_, rfl, p.same S (.int _) fun _ => trivial⟩)
  · split at p
    · rename_i x _ n hn
      split at p
      · rename_i hz
        cases ra
        exact call_int_str pins s σ H _ us Q I r ⟨_, n, rfl, hn, hz, p.same S (.int _) fun _ => trivial⟩
      · exact p.elim
    · exact p.elim
  · exact p.elim
theorem cr_strD : CallR X (.type "str") (rDs (cn X) B fr (on1 (op1 .str))) := by
  intro pins s σ H xs us Q I r h
  obtain ⟨φ, XX, M, d, v, rfl, S, ra, p⟩ := rDs1 h
  simp only [op1] at p
  split at p
  · split at p
    · rename_i hz
      cases ra
      exact call_str_int pins s σ H _ us Q I r ⟨_, rfl, hz, p.same S (.str _) fun _ => trivial⟩
    · exact p.elim
  · cases ra
    exact SkE.call_str_str pins s σ H _ us Q I r ⟨_, rfl, p.same S (.str _) fun _ => trivial⟩
  · exact p.elim
/-- -i -/
def rD1 (C : Cn) (B : Bs) (fr : Bool) (f : D → Mem → Res D) : V → Hp → VK → Prop := fun x H Q => ∃ φ XX M a, Sim C φ XX M H ∧ R C φ XX H a x ∧ Post C XX B fr φ H Q (f a M)
theorem un_negD : UnR X (unaryOp .USub) (rD1 (cn X) B fr (op1 .neg)) := by
  rintro pins s σ H x v Q I rx ⟨φ, XX, M, a, S, ra, p⟩
  simp only [op1] at p
  split at p
  · cases ra
    exact un_neg pins s σ H _ v Q I rx ⟨_, rfl, p.same S (.int _) fun _ => trivial⟩
  · exact p.elim
/-! ### cuts -/
def rSl (C : Cn) (B : Bs) (fr : Bool) : V → Option Int → Option Int → Hp → VK → Prop := fun x lo hi H Q => ∃ φ XX M a, Sim C φ XX M H ∧ R C φ XX H a x ∧ Post C XX B fr φ H Q (sliD a (some lo) (some hi) M)
theorem sl_D : SlR X (rSl (cn X) B fr) := by
  rintro pins s σ H x v vl vu lo hi sl Q I rx hs pl pu ⟨φ, XX, M, a, S, ra, p⟩
  unfold sliD at p
  simp only at p
  split at p
  · rename_i ds
    cases ra with
    | @tup _ vs c h' rs =>
      refine sl_tupA pins s σ H _ v vl vu lo hi sl Q I rx hs pl pu ⟨c, vs, rfl, h'.sq, fun hw => ?_, fun _ => p.newTup S (rs.cut lo hi)⟩
      rw [← rs.length] at hw
      rw [cut_whole hw] at p
      exact p.same S (.tup h' rs) fun _ => trivial
  · split at p
    · rename_i hz
      cases ra
      exact C8.sl_txt pins s σ H _ v vl vu lo hi sl Q I rx hs pl pu ⟨_, rfl, hz, p.same S (.str _) fun _ => trivial⟩
    · exact p.elim
  · split at p
    · rename_i ds hv
      obtain ⟨c, vs, rfl, hq, rs⟩ := lv_at S ra hv
      exact sl_list pins s σ H _ v vl vu lo hi sl Q I rx hs pl pu ⟨c, vs, rfl, hq, p.newLst S (rs.cut lo hi)⟩
    · exact p.elim
/-! ### isinstance -/
theorem ty_at {C : Cn} {φ X : List Addr} {H : Hp} {M : Mem} {d : D} {v : V} {t : String} (s : Sim C φ X M H) (r : R C φ X H d v) (h : tyOf M d = some t) : TyX C.K H v (.type t) := by
  cases r with
  | non => cases h; exact .base .non
  | bl b => cases h; exact .base (.bl b)
  | int b => cases h; exact .base (.int b)
  | str b => cases h; exact .base (.str b)
  | tup h' rs =>
    cases h
    rcases h' with h' | ⟨o, its, n, k1, k2, _⟩
    · exact .base (.tup h'.1)
    · exact .kTuple k1 k2
  | lst h' rs => cases h; exact .base (.lst h'.1)
  | scr h' rs =>
    cases h
    rcases h' with ⟨h' | ⟨o, h'⟩, _⟩ | ⟨o, its, n, k1, k2, _⟩
    · exact .base (.lst h')
    · exact .base (.frz h')
    · exact .kList k1 k2
  | dic h' hk rs => cases h; exact .base (.dK h'.1)
  | dix ne h' hk rs => cases h; exact .base (.dT h'.1)
  | tab h' rs =>
    cases h
    obtain ⟨⟨es, n, k⟩, _⟩ := h'
    exact .kDict k.at_ rfl
  | @ref n a h' =>
    simp only [tyOf] at h
    split at h
    · rename_i hn
      cases h
      obtain ⟨vs, h1, _⟩ := s.obj n _ a hn h'
      exact .base (.lst h1)
    · rename_i hn
      cases h
      rcases s.obj n _ a hn h' with ⟨ks, vs, h1, _⟩ | ⟨ks, vs, _, h1, _⟩
      · exact .base (.dK h1)
      · exact .base (.dT h1)
    · cases h
  | glo => cases h
/-- the names that are asked for -/
def tyNames : List String := ["int", "bool", "str", "tuple", "list", "dict"]
theorem kit_sub : ∀ a ∈ ["NoneType", "bool", "int", "str", "tuple", "list", "dict"], ∀ b ∈ tyNames, kitB a b = some (subTy a b) := by decide +kernel
theorem ty_mem {M : Mem} {d : D} {t : String} (h : tyOf M d = some t) : t ∈ ["NoneType", "bool", "int", "str", "tuple", "list", "dict"] := by
  cases d <;> simp only [tyOf] at h <;> first
    | (cases h; decide)
    | cases h
    | skip
  split at h <;> cases h <;> decide
theorem kit_any {K : PySem.W.Frag} {a : String} (ha : a ∈ ["NoneType", "bool", "int", "str", "tuple", "list", "dict"]) : ∀ ts : List String, (∀ t ∈ ts, t ∈ tyNames) → PySem.W.kitAny K (.type a) (ts.map Value.type) = some (ts.any (subTy a))
  | [], _ => kitAny_nil
  | t :: ts, h => by
    have h1 := kit_sub a ha t (h t List.mem_cons_self)
    refine kitAny_cons (b := subTy a t) (kit_ty h1) (fun e => ?_) (fun e => ?_)
    · rw [kit_any ha ts fun t' m => h t' (List.mem_cons_of_mem _ m), List.any_cons, e, Bool.false_or]
    · rw [List.any_cons, e, Bool.true_or]
theorem tys_vals : ∀ ts : List String, Paired ClsV (ts.map V.ty) (ts.map Value.type)
  | [] => .nil
  | t :: ts => .cons (.ty t) (tys_vals ts)
/-! ### sorted -/
theorem each_of {C : Cn} {φ X : List Addr} {H : Hp} : ∀ {ds : List D} {vs : List V} {us : List Value}, Rs C φ X H ds vs → Vals vs us → PySem.W.EachIs (fun u d => ∃ v, RelV v u ∧ R C φ X H d v) us ds
  | _, _, _, .nil, .nil => .nil
  | _, _, _, .cons r rs, .cons q qs => .cons ⟨_, q, r⟩ (each_of rs qs)
theorem of_each {C : Cn} {φ X : List Addr} {H : Hp} : ∀ {ds : List D} {us : List Value}, PySem.W.EachIs (fun u d => ∃ v, RelV v u ∧ R C φ X H d v) us ds → ∃ vs, Rs C φ X H ds vs ∧ Vals vs us
  | _, _, .nil => ⟨[], .nil, .nil⟩
  | _, _, .cons ⟨v, q, r⟩ t => let ⟨vs, h1, h2⟩ := of_each t; ⟨v :: vs, .cons r h1, .cons q h2⟩
theorem each_reads {pins : List (Addr × Obj)} {s : Shared} {σ : L2.St} {H : Hp} {φ : List Addr} (I : L2.Inv X pins σ H s) : ∀ {ds : List D} {us : List Value}, PySem.W.EachIs (fun u d => ∃ v, RelV v u ∧ R (cn X) φ XX H d v) us ds → (∀ d ∈ ds, SeqAt.shaped d.py = true) →
    PySem.W.EachIs (fun u d => ∃ as, Reads s.heap u d.py as) us ds
  | _, _, .nil, _ => .nil
  | _, _, .cons ⟨v, q, r⟩ t, h => .cons (Dp.reads I _ v _ (r.dp (shaped_lay (h _ List.mem_cons_self))) q) (each_reads I t fun d m => h d (List.mem_cons_of_mem _ m))
theorem okSort_of {ds : List D} (h : okSort ds = true) : ds.length ≤ sizeLine ∧ PySem.W.AllAlike (ds.map D.py) ∧ PySem.W.Sortable (ds.map D.py) ∧ ∀ d ∈ ds, SeqAt.shaped d.py = true := by
  unfold okSort at h
  simp only [Bool.and_eq_true, List.all_eq_true, decide_eq_true_eq] at h
  obtain ⟨h1, h2, h3, h4⟩ := h
  refine ⟨by rw [sizeLine_eq]; exact h1, fun d hd d' hd' => ?_, ?_, h4⟩
  · obtain ⟨b, m, rfl⟩ := List.mem_map.mp hd
    obtain ⟨b', m', rfl⟩ := List.mem_map.mp hd'
    exact h2 b m b' m'
  · rw [Bool.or_eq_true] at h3
    rcases h3 with h3 | h3
    · refine .inl fun d hd => ?_
      obtain ⟨b, m, rfl⟩ := List.mem_map.mp hd
      have z := List.all_eq_true.mp h3 b m
      unfold isTupC at z
      split at z
      · rename_i x r e
        exact ⟨x, r, e⟩
      · cases z
    · refine .inr fun d hd => ?_
      obtain ⟨b, m, rfl⟩ := List.mem_map.mp hd
      have z := List.all_eq_true.mp h3 b m
      constructor
      · intro e
        rw [e] at z
        cases z
      · intro xs e
        rw [e] at z
        cases z
theorem cr_sortedD (hu : X.A.units + 70 < cLine) : CallR X (.builtin "sorted") (rDs (cn X) B fr (on1 (op1 .sorted))) := by
  intro pins s σ H xs us Q I r h
  obtain ⟨φ, XX, M, d, v, rfl, S, ra, p⟩ := rDs1 h
  simp only [op1] at p
  split at p
  · rename_i ds hv
    split at p
    · rename_i hok
      obtain ⟨a, vs, rfl, hq, rs⟩ := lview_at S ra hv
      obtain ⟨u, rfl, ru⟩ := vals1 r
      cases ru
      obtain ⟨h1, h2, h3, h4⟩ := okSort_of hok
      obtain ⟨its, rv, pl, hz⟩ := I.list (SqL.of hq)
      have e := each_of rs rv
      refine PySem.W.sorted_data (enc := D.py) pl.isList e (each_reads I e h4) h2 h3 h1 (fun b hb => ?_) fun out ho hout => ?_
      · have := SeqAt.depth_of_shaped (h4 b hb)
        omega
      · obtain ⟨ws, q1, q2⟩ := of_each hout
        have hn : H (s.heap.objs.size + 1) = none := I.hok.fresh (Nat.le_succ _)
        have hl : ws.length ≤ sizeLine := by rw [q2.length, ho]; exact h1
        obtain ⟨ee, he⟩ := sortedAll_at s.heap its out.toArray
        exact ⟨.ref (s.heap.objs.size + 1), upd H _ (.lst ws), I.laid (t' := s.toks) (fun b o e => sortedAll_old e) (Nat.le_succ _) ⟨hl, out, ee, q2, he⟩, rfl, p.newLst S q1 _ hn⟩
    · exact p.elim
  · exact p.elim
end
end Mi
set_option Elab.async false
set_option linter.all false
set_option maxRecDepth 100000
set_option maxHeartbeats 0
/-! Mi7: the terms of the small language over the rules of the hand layer: names, constants, operations, displays, arguments. -/
namespace Mi
open PySem PySem.Spec PyProof.Rows L2
section
variable {C : Cn} {XX : List Addr} {B : Bs} {fr : Bool} {σ : L2.St} {H : Hp} {Q : VK}
abbrev Rd0 := Env → Mem → Res D
theorem Ext.none {φ φ' : List Addr} {H' : Hp} {M' : Mem} (x : Ext φ H φ' H') (s : Sim C φ' XX M' H') {p : Addr} (h : H' p = .none) : H p = .none := by
  cases e : H p with
  | none => rfl
  | some o =>
    have hp : p ∉ φ := fun z => (s.fresh h).1 (by
      obtain ⟨ψ, q⟩ := x.pre
      rw [q]
      exact List.mem_append_left _ z)
    have := (x.keep p o e hp).1
    rw [h] at this
    cases this
theorem Fr.later {φ φ2 φ' : List Addr} {M2 M' : Mem} {H2 H' : Hp} {d : D} {v : V} (x : Ext φ H φ2 H2) (s : Sim C φ2 XX M2 H2) (f : Fr C φ' XX M' H2 H' d v) : Fr C φ' XX M' H H' d v := by
  cases d with
  | lst ds => obtain ⟨p, vs, h1, h2, h3⟩ := f; exact ⟨p, vs, h1, x.none s h2, h3⟩
  | dic kvs => obtain ⟨p, ks, vs, h1, h2, h3⟩ := f; exact ⟨p, ks, vs, h1, x.none s h2, h3⟩
  | _ => trivial
/-- what is wanted from an earlier state on is wanted from a later one on -/
theorem Post.later {φ φ2 : List Addr} {M2 : Mem} {H2 : Hp} {r : Res D} (x : Ext φ H φ2 H2) (s : Sim C φ2 XX M2 H2) (p : Post C XX B fr φ H Q r) : Post C XX B fr φ2 H2 Q r := by
  cases r with
  | ok d M' => exact fun φ' H' v s' x' r f => p φ' H' v s' (x.trans x') r fun hf => (f hf).later x s
  | exn x M' => exact p
  | bad => exact p
theorem PostS.later {φ φ2 : List Addr} {M2 : Mem} {H2 : Hp} {Q : List V → Hp → Prop} {r : Res (List D)} (x : Ext φ H φ2 H2) (p : PostS C XX B φ H Q r) : PostS C XX B φ2 H2 Q r := by
  cases r with
  | ok d M' => exact fun φ' H' v s' x' r => p φ' H' v s' (x.trans x') r
  | exn x M' => exact p
  | bad => exact p
/-- a term, then what its value is for -/
theorem t_then {φ : List Addr} {M : Mem} {env : Env} {r : Rd0} {k : D → Mem → Res D} {Q1 : VK} (n : Now C XX B φ M env σ H) (h : Post C XX B fr φ H Q ((r env M).bind k))
    (go : ∀ φ1 M1 H1 d v, Now C XX B φ1 M1 env σ H1 → Ext φ H φ1 H1 → R C φ1 XX H1 d v → Post C XX B fr φ1 H1 Q (k d M1) → Q1 v H1) : tM C B false r σ H Q1 := by
  refine ⟨φ, XX, M, env, n, ?_⟩
  cases e1 : r env M with
  | bad => rw [e1] at h; exact h
  | exn x M1 => rw [e1] at h; exact h
  | ok d M1 =>
    rw [e1, Res.bind_ok] at h
    exact fun φ1 H1 v1 s1 x1 q1 _ => go φ1 M1 H1 d v1 (n.go s1 x1) x1 q1 (h.later x1 s1)
/-- arguments, then what they are for -/
theorem ts_then {φ : List Addr} {M : Mem} {env : Env} {r : Env → Mem → Res (List D)} {k : List D → Mem → Res D} {Q1 : List V → Hp → Prop} (n : Now C XX B φ M env σ H) (h : Post C XX B fr φ H Q ((r env M).bind k))
    (go : ∀ φ1 M1 H1 d v, Now C XX B φ1 M1 env σ H1 → Ext φ H φ1 H1 → Rs C φ1 XX H1 d v → Post C XX B fr φ1 H1 Q (k d M1) → Q1 v H1) : tMs C B r σ H Q1 := by
  refine ⟨φ, XX, M, env, n, ?_⟩
  cases e1 : r env M with
  | bad => rw [e1] at h; exact h
  | exn x M1 => rw [e1] at h; exact h
  | ok d M1 =>
    rw [e1, Res.bind_ok] at h
    exact fun φ1 H1 v1 s1 x1 q1 => go φ1 M1 H1 d v1 (n.go s1 x1) x1 q1 (h.later x1 s1)
/-- two in a row, then an operation -/
theorem t_op2 {r1 r2 : Rd0} {f : D → D → Mem → Res D} (h : tM C B fr (fun env M => (r1 env M).bind fun d M1 => (r2 env M1).bind fun e M2 => f d e M2) σ H Q) :
    tOp (rD2 C B fr f) (tM C B false r1) (tM C B false r2) σ H Q := by
  obtain ⟨φ, XX, M, env, n, h⟩ := h
  refine t_then n h fun φ1 M1 H1 d v n1 x1 q1 h1 => ?_
  refine t_then n1 h1 fun φ2 M2 H2 e u n2 x2 q2 h2 => ?_
  exact ⟨φ2, XX, M2, d, e, n2.sim, q1.ext x2, q2, h2⟩
/-- a value as a test -/
theorem t_test {r : Rd0} {Q : Bool → Hp → Prop} (h : tMb C B r σ H Q) : tM C B false r σ H fun x H1 => ∃ c, x = .bl c ∧ Q c H1 := by
  obtain ⟨φ, XX, M, env, n, h⟩ := h
  refine ⟨φ, XX, M, env, n, ?_⟩
  cases e1 : r env M with
  | bad => rw [e1] at h; exact h
  | exn x M1 => rw [e1] at h; exact h
  | ok d M1 =>
    rw [e1] at h
    obtain ⟨b, rfl, h⟩ := h
    intro φ1 H1 v s1 x1 q1 _
    cases q1
    exact ⟨b, rfl, h φ1 H1 s1 x1⟩
end
section
variable {X : Cx} {XX : List Addr} {B : Bs} {fr : Bool} {G : Ce}
abbrev PM (X : Cx) (B : Bs) (fr : Bool) (e : Expr) (r : Rd0) : Prop := PE X e (tM (cn X) B fr r)
abbrev PB (X : Cx) (B : Bs) (e : Expr) (r : Rd0) : Prop := PT X e (tMb (cn X) B r)
abbrev PMs (X : Cx) (B : Bs) (es : List Expr) (r : Env → Mem → Res (List D)) : Prop := PA X es (tMs (cn X) B r)
/-- an expression whose test is its value's -/
theorem pb_plain {e : Expr} {r : Rd0} (h : PM X B false e r) (he : ∀ whole, isTrue e X.env whole = (do let v ← whole; standAt e.pos; holding [v] (truthy v))) : PB X B e r :=
  (pt_val h he).imp fun σ H Q q => t_test q
/-- a fresh list is a value -/
theorem pm_weak {e : Expr} {r : Rd0} (h : PM X B true e r) : PM X B false e r := h.imp fun σ H Q q => tM_weak q
theorem pm_var {i : Nat} {x : Str} {pos : Pos} (hN : X.N[i]? = some x) (hv : Vis X.env.scope x) (hd : (x == ("__debug__" : Str)) = false) (hcd : (x == ("__classdict__" : Str)) = false) : PM X B false (.Name x pos) (evE G (.var i)) := by
  refine (pe_var hN hv hd hcd).imp fun σ H Q ⟨φ, XX, M, env, n, h⟩ => ?_
  unfold evE at h
  split at h
  · rename_i d e
    obtain ⟨v, h1, h2⟩ := n.env.at_ i d e
    exact ⟨v, h1, h φ H v n.sim Ext.refl h2 fun z => by cases z⟩
  · exact h.elim
theorem pm_con {e : Expr} {d : D} {v : V} (h : PE X e (tC v)) (r : ∀ φ XX H, R (cn X) φ XX H d v) : PM X B false e (evE G (.con d)) := by
  refine h.imp fun σ H Q ⟨φ, XX, M, env, n, h⟩ => ?_
  unfold evE at h
  exact h φ H v n.sim Ext.refl (r φ XX H) fun z => by cases z
theorem pm_glo {x : Str} {pos : Pos} {v : V} {u : Value} {d : D} (hG : G.gl x = some d) (hg : Gl X x) (hm : X.mg x = some u) (ru : RelV v u) (r : ∀ φ XX H, R (cn X) φ XX H d v) (hd : (x == ("__debug__" : Str)) = false) : PM X B false (.Name x pos) (evE G (.glo x)) := by
  refine (pe_glob hg hm ru hd).imp fun σ H Q ⟨φ, XX, M, env, n, h⟩ => ?_
  unfold evE at h
  rw [hG] at h
  exact h φ H v n.sim Ext.refl (r φ XX H) fun z => by cases z
variable {a b c : Expr} {ma mb mc : ME} {pos : Pos}
theorem pm_bin {op : Operator} {p : P2} (ho : OpR X (binaryOp op) (rD2 (cn X) B fr (op2 p))) (ha : PM X B false a (evE G ma)) (hb : PM X B false b (evE G mb)) : PM X B fr (.BinOp a op b pos) (evE G (.p2 p ma mb)) :=
  (pe_op ho ha hb).imp fun σ H Q q => t_op2 (r1 := evE G ma) (r2 := evE G mb) q
theorem pm_cmp {op : CmpOp} {p : P2} (ho : OpR X (compareOp op) (rD2 (cn X) B fr (op2 p))) (ha : PM X B false a (evE G ma)) (hb : PM X B false b (evE G mb)) (hm : behindInMarks op b = false) : PM X B fr (.Compare a [op] [b] pos) (evE G (.p2 p ma mb)) :=
  (pe_cmpR ho ha hb hm).imp fun σ H Q q => t_op2 (r1 := evE G ma) (r2 := evE G mb) q
theorem pb_cmp {op : CmpOp} {p : P2} (ho : OpR X (compareOp op) (rD2 (cn X) B false (op2 p))) (ha : PM X B false a (evE G ma)) (hb : PM X B false b (evE G mb)) (hm : behindInMarks op b = false) : PB X B (.Compare a [op] [b] pos) (evE G (.p2 p ma mb)) :=
  (pt_cmpR ho ha hb hm).imp fun σ H Q q => t_op2 (r1 := evE G ma) (r2 := evE G mb) (t_test (r := evE G (.p2 p ma mb)) q)
theorem pm_ix (ho : IxR X (rD2 (cn X) B false (op2 .item))) (ha : PM X B false a (evE G ma)) (hb : PM X B false b (evE G mb)) (hs : PlainIx b) : PM X B false (.Subscript a b pos) (evE G (.p2 .item ma mb)) :=
  (pe_ix ho ha hb hs).imp fun σ H Q q => t_op2 (r1 := evE G ma) (r2 := evE G mb) (f := op2 .item) q
theorem pm_neg (ho : UnR X (unaryOp .USub) (rD1 (cn X) B fr (op1 .neg))) (ha : PM X B false a (evE G ma)) : PM X B fr (.UnaryOp .USub a pos) (evE G (.p1 .neg ma)) := by
  refine (pe_un ho ha).imp fun σ H Q ⟨φ, XX, M, env, n, h⟩ => ?_
  unfold evE at h
  exact t_then n h fun φ1 M1 H1 d v n1 x1 q1 h1 => ⟨φ1, XX, M1, d, n1.sim, q1, h1⟩
/-- a op b op' c -/
theorem t_chain {p q : P2} {Q : VK} {σ : L2.St} {H : Hp} (h : tM (cn X) B fr (evE G (.chain p q ma mb mc)) σ H Q) :
    tChain (rD2 (cn X) B false (op2 p)) (rD2 (cn X) B fr (op2 q)) (tM (cn X) B false (evE G ma)) (tM (cn X) B false (evE G mb)) (tM (cn X) B false (evE G mc)) σ H Q := by
  obtain ⟨φ, XX, M, env, n, h⟩ := h
  unfold evE at h
  refine t_then n h fun φ1 M1 H1 d v n1 x1 q1 h1 => ?_
  refine t_then n1 h1 fun φ2 M2 H2 e u n2 x2 q2 h2 => ?_
  refine ⟨φ2, XX, M2, d, e, n2.sim, q1.ext x2, q2, ?_⟩
  cases e3 : op2 p d e M2 with
  | bad => rw [e3] at h2; exact h2
  | exn x M3 => rw [e3] at h2; exact h2
  | ok w M3 =>
    rw [e3, Res.bind_ok] at h2
    intro φ3 H3 v3 s3 x3 q3 _
    have n3 := n2.go s3 x3
    have h3 := h2.later x3 s3
    split at h3
    · cases q3
      refine ⟨true, rfl, ?_⟩
      rw [if_pos rfl]
      exact t_then n3 h3 fun φ4 M4 H4 z v4 n4 x4 q4 h4 => ⟨φ4, XX, M4, e, z, n4.sim, q2.ext (x3.trans x4), q4, h4⟩
    · cases q3
      refine ⟨false, rfl, ?_⟩
      rw [if_neg (by decide)]
      exact h3 φ3 H3 _ s3 Ext.refl (.bl _) fun _ => trivial
    · exact h3.elim
theorem pm_chain {op op' : CmpOp} {p q : P2} (ho : OpR X (compareOp op) (rD2 (cn X) B false (op2 p))) (ho' : OpR X (compareOp op') (rD2 (cn X) B fr (op2 q))) (ha : PM X B false a (evE G ma)) (hb : PM X B false b (evE G mb)) (hc : PM X B false c (evE G mc))
    (hm : lastMarks [op, op'] [b, c] = false) : PM X B fr (.Compare a [op, op'] [b, c] pos) (evE G (.chain p q ma mb mc)) :=
  (pe_chain ho ho' ha hb hc hm).imp fun σ H Q q => t_chain q
theorem pb_chain {op op' : CmpOp} {p q : P2} (ho : OpR X (compareOp op) (rD2 (cn X) B false (op2 p))) (ho' : OpR X (compareOp op') (rD2 (cn X) B false (op2 q))) (ha : PM X B false a (evE G ma)) (hb : PM X B false b (evE G mb)) (hc : PM X B false c (evE G mc))
    (hm : lastMarks [op, op'] [b, c] = false) : PB X B (.Compare a [op, op'] [b, c] pos) (evE G (.chain p q ma mb mc)) :=
  (pt_chain ho ho' ha hb hc hm).imp fun σ H Q q => t_chain (t_test q)
/-! ### and, or, not, if -/
theorem t_bool {r : Rd0} {k : Bool → Env → Mem → Res D} {φ : List Addr} {M : Mem} {env : Env} {σ : L2.St} {H : Hp} {Q : VK} {C : Cn} {Q1 : Bool → Hp → Prop} (n : Now C XX B φ M env σ H)
    (h : Post C XX B fr φ H Q ((r env M).bind fun d M1 => match d with
      | .bl true => k true env M1
      | .bl false => k false env M1
      | _ => .bad))
    (go : ∀ φ1 M1 H1 b, Now C XX B φ1 M1 env σ H1 → Ext φ H φ1 H1 → Post C XX B fr φ1 H1 Q (k b env M1) → Q1 b H1) : tMb C B r σ H Q1 := by
  refine ⟨φ, XX, M, env, n, ?_⟩
  cases e1 : r env M with
  | bad => rw [e1] at h; exact h
  | exn x M1 => rw [e1] at h; exact h
  | ok d M1 =>
    rw [e1, Res.bind_ok] at h
    cases d with
    | bl b =>
      refine ⟨b, rfl, fun φ1 H1 s1 x1 => go φ1 M1 H1 b (n.go s1 x1) x1 ?_⟩
      cases b <;> exact h.later x1 s1
    | _ => exact h.elim
theorem pm_and {rest : List Expr} {pos : Pos} (ha : PM X B false a (evE G ma)) (hb : PM X B fr (.BoolOp .And (b :: rest) pos) (evE G mb)) : PM X B fr (.BoolOp .And (a :: b :: rest) pos) (evE G (.and ma mb)) := by
  refine (pe_and ha hb).imp fun σ H Q ⟨φ, XX, M, env, n, h⟩ => ?_
  unfold evE at h
  refine t_then n h fun φ1 M1 H1 d v n1 x1 q1 h1 => ?_
  split at h1
  · cases q1
    refine ⟨true, rfl, ?_⟩
    rw [if_pos rfl]
    exact ⟨φ1, XX, M1, env, n1, h1⟩
  · cases q1
    refine ⟨false, rfl, ?_⟩
    rw [if_neg (by decide)]
    exact h1 φ1 H1 _ n1.sim Ext.refl (.bl _) fun _ => trivial
  · exact h1.elim
theorem pm_or {rest : List Expr} {pos : Pos} (ha : PM X B false a (evE G ma)) (hb : PM X B fr (.BoolOp .Or (b :: rest) pos) (evE G mb)) : PM X B fr (.BoolOp .Or (a :: b :: rest) pos) (evE G (.or ma mb)) := by
  refine (pe_or ha hb).imp fun σ H Q ⟨φ, XX, M, env, n, h⟩ => ?_
  unfold evE at h
  refine t_then n h fun φ1 M1 H1 d v n1 x1 q1 h1 => ?_
  split at h1
  · cases q1
    refine ⟨false, rfl, ?_⟩
    rw [if_neg (by decide)]
    exact ⟨φ1, XX, M1, env, n1, h1⟩
  · cases q1
    refine ⟨true, rfl, ?_⟩
    rw [if_pos rfl]
    exact h1 φ1 H1 _ n1.sim Ext.refl (.bl _) fun _ => trivial
  · exact h1.elim
theorem pm_one {op : BoolOp} {pos : Pos} (ha : PM X B fr a (evE G ma)) : PM X B fr (.BoolOp op [a] pos) (evE G ma) := pe_one ha
theorem pm_not (ha : PM X B false a (evE G ma)) : PM X B fr (.UnaryOp .Not a pos) (evE G (.not ma)) := by
  refine (pe_not ha).imp fun σ H Q ⟨φ, XX, M, env, n, h⟩ => ?_
  unfold evE at h
  refine t_then n h fun φ1 M1 H1 d v n1 x1 q1 h1 => ?_
  split at h1
  · cases q1
    exact ⟨_, rfl, h1 φ1 H1 _ n1.sim Ext.refl (.bl _) fun _ => trivial⟩
  · exact h1.elim
theorem pm_ife (hc : PB X B c (evE G mc)) (ha : PM X B fr a (evE G ma)) (hb : PM X B fr b (evE G mb)) : PM X B fr (.IfExp c a b pos) (evE G (.ife mc ma mb)) := by
  refine (pe_ifExp hc ha hb).imp fun σ H Q ⟨φ, XX, M, env, n, h⟩ => ?_
  unfold evE at h
  refine t_bool (k := fun b env M => if b then evE G ma env M else evE G mb env M) n h fun φ1 M1 H1 b n1 x1 h1 => ?_
  cases b with
  | true => rw [if_pos rfl]; exact ⟨φ1, XX, M1, env, n1, h1⟩
  | false => rw [if_neg (by decide)]; exact ⟨φ1, XX, M1, env, n1, h1⟩
/-- tests: what is wanted of a Bool, as of a value -/
theorem t_btest {r : Rd0} {σ : L2.St} {H : Hp} {Q : Bool → Hp → Prop} {C : Cn} (h : tMb C B r σ H Q) : ∃ φ XX M env, Now C XX B φ M env σ H ∧ Post C XX B false φ H (fun x H1 => ∃ c, x = .bl c ∧ Q c H1) (r env M) := t_test h
theorem of_btest {r : Rd0} {σ : L2.St} {H : Hp} {Q : Bool → Hp → Prop} {C : Cn} {φ : List Addr} {M : Mem} {env : Env} (n : Now C XX B φ M env σ H) (h : Post C XX B false φ H (fun x H1 => ∃ c, x = .bl c ∧ Q c H1) (r env M)) (hb : ∀ d M', r env M = .ok d M' → ∃ b, d = .bl b) : tMb C B r σ H Q := by
  refine ⟨φ, XX, M, env, n, ?_⟩
  cases e1 : r env M with
  | bad => rw [e1] at h; exact h
  | exn x M1 => rw [e1] at h; exact h
  | ok d M1 =>
    obtain ⟨b, rfl⟩ := hb d M1 e1
    rw [e1] at h
    refine ⟨b, rfl, fun φ1 H1 s1 x1 => ?_⟩
    obtain ⟨c, e, q⟩ := h φ1 H1 (.bl b) s1 x1 (.bl b) fun z => by cases z
    cases e
    exact q
abbrev PWB (X : Cx) (B : Bs) (e : Expr) (r : Rd0) : Prop := PW X e (tMb (cn X) B r)
/-- a first test, then by its answer -/
theorem tb_then {r : Rd0} {k : Bool → Env → Mem → Res D} {φ : List Addr} {M : Mem} {env : Env} {σ : L2.St} {H : Hp} {Q : Bool → Hp → Prop} {C : Cn} {Q1 : Bool → Hp → Prop} (n : Now C XX B φ M env σ H)
    (h : (match (r env M).bind fun d M1 => match d with
      | .bl true => k true env M1
      | .bl false => k false env M1
      | _ => .bad with
      | .ok d M' => ∃ b, d = .bl b ∧ ∀ φ' H', Sim C φ' XX M' H' → Ext φ H φ' H' → Q b H'
      | .exn x M' => B.out = some (x, M')
      | .bad => False))
    (go : ∀ φ1 M1 H1 b, Now C XX B φ1 M1 env σ H1 → Ext φ H φ1 H1 → (match k b env M1 with
      | .ok d M' => ∃ b, d = .bl b ∧ ∀ φ' H', Sim C φ' XX M' H' → Ext φ1 H1 φ' H' → Q b H'
      | .exn x M' => B.out = some (x, M')
      | .bad => False) → Q1 b H1) : tMb C B r σ H Q1 := by
  refine ⟨φ, XX, M, env, n, ?_⟩
  cases e1 : r env M with
  | bad => rw [e1] at h; exact h
  | exn x M1 => rw [e1] at h; exact h
  | ok d M1 =>
    rw [e1, Res.bind_ok] at h
    cases d with
    | bl b =>
      refine ⟨b, rfl, fun φ1 H1 s1 x1 => go φ1 M1 H1 b (n.go s1 x1) x1 ?_⟩
      have h' : (match k b env M1 with
          | .ok d M' => ∃ b, d = .bl b ∧ ∀ φ' H', Sim C φ' XX M' H' → Ext φ H φ' H' → Q b H'
          | .exn x M' => B.out = some (x, M')
          | .bad => False) := by cases b <;> exact h
      cases e2 : k b env M1 with
      | bad => rw [e2] at h'; exact h'
      | exn x M2 => rw [e2] at h'; exact h'
      | ok d2 M2 =>
        rw [e2] at h'
        obtain ⟨b2, e3, h2⟩ := h'
        exact ⟨b2, e3, fun φ' H' s' x' => h2 φ' H' s' (x1.trans x')⟩
    | _ => exact h.elim
theorem pwb_and1 {pos : Pos} (ha : PB X B a (evE G ma)) : PWB X B (.BoolOp .And [a] pos) (evE G ma) := pw_and1 ha
theorem pwb_or1 {pos : Pos} (ha : PB X B a (evE G ma)) : PWB X B (.BoolOp .Or [a] pos) (evE G ma) := pw_or1 ha
theorem pwb_and {rest : List Expr} {pos : Pos} (ha : PB X B a (evE G ma)) (hb : PWB X B (.BoolOp .And (b :: rest) pos) (evE G mb)) : PWB X B (.BoolOp .And (a :: b :: rest) pos) (evE G (.and ma mb)) := by
  refine (pw_and ha hb).imp fun σ H Q ⟨φ, XX, M, env, n, h⟩ => ?_
  unfold evE at h
  refine tb_then (k := fun b env M => if b then evE G mb env M else .ok (.bl false) M) n h fun φ1 M1 H1 b n1 x1 h1 => ?_
  cases b with
  | true => rw [if_pos rfl]; exact ⟨φ1, XX, M1, env, n1, h1⟩
  | false =>
    rw [if_neg (by decide)]
    obtain ⟨b2, e, h2⟩ := h1
    cases e
    exact h2 φ1 H1 n1.sim Ext.refl
theorem pwb_or {rest : List Expr} {pos : Pos} (ha : PB X B a (evE G ma)) (hb : PWB X B (.BoolOp .Or (b :: rest) pos) (evE G mb)) : PWB X B (.BoolOp .Or (a :: b :: rest) pos) (evE G (.or ma mb)) := by
  refine (pw_or ha hb).imp fun σ H Q ⟨φ, XX, M, env, n, h⟩ => ?_
  unfold evE at h
  have h' := h
  refine tb_then (k := fun b env M => if b then .ok (.bl true) M else evE G mb env M) n (by
    cases e1 : evE G ma env M with
    | bad => rw [e1] at h; exact h
    | exn x M1 => rw [e1] at h; exact h
    | ok d M1 =>
      rw [e1] at h
      rw [Res.bind_ok] at h ⊢
      cases d with
      | bl b => cases b <;> exact h
      | _ => exact h) fun φ1 M1 H1 b n1 x1 h1 => ?_
  cases b with
  | true =>
    rw [if_pos rfl]
    obtain ⟨b2, e, h2⟩ := h1
    cases e
    exact h2 φ1 H1 n1.sim Ext.refl
  | false => rw [if_neg (by decide)]; exact ⟨φ1, XX, M1, env, n1, h1⟩
theorem pb_not (ha : PB X B a (evE G ma)) : PB X B (.UnaryOp .Not a pos) (evE G (.not ma)) := by
  refine (pt_not ha).imp fun σ H Q ⟨φ, XX, M, env, n, h⟩ => ?_
  unfold evE at h
  refine tb_then (k := fun b env M => .ok (.bl (!b)) M) n (by
    cases e1 : evE G ma env M with
    | bad => rw [e1] at h; exact h
    | exn x M1 => rw [e1] at h; exact h
    | ok d M1 =>
      rw [e1] at h
      rw [Res.bind_ok] at h ⊢
      cases d with
      | bl b => cases b <;> exact h
      | _ => exact h) fun φ1 M1 H1 b n1 x1 h1 => ?_
  obtain ⟨b2, e, h2⟩ := h1
  cases e
  exact h2 φ1 H1 n1.sim Ext.refl
/-! ### arguments, displays -/
theorem pms_nil : PMs X B [] (evEs G .nil) := by
  refine pa_nil.imp fun σ H Q ⟨φ, XX, M, env, n, h⟩ => ?_
  unfold evEs at h
  exact h φ H [] n.sim Ext.refl .nil
theorem pms_cons {e : Expr} {es : List Expr} {m : ME} {ms : MEs} (he : PM X B false e (evE G m)) (hs : PMs X B es (evEs G ms)) (h1 : starEach (e :: es) X.env = (false, eval e X.env) :: starEach es X.env) : PMs X B (e :: es) (evEs G (.cons m ms)) := by
  refine (pa_cons he hs h1).imp fun σ H Q ⟨φ, XX, M, env, n, h⟩ => ?_
  unfold evEs at h
  refine ⟨φ, XX, M, env, n, ?_⟩
  cases e1 : evE G m env M with
  | bad => rw [e1] at h; exact h
  | exn x M1 => rw [e1] at h; exact h
  | ok d M1 =>
    rw [e1, Res.bind_ok] at h
    intro φ1 H1 v1 s1 x1 q1 _
    refine ⟨φ1, XX, M1, env, n.go s1 x1, ?_⟩
    cases e2 : evEs G ms env M1 with
    | bad => rw [e2] at h; exact h
    | exn x M2 => rw [e2] at h; exact h
    | ok ds M2 =>
      rw [e2, Res.bind_ok] at h
      exact fun φ2 H2 vs s2 x2 q2 => h φ2 H2 _ s2 (x1.trans x2) (.cons (q1.ext x2) q2)
theorem pm_tup {es : List Expr} {ms : MEs} {k : Nat} (h : PMs X B es (evEs G ms)) : PM X B fr (.Tuple es k pos) (evE G (.tup ms)) := by
  refine (pe_tup h).imp fun σ H Q ⟨φ, XX, M, env, n, h⟩ => ?_
  unfold evE at h
  refine ts_then n h fun φ1 M1 H1 ds vs n1 x1 q1 h1 => ?_
  split at h1
  · rename_i hz
    exact ⟨by rw [← q1.length, sizeLine_eq]; exact hz, h1.newTup n1.sim q1⟩
  · exact h1.elim
theorem pm_lst {es : List Expr} {ms : MEs} (h : PMs X B es (evEs G ms)) : PM X B fr (.List es pos) (evE G (.lst ms)) := by
  refine (pe_lst h).imp fun σ H Q ⟨φ, XX, M, env, n, h⟩ => ?_
  unfold evE at h
  refine ts_then n h fun φ1 M1 H1 ds vs n1 x1 q1 h1 => ?_
  split at h1
  · rename_i hz
    exact ⟨by rw [← q1.length, sizeLine_eq]; exact hz, h1.newLst n1.sim q1⟩
  · exact h1.elim
theorem pm_dic0 : PM X B fr (.Dict [] [] pos) (evE G .dic0) := by
  refine pe_dnewK.imp fun σ H Q ⟨φ, XX, M, env, n, h⟩ => ?_
  unfold evE at h
  exact h.newDic n.sim
/-- a fresh list comes into the store -/
theorem t_new {σ : L2.St} {H : Hp} {Q : VK} (q : tM (cn X) B false (evE G (.new ma)) σ H Q) : tM (cn X) B true (evE G ma) σ H Q := by
  obtain ⟨φ, XX, M, env, n, h⟩ := q
  unfold evE at h
  refine ⟨φ, XX, M, env, n, ?_⟩
  cases e1 : evE G ma env M with
  | bad => rw [e1] at h; exact h
  | exn x M1 => rw [e1] at h; exact h
  | ok d M1 =>
    rw [e1, Res.bind_ok] at h
    intro φ1 H1 v1 s1 x1 q1 f1
    have f := f1 rfl
    unfold newD at h
    split at h
    · obtain ⟨p, vs, rfl, k1, k2, k3, k4, k5⟩ := f
      have hl : φ1.length = M1.length := s1.len
      refine h (φ1 ++ [p]) H1 (.ref p) (k3.push k2 ⟨vs, k4, k5.mono Mo.push⟩) (x1.push k1) (.ref ?_) fun z => by cases z
      rw [← hl]
      simp
    · obtain ⟨p, ks, vs, rfl, k1, k2, k3, k4, k5, k6, k7⟩ := f
      have hl : φ1.length = M1.length := s1.len
      refine h (φ1 ++ [p]) H1 (.ref p) (k3.push k2 (.inl ⟨ks, vs, k4, k5, k6, k7.mono Mo.push⟩)) (x1.push k1) (.ref ?_) fun z => by cases z
      rw [← hl]
      simp
    · exact h.elim
theorem pm_new (h : PM X B true a (evE G ma)) : PM X B false a (evE G (.new ma)) := h.imp fun σ H Q q => t_new q
end
end Mi
set_option Elab.async false
set_option linter.all false
set_option maxRecDepth 100000
set_option maxHeartbeats 0
/-! Mi8: calls of built-ins, cuts, isinstance, calls of own defs. -/
namespace Mi
open PySem PySem.Spec PyProof.Rows L2
section
variable {C : Cn} {XX : List Addr} {B : Bs} {fr : Bool} {σ : L2.St} {H : Hp} {Q : VK} {G : Ce} {ma mb mc : ME}
theorem t_call1 {f : D → Mem → Res D} {r : Rd0} (e : r = fun env M => (evE G ma env M).bind f) (h : tM C B fr r σ H Q) : tCB (rDs C B fr (on1 f)) (tMs C B (evEs G (.cons ma .nil))) σ H Q := by
  subst e
  obtain ⟨φ, XX, M, env, n, h⟩ := h
  refine ts_then (k := fun ds M => on1 f ds M) (fr := fr) (Q := Q) n ?_ fun φ1 M1 H1 ds vs n1 x1 q1 h1 => ⟨φ1, XX, M1, ds, n1.sim, q1, h1⟩
  have e : (evEs G (.cons ma .nil) env M).bind (fun ds M => on1 f ds M) = (evE G ma env M).bind f := by
    simp only [evEs]
    rw [Res.bind_assoc]
    cases evE G ma env M <;> rfl
  rw [e]
  exact h
theorem t_call2 {f : D → D → Mem → Res D} {r : Rd0} (e : r = fun env M => (evE G ma env M).bind fun d M1 => (evE G mb env M1).bind fun e M2 => f d e M2) (h : tM C B fr r σ H Q) :
    tCB (rDs C B fr (on2 f)) (tMs C B (evEs G (.cons ma (.cons mb .nil)))) σ H Q := by
  subst e
  obtain ⟨φ, XX, M, env, n, h⟩ := h
  refine ts_then (k := fun ds M => on2 f ds M) (fr := fr) (Q := Q) n ?_ fun φ1 M1 H1 ds vs n1 x1 q1 h1 => ⟨φ1, XX, M1, ds, n1.sim, q1, h1⟩
  have e : (evEs G (.cons ma (.cons mb .nil)) env M).bind (fun ds M => on2 f ds M) = (evE G ma env M).bind fun d M1 => (evE G mb env M1).bind fun e M2 => f d e M2 := by
    simp only [evEs]
    cases e1 : evE G ma env M with
    | ok d M1 =>
      simp only [Res.bind_ok]
      cases evE G mb env M1 <;> rfl
    | _ => rfl
  rw [e]
  exact h
end
section
variable {X : Cx} {XX : List Addr} {B : Bs} {fr : Bool} {G : Ce} {a b c : Expr} {ma mb mc : ME} {pos p0 : Pos} {x : Str}
abbrev noStar (e : Expr) : Bool := match e with
  | .Starred .. => false
  | _ => true
theorem star_of {e : Expr} {es : List Expr} {env : PySem.Env} (h : noStar e = true) : starEach (e :: es) env = (false, eval e env) :: starEach es env := by
  cases e <;> first
    | rfl
    | cases h
theorem any_nil {pos : Pos} : (backTo pos (starEach [] X.env)).any (·.1) = false := rfl
theorem any_one {pos : Pos} (h : noStar b = true) : (backTo pos (starEach [b] X.env)).any (·.1) = false := by
  rw [star_of h]
  rfl
theorem pms_one (ha : PM X B false a (evE G ma)) (hs : noStar a = true) : PMs X B [a] (evEs G (.cons ma .nil)) := pms_cons ha pms_nil (star_of hs)
theorem pms_two (ha : PM X B false a (evE G ma)) (hs : noStar a = true) (hb : PM X B false b (evE G mb)) (hs2 : noStar b = true) : PMs X B [a, b] (evEs G (.cons ma (.cons mb .nil))) := pms_cons ha (pms_one hb hs2) (star_of hs)
/-- a built-in function, a built-in class, of one thing -/
theorem pm_b1 {id : String} {p : P1} (hc : CallR X (.builtin id) (rDs (cn X) B fr (on1 (op1 p)))) (hg : Gl X x) (hm : X.mg x = none) (hv : bootBuiltins x = some (.builtin id)) (ha : PM X B false a (evE G ma)) (hs : noStar a = true)
    (hn : x ≠ "__name__") (hdb : (x == ("__debug__" : Str)) = false) : PM X B fr (.Call (.Name x p0) [a] [] pos) (evE G (.p1 p ma)) :=
  (pe_callB hc hg hm hv (pms_one ha hs) hn hdb (star_of hs) any_nil).imp fun σ H Q q => t_call1 (G := G) (ma := ma) (f := op1 p) rfl q
theorem pm_t1 {T : String} {p : P1} (hc : CallR X (.type T) (rDs (cn X) B fr (on1 (op1 p)))) (hg : Gl X x) (hm : X.mg x = none) (hv : bootBuiltins x = some (.type T)) (ha : PM X B false a (evE G ma)) (hs : noStar a = true)
    (hn : x ≠ "__name__") (hdb : (x == ("__debug__" : Str)) = false) : PM X B fr (.Call (.Name x p0) [a] [] pos) (evE G (.p1 p ma)) :=
  (pe_callTy hc hg hm hv (pms_one ha hs) hn hdb (star_of hs) any_nil).imp fun σ H Q q => t_call1 (G := G) (ma := ma) (f := op1 p) rfl q
theorem pm_b2 {id : String} {p : P2} (hc : CallR X (.builtin id) (rDs (cn X) B fr (on2 (op2 p)))) (hg : Gl X x) (hm : X.mg x = none) (hv : bootBuiltins x = some (.builtin id)) (ha : PM X B false a (evE G ma)) (hs : noStar a = true)
    (hb : PM X B false b (evE G mb)) (hs2 : noStar b = true) (hn : x ≠ "__name__") (hdb : (x == ("__debug__" : Str)) = false) : PM X B fr (.Call (.Name x p0) [a, b] [] pos) (evE G (.p2 p ma mb)) :=
  (pe_callB hc hg hm hv (pms_two ha hs hb hs2) hn hdb (star_of hs) (any_one hs2)).imp fun σ H Q q => t_call2 (G := G) (ma := ma) (mb := mb) (f := op2 p) rfl q
/-! ### isinstance -/
/-- names of built-in classes, as values -/
theorem pe_tyn {t : String} {y : Str} {p1 : Pos} (hg : Gl X y) (hm : X.mg y = none) (hv : bootBuiltins y = some (.type t)) (hn : y ≠ "__name__") (hdb : (y == ("__debug__" : Str)) = false) : PE X (.Name y p1) (tC (.ty t)) := pe_bltn hg hm hv rfl hn hdb
theorem pa_types : ∀ {ts : List String} {es : List Expr}, Paired (fun t e => PE X e (tC (.ty t)) ∧ noStar e = true) ts es → PA X es (fun _ H Q => Q (ts.map V.ty) H)
  | _, _, .nil => pa_nil
  | _, _, .cons ⟨h, hs⟩ r => (pa_cons h (pa_types r) (star_of hs)).imp fun σ H Q q => q
/-- isinstance(x, T) -/
theorem pm_isi1 {t : String} {e : Expr} (hg : Gl X "isinstance") (hm : X.mg "isinstance" = none) (ha : PM X B false a (evE G ma)) (hs : noStar a = true) (he : PE X e (tC (.ty t))) (hs2 : noStar e = true) (ht : t ∈ tyNames) :
    PM X B fr (.Call (.Name "isinstance" p0) [a, e] [] pos) (evE G (.isi ma [t])) := by
  refine (pe_callB call_isi hg hm PyProof.Rows.boot_isinstance (pa_cons ha (pa_cons he pa_nil (star_of hs2)) (star_of hs)) (by decide) (by decide) (star_of hs) (any_one hs2)).imp fun σ H Q ⟨φ, XX, M, env, n, h⟩ => ?_
  unfold evE at h
  refine t_then n h fun φ1 M1 H1 d v n1 x1 q1 h1 => ?_
  split at h1
  · rename_i b hb
    unfold isTys at hb
    obtain ⟨a', h2, h3⟩ := Option.map_eq_some_iff.mp hb
    refine ⟨v, .ty t, _, _, b, rfl, .ty t, ty_at n1.sim q1 h2, ?_, h1 φ1 H1 _ n1.sim Ext.refl (.bl _) fun _ => trivial⟩
    rw [← h3, List.any_cons, List.any_nil, Bool.or_false]
    exact kit_ty (kit_sub a' (ty_mem h2) t ht)
  · exact h1.elim
/-- isinstance(x, (T1, T2, ..)) -/
theorem pm_isiT {ts : List String} {es : List Expr} {k : Nat} {p2 : Pos} (hg : Gl X "isinstance") (hm : X.mg "isinstance" = none) (ha : PM X B false a (evE G ma)) (hs : noStar a = true) (he : Paired (fun t e => PE X e (tC (.ty t)) ∧ noStar e = true) ts es) (ht : ∀ t ∈ ts, t ∈ tyNames) (hl : ts.length ≤ 100) :
    PM X B fr (.Call (.Name "isinstance" p0) [a, .Tuple es k p2] [] pos) (evE G (.isi ma ts)) := by
  refine (pe_callB call_isiT hg hm PyProof.Rows.boot_isinstance (pa_cons ha (pa_cons (pe_tup (pa_types he)) pa_nil rfl) (star_of hs)) (by decide) (by decide) (star_of hs) rfl).imp fun σ H Q ⟨φ, XX, M, env, n, h⟩ => ?_
  unfold evE at h
  refine t_then n h fun φ1 M1 H1 d v n1 x1 q1 h1 => ?_
  refine ⟨by rw [List.length_map, sizeLine_eq]; omega, fun p hp => ?_⟩
  split at h1
  · rename_i b hb
    unfold isTys at hb
    obtain ⟨a', h2, h3⟩ := Option.map_eq_some_iff.mp hb
    refine ⟨v, p, ts.map V.ty, _, ts.map Value.type, b, rfl, upd_same, tys_vals ts, ty_at (n1.sim.new hp) (q1.mono (Mo.new hp)) h2, ?_, h1 φ1 _ _ (n1.sim.new hp) (Ext.new hp) (.bl _) fun _ => trivial⟩
    rw [← h3]
    exact kit_any (ty_mem h2) ts ht
  · exact h1.elim
/-! ### cuts -/
def tO (C : Cn) (B : Bs) (m : ME) (r : Rd0) : TO := fun σ H Q => ∃ φ XX M env, Now C XX B φ M env σ H ∧ (match r env M with
  | .ok d M' => ∃ b, bndOf m.isNon d = some b ∧ ∀ φ' H', Sim C φ' XX M' H' → Ext φ H φ' H' → Q b H'
  | .exn x M' => B.out = some (x, M')
  | .bad => False)
theorem _root_.L2.PO.imp {e : Option Expr} {t u : TO} (h : PO X e t) (k : ∀ σ H Q, u σ H Q → t σ H Q) : PO X e u := ⟨fun pins s σ H Q I q => h.run pins s σ H Q I (k σ H Q q)⟩
theorem pmo_none : PO X none (tO (cn X) B (.con .non) (evE G (.con .non))) := by
  refine po_none.imp fun σ H Q ⟨φ, XX, M, env, n, h⟩ => ?_
  simp only [evE] at h
  obtain ⟨b, e, h⟩ := h
  cases e
  exact h φ H n.sim Ext.refl
theorem pmo_some (hn : ma.isNon = false) (ha : PM X B false a (evE G ma)) : PO X (some a) (tO (cn X) B ma (evE G ma)) := by
  refine (po_some ha).imp fun σ H Q ⟨φ, XX, M, env, n, h⟩ => ?_
  refine ⟨φ, XX, M, env, n, ?_⟩
  cases e1 : evE G ma env M with
  | bad => rw [e1] at h; exact h
  | exn x M1 => rw [e1] at h; exact h
  | ok d M1 =>
    rw [e1, hn] at h
    obtain ⟨b, e, h⟩ := h
    intro φ1 H1 v1 s1 x1 q1 _
    cases d <;> simp [bndOf] at e
    subst e
    cases q1
    exact ⟨_, rfl, h φ1 H1 s1 x1⟩
theorem pm_sli {lo hi : Option Expr} {p2 : Pos} (ha : PM X B false a (evE G ma)) (hl : PO X lo (tO (cn X) B mb (evE G mb))) (hh : PO X hi (tO (cn X) B mc (evE G mc))) :
    PM X B fr (.Subscript a (.Slice lo hi none p2) pos) (evE G (.sli ma mb mc)) := by
  refine (pe_slice (sl_D (B := B) (fr := fr)) ha hl hh).imp fun σ H Q ⟨φ, XX, M, env, n, h⟩ => ?_
  unfold evE at h
  refine t_then n h fun φ1 M1 H1 d v n1 x1 q1 h1 => ?_
  refine ⟨φ1, XX, M1, env, n1, ?_⟩
  cases e2 : evE G mb env M1 with
  | bad => rw [e2] at h1; exact h1
  | exn x M2 => rw [e2] at h1; exact h1
  | ok l M2 =>
    rw [e2, Res.bind_ok] at h1
    cases hb : bndOf mb.isNon l with
    | none =>
      rw [hb] at h1
      exact h1.elim
    | some b =>
      rw [hb] at h1
      refine ⟨b, hb, fun φ2 H2 s2 x2 => ⟨φ2, XX, M2, env, n1.go s2 x2, ?_⟩⟩
      have h2 : Post (cn X) XX B fr φ2 H2 Q ((evE G mc env M2).bind fun h M3 => sliD d (some b) (bndOf mc.isNon h) M3) := h1.later x2 s2
      cases e3 : evE G mc env M2 with
      | bad =>
        rw [e3] at h2
        exact h2.elim
      | exn x M3 =>
        rw [e3] at h2
        exact h2
      | ok hh M3 =>
        rw [e3, Res.bind_ok] at h2
        cases hc : bndOf mc.isNon hh with
        | none =>
          rw [hc] at h2
          exact h2.elim
        | some c =>
          rw [hc] at h2
          exact ⟨c, hc, fun φ3 H3 s3 x3 => ⟨φ3, XX, M3, d, s3, q1.ext (x2.trans x3), h2.later x3 s3⟩⟩
theorem pm_rev {k : Nat} {p1 p2 p3 : Pos} (ha : PM X B false a (evE G ma)) : PM X B fr (.Subscript a (.Slice none none (some (.UnaryOp .USub (.Constant (.int 1) k p1) p2)) p3) pos) (evE G (.rev ma)) := by
  refine (pe_revL ha).imp fun σ H Q ⟨φ, XX, M, env, n, h⟩ => ?_
  unfold evE at h
  refine t_then n h fun φ1 M1 H1 d v n1 x1 q1 h1 => ?_
  unfold revD at h1
  split at h1
  · rename_i ds hv
    obtain ⟨l, vs, rfl, hq, rs⟩ := lv_at n1.sim q1 hv
    exact ⟨l, vs, rfl, hq, h1.newLst n1.sim rs.reverse⟩
  · exact h1.elim
/-! ### own defs -/
/-- what a def promises: what the evaluator says -/
def spM (call : List D → Mem → Res D) (np : Nat) (C : Cn) : Sp := fun vs H Q _ => vs.length = np ∧ ∃ φ XX M ds, Sim C φ XX M H ∧ Rs C φ XX H ds vs ∧ (match call ds M with
  | .ok d M' => ∀ φ' H' v, Sim C φ' XX M' H' → Ext φ H φ' H' → R C φ' XX H' d v → Q v H'
  | .exn _ _ => False
  | .bad => False)
theorem pm_call {k np : Nat} {f : Addr} {fd : FuncData} {ps : List Str} {es : List Expr} {m : ME} {ms : MEs} {e : Expr} (hB : B.out = none) (F : FnOk X.prog X.w X.K X.mg X.base CX0 k f fd ps (spM (G.call x) np (cn X))) (hr : Room k X.A) (hg : Gl X x) (hm : X.mg x = some (.ref f)) (hk : PySem.W.keepIn X.K (.ref f) = true) (hb : Binds X.K fd ps [])
    (ha : PMs X B (e :: es) (evEs G (.cons m ms))) (hnp : ∀ env M ds M', evEs G (.cons m ms) env M = .ok ds M' → ds.length = np) (hdb : (x == ("__debug__" : Str)) = false) (hs : noStar e = true) (hpl : (backTo pos (starEach es X.env)).any (·.1) = false) : PM X B false (.Call (.Name x p0) (e :: es) [] pos) (evE G (.call x (.cons m ms))) := by
  refine (pe_call (E := fun _ _ _ => False) F hr hg hm hk hb .nil pass0 ha hdb (star_of hs) hpl).imp fun σ H Q ⟨φ, XX, M, env, n, h⟩ => ?_
  refine ⟨φ, XX, M, env, n, ?_⟩
  unfold evE at h
  cases e1 : evEs G (.cons m ms) env M with
  | bad => rw [e1] at h; exact h
  | exn x M1 => rw [e1] at h; exact h
  | ok ds M1 =>
    rw [e1, Res.bind_ok] at h
    intro φ1 H1 vs s1 x1 q1
    rw [List.append_nil]
    refine ⟨by rw [← q1.length]; exact hnp env M ds M1 e1, φ1, XX, M1, ds, s1, q1, ?_⟩
    cases e2 : G.call x ds M1 with
    | bad => rw [e2] at h; exact h
    | exn y M2 =>
      rw [e2] at h
      have h' : B.out = some (y, M2) := h
      rw [hB] at h'
      cases h'
    | ok d M2 =>
      rw [e2] at h
      exact fun φ2 H2 v s2 x2 q2 => h φ2 H2 v s2 (x1.trans x2) q2 fun z => by cases z
end
end Mi
set_option Elab.async false
set_option linter.all false
set_option maxRecDepth 100000
set_option maxHeartbeats 0
/-! MiE: enumerate of a tuple. -/
namespace Mi
open PySem PySem.Spec PyProof.Rows L2
open Sem (wp)
/-- enumerate(v): any v that an iterator begins on -/
theorem enum_made {v : Value} {ob : Obj} {Hx : Heap → Prop} (Bg : Begins v ob Hx) :
    Meets (Builtin.«enumerate.__new__» ⟨[.type "enumerate", v], []⟩) (fun _ Rr st => Hx st.heap ∧
      Rr (.ok (.ret (.ref (st.heap.push ob).objs.size))) { st with heap := (st.heap.push ob).push { cls := .type "enumerate", data := .fields #[.none, .bool false, .ref st.heap.objs.size, rawInt 0, .none, .none] } }) :=
  .of_wp fun pr wo Ar Rr st hq => by
    obtain ⟨hp0, gs0, dr0, tk0, os0⟩ := st
    obtain ⟨hq1, hq⟩ := hq
    have hs0 := sub_enumerate
    have goIt : ∀ {A1 : Around} {E1 : Value → Shared → Prop} {Q1 : Value → Shared → Prop}, Q1 (.ref hp0.objs.size) ⟨hp0.push ob, gs0, dr0, tk0, os0⟩ → wpAny (model pr wo) A1 (pyIter v) Q1 E1 ⟨hp0, gs0, dr0, tk0, os0⟩ :=
      fun z => Bg.iter pr wo _ _ ⟨hp0, gs0, dr0, tk0, os0⟩ _ hq1 z
    wp_walk using goIt
    refine wpAny_stack_any fun st0 => wpAny_pure ?_
    split
    · rename_i cl _ _ _ _ _
      cases (cl == Value.type "enumerate")
      · wp_walk using goIt
        exact ⟨_, rfl, hq⟩
      · wp_walk using goIt
        exact ⟨_, rfl, hq⟩
    · wp_walk using goIt
      exact ⟨_, rfl, hq⟩
section
variable {prog : Program} {w : World} {A : Around} {E : Value → Shared → Prop} {s : Shared}
theorem enum_called {v : Value} {ob : Obj} {Hx : Heap → Prop} {Q : Value → Shared → Prop} (Bg : Begins v ob Hx) (h1 : Hx s.heap)
    (h : ∀ hn, IsEnum hn (s.heap.objs.size + 1) s.heap.objs.size 0 .none → hn.get? s.heap.objs.size = some ob → (∀ b u, s.heap.get? b = some u → hn.get? b = some u) → Q (.ref (s.heap.objs.size + 1)) { s with heap := hn }) :
    wpAny (model prog w) A (call (.type "enumerate") [v]) Q E s := by
  refine callType_new F.called_enumerate (by decide) (F.typeCall_enumerate_1 _) (F.newCall_enumerate_1 _) (fun x => F.args_object_init_2 x _) F.entry_enumerate_new (enum_made Bg) ⟨h1, ?_⟩
  have z1 : (s.heap.push ob).objs.size = s.heap.objs.size + 1 := Heap.size_push ..
  show _ ∧ _
  rw [z1]
  generalize hen : (⟨.type "enumerate", none, .fields #[.none, .bool false, .ref s.heap.objs.size, rawInt 0, .none, .none], #[]⟩ : Obj) = en
  have z2 : ((s.heap.push ob).push en).get? (s.heap.objs.size + 1) = some en := by
    rw [← z1]
    refine Heap.get?_push_size _ ?_
    rw [← hen]
    rfl
  have z3 : IsEnum ((s.heap.push ob).push en) (s.heap.objs.size + 1) s.heap.objs.size 0 .none := by
    rw [← hen] at z2 ⊢
    exact z2
  refine ⟨⟨_, z3, rfl⟩, h _ z3 ?_ fun b u x => ?_⟩
  · exact Heap.get?_push_of_some _ (Heap.get?_push_size _ Bg.free)
  · exact Heap.get?_push_of_some _ (Heap.get?_push_of_some _ x)
end
/-- enumerate at its end, over a tuple -/
theorem enum_over {prog : Program} {w : World} {A : Around} {E : Value → Shared → Prop} {s : Shared} {e it a : Addr} {i : Int} {j : Nat} {old : Value} {items : Array Value} {Q : Option Value → Shared → Prop} (hh : A.handled = none) (he : IsEnum s.heap e it i old)
    (hi : s.heap.IsTupleIter it a j) (ht : s.heap.IsTuple a items) (hx : items[j]? = none) (hQ : ∀ hn, Heap.ExtBut it s.heap hn → Q none { s with heap := hn }) : wpAny (model prog w) A (pyNext (.ref e)) Q E s := by
  have ty : s.TypeIs (.ref e) "enumerate" := ⟨_, he, rfl⟩
  unfold pyNext
  refine wpAny_bind (wpAny_attempt (wpAny_callSpecial?_slot (name := Str.ofString "__next__") ty F.slot_enumerate_next (wpAny_call_entry F.slot_enumerate_next ty F.entry_enumerate_next ?_ (F.args_enumerate_next_1 _))))
  show wpAny _ _ (field (.ref e) 2 >>= _) _ _ _
  refine wpAny_bind (wpAny_field he rfl (x := .ref it) rfl (wpAny_bind (wpAny_nextOf_tuple_end hh hi ht hx fun hn ex hb hs => ?_)))
  obtain ⟨oe, h1, h2⟩ := hs
  exact wpAny_bind (wpAny_isInstance (T := "StopIteration") (b := true) ⟨oe, h1, h2⟩ isSubtype_stop (wpAny_pure (hQ _ hb)))
/-- the tuple at a: its items in new pairs with their numbers -/
def Ittn (K : PySem.W.Frag) (a : Addr) : It where
  go := fun i H => ∃ (xs : List V) (x : V), SqT K H a xs ∧ xs[i]? = some x
  yld := fun i H v H' => ∃ (T : Addr) (x : V), v = .ref T ∧ H T = none ∧ H' = upd H T (.tup [.int (i : Nat), x]) ∧ ∀ xs, SqT K H a xs → xs[i]? = some x
  stop := fun i H => ∃ xs : List V, SqT K H a xs ∧ xs.length ≤ i
/-- how its objects lie -/
def EnT (a e it : Addr) (i : Nat) (h : Heap) : Prop := (∃ old, IsEnum h e it ((i : Nat) : Int) old) ∧ h.IsTupleIter it a i ∧ e ≠ it
theorem two_of {b e it : Addr} (hb : b ∈ [e, it]) : b = e ∨ b = it := by simpa using hb
theorem turn_enT {P : Program} {w : World} {K : PySem.W.Frag} {elts : List Expr} {kk : Nat} {tpos : Pos} (a e it : Addr) (hae : a ≠ e) (hai : a ≠ it) : Turn P w K (.Tuple elts kk tpos) (Ittn K a) [e, it] e (EnT a e it) where
  mem := List.mem_cons_self
  obj := fun i h st b hb => by
    obtain ⟨⟨old, h1⟩, ⟨o2, h2, c2, d2⟩, h3⟩ := st
    cases two_of hb with
    | inl z => subst z; exact ⟨_, h1, fun v q => nomatch q⟩
    | inr z => subst z; exact ⟨o2, h2, fun v q => by rw [d2] at q; cases q⟩
  keep := fun i h h' st kk => by
    obtain ⟨⟨old, h1⟩, h2, h3⟩ := st
    exact ⟨⟨old, kk e (by simp) _ h1⟩, h2.at fun o q => kk it (by simp) o q, h3⟩
  item := by
    intro X hP hw hK hc i pins s σ H E I hf st hg
    subst hP hw hK
    obtain ⟨⟨old, h1⟩, h2, h3⟩ := st
    obtain ⟨xs, x, k1, k2⟩ := hg
    obtain ⟨its, rv, tt, hz⟩ := I.tuple k1
    obtain ⟨u, hu, ru⟩ := rv.get k2
    have lt1 : e < s.heap.objs.size := Heap.lt_size h1
    have lt2 : it < s.heap.objs.size := by
      obtain ⟨_, q, _⟩ := h2
      exact Heap.lt_size q
    have hlen : i < its.toArray.size := by
      have := (List.getElem?_eq_some_iff.mp hu).1
      simpa using this
    have DR := Draws.tuple (prog := X.prog) (w := X.w) (A := X.A.in1) (I.ok.hd hc) it a hai its.toArray
    refine wpAny_pyNext_enum_itemD DR h1 ⟨h2, tt⟩ hlen h3 (by simp [h3, Ne.symm hae]) fun y hn tk py ho hst hT hsz hk => ?_
    have ey : y = u := by
      have q : its.toArray[i]? = some y := py
      rw [List.getElem?_toArray] at q
      rw [hu] at q
      exact (Option.some.inj q).symm
    subst ey
    refine ⟨_, rfl, wpAny_letOwnedTupleGo_enum (s := { s with heap := hn, toks := tk + 1 }) ho fun hm hem sb => ?_⟩
    generalize hN : s.heap.objs.size = NN at *
    have q2 : hm.get? NN = some { cls := .type "tuple", data := .seq #[.int i tk, y] } := (sb.2 NN (Nat.ne_of_gt lt1)).trans hT
    have mk : ObjOk X.prog X.w (upd H NN (.tup [.int (i : Nat), x])) hm NN (.tup [.int (i : Nat), x]) :=
      ⟨by show 2 ≤ sizeLine; decide, [.int i tk, y], .cons ⟨_, rfl⟩ (.cons ru .nil), ⟨_, q2, rfl, _, rfl⟩⟩
    have I1 : L2.Inv X pins σ (upd H NN (.tup [.int (i : Nat), x])) { s with heap := hm, toks := tk + 1 } := by
      refine I.turnedNew (ch := [e, it]) (fun b ob hb q => ?_) hf (Nat.le_of_eq hN) mk
      have ne1 : b ≠ e := fun z => hb (by simp [z])
      have ne2 : b ≠ it := fun z => hb (by simp [z])
      exact (sb.2 b ne1).trans (hk b ob ne1 ne2 q)
    have hfree : H NN = none := I.hok.fresh (Nat.le_of_eq hN)
    refine ⟨.ref NN, _, I1, rfl, ⟨NN, x, rfl, hfree, rfl, fun ys hy => by rw [I.tuple_inj hy k1]; exact k2⟩, ⟨⟨y, ?_⟩, hst.1.at fun o q => (sb.2 it (Ne.symm h3)).trans q, h3⟩, fun b hb => ?_⟩
    · have e1 : ((i + 1 : Nat) : Int) = (i : Int) + 1 := by omega
      rw [e1]
      exact hem
    · have hlt : b < NN := by
        cases two_of hb with
        | inl z => subst z; exact lt1
        | inr z => subst z; exact lt2
      rw [upd_ne (Nat.ne_of_lt hlt)]
      exact (hf b hb).1
  done := by
    intro X hP hw hK hc i pins s σ H E I hf st hg
    subst hP hw hK
    obtain ⟨⟨old, h1⟩, h2, h3⟩ := st
    obtain ⟨xs, k1, k2⟩ := hg
    obtain ⟨its, rv, tt, hz⟩ := I.tuple k1
    obtain ⟨f0, f1, f2, f3, f4, f5⟩ := hf it (by simp)
    have hle := rv.length
    exact enum_over (I.ok.hd hc) h1 h2 tt (by simp; omega) fun hn eb => ⟨rfl, I.turned (t' := s.toks) (fun b o hb q => eb b o hb q) f0 f1 f3 f4 f5⟩
  self := fun A i s Q E st h => by
    obtain ⟨⟨_, h1⟩, _⟩ := st
    exact wpAny_pyIter_enum h1 h
def iEnT (K : PySem.W.Frag) (ta : TA) : TI := fun σ H R => ta σ H fun vs H1 => ∃ (a : Addr) (xs : List V), vs = [.ref a] ∧ SqT K H1 a xs ∧ R (Ittn K a) H1
theorem pi_enT {X : Cx} {e : Expr} {ta : TA} {p pos tpos : Pos} {elts : List Expr} {kk : Nat} (hg : Gl X "enumerate") (hm : X.mg "enumerate" = none) (ha : PA X [e] ta) (hs : starEach [e] X.env = [(false, eval e X.env)]) :
    PI X (.Tuple elts kk tpos) (.Call (.Name "enumerate" p) [e] [] pos) (iEnT X.K ta) := by
  refine ⟨fun pins s σ H Rr I h => ?_⟩
  refine Call_ (ld_blt I hg hm boot_enumerate (PyProof.Rows.callWith_type1 (thn (ha.run pos pins s σ H _ I h) fun us s1 ⟨vs, H1, I1, r1, q1⟩ => ?_) hs rfl))
  obtain ⟨a, xs, rfl, hq, q⟩ := q1
  obtain ⟨u, rfl, ru⟩ := vals1 r1
  cases ru
  obtain ⟨its, rv, tt, hz⟩ := I1.tuple hq
  have la : a < s1.heap.objs.size := by
    obtain ⟨o, ho, _⟩ := tt
    exact Heap.lt_size ho
  refine enum_called (begins_tuple a its.toArray) (show s1.heap.IsTuple a its.toArray from tt) fun hn he hi hk => wpAny_pyIter_enum he ?_
  have hit : hn.IsTupleIter s1.heap.objs.size a 0 := ⟨_, hi, rfl, rfl⟩
  refine ⟨s1.heap.objs.size + 1, [s1.heap.objs.size + 1, s1.heap.objs.size], _, _, H1, rfl, I1.kept (t' := s1.toks) hk, turn_enT a (s1.heap.objs.size + 1) s1.heap.objs.size (Nat.ne_of_lt (Nat.lt_succ_of_lt la)) (Nat.ne_of_lt la), ⟨⟨.none, he⟩, hit, Nat.succ_ne_self _⟩, fun b hb => ?_, q⟩
  have hle : s1.heap.objs.size ≤ b := by
    cases two_of hb with
    | inl z => rw [z]; exact Nat.le_succ _
    | inr z => rw [z]; exact Nat.le_refl _
  exact I1.fpOk hle (I1.hok.fresh hle)
end Mi
set_option Elab.async false
set_option linter.all false
set_option maxRecDepth 100000
set_option maxHeartbeats 0
/-! Mi9: what a for walks, list comprehensions. -/
namespace Mi
open PySem PySem.Spec PyProof.Rows L2
section
variable {C : Cn} {φ φ' φ'' X X' X'' XX : List Addr} {H H' H'' : Hp} {M : Mem} {B : Bs}
theorem Mo.trans (a : Mo φ X H φ' X' H') (b : Mo φ' X' H' φ'' X'' H'') : Mo φ X H φ'' X'' H'' :=
  ⟨fun x o h n m => let ⟨h1, h2, h3⟩ := a.fz x o h n m; b.fz x o h1 h2 h3, fun n x h => b.rf n x (a.rf n x h)⟩
theorem Mo.refl : Mo φ X H φ X H := ⟨fun _ _ h n m => ⟨h, n, m⟩, fun _ _ h => h⟩
theorem Rs.back : ∀ {ds : List D} {vs : List V} {i : Nat} {v : V}, Rs C φ X H ds vs → vs[i]? = some v → ∃ d, ds[i]? = some d ∧ R C φ X H d v
  | _, _, _, _, .nil, e => by simp at e
  | _, _, 0, _, .cons r _, e => by simp at e; subst e; exact ⟨_, rfl, r⟩
  | _, _, i + 1, _, .cons _ rs, e => by
    obtain ⟨v, h1, h2⟩ := Rs.back (i := i) rs (by simpa using e)
    exact ⟨v, by simpa using h1, h2⟩
/-- an iterator that walks these things -/
structure ItD (C : Cn) (J : It) (φ0 X0 : List Addr) (H0 : Hp) (its : Mi.Its) : Prop where
  go : ∀ φ X M H i, Sim C φ X M H → Mo φ0 X0 H0 φ X H → still its M = true → i < its.ds.length → J.go i H
  yld : ∀ φ X M H i x H', Sim C φ X M H → Mo φ0 X0 H0 φ X H → still its M = true → i < its.ds.length → J.yld i H x H' → ∃ d, its.ds[i]? = some d ∧ Sim C φ X M H' ∧ Ext φ H φ H' ∧ R C φ X H' d x
  stop : ∀ φ X M H i, Sim C φ X M H → Mo φ0 X0 H0 φ X H → still its M = true → its.ds.length ≤ i → J.stop i H
theorem get_lt {α : Type} {xs : List α} {i n : Nat} (h : n = xs.length) (hi : i < n) : ∃ x, xs[i]? = some x := ⟨xs[i]'(by omega), List.getElem?_eq_getElem (by omega)⟩
/-- what a list holds, as long as the store lists stand -/
def LsA (C : Cn) (φ0 X0 : List Addr) (H0 : Hp) (src : List (Nat × List D)) (ds : List D) (a : Addr) : Prop :=
  ∀ φ X M H, Sim C φ X M H → Mo φ0 X0 H0 φ X H → stillS src M = true → ∃ vs, SqL C.K H a vs ∧ Rs C φ X H ds vs
theorem lsA_of {d : D} {v : V} {its : Mi.Its} (s : Sim C φ X M H) (r : R C φ X H d v) (e : lsrc M d = some its) : ∃ a, v = .ref a ∧ (∃ vs, SqL C.K H a vs) ∧ LsA C φ X H its.src its.ds a := by
  cases r with
  | lst h rs =>
    cases e
    exact ⟨_, rfl, ⟨_, h.sq⟩, fun φ1 X1 M1 H1 _ m _ => ⟨_, (h.mono m).sq, rs.mono m⟩⟩
  | scr h rs =>
    cases e
    exact ⟨_, rfl, ⟨_, h.sq⟩, fun φ1 X1 M1 H1 _ m _ => ⟨_, (h.mono m).sq, rs.mono m⟩⟩
  | @ref nn c h =>
    simp only [lsrc] at e
    split at e
    · rename_i ds hn
      cases e
      obtain ⟨vs, h1, h2⟩ := s.obj nn _ c hn h
      refine ⟨c, rfl, ⟨vs, SqL.of h1⟩, fun φ1 X1 M1 H1 s1 m st => ?_⟩
      simp only [stillS, Bool.and_true, decide_eq_true_eq] at st
      obtain ⟨vs, h1, h2⟩ := s1.obj nn _ c st (m.rf nn c h)
      exact ⟨vs, SqL.of h1, h2⟩
    · cases e
  | _ => cases e
theorem stillS_app {a b : List (Nat × List D)} {M : Mem} : stillS (a ++ b) M = (stillS a M && stillS b M) := by
  induction a with
  | nil => simp [stillS]
  | cons x a ih => simp [stillS, ih, Bool.and_assoc]
/-- a tuple, a list, a text that is walked -/
theorem itd_tup {ds : List D} {vs : List V} {a : Addr} (h : FzT C φ X H a vs) (r : Rs C φ X H ds vs) : ItD C (Itt C.K a) φ X H ⟨[], ds⟩ where
  go := fun φ1 X1 M1 H1 i _ m _ hi => by
    obtain ⟨x, hx⟩ := get_lt r.length hi
    exact ⟨vs, x, (h.mono m).sq, hx⟩
  yld := fun φ1 X1 M1 H1 i x H' s m _ _ ⟨e, y⟩ => by
    subst e
    obtain ⟨d, h1, h2⟩ := (r.mono m).back (y vs (h.mono m).sq)
    exact ⟨d, h1, s, Ext.refl, h2⟩
  stop := fun φ1 X1 M1 H1 i _ m _ hi => ⟨vs, (h.mono m).sq, by rw [← r.length]; exact hi⟩
theorem itd_lst {src : List (Nat × List D)} {ds : List D} {a : Addr} (h : LsA C φ X H src ds a) : ItD C (Itl C.K a) φ X H ⟨src, ds⟩ where
  go := fun φ1 X1 M1 H1 i s m st hi => by
    obtain ⟨vs, h1, r⟩ := h φ1 X1 M1 H1 s m st
    obtain ⟨x, hx⟩ := get_lt r.length hi
    exact ⟨vs, x, h1, hx⟩
  yld := fun φ1 X1 M1 H1 i x H' s m st _ ⟨e, y⟩ => by
    subst e
    obtain ⟨vs, h1, r⟩ := h φ1 X1 M1 _ s m st
    obtain ⟨d, h3, h4⟩ := r.back (y vs h1)
    exact ⟨d, h3, s, Ext.refl, h4⟩
  stop := fun φ1 X1 M1 H1 i s m st hi => by
    obtain ⟨vs, h1, r⟩ := h φ1 X1 M1 H1 s m st
    exact ⟨vs, h1, by rw [← r.length]; exact hi⟩
theorem itd_str {x : Str} : ItD C (L2.Its x) φ X H ⟨[], x.cps.toList.map fun c => .str ⟨#[c]⟩⟩ where
  go := fun φ1 X1 M1 H1 i _ m _ hi => by
    show i < x.cps.size
    simpa using hi
  yld := fun φ1 X1 M1 H1 i y H' s m _ _ ⟨e, c, hc, ey⟩ => by
    subst e ey
    exact ⟨.str ⟨#[c]⟩, by simp [hc], s, Ext.refl, .str _⟩
  stop := fun φ1 X1 M1 H1 i _ m _ hi => by
    show x.cps.size ≤ i
    simpa using hi
theorem itd_rng {lo hi : Int} : ItD C (Itr lo (hi - lo).toNat) φ X H ⟨[], rangeD lo hi⟩ where
  go := fun φ1 X1 M1 H1 i _ m _ h => by
    show i < (hi - lo).toNat
    simpa [rangeD] using h
  yld := fun φ1 X1 M1 H1 i y H' s m _ h ⟨e, ey⟩ => by
    subst e ey
    refine ⟨.int (lo + (i : Nat)), ?_, s, Ext.refl, .int _⟩
    have h2 : i < (hi - lo).toNat := by simpa [rangeD] using h
    show ((List.range _).map _)[i]? = _
    rw [List.getElem?_map, List.getElem?_range h2]
    rfl
  stop := fun φ1 X1 M1 H1 i _ m _ h => by
    show (hi - lo).toNat ≤ i
    simpa [rangeD] using h
theorem enumD_get {ds : List D} {i : Nat} {d : D} (h : ds[i]? = some d) : (enumD ds)[i]? = some (.tup [.int (i : Nat), d]) := by
  have hl := (List.getElem?_eq_some_iff.mp h).1
  unfold enumD
  rw [List.getElem?_map, show ((List.range ds.length).zip ds)[i]? = some (i, d) from List.getElem?_zip_eq_some.mpr ⟨by simp [hl], h⟩]
  rfl
theorem enumD_length (ds : List D) : (enumD ds).length = ds.length := by simp [enumD]
theorem zipD_get : ∀ {xs ys : List D} {i : Nat} {x y : D}, xs[i]? = some x → ys[i]? = some y → (zipD xs ys)[i]? = some (.tup [x, y])
  | [], _, _, _, _, h, _ => by simp at h
  | _ :: _, [], _, _, _, _, h => by simp at h
  | a :: as, b :: bs, 0, x, y, h1, h2 => by simp at h1 h2; subst h1 h2; rfl
  | a :: as, b :: bs, i + 1, x, y, h1, h2 => by
    show (zipD as bs)[i]? = _
    exact zipD_get (by simpa using h1) (by simpa using h2)
theorem zipD_length : ∀ xs ys : List D, (zipD xs ys).length = min xs.length ys.length
  | [], _ => by simp [zipD]
  | _ :: _, [] => by simp [zipD]
  | a :: as, b :: bs => by
    show (zipD as bs).length + 1 = _
    rw [zipD_length as bs, List.length_cons, List.length_cons]
    omega
/-- a new pair -/
theorem pair_new {d e : D} {x y : V} {T : Addr} (s : Sim C φ X M H) (hT : H T = none) (r1 : R C φ X H d x) (r2 : R C φ X H e y) :
    Sim C φ X M (upd H T (.tup [x, y])) ∧ Ext φ H φ (upd H T (.tup [x, y])) ∧ R C φ X (upd H T (.tup [x, y])) (.tup [d, e]) (.ref T) := by
  obtain ⟨f1, f2⟩ := s.fresh hT
  exact ⟨s.new hT, Ext.new hT, .tup (.inl ⟨upd_same, f1, f2⟩) (.cons (r1.mono (Mo.new hT)) (.cons (r2.mono (Mo.new hT)) .nil))⟩
theorem itd_enumL {src : List (Nat × List D)} {ds : List D} {a : Addr} (h : LsA C φ X H src ds a) : ItD C (Ite C.K a) φ X H ⟨src, enumD ds⟩ where
  go := fun φ1 X1 M1 H1 i s m st hi => by
    obtain ⟨vs, h1, r⟩ := h φ1 X1 M1 H1 s m st
    obtain ⟨x, hx⟩ := get_lt r.length (by rw [enumD_length] at hi; exact hi)
    exact ⟨vs, x, h1, hx⟩
  yld := fun φ1 X1 M1 H1 i x H' s m st _ ⟨T, y, e1, e2, e3, e4⟩ => by
    subst e1 e3
    obtain ⟨vs, h0, r⟩ := h φ1 X1 M1 H1 s m st
    obtain ⟨d, h1, h2⟩ := r.back (e4 vs h0)
    obtain ⟨k1, k2, k3⟩ := pair_new s e2 (.int (i : Nat)) h2
    exact ⟨_, enumD_get h1, k1, k2, k3⟩
  stop := fun φ1 X1 M1 H1 i s m st hi => by
    obtain ⟨vs, h1, r⟩ := h φ1 X1 M1 H1 s m st
    exact ⟨vs, h1, by rw [← r.length]; rw [enumD_length] at hi; exact hi⟩
theorem itd_enumT {ds : List D} {vs : List V} {a : Addr} (h : FzT C φ X H a vs) (r : Rs C φ X H ds vs) : ItD C (Ittn C.K a) φ X H ⟨[], enumD ds⟩ where
  go := fun φ1 X1 M1 H1 i _ m _ hi => by
    obtain ⟨x, hx⟩ := get_lt r.length (by rw [enumD_length] at hi; exact hi)
    exact ⟨vs, x, (h.mono m).sq, hx⟩
  yld := fun φ1 X1 M1 H1 i x H' s m _ _ ⟨T, y, e1, e2, e3, e4⟩ => by
    subst e1 e3
    obtain ⟨d, h1, h2⟩ := (r.mono m).back (e4 vs (h.mono m).sq)
    obtain ⟨k1, k2, k3⟩ := pair_new s e2 (.int (i : Nat)) h2
    exact ⟨_, enumD_get h1, k1, k2, k3⟩
  stop := fun φ1 X1 M1 H1 i _ m _ hi => ⟨vs, (h.mono m).sq, by rw [← r.length]; rw [enumD_length] at hi; exact hi⟩
theorem itd_zipL {src src' : List (Nat × List D)} {ds es : List D} {a b : Addr} (h : LsA C φ X H src ds a) (h' : LsA C φ X H src' es b) : ItD C (Itz C.K a b) φ X H ⟨src ++ src', zipD ds es⟩ where
  go := fun φ1 X1 M1 H1 i s m st hi => by
    simp only [still, stillS_app, Bool.and_eq_true] at st
    obtain ⟨vs, h1, r⟩ := h φ1 X1 M1 H1 s m st.1
    obtain ⟨us, h2, r2⟩ := h' φ1 X1 M1 H1 s m st.2
    rw [zipD_length] at hi
    obtain ⟨x, hx⟩ := get_lt r.length (show i < ds.length by omega)
    obtain ⟨y, hy⟩ := get_lt r2.length (show i < es.length by omega)
    exact ⟨vs, us, x, y, h1, h2, hx, hy⟩
  yld := fun φ1 X1 M1 H1 i x H' s m st _ ⟨T, y, z, e1, e2, e3, e4, e5⟩ => by
    simp only [still, stillS_app, Bool.and_eq_true] at st
    subst e1 e3
    obtain ⟨vs, h1, r⟩ := h φ1 X1 M1 H1 s m st.1
    obtain ⟨us, h2, r2⟩ := h' φ1 X1 M1 H1 s m st.2
    obtain ⟨d, g1, g2⟩ := r.back (e4 vs h1)
    obtain ⟨e, g3, g4⟩ := r2.back (e5 us h2)
    obtain ⟨k1, k2, k3⟩ := pair_new s e2 g2 g4
    exact ⟨_, zipD_get g1 g3, k1, k2, k3⟩
  stop := fun φ1 X1 M1 H1 i s m st hi => by
    simp only [still, stillS_app, Bool.and_eq_true] at st
    obtain ⟨vs, h1, r⟩ := h φ1 X1 M1 H1 s m st.1
    obtain ⟨us, h2, r2⟩ := h' φ1 X1 M1 H1 s m st.2
    exact ⟨vs, us, h1, h2, by rw [← r.length, ← r2.length]; rw [zipD_length] at hi; omega⟩
theorem itd_zipT {ds es : List D} {vs us : List V} {a b : Addr} (h : FzT C φ X H a vs) (h' : FzT C φ X H b us) (r : Rs C φ X H ds vs) (r2 : Rs C φ X H es us) : ItD C (RZ.ItzT C.K a b) φ X H ⟨[], zipD ds es⟩ where
  go := fun φ1 X1 M1 H1 i _ m _ hi => by
    rw [zipD_length] at hi
    obtain ⟨x, hx⟩ := get_lt r.length (show i < ds.length by omega)
    obtain ⟨y, hy⟩ := get_lt r2.length (show i < es.length by omega)
    exact ⟨vs, us, x, y, (h.mono m).sq, (h'.mono m).sq, hx, hy⟩
  yld := fun φ1 X1 M1 H1 i x H' s m _ _ ⟨T, y, z, e1, e2, e3, e4, e5⟩ => by
    subst e1 e3
    obtain ⟨d, h1, h2⟩ := (r.mono m).back (e4 vs (h.mono m).sq)
    obtain ⟨e, h3, h4⟩ := (r2.mono m).back (e5 us (h'.mono m).sq)
    obtain ⟨k1, k2, k3⟩ := pair_new s e2 h2 h4
    exact ⟨_, zipD_get h1 h3, k1, k2, k3⟩
  stop := fun φ1 X1 M1 H1 i _ m _ hi => ⟨vs, us, (h.mono m).sq, (h'.mono m).sq, by rw [← r.length, ← r2.length]; rw [zipD_length] at hi; omega⟩
end

/-! ### the readings of what is walked -/
def tI (C : Cn) (B : Bs) (r : Env → Mem → Res Mi.Its) : TI := fun σ H Rk => ∃ φ XX M env, Now C XX B φ M env σ H ∧ (match r env M with
  | .ok its M' => ∀ φ' H' J, Sim C φ' XX M' H' → Ext φ H φ' H' → ItD C J φ' XX H' its → Rk J H'
  | .exn x M' => B.out = some (x, M')
  | .bad => False)
theorem _root_.L2.PI.imp {X : Cx} {tg e : Expr} {t u : TI} (h : PI X tg e t) (k : ∀ σ H Q, u σ H Q → t σ H Q) : PI X tg e u := ⟨fun pins s σ H Q I q => h.run pins s σ H Q I (k σ H Q q)⟩
theorem _root_.L2.PI.or {X : Cx} {tg e : Expr} {t u : TI} (h : PI X tg e t) (h' : PI X tg e u) : PI X tg e (fun σ H Q => t σ H Q ∨ u σ H Q) :=
  ⟨fun pins s σ H Q I q => q.elim (h.run pins s σ H Q I) (h'.run pins s σ H Q I)⟩
section
variable {X : Cx} {B : Bs} {G : Ce} {a b : Expr} {ma mb : ME} {pos p0 tpos : Pos} {tg : Expr} {elts : List Expr} {kk : Nat}
abbrev itR (G : Ce) (k : IK) (ms : MEs) : Env → Mem → Res Mi.Its := fun env M => (evEs G ms env M).bind fun ds M1 => itOf k ds M1
theorem ev1 {env : Env} {M : Mem} {k : List D → Mem → Res Mi.Its} : (evEs G (.cons ma .nil) env M).bind k = (evE G ma env M).bind fun d M1 => k [d] M1 := by
  simp only [evEs]
  rw [Res.bind_assoc]
  cases evE G ma env M <;> rfl
/-- e, a tuple or a list or a text -/
theorem pi_seq (ha : PM X B false a (evE G ma)) : PI X tg a (tI (cn X) B (itR G .seq (.cons ma .nil))) := by
  refine (((pi_tup (tg := tg) ha).or (pi_list ha)).or (pi_str ha)).imp fun σ H Rk ⟨φ, XX, M, env, n, h⟩ => ?_
  simp only [itR, ev1] at h
  cases e1 : evE G ma env M with
  | bad => rw [e1] at h; exact h.elim
  | exn x M1 =>
    refine .inl (.inl ⟨φ, XX, M, env, n, ?_⟩)
    rw [e1] at h ⊢
    exact h
  | ok d M1 =>
    rw [e1, Res.bind_ok] at h
    have viaL : seqD M1 d = lsrc M1 d → iList X.K (tM (cn X) B false (evE G ma)) σ H Rk := fun es => by
      refine ⟨φ, XX, M, env, n, ?_⟩
      rw [e1]
      intro φ1 H1 v s1 x1 q1 _
      simp only [itOf, es] at h
      cases ei : lsrc M1 d with
      | none => rw [ei] at h; exact h.elim
      | some its =>
        rw [ei] at h
        obtain ⟨a, rfl, hq, ha⟩ := lsA_of s1 q1 ei
        exact ⟨_, rfl, hq, h φ1 H1 _ s1 x1 (itd_lst ha)⟩
    cases d with
    | tup ds =>
      refine .inl (.inl ⟨φ, XX, M, env, n, ?_⟩)
      rw [e1]
      intro φ1 H1 v s1 x1 q1 _
      cases q1 with
      | tup h' rs => exact ⟨_, rfl, ⟨_, h'.sq⟩, h φ1 H1 _ s1 x1 (itd_tup h' rs)⟩
    | str x =>
      refine .inr ⟨φ, XX, M, env, n, ?_⟩
      rw [e1]
      intro φ1 H1 v s1 x1 q1 _
      cases q1
      exact ⟨x, rfl, h φ1 H1 _ s1 x1 itd_str⟩
    | _ => exact .inl (.inr (viaL rfl))
/-- arguments, then what is walked -/
theorem ti_then {φ : List Addr} {M : Mem} {env : Env} {σ : L2.St} {H : Hp} {C : Cn} {XX : List Addr} {r : Env → Mem → Res (List D)} {k : List D → Mem → Res Mi.Its} {Rk : It → Hp → Prop} {Q1 : List V → Hp → Prop} (n : Now C XX B φ M env σ H)
    (h : (match (r env M).bind k with
      | .ok its M' => ∀ φ' H' J, Sim C φ' XX M' H' → Ext φ H φ' H' → ItD C J φ' XX H' its → Rk J H'
      | .exn x M' => B.out = some (x, M')
      | .bad => False))
    (go : ∀ φ1 M1 H1 ds vs, Sim C φ1 XX M1 H1 → Rs C φ1 XX H1 ds vs → r env M = .ok ds M1 → (match k ds M1 with
      | .ok its M' => ∀ φ' H' J, Sim C φ' XX M' H' → Ext φ1 H1 φ' H' → ItD C J φ' XX H' its → Rk J H'
      | .exn x M' => B.out = some (x, M')
      | .bad => False) → Q1 vs H1) : tMs C B r σ H Q1 := by
  refine ⟨φ, XX, M, env, n, ?_⟩
  cases e1 : r env M with
  | bad => rw [e1] at h; exact h
  | exn x M1 => rw [e1] at h; exact h
  | ok ds M1 =>
    rw [e1, Res.bind_ok] at h
    intro φ1 H1 vs s1 x1 q1
    refine go φ1 M1 H1 ds vs s1 q1 e1 ?_
    cases e2 : k ds M1 with
    | bad => rw [e2] at h; exact h
    | exn x M2 => rw [e2] at h; exact h
    | ok its M2 =>
      rw [e2] at h
      exact fun φ' H' J s' x' => h φ' H' J s' (x1.trans x')
theorem inR_of {j : Int} (h : inR j = true) : -(2 ^ 62) ≤ j ∧ j < 2 ^ 62 := by
  simp only [inR, Bool.and_eq_true, decide_eq_true_eq] at h
  exact h
theorem itOf_range {ds : List D} {M : Mem} : itOf .range ds M = .bad ∨ ∃ j, ds = [.int j] ∧ inR j = true ∧ itOf .range ds M = .ok ⟨[], rangeD 0 j⟩ M := by
  unfold itOf
  split <;> first
    | exact .inl rfl
    | (rename_i he; cases he; done)
    | skip
  rename_i j he
  split
  · rename_i hj
    exact .inr ⟨j, rfl, hj, rfl⟩
  · exact .inl rfl
theorem itOf_range2 {ds : List D} {M : Mem} : itOf .range2 ds M = .bad ∨ ∃ i j, ds = [.int i, .int j] ∧ inR i = true ∧ inR j = true ∧ itOf .range2 ds M = .ok ⟨[], rangeD i j⟩ M := by
  unfold itOf
  split <;> first
    | exact .inl rfl
    | (rename_i he; cases he; done)
    | skip
  rename_i i j he
  split
  · rename_i hj
    rw [Bool.and_eq_true] at hj
    exact .inr ⟨i, j, rfl, hj.1, hj.2, rfl⟩
  · exact .inl rfl
theorem pi_rg1 (hg : Gl X "range") (hm : X.mg "range" = none) (ha : PM X B false a (evE G ma)) (hs : noStar a = true) : PI X tg (.Call (.Name "range" p0) [a] [] pos) (tI (cn X) B (itR G .range (.cons ma .nil))) := by
  refine (pi_range1 hg hm (pms_one ha hs) (star_of hs)).imp fun σ H Rk ⟨φ, XX, M, env, n, h⟩ => ?_
  refine ti_then n h fun φ1 M1 H1 ds vs s1 q1 _ h1 => ?_
  rcases itOf_range (ds := ds) (M := M1) with e | ⟨j, rfl, hj, e⟩
  · rw [e] at h1; exact h1.elim
  · rw [e] at h1
    cases q1 with
    | cons r rs =>
      cases r
      cases rs
      obtain ⟨k1, k2⟩ := inR_of hj
      refine ⟨_, rfl, k1, k2, ?_⟩
      have := h1 φ1 H1 _ s1 Ext.refl (itd_rng (lo := 0))
      rw [Int.sub_zero] at this
      exact this
theorem pi_rg2 (hg : Gl X "range") (hm : X.mg "range" = none) (ha : PM X B false a (evE G ma)) (hb : PM X B false b (evE G mb)) (hs : noStar a = true) (hs2 : noStar b = true) : PI X tg (.Call (.Name "range" p0) [a, b] [] pos) (tI (cn X) B (itR G .range2 (.cons ma (.cons mb .nil)))) := by
  refine (pi_range2 hg hm (pms_two ha hs hb hs2) (by rw [star_of hs, star_of hs2]; rfl) (star_of hs2)).imp fun σ H Rk ⟨φ, XX, M, env, n, h⟩ => ?_
  refine ti_then n h fun φ1 M1 H1 ds vs s1 q1 _ h1 => ?_
  rcases itOf_range2 (ds := ds) (M := M1) with e | ⟨i, j, rfl, hi, hj, e⟩
  · rw [e] at h1; exact h1.elim
  · rw [e] at h1
    cases q1 with
    | cons r rs =>
      cases rs with
      | cons r' rs =>
        cases r
        cases r'
        cases rs
        obtain ⟨k1, k2⟩ := inR_of hi
        obtain ⟨k3, k4⟩ := inR_of hj
        exact ⟨_, _, rfl, ⟨k1, k2, k3, k4⟩, h1 φ1 H1 _ s1 Ext.refl itd_rng⟩
theorem itOf_enum {ds : List D} {M : Mem} : itOf .enum ds M = .bad ∨ ∃ d, ds = [d] ∧ itOf .enum ds M = okIt M (enuD M d) := by
  unfold itOf
  split <;> first
    | exact .inl rfl
    | (rename_i he; cases he; done)
    | exact .inr ⟨_, rfl, rfl⟩
theorem itOf_zip {ds : List D} {M : Mem} : itOf .zip ds M = .bad ∨ ∃ d e, ds = [d, e] ∧ itOf .zip ds M = okIt M (zpD M d e) := by
  unfold itOf
  split <;> first
    | exact .inl rfl
    | (rename_i he; cases he; done)
    | exact .inr ⟨_, _, rfl, rfl⟩
theorem pi_en (hg : Gl X "enumerate") (hm : X.mg "enumerate" = none) (ha : PM X B false a (evE G ma)) (hs : noStar a = true) : PI X (.Tuple elts kk tpos) (.Call (.Name "enumerate" p0) [a] [] pos) (tI (cn X) B (itR G .enum (.cons ma .nil))) := by
  refine ((pi_enum hg hm (pms_one ha hs) (star_of hs)).or (pi_enT hg hm (pms_one ha hs) (star_of hs))).imp fun σ H Rk ⟨φ, XX, M, env, n, h⟩ => ?_
  by_cases ht : ∃ ds M1, evEs G (.cons ma .nil) env M = .ok [.tup ds] M1
  · obtain ⟨ds0, M0, ht⟩ := ht
    refine .inr (ti_then n h fun φ1 M1 H1 ds vs s1 q1 e0 h1 => ?_)
    cases ht.symm.trans e0
    cases q1 with
    | cons r rs =>
      cases rs
      cases r with
      | tup h' rs => exact ⟨_, _, rfl, h'.sq, h1 φ1 H1 _ s1 Ext.refl (itd_enumT h' rs)⟩
  · refine .inl (ti_then n h fun φ1 M1 H1 ds vs s1 q1 e0 h1 => ?_)
    rcases itOf_enum (ds := ds) (M := M1) with e | ⟨d, rfl, e⟩
    · rw [e] at h1; exact h1.elim
    · rw [e] at h1
      have en : enuD M1 d = (lsrc M1 d).map fun i => ⟨i.src, enumD i.ds⟩ := by
        cases d with
        | tup ds => exact absurd ⟨ds, M1, e0⟩ ht
        | _ => rfl
      rw [en] at h1
      cases ei : lsrc M1 d with
      | none => rw [ei] at h1; exact h1.elim
      | some its =>
        rw [ei] at h1
        cases q1 with
        | cons r rs =>
          cases rs
          obtain ⟨a, rfl, ⟨vs, hq⟩, ha⟩ := lsA_of s1 r ei
          exact ⟨a, vs, rfl, hq, h1 φ1 H1 _ s1 Ext.refl (itd_enumL ha)⟩
theorem pi_zp (hg : Gl X "zip") (hm : X.mg "zip" = none) (ha : PM X B false a (evE G ma)) (hb : PM X B false b (evE G mb)) (hs : noStar a = true) (hs2 : noStar b = true) : PI X (.Tuple elts kk tpos) (.Call (.Name "zip" p0) [a, b] [] pos) (tI (cn X) B (itR G .zip (.cons ma (.cons mb .nil)))) := by
  refine (RZ.pi_zipA hg hm (pms_two ha hs hb hs2) (star_of hs) (any_one hs2)).imp fun σ H Rk ⟨φ, XX, M, env, n, h⟩ => ?_
  refine ti_then n h fun φ1 M1 H1 ds vs s1 q1 e0 h1 => ?_
  rcases itOf_zip (ds := ds) (M := M1) with e | ⟨d, e', rfl, e⟩
  · rw [e] at h1; exact h1.elim
  · rw [e] at h1
    cases q1 with
    | cons r rs =>
      cases rs with
      | cons r' rs =>
        cases rs
        have viaL : ∀ v w, R (cn X) φ1 XX H1 d v → R (cn X) φ1 XX H1 e' w → (zpD M1 d e' = match lsrc M1 d, lsrc M1 e' with
            | some i, some j => some ⟨i.src ++ j.src, zipD i.ds j.ds⟩
            | _, _ => none) → ∃ a b xs ys, [v, w] = [.ref a, .ref b] ∧ ((SqL X.K H1 a xs ∧ SqL X.K H1 b ys ∧ Rk (Itz X.K a b) H1) ∨ (SqT X.K H1 a xs ∧ SqT X.K H1 b ys ∧ Rk (RZ.ItzT X.K a b) H1)) := fun v w r r' en => by
          rw [en] at h1
          cases e1 : lsrc M1 d with
          | none => rw [e1] at h1; exact h1.elim
          | some i =>
            cases e2 : lsrc M1 e' with
            | none => rw [e1, e2] at h1; exact h1.elim
            | some j =>
              rw [e1, e2] at h1
              obtain ⟨x, rfl, ⟨vs, hq⟩, hx⟩ := lsA_of s1 r e1
              obtain ⟨y, rfl, ⟨us, hq2⟩, hy⟩ := lsA_of s1 r' e2
              exact ⟨x, y, vs, us, rfl, .inl ⟨hq, hq2, h1 φ1 H1 _ s1 Ext.refl (itd_zipL hx hy)⟩⟩
        cases d with
        | tup ds1 =>
          cases e' with
          | tup ds2 =>
            cases r with
            | tup k rs =>
              cases r' with
              | tup k' rs' => exact ⟨_, _, _, _, rfl, .inr ⟨k.sq, k'.sq, h1 φ1 H1 _ s1 Ext.refl (itd_zipT k k' rs rs')⟩⟩
          | _ => exact viaL _ _ r r' rfl
        | _ => exact viaL _ _ r r' rfl
end
end Mi
set_option Elab.async false
set_option linter.all false
set_option maxRecDepth 100000
set_option maxHeartbeats 0
/-! Mi10: targets, list comprehensions. -/
namespace Mi
open PySem PySem.Spec PyProof.Rows L2
/-! ### targets -/
def MT.slots : MT → List Nat
  | .nm i => [i]
  | .tp is => is
structure TgOk (C : Cn) (t : MT) (g : TG) : Prop where
  run : ∀ {φ XX : List Addr} {M : Mem} {H : Hp} {d : D} {v : V} {env env' : Env} {σ : L2.St} {Q : L2.St → Hp → Prop}, Sim C φ XX M H → R C φ XX H d v → RE C φ XX H env σ → asgT t d env = some env' →
    (∀ σ', RE C φ XX H env' σ' → (∀ vs, (∀ i ∈ t.slots, i ∈ vs) → L2.wipe σ' vs = L2.wipe σ vs) → Q σ' H) → g v σ H Q
theorem wipe_get (σ : L2.St) : ∀ (vs : List Nat) (j : Nat), (L2.wipe σ vs)[j]? = if j ∈ vs then (σ[j]?).map (fun _ => none) else σ[j]?
  | [], j => by simp [L2.wipe]
  | v :: vs, j => by
    unfold L2.wipe
    rw [List.getElem?_set]
    have ih := wipe_get σ vs j
    by_cases hj : v = j
    · subst hj
      rw [if_pos rfl, wipe_length]
      simp only [List.mem_cons_self, if_true]
      by_cases hl : v < σ.length
      · rw [if_pos hl, List.getElem?_eq_getElem hl]; rfl
      · rw [if_neg hl, List.getElem?_eq_none (by omega)]; rfl
    · rw [if_neg hj, ih]
      have : (j ∈ v :: vs) ↔ j ∈ vs := by simp [Ne.symm hj]
      simp only [this]
theorem wipe_wipe (σ : L2.St) (vs : List Nat) : L2.wipe (L2.wipe σ vs) vs = L2.wipe σ vs := by
  apply List.ext_getElem?
  intro j
  rw [wipe_get, wipe_get]
  split
  · cases σ[j]? <;> rfl
  · rfl
theorem wipe_set {σ : L2.St} {vs : List Nat} {i : Nat} {o : Option V} (h : i ∈ vs) : L2.wipe (σ.set i o) vs = L2.wipe σ vs := by
  apply List.ext_getElem?
  intro j
  rw [wipe_get, wipe_get, List.getElem?_set]
  by_cases hj : i = j
  · subst hj
    rw [if_pos h, if_pos h, if_pos rfl]
    by_cases hl : i < σ.length
    · rw [if_pos hl, List.getElem?_eq_getElem hl]; rfl
    · rw [if_neg hl, List.getElem?_eq_none (by omega)]
  · rw [if_neg hj]
theorem tg_nm {C : Cn} {i : Nat} : TgOk C (.nm i) (gName i) := ⟨fun {φ XX M H d v env env' σ Q} s r re e h => by
  simp only [asgT] at e
  split at e
  · cases e
    exact h _ (re.set r) fun vs hv => wipe_set (hv i (by simp [MT.slots]))
  · cases e⟩
def gNames : List Nat → TGs
  | [] => gNil
  | i :: is => gCons (gName i) (gNames is)
theorem gNames_run {C : Cn} {φ XX : List Addr} {H : Hp} {Q : L2.St → Hp → Prop} : ∀ {is : List Nat} {ds : List D} {vs : List V} {env env' : Env} {σ : L2.St}, Rs C φ XX H ds vs → RE C φ XX H env σ → setMany is ds env = some env' →
    (∀ σ', RE C φ XX H env' σ' → (∀ ws, (∀ i ∈ is, i ∈ ws) → L2.wipe σ' ws = L2.wipe σ ws) → Q σ' H) → gNames is vs σ H Q
  | [], [], _, _, _, _, .nil, re, e, h => by
    cases e
    exact ⟨rfl, h _ re fun _ _ => rfl⟩
  | i :: is, d :: ds, _, env, env', σ, .cons r rs, re, e, h => by
    simp only [setMany] at e
    split at e
    · exact ⟨_, _, rfl, gNames_run rs (re.set r) e fun σ' re' hw => h σ' re' fun ws hws => (hw ws fun j hj => hws j (List.mem_cons_of_mem _ hj)).trans (wipe_set (hws i List.mem_cons_self))⟩
    · cases e
  | [], _ :: _, _, _, _, _, _, _, e, _ => by simp [setMany] at e
  | _ :: _, [], _, _, _, _, _, _, e, _ => by simp [setMany] at e
theorem setMany_length : ∀ {is : List Nat} {ds : List D} {env env' : Env}, setMany is ds env = some env' → ds.length = is.length
  | [], [], _, _, _ => rfl
  | i :: is, d :: ds, _, _, e => by
    simp only [setMany] at e
    split at e
    · simp [setMany_length e]
    · cases e
  | [], _ :: _, _, _, e => by simp [setMany] at e
  | _ :: _, [], _, _, e => by simp [setMany] at e
theorem tg_tp {C : Cn} {is : List Nat} : TgOk C (.tp is) (gTup C.K is.length (gNames is)) := ⟨fun {φ XX M H d v env env' σ Q} s r re e h => by
  cases d with
  | tup ds =>
    simp only [asgT] at e
    cases r with
    | tup f rs => exact ⟨_, _, rfl, f.sq, by rw [← rs.length]; exact setMany_length e, gNames_run rs re e h⟩
  | _ => cases e⟩
/-- the target's names -/
theorem pgs_names {X : Cx} (hN : X.N.Nodup) : ∀ {is : List Nat} {es : List Expr}, Paired (fun i e => ∃ x p, e = Expr.Name x p ∧ X.N[i]? = some x ∧ Loc X.env.scope x ∧ (X.fn x = true ∨ X.env.scope.names.lookup x = some .local)) is es → PGs X es (gNames is)
  | _, _, .nil => pgs_nil
  | _, _, .cons ⟨x, p, e, h1, h2, h3⟩ r => by
    subst e
    exact pgs_cons (pg_name hN h1 h2 h3) (pgs_names hN r)

/-! ### list comprehensions -/
section
variable {C : Cn} {φ φ' φ1 X XX : List Addr} {H H' H1 : Hp} {M : Mem}
theorem Ext.updNew {D : Addr} {o : HO} (x : Ext φ1 H1 φ H) (h : H1 D = .none) : Ext φ1 H1 φ (upd H D o) := ⟨x.pre, fun a u e n => by
  obtain ⟨k1, k2⟩ := x.keep a u e n
  exact ⟨by rw [upd_ne (ne_of_none e h)]; exact k1, k2⟩⟩
theorem compL_ok {f : D → Mem → Res (Option D)} {ok : Mem → Bool} {ds : List D} (h : compL f ok ds M ≠ .bad) : ok M = true := by
  cases ds <;>
  · cases hk : ok M with
    | true => rfl
    | false => exact absurd (by simp [compL, hk]) h
theorem Res.noX_exn {α : Type} {r : Res α} {x : Ex} : r.noX ≠ .exn x M := by
  cases r <;> exact fun z => by cases z
theorem compT_exn {ec ee : Env → Mem → Res D} {t : MT} {env : Env} {d : D} {M' : Mem} {x : Ex} : compT ec ee t env d M ≠ .exn x M' := by
  unfold compT
  cases asgT t d env with
  | none => exact fun z => by cases z
  | some env' =>
    simp only
    cases e1 : (ec env' M).noX with
    | exn y M1 => exact absurd e1 Res.noX_exn
    | bad => exact fun z => by cases z
    | ok b M1 =>
      rw [Res.bind_ok]
      cases b with
      | bl b =>
        cases b with
        | false => exact fun z => by cases z
        | true =>
          simp only
          cases e2 : (ee env' M1).noX with
          | exn y M1 => exact absurd e2 Res.noX_exn
          | bad => exact fun z => by cases z
          | ok b M1 => exact fun z => by cases z
      | _ => exact fun z => by cases z
theorem compL_exn {f : D → Mem → Res (Option D)} {ok : Mem → Bool} (hf : ∀ d M x M', f d M ≠ .exn x M') {x : Ex} {M' : Mem} : ∀ {ds : List D} {M : Mem}, compL f ok ds M ≠ .exn x M'
  | [], M => by
    unfold compL
    split <;> exact fun z => by cases z
  | d :: ds, M => by
    unfold compL
    split
    · cases e1 : f d M with
      | exn y M1 => exact absurd e1 (hf _ _ _ _)
      | bad => exact fun z => by cases z
      | ok o M1 =>
        rw [Res.bind_ok]
        cases e2 : compL f ok ds M1 with
        | exn y M1 => exact absurd e2 (compL_exn hf)
        | bad => exact fun z => by cases z
        | ok o M1 => exact fun z => by cases z
    · exact fun z => by cases z
theorem compL_cons {f : D → Mem → Res (Option D)} {ok : Mem → Bool} {d : D} {ds r : List D} {M' : Mem} (h : compL f ok (d :: ds) M = .ok r M') : ∃ o M1 r', f d M = .ok o M1 ∧ compL f ok ds M1 = .ok r' M' ∧ r = o.toList ++ r' := by
  unfold compL at h
  split at h
  · cases e1 : f d M with
    | ok o M1 =>
      rw [e1, Res.bind_ok] at h
      cases e2 : compL f ok ds M1 with
      | ok r' M2 =>
        rw [e2, Res.bind_ok] at h
        cases h
        exact ⟨o, M1, r', rfl, e2, rfl⟩
      | _ => rw [e2] at h; cases h
    | _ => rw [e1] at h; cases h
  · cases h
theorem compT_ok {ec ee : Env → Mem → Res D} {t : MT} {env : Env} {d : D} {M' : Mem} {o : Option D} (h : compT ec ee t env d M = .ok o M') :
    ∃ env' b M1, asgT t d env = some env' ∧ ec env' M = .ok (.bl b) M1 ∧ ((b = true ∧ ∃ v, ee env' M1 = .ok v M' ∧ o = some v) ∨ (b = false ∧ M' = M1 ∧ o = none)) := by
  unfold compT at h
  cases e0 : asgT t d env with
  | none => rw [e0] at h; cases h
  | some env' =>
    rw [e0] at h
    simp only at h
    cases e1 : (ec env' M).noX with
    | exn y M1 => exact absurd e1 Res.noX_exn
    | bad => rw [e1] at h; cases h
    | ok b M1 =>
      have e1' : ec env' M = .ok b M1 := by
        cases e : ec env' M <;> rw [e] at e1 <;> cases e1
        rfl
      rw [e1, Res.bind_ok] at h
      cases b with
      | bl b =>
        cases b with
        | false => cases h; exact ⟨env', false, _, rfl, e1', .inr ⟨rfl, rfl, rfl⟩⟩
        | true =>
          simp only at h
          cases e2 : (ee env' M1).noX with
          | exn y M1 => exact absurd e2 Res.noX_exn
          | bad => rw [e2] at h; cases h
          | ok v M2 =>
            have e2' : ee env' M1 = .ok v M2 := by
              cases e : ee env' M1 <;> rw [e] at e2 <;> cases e2
              rfl
            rw [e2] at h
            cases h
            exact ⟨env', true, M1, rfl, e1', .inl ⟨rfl, v, e2', rfl⟩⟩
      | _ => cases h
theorem Res.noX_ok {α : Type} {r : Res α} {a : α} (h : r.noX = .ok a M) : r = .ok a M := by
  cases r with
  | ok b M' => exact h
  | _ => cases h
end
section
variable {X : Cx} {B : Bs} {G : Ce} {elt tg iter c : Expr} {ifs : List Expr} {scope : Scope} {own : List (Str × Nat)} {pos : Pos} {k : IK} {es : MEs} {t : MT} {mc me : ME} {g : TG}
/-- where a block begins: nothing is asked of what was -/
abbrev B0 : Bs := ⟨[], fun _ => Option.none, Option.none⟩
theorem ext0 {φ : List Addr} {H : Hp} : Ext B0.φ B0.H φ H := ⟨⟨φ, rfl⟩, fun _ _ e => by cases e⟩
theorem pm_comp {tt : TT} {ec : Env → Mem → Res D} (hc : X.calm = true) (hN : X.N.Nodup) (hi : PI X tg iter (tI (cn X) B (itR G k es))) (ok : BlkOk X.N X.env.scope scope own) (hg1 : TgOk (cn X) t g)
    (hown : ∀ i ∈ t.slots, i ∈ own.map (·.2))
    (hg : ∀ (s : Shared) (H : Hp) (C : Addr) (cl : List (Str × Addr)) (fp : List Addr), PG (X.blk s H scope (compEnvC scope cl C X.env) fp) tg g)
    (ht : ∀ (s : Shared) (H : Hp) (C : Addr) (cl : List (Str × Addr)) (fp : List Addr), PTs (X.blk s H scope (compEnvC scope cl C X.env) fp) ifs tt)
    (htt : ∀ σ H Q, tMb (cn X) B0 (evE G mc) σ H Q → tt σ H Q)
    (he : ∀ (s : Shared) (H : Hp) (C : Addr) (cl : List (Str × Addr)) (fp : List Addr), PM (X.blk s H scope (compEnvC scope cl C X.env) fp) B0 false elt (evE G me))
    (hs : ∀ x, foldedSetIterable iter X.env x = pure x) :
    ∀ σ H Q, tM (cn X) B true (evE G (.comp k es t (own.map (·.2)) mc me)) σ H Q → tLc (tI (cn X) B (itR G k es)) g tt (tM (cn X) B0 false (evE G me)) (own.map (·.2)) σ H Q := by
  intro σ H Q ⟨φ, XX, M, env, n, h⟩
  refine ⟨φ, XX, M, env, n, ?_⟩
  simp only [evE] at h
  change Post (cn X) XX B true φ H Q ((itR G k es env M).bind fun its M2 => compR (evE G mc) (evE G me) t (wipeE env (own.map (·.2))) its M2) at h
  cases e1 : itR G k es env M with
  | bad => rw [e1] at h; exact h.elim
  | exn x M1 => rw [e1] at h; exact h
  | ok its M2 =>
    rw [e1, Res.bind_ok] at h
    intro φ1 H1 J s1 x1 itd D hD
    unfold compR at h
    by_cases hl : its.ds.length ≤ SL
    · rw [if_pos hl] at h
      have hDH : H D = none := Ext.none x1 s1 hD
      have hDX : D ∉ XX := fun z => (s1.xs D z).2 hD
      have hDφ : D ∉ φ1 := (s1.fresh hD).1
      generalize hf : compT (evE G mc) (evE G me) t (wipeE env (own.map (·.2))) = f at h
      refine ⟨fun i m H2 => m = its.ds.length - i ∧ i ≤ its.ds.length ∧ ∃ φ2 M3 acc ds, Sim (cn X) φ2 (D :: XX) M3 H2 ∧ Ext φ1 H1 φ2 H2 ∧ H2 D = some (.lst acc) ∧ Rs (cn X) φ2 (D :: XX) H2 ds acc ∧ acc.length ≤ i ∧ ∃ r M4, compL f (still its) (its.ds.drop i) M3 = .ok r M4 ∧ compL f (still its) its.ds M2 = .ok (ds ++ r) M4, ?_, ?_⟩
      · cases e2 : compL f (still its) its.ds M2 with
        | bad => rw [e2] at h; exact h.elim
        | exn x M3 => exact absurd e2 (compL_exn fun _ _ _ _ z => compT_exn (by rw [hf]; exact z))
        | ok r M3 =>
          exact ⟨_, rfl, Nat.zero_le _, φ1, M2, [], [], s1.newX hD, Ext.updNew Ext.refl hD, upd_same, .nil, Nat.zero_le _, r, M3, e2, rfl⟩
      · rintro i m H2 ⟨rfl, hi, φ2, M3, acc, ds, s2, x2, hD2, rs, hal, r, M4, er, ew⟩
        have st : still its M3 = true := compL_ok (by rw [er]; exact fun z => by cases z)
        have mo : Mo φ1 XX H1 φ2 (D :: XX) H2 := ⟨fun a o e nφ nX => by
          obtain ⟨k1, k2⟩ := x2.keep a o e nφ
          refine ⟨k1, k2, fun z => ?_⟩
          rcases List.mem_cons.mp z with z | z
          · exact ne_of_none e hD z
          · exact nX z, fun n a e => x2.get e⟩
        by_cases hlt : i < its.ds.length
        · obtain ⟨d, hd⟩ := get_lt rfl hlt
          have hdrop : its.ds.drop i = d :: its.ds.drop (i + 1) := by
            rw [List.drop_eq_getElem_cons hlt]
            rw [List.getElem?_eq_getElem hlt] at hd
            cases hd
            rfl
          rw [hdrop] at er
          obtain ⟨o, M5, r2, ef, er2, rfl⟩ := compL_cons er
          rw [← hf] at ef
          obtain ⟨env', b, M6, ea, ec, eo⟩ := compT_ok ef
          refine .inr ⟨itd.go φ2 _ M3 H2 _ s2 mo st hlt, _, fun H' p' => ⟨its.ds.length - (i + 1), by omega, p'⟩, fun x H3 y => ?_⟩
          obtain ⟨d', hd', s3, x3, rd⟩ := itd.yld φ2 _ M3 H2 i x H3 s2 mo st hlt y
          cases hd.symm.trans hd'
          have hDn : D ∉ φ2 := (s2.xs D List.mem_cons_self).1
          obtain ⟨hD3, hDn3⟩ := x3.keep D _ hD2 hDn
          refine hg1.run s3 rd (((((n.env.ext x1).mono mo).ext x3)).wipe (own.map (·.2))) ea fun σ' re' hw => ⟨(hw _ hown).trans (wipe_wipe _ _), htt σ' H3 _ ⟨φ2, D :: XX, M3, env', ⟨s3, re', ext0⟩, ?_⟩⟩
          rw [ec]
          refine ⟨b, rfl, fun φ4 H4 s4 x4 => ?_⟩
          obtain ⟨hD4, hDn4⟩ := x4.keep D _ hD3 hDn3
          rcases eo with ⟨rfl, v, ev, rfl⟩ | ⟨rfl, rfl, rfl⟩
          · rw [if_pos rfl]
            refine ⟨φ4, D :: XX, M6, env', ⟨s4, re'.ext x4, ext0⟩, ?_⟩
            rw [ev]
            intro φ5 H5 w s5 x5 rw5 _
            obtain ⟨hD5, hDn5⟩ := x5.keep D _ hD4 hDn4
            refine ⟨acc, hD5, ?_, rfl, hlt, φ5, M5, acc ++ [w], ds ++ [v], s5.writeX List.mem_cons_self, (x2.trans (x3.trans (x4.trans x5))).updNew hD, upd_same, ?_, ?_, r2, M4, er2, ?_⟩
            · show acc.length < SL
              omega
            · exact (Rs.append ((((rs.ext x3).ext x4).ext x5)) (.cons rw5 .nil)).mono (Mo.writeX List.mem_cons_self)
            · rw [List.length_append]
              simp only [List.length_cons, List.length_nil]
              omega
            · rw [ew]
              simp
          · rw [if_neg (by decide)]
            exact ⟨rfl, hlt, φ4, M5, acc, ds, s4, x2.trans (x3.trans x4), hD4, (rs.ext x3).ext x4, by omega, r2, M4, er2, by rw [ew]; simp⟩
        · have hie : i = its.ds.length := by omega
          subst hie
          refine .inl ⟨itd.stop φ2 _ M3 H2 _ s2 mo st (Nat.le_refl _), ?_⟩
          rw [List.drop_length] at er
          unfold compL at er
          rw [if_pos st] at er
          cases er
          rw [ew, Res.bind_ok, List.append_nil] at h
          have hDn : D ∉ φ2 := (s2.xs D List.mem_cons_self).1
          exact h φ2 H2 (.ref D) s2.dropX (x1.trans x2) (.lst ⟨hD2, hDn, hDX⟩ (rs.mono Mo.dropX)) fun _ => ⟨D, acc, rfl, hDH, hDX, s2, hD2, rs⟩
    · rw [if_neg hl] at h; exact h.elim
end
end Mi
set_option Elab.async false
set_option linter.all false
set_option maxRecDepth 100000
set_option maxHeartbeats 0
/-! Mi11: statements. -/
namespace Mi
open PySem PySem.Spec PyProof.Rows L2
section
variable {C : Cn} {φ φ' φ'' X XX : List Addr} {H H' H'' : Hp} {M : Mem} {B : Bs} {D0 : Ends}
/-- what is wanted behind a statement, by what the evaluator says -/
def PostF (C : Cn) (XX : List Addr) (B : Bs) (φ : List Addr) (H : Hp) (D : Ends) : Res Fl → Prop
  | .ok (.nx env') M' => ∀ φ' σ' H', Sim C φ' XX M' H' → RE C φ' XX H' env' σ' → Ext φ H φ' H' → D.nx σ' H'
  | .ok (.brk env') M' => ∀ φ' σ' H', Sim C φ' XX M' H' → RE C φ' XX H' env' σ' → Ext φ H φ' H' → D.bk σ' H'
  | .ok (.cnt env') M' => ∀ φ' σ' H', Sim C φ' XX M' H' → RE C φ' XX H' env' σ' → Ext φ H φ' H' → D.ct σ' H'
  | .ok (.ret d) M' => ∀ φ' H' v, Sim C φ' XX M' H' → Ext φ H φ' H' → R C φ' XX H' d v → D.rt v H'
  | .exn x M' => B.out = some (x, M')
  | .bad => False
theorem PostF.later {r : Res Fl} (x : Ext φ H φ' H') (p : PostF C XX B φ H D0 r) : PostF C XX B φ' H' D0 r := by
  match r, p with
  | .ok (.nx env') M', p => exact fun φ2 σ2 H2 s re y => p φ2 σ2 H2 s re (x.trans y)
  | .ok (.brk env') M', p => exact fun φ2 σ2 H2 s re y => p φ2 σ2 H2 s re (x.trans y)
  | .ok (.cnt env') M', p => exact fun φ2 σ2 H2 s re y => p φ2 σ2 H2 s re (x.trans y)
  | .ok (.ret d) M', p => exact fun φ2 H2 v s y q => p φ2 H2 v s (x.trans y) q
  | .exn x M', p => exact p
/-- the reading of a statement -/
def tS (C : Cn) (B : Bs) (r : Env → Mem → Res Fl) : TS := fun D σ H => ∃ φ XX M env, Now C XX B φ M env σ H ∧ PostF C XX B φ H D (r env M)
/-- a value, then the rest -/
theorem f_then {env : Env} {σ : L2.St} {r : Rd0} {k : D → Mem → Res Fl} {Q1 : VK} (n : Now C XX B φ M env σ H) (h : PostF C XX B φ H D0 ((r env M).bind k))
    (go : ∀ φ1 M1 H1 d v, Now C XX B φ1 M1 env σ H1 → R C φ1 XX H1 d v → PostF C XX B φ1 H1 D0 (k d M1) → Q1 v H1) : tM C B false r σ H Q1 := by
  refine ⟨φ, XX, M, env, n, ?_⟩
  cases e1 : r env M with
  | bad => rw [e1] at h; exact h
  | exn x M1 => rw [e1] at h; exact h
  | ok d M1 =>
    rw [e1, Res.bind_ok] at h
    exact fun φ1 H1 v s1 x1 q1 _ => go φ1 M1 H1 d v (n.go s1 x1) q1 (h.later x1)
theorem fs_then {env : Env} {σ : L2.St} {r : Env → Mem → Res (List D)} {k : List D → Mem → Res Fl} {Q1 : List V → Hp → Prop} (n : Now C XX B φ M env σ H) (h : PostF C XX B φ H D0 ((r env M).bind k))
    (go : ∀ φ1 M1 H1 d v, Now C XX B φ1 M1 env σ H1 → Rs C φ1 XX H1 d v → PostF C XX B φ1 H1 D0 (k d M1) → Q1 v H1) : tMs C B r σ H Q1 := by
  refine ⟨φ, XX, M, env, n, ?_⟩
  cases e1 : r env M with
  | bad => rw [e1] at h; exact h
  | exn x M1 => rw [e1] at h; exact h
  | ok d M1 =>
    rw [e1, Res.bind_ok] at h
    exact fun φ1 H1 v s1 x1 q1 => go φ1 M1 H1 d v (n.go s1 x1) q1 (h.later x1)
end
section
variable {X : Cx} {B : Bs} {G : Ce} {a b c o i : Expr} {ma mb mc mo mi : ME} {pos p0 : Pos} {t : MT} {g : TG} {st : Stmt} {ms : MS} {mss : MSs}
abbrev QS (X : Cx) (B : Bs) (st : Stmt) (r : Env → Mem → Res Fl) : Prop := PS X st (tS (cn X) B r)
abbrev QSs (X : Cx) (B : Bs) (st : List Stmt) (r : Env → Mem → Res Fl) : Prop := PSs X st (tS (cn X) B r)
theorem qs_nil : QSs X B [] (evSs G .nil) := by
  refine pss_nil.imp fun D σ H ⟨φ, XX, M, env, n, h⟩ => ?_
  simp only [evSs] at h
  exact h φ σ H n.sim n.env Ext.refl
theorem qs_cons {rest : List Stmt} (h1 : QS X B st (evS G ms)) (h2 : QSs X B rest (evSs G mss)) : QSs X B (st :: rest) (evSs G (.cons ms mss)) := by
  refine (pss_cons h1 h2).imp fun D σ H ⟨φ, XX, M, env, n, h⟩ => ?_
  refine ⟨φ, XX, M, env, n, ?_⟩
  simp only [evSs] at h
  cases e1 : evS G ms env M with
  | bad => rw [e1] at h; exact h
  | exn x M1 => rw [e1] at h; exact h
  | ok fl M1 =>
    rw [e1, Res.bind_ok] at h
    cases fl with
    | nx env' => exact fun φ' σ' H' s' re x => ⟨φ', XX, M1, env', ⟨s', re, n.ext.trans x⟩, h.later x⟩
    | ret d => exact h
    | brk env' => exact h
    | cnt env' => exact h
theorem qs_pas : QS X B (.Pass pos) (evS G .pas) := by
  refine ps_pass.imp fun D σ H ⟨φ, XX, M, env, n, h⟩ => ?_
  simp only [evS] at h
  exact h φ σ H n.sim n.env Ext.refl
theorem qs_brk : QS X B (.Break pos) (evS G .brk) := by
  refine ps_break.imp fun D σ H ⟨φ, XX, M, env, n, h⟩ => ?_
  simp only [evS] at h
  exact h φ σ H n.sim n.env Ext.refl
theorem qs_cnt : QS X B (.Continue pos) (evS G .cnt) := by
  refine ps_continue.imp fun D σ H ⟨φ, XX, M, env, n, h⟩ => ?_
  simp only [evS] at h
  exact h φ σ H n.sim n.env Ext.refl
theorem qs_retN : QS X B (.Return none pos) (evS G .retN) := by
  refine ps_retN.imp fun D σ H ⟨φ, XX, M, env, n, h⟩ => ?_
  simp only [evS] at h
  exact h φ H .non n.sim Ext.refl .non
theorem qs_ret (ha : PM X B false a (evE G ma)) : QS X B (.Return (some a) pos) (evS G (.ret ma)) := by
  refine (ps_ret ha).imp fun D σ H ⟨φ, XX, M, env, n, h⟩ => ?_
  simp only [evS] at h
  exact f_then n h fun φ1 M1 H1 d v n1 q1 h1 => h1 φ1 H1 v n1.sim Ext.refl q1
theorem qs_expr (ha : PM X B false a (evE G ma)) (hs : swapsWith a none pos.line X.env = pure false) : QS X B (.Expr a pos) (evS G (.expr ma)) := by
  refine (ps_expr ha hs).imp fun D σ H ⟨φ, XX, M, env, n, h⟩ => ?_
  simp only [evS] at h
  exact f_then n h fun φ1 M1 H1 d v n1 q1 h1 => h1 φ1 σ H1 n1.sim n1.env Ext.refl
theorem qs_ite {p q : List Stmt} {mp mq : MSs} (hc : PB X B c (evE G mc)) (hp : QSs X B p (evSs G mp)) (hq : QSs X B q (evSs G mq)) : QS X B (.If c p q pos) (evS G (.ite mc mp mq)) := by
  refine (ps_if hc hp hq).imp fun D σ H ⟨φ, XX, M, env, n, h⟩ => ?_
  refine ⟨φ, XX, M, env, n, ?_⟩
  simp only [evS] at h
  cases e1 : evE G mc env M with
  | bad => rw [e1] at h; exact h
  | exn x M1 => rw [e1] at h; exact h
  | ok d M1 =>
    rw [e1, Res.bind_ok] at h
    cases d with
    | bl b =>
      refine ⟨b, rfl, fun φ1 H1 s1 x1 => ?_⟩
      cases b with
      | true =>
        rw [if_pos rfl]
        exact ⟨φ1, XX, M1, env, n.go s1 x1, h.later x1⟩
      | false =>
        rw [if_neg (by decide)]
        exact ⟨φ1, XX, M1, env, n.go s1 x1, h.later x1⟩
    | _ => exact h.elim
/-- a value stored -/
theorem q_asg {D : Ends} {σ : L2.St} {H : Hp} (hg : TgOk (cn X) t g) (h : tS (cn X) B (evS G (.asg t ma)) D σ H) : tAsg (tM (cn X) B false (evE G ma)) g D σ H := by
  obtain ⟨φ, XX, M, env, n, h⟩ := h
  simp only [evS] at h
  refine f_then n h fun φ1 M1 H1 d v n1 q1 h1 => ?_
  split at h1
  · rename_i env' e1
    exact hg.run n1.sim q1 n1.env e1 fun σ' re _ => h1 φ1 σ' H1 n1.sim re Ext.refl
  · exact h1.elim
/-- a pair of plain names -/
theorem twoN_of {φ XX : List Addr} {H : Hp} {C : Cn} {i j : Nat} {ds : List D} {vs : List V} {env env' : Env} {σ : L2.St} (q : Rs C φ XX H ds vs) (re : RE C φ XX H env σ) (e : setMany [i, j] ds env = some env') : ∃ v w, vs = [v, w] ∧ RE C φ XX H env' ((σ.set i (some v)).set j (some w)) := by
  match ds, q, e with
  | [d, d'], .cons r (.cons r' .nil), e =>
    simp only [setMany] at e
    split at e
    · split at e
      · cases e
        exact ⟨_, _, rfl, (re.set r).set r'⟩
      · cases e
    · cases e
  | [], _, e => simp [setMany] at e
  | [_], _, e => simp [setMany] at e
  | _ :: _ :: _ :: _, _, e => simp [setMany] at e
theorem three_of {φ XX : List Addr} {H : Hp} {C : Cn} {i j l : Nat} {ds : List D} {vs : List V} {env env' : Env} {σ : L2.St} (q : Rs C φ XX H ds vs) (re : RE C φ XX H env σ) (e : setMany [i, j, l] ds env = some env') : ∃ u v w, vs = [u, v, w] ∧ RE C φ XX H env' (((σ.set i (some u)).set j (some v)).set l (some w)) := by
  match ds, q, e with
  | [d, d', d''], .cons r (.cons r' (.cons r'' .nil)), e =>
    simp only [setMany] at e
    split at e
    · split at e
      · split at e
        · cases e
          exact ⟨_, _, _, rfl, ((re.set r).set r').set r''⟩
        · cases e
      · cases e
    · cases e
  | [], _, e => simp [setMany] at e
  | [_], _, e => simp [setMany] at e
  | [_, _], _, e => simp [setMany] at e
  | _ :: _ :: _ :: _ :: _, _, e => simp [setMany] at e
theorem q_par2 {D : Ends} {σ : L2.St} {H : Hp} {i j : Nat} {es : MEs} (h : tS (cn X) B (evS G (.par [i, j] es)) D σ H) : tPar i j (tMs (cn X) B (evEs G es)) D σ H := by
  obtain ⟨φ, XX, M, env, n, h⟩ := h
  simp only [evS] at h
  refine fs_then n h fun φ1 M1 H1 ds vs n1 q1 h1 => ?_
  split at h1
  · rename_i env' e1
    obtain ⟨v, w, e2, re⟩ := twoN_of q1 n1.env e1
    exact ⟨v, w, e2, h1 φ1 _ H1 n1.sim re Ext.refl⟩
  · exact h1.elim
theorem q_par3 {D : Ends} {σ : L2.St} {H : Hp} {i j l : Nat} {es : MEs} (h : tS (cn X) B (evS G (.par [i, j, l] es)) D σ H) : tPar3 i j l (tMs (cn X) B (evEs G es)) D σ H := by
  obtain ⟨φ, XX, M, env, n, h⟩ := h
  simp only [evS] at h
  refine fs_then n h fun φ1 M1 H1 ds vs n1 q1 h1 => ?_
  split at h1
  · rename_i env' e1
    obtain ⟨u, v, w, e2, re⟩ := three_of q1 n1.env e1
    exact ⟨u, v, w, e2, h1 φ1 _ H1 n1.sim re Ext.refl⟩
  · exact h1.elim
/-! ### o[k] = d -/
theorem put_any {k : D} {j : Key} (hj : keyD k = some j) : ∀ {kvs : List (D × D)} {ks : List Key} {vs : List V}, kvs.map (fun p => keyD p.1) = ks.map some → ks.length = vs.length →
    ((ks.zip vs).any fun kv => decide (kv.1 = j)) = kvs.any fun p => decide (p.1 = k)
  | [], [], [], _, _ => rfl
  | p :: r, k1 :: ks, v1 :: vs, h, l => by
    simp only [List.map_cons, List.cons.injEq] at h
    rw [List.zip_cons_cons, List.any_cons, List.any_cons, put_any hj h.2 (by simpa using l)]
    congr 1
    apply decide_eq_decide.mpr
    constructor
    · intro e
      have e : k1 = j := e
      exact keyD_inj (by rw [h.1, e]) hj
    · intro e
      have e : p.1 = k := e
      have h1 := h.1
      rw [e, hj] at h1
      exact (Option.some.inj h1).symm
  | [], _ :: _, _, h, _ => by simp at h
  | _ :: _, [], _, h, _ => by simp at h
  | _, [], _ :: _, _, l => by simp at l
  | _, _ :: _, [], _, l => by simp at l
section
variable {C : Cn} {φ XX : List Addr} {H : Hp}
theorem put_map {k : D} {j : Key} (hj : keyD k = some j) {d : D} {v : V} (r : R C φ XX H d v) : ∀ {kvs : List (D × D)} {ks : List Key} {vs : List V}, kvs.map (fun p => keyD p.1) = ks.map some → ks.length = vs.length → Rs C φ XX H (kvs.map (·.2)) vs →
    ∃ vs', (ks.zip vs).map (fun kv => if kv.1 = j then (kv.1, v) else kv) = ks.zip vs' ∧ ks.length = vs'.length ∧ (kvs.map (fun p => if p.1 = k then (p.1, d) else p)).map (fun p => keyD p.1) = ks.map some ∧
      Rs C φ XX H ((kvs.map (fun p => if p.1 = k then (p.1, d) else p)).map (·.2)) vs'
  | [], [], [], _, _, _ => ⟨[], rfl, rfl, rfl, .nil⟩
  | p :: q, k1 :: ks, v1 :: vs, h, l, .cons r1 rs => by
    simp only [List.map_cons, List.cons.injEq] at h
    obtain ⟨vs', h1, h2, h3, h4⟩ := put_map hj r h.2 (by simpa using l) rs
    have hi : k1 = j ↔ p.1 = k := by
      constructor
      · intro e
        exact keyD_inj (by rw [h.1, e]) hj
      · intro e
        have h1 := h.1
        rw [e, hj] at h1
        exact (Option.some.inj h1).symm
    by_cases e : p.1 = k
    · refine ⟨v :: vs', ?_, by simp [h2], ?_, ?_⟩
      · rw [List.zip_cons_cons, List.map_cons, h1, List.zip_cons_cons, if_pos (hi.mpr e)]
      · rw [List.map_cons, List.map_cons, h3, if_pos e, List.map_cons, h.1]
      · rw [List.map_cons, List.map_cons, if_pos e]
        exact .cons r h4
    · refine ⟨v1 :: vs', ?_, by simp [h2], ?_, ?_⟩
      · rw [List.zip_cons_cons, List.map_cons, h1, List.zip_cons_cons, if_neg (fun z => e (hi.mp z))]
      · rw [List.map_cons, List.map_cons, h3, if_neg e, List.map_cons, h.1]
      · rw [List.map_cons, List.map_cons, if_neg e]
        exact .cons r1 h4
  | [], _ :: _, _, h, _, _ => by simp at h
  | _ :: _, [], _, h, _, _ => by simp at h
  | _, [], _ :: _, _, l, _ => by simp at l
  | _, _ :: _, [], _, l, _ => by simp at l
theorem put_at {k : D} {j : Key} (hj : keyD k = some j) {d : D} {v : V} (r : R C φ XX H d v) {kvs : List (D × D)} {ks : List Key} {vs : List V} (h : kvs.map (fun p => keyD p.1) = ks.map some) (l : ks.length = vs.length) (rs : Rs C φ XX H (kvs.map (·.2)) vs) :
    ∃ (ks' : List Key) (vs' : List V), putK (ks.zip vs) j v = ks'.zip vs' ∧ ks'.length = vs'.length ∧ (putD k d kvs).map (fun p => keyD p.1) = ks'.map some ∧ Rs C φ XX H ((putD k d kvs).map (·.2)) vs' := by
  unfold putK putD
  rw [put_any hj h l]
  split
  · obtain ⟨vs', h1, h2, h3, h4⟩ := put_map hj r h l rs
    exact ⟨ks, vs', h1, h2, h3, h4⟩
  · refine ⟨ks ++ [j], vs ++ [v], ?_, by simp [l], ?_, ?_⟩
    · rw [List.zip_append l]
      rfl
    · rw [List.map_append, List.map_append, h]
      simp [hj]
    · rw [List.map_append]
      exact rs.append (.cons r .nil)
end
def rSetM : TSet := fun o i v H Q => rSetL o i v H Q ∨ rSetD o i v H Q
theorem set_mix (hu : X.A.units + 1 < cLine) : PSet X rSetM := by
  intro pins s σ H o i v ov iv u Q I ro ri rv h
  rcases h with h | h
  · exact set_list pins s σ H o i v ov iv u Q I ro ri rv h
  · exact set_dict hu pins s σ H o i v ov iv u Q I ro ri rv h
theorem set_at {φ XX : List Addr} {M M' : Mem} {H : Hp} {C : Cn} {a k d : D} {o i v : V} {Q : Hp → Prop} (s : Sim C φ XX M H) (ra : R C φ XX H a o) (rk : R C φ XX H k i) (rd : R C φ XX H d v) (e : setD a k d M = .ok () M')
    (h : ∀ H', Sim C φ XX M' H' → Ext φ H φ H' → Q H') : rSetM o i v H Q := by
  cases a with
  | ref n =>
    cases ra with
    | @ref n p hp =>
      simp only [setD] at e
      split at e
      · rename_i ds hn
        split at e
        · rename_i j
          split at e
          · rename_i l hl
            cases e
            cases rk
            obtain ⟨vs, h1, h2⟩ := s.obj n _ p hn hp
            have hm : p ∈ φ := mem_of_get hp
            refine .inl ⟨p, vs, j, l, rfl, rfl, h1, by rw [← h2.length]; exact hl, h _ (s.write hp ⟨_, upd_same, (h2.set l rd).mono (Mo.write hm)⟩) (Ext.write hm)⟩
          · cases e
        · cases e
      · rename_i kvs hn
        split at e
        · rename_i j hj
          split at e
          · rename_i hl
            cases e
            obtain ⟨hl, hall⟩ := hl
            have hm : p ∈ φ := mem_of_get hp
            have iy := kV_of rk hj
            rcases s.obj n _ p hn hp with ⟨ks, vs, h1, h2, h3, h4⟩ | ⟨ks, vs, ne, _, _, h3, _⟩
            · obtain ⟨ks', vs', g1, g2, g3, g4⟩ := put_at hj rd h3 h2 h4
              refine .inr ⟨p, _, rfl, .inl ⟨_, j, h1, iy, ?_, rfl⟩, h _ (s.write hp (.inl ⟨ks', vs', ?_, g2, g3, g4.mono (Mo.write hm)⟩)) (Ext.write hm)⟩
              · rw [List.length_zip, h2, Nat.min_self, ← h4.length, List.length_map]
                exact hl
              · rw [upd_same, g1]
            · exact absurd (keys_not_t hall h3) ne
          · cases e
        · cases e
      · cases e
  | _ => cases e
/-- after a write -/
theorem f_unit {φ XX : List Addr} {H : Hp} {D : Ends} {C : Cn} {env : Env} {r : Res Unit} (h : PostF C XX B φ H D (toFl r env)) : ∃ M', r = .ok () M' ∧ PostF C XX B φ H D (.ok (.nx env) M') ∨ ∃ x M', r = .exn x M' ∧ B.out = some (x, M') := by
  cases r with
  | ok u M' => exact ⟨M', .inl ⟨rfl, h⟩⟩
  | exn x M' => exact ⟨[], .inr ⟨x, M', rfl, h⟩⟩
  | bad => exact h.elim
theorem setD_exn {a k d : D} {M M' : Mem} {x : Ex} : setD a k d M ≠ .exn x M' := by
  intro h
  unfold setD at h
  split at h
  · split at h
    · split at h
      · split at h <;> cases h
      · cases h
    · split at h
      · split at h <;> cases h
      · cases h
    · cases h
  · cases h
theorem q_setI {D : Ends} {σ : L2.St} {H : Hp} (h : tS (cn X) B (evS G (.setI mo mi ma)) D σ H) : tAsg (tM (cn X) B false (evE G ma)) (gSub (tM (cn X) B false (evE G mo)) (tM (cn X) B false (evE G mi)) rSetM) D σ H := by
  obtain ⟨φ, XX, M, env, n, h⟩ := h
  simp only [evS] at h
  refine f_then n h fun φ1 M1 H1 d v n1 q1 h1 => ?_
  refine ⟨φ1, XX, M1, env, n1, ?_⟩
  cases e1 : evE G mo env M1 with
  | bad => rw [e1] at h1; exact h1
  | exn x M1 => rw [e1] at h1; exact h1
  | ok o M2 =>
    rw [e1, Res.bind_ok] at h1
    intro φ2 H2 ov s2 x2 q2 _
    have n2 := n1.go s2 x2
    refine ⟨φ2, XX, M2, env, n2, ?_⟩
    have h2 := h1.later x2
    cases e2 : evE G mi env M2 with
    | bad => rw [e2] at h2; exact h2
    | exn x M1 => rw [e2] at h2; exact h2
    | ok k M3 =>
      rw [e2, Res.bind_ok] at h2
      intro φ3 H3 iv s3 x3 q3 _
      have h3 := h2.later x3
      obtain ⟨M', ⟨e3, h4⟩ | ⟨x, M'', e3, _⟩⟩ := f_unit h3
      · exact set_at s3 (q2.ext x3) q3 ((q1.ext x2).ext x3) e3 fun H4 s4 x4 => h4 φ3 σ H4 s4 ((n2.go s3 x3).env.ext x4) x4
      · exact absurd e3 setD_exn
/-! ### append, extend -/
theorem lst_ty {C : Cn} {φ XX : List Addr} {M : Mem} {H : Hp} {o : Mi.D} {v : V} (s : Sim C φ XX M H) (r : R C φ XX H o v) (h : lstAt o M = true) : tyV C.K "list" v H := by
  cases o with
  | ref nn =>
    cases r with
    | @ref nn p hp =>
      simp only [lstAt] at h
      split at h
      · rename_i ds hn
        obtain ⟨us, g1, g2⟩ := s.obj nn _ p hn hp
        exact .inl ⟨rfl, us, SqL.of g1⟩
      · cases h
  | _ => cases h
theorem appD_exn {a d : Mi.D} {M M' : Mem} {x : Ex} : appD a d M ≠ .exn x M' := by
  intro h
  unfold appD at h
  split at h
  · split at h
    · split at h <;> cases h
    · cases h
  · cases h
theorem extD_exn {a d : Mi.D} {M M' : Mem} {x : Ex} : extD a d M ≠ .exn x M' := by
  intro h
  unfold extD at h
  split at h
  · split at h
    · split at h <;> cases h
    · cases h
  · cases h
theorem q_app {D : Ends} {σ : L2.St} {H : Hp} (h : tS (cn X) B (evS G (.app mo ma)) D σ H) : tDrop (tBM X.K "list" rAppend (tM (cn X) B false (evE G mo)) (tMs (cn X) B (evEs G (.cons ma .nil)))) D σ H := by
  obtain ⟨φ, XX, M, env, n, h⟩ := h
  simp only [evS] at h
  refine f_then n h fun φ1 M1 H1 o ov n1 q1 h1 => ?_
  split at h1
  · rename_i hl
    refine ⟨lst_ty n1.sim q1 hl, φ1, XX, M1, env, n1, ?_⟩
    simp only [evEs]
    cases e1 : evE G ma env M1 with
    | bad => rw [e1] at h1; exact h1
    | exn x M2 => rw [e1] at h1; exact h1
    | ok d M2 =>
      rw [e1, Res.bind_ok] at h1
      intro φ2 H2 vs s2 x2 q2
      have h2 := h1.later x2
      obtain ⟨M', ⟨e3, h4⟩ | ⟨x, M'', e3, _⟩⟩ := f_unit h2
      · cases q2 with
        | cons q2 rs =>
          cases rs
          have q1' := q1.ext x2
          cases o with
          | ref nn =>
            cases q1' with
            | @ref nn p hp =>
              simp only [appD] at e3
              split at e3
              · rename_i ds hn
                split at e3
                · rename_i hlt
                  cases e3
                  obtain ⟨us, g1, g2⟩ := s2.obj nn _ p hn hp
                  have hm : p ∈ φ2 := mem_of_get hp
                  exact ⟨p, us, _, rfl, rfl, g1, by rw [← g2.length]; exact hlt, h4 φ2 σ _ (s2.write hp ⟨_, upd_same, (g2.append (.cons q2 .nil)).mono (Mo.write hm)⟩) ((n1.go s2 x2).env.ext (Ext.write hm)) (Ext.write hm)⟩
                · cases e3
              · cases e3
          | _ => cases e3
      · exact absurd e3 appD_exn
  · exact h1.elim
theorem q_ext {D : Ends} {σ : L2.St} {H : Hp} (h : tS (cn X) B (evS G (.ext mo ma)) D σ H) : tDrop (tBM X.K "list" rExtend (tM (cn X) B false (evE G mo)) (tMs (cn X) B (evEs G (.cons ma .nil)))) D σ H := by
  obtain ⟨φ, XX, M, env, n, h⟩ := h
  simp only [evS] at h
  refine f_then n h fun φ1 M1 H1 o ov n1 q1 h1 => ?_
  split at h1
  · rename_i hl
    refine ⟨lst_ty n1.sim q1 hl, φ1, XX, M1, env, n1, ?_⟩
    simp only [evEs]
    cases e1 : evE G ma env M1 with
    | bad => rw [e1] at h1; exact h1
    | exn x M2 => rw [e1] at h1; exact h1
    | ok d M2 =>
      rw [e1, Res.bind_ok] at h1
      intro φ2 H2 vs s2 x2 q2
      have h2 := h1.later x2
      obtain ⟨M', ⟨e3, h4⟩ | ⟨x, M'', e3, _⟩⟩ := f_unit h2
      · cases q2 with
        | cons q2 rs =>
          cases rs
          have q1' := q1.ext x2
          cases o with
          | ref nn =>
            cases d with
            | lst es =>
              cases q1' with
              | @ref nn p hp =>
                simp only [extD] at e3
                split at e3
                · rename_i ds hn
                  split at e3
                  · rename_i hlt
                    cases e3
                    obtain ⟨us, g1, g2⟩ := s2.obj nn _ p hn hp
                    have hm : p ∈ φ2 := mem_of_get hp
                    cases q2 with
                    | lst f rs =>
                      exact ⟨p, _, us, _, rfl, rfl, g1, f.1, by rw [← g2.length, ← rs.length]; exact hlt, h4 φ2 σ _ (s2.write hp ⟨_, upd_same, (g2.append rs).mono (Mo.write hm)⟩) ((n1.go s2 x2).env.ext (Ext.write hm)) (Ext.write hm)⟩
                  · cases e3
                · cases e3
            | _ => cases e3
          | _ => cases e3
      · exact absurd e3 extD_exn
  · exact h1.elim
/-! ### x += y -/
theorem q_aug {D : Ends} {σ : L2.St} {H : Hp} {i : Nat} {p : P2} {f : Int → Int → Int} (hf : ∀ x y M, augD p x y M = .bad ∨ ∃ k j, x = .int k ∧ y = .int j ∧ augD p x y M = .ok (.int (f k j)) M) (h : tS (cn X) B (evS G (.aug i p ma)) D σ H) : tAug i (tM (cn X) B false (evE G ma)) (ipI f) D σ H := by
  obtain ⟨φ, XX, M, env, n, h⟩ := h
  simp only [evS] at h
  split at h
  · rename_i x hx
    obtain ⟨v, hv, rv⟩ := n.env.at_ i x hx
    refine ⟨v, hv, ?_⟩
    refine f_then n h fun φ1 M1 H1 d w n1 q1 h1 => ?_
    rcases hf x d M1 with e | ⟨k, j, rfl, rfl, e⟩
    · rw [e] at h1; exact h1.elim
    · rw [e] at h1
      cases rv
      cases q1
      exact ⟨k, j, rfl, rfl, h1 φ1 _ H1 n1.sim (n1.env.set (.int _)) Ext.refl⟩
  · exact h.elim
theorem aug_add (x y : Mi.D) (M : Mem) : augD .add x y M = .bad ∨ ∃ k j, x = .int k ∧ y = .int j ∧ augD .add x y M = .ok (.int (k + j)) M := by
  cases x <;> cases y <;> first
    | exact .inl rfl
    | exact .inr ⟨_, _, rfl, rfl, rfl⟩
theorem aug_sub (x y : Mi.D) (M : Mem) : augD .sub x y M = .bad ∨ ∃ k j, x = .int k ∧ y = .int j ∧ augD .sub x y M = .ok (.int (k - j)) M := by
  cases x <;> cases y <;> first
    | exact .inl rfl
    | exact .inr ⟨_, _, rfl, rfl, rfl⟩
/-! ### for -/
theorem forL_ok {f : Mi.D → Env → Mem → Res Fl} {ok : Mem → Bool} {ds : List Mi.D} {env : Env} {M : Mem} (h : forL f ok ds env M ≠ .bad) : ok M = true := by
  cases ds <;>
  · cases hk : ok M with
    | true => rfl
    | false => exact absurd (by simp [forL, hk]) h
theorem PostF.ne {φ XX : List Addr} {H : Hp} {D : Ends} {C : Cn} {r : Res Fl} (h : PostF C XX B φ H D r) : r ≠ .bad := fun z => by rw [z] at h; exact h
theorem q_for {D : Ends} {σ : L2.St} {H : Hp} {k : IK} {es : MEs} (hg : TgOk (cn X) t g) (h : tS (cn X) B (evS G (.for_ k es t mss)) D σ H) : tFor (tI (cn X) B (itR G k es)) g (tS (cn X) B (evSs G mss)) D σ H := by
  obtain ⟨φ, XX, M, env, n, h⟩ := h
  simp only [evS] at h
  refine ⟨φ, XX, M, env, n, ?_⟩
  change PostF (cn X) XX B φ H D ((itR G k es env M).bind fun its M2 => forL (forT (evSs G mss) t) (still its) its.ds env M2) at h
  cases e1 : itR G k es env M with
  | bad => rw [e1] at h; exact h.elim
  | exn x M1 => rw [e1] at h; exact h
  | ok its M2 =>
    rw [e1, Res.bind_ok] at h
    intro φ1 H1 J s1 x1 itd
    have h := h.later x1
    refine ⟨fun i m σ2 H2 => m = its.ds.length - i ∧ i ≤ its.ds.length ∧ ∃ φ2 M3 env', Sim (cn X) φ2 XX M3 H2 ∧ RE (cn X) φ2 XX H2 env' σ2 ∧ Ext φ1 H1 φ2 H2 ∧ PostF (cn X) XX B φ2 H2 D (forL (forT (evSs G mss) t) (still its) (its.ds.drop i) env' M3), ⟨_, rfl, Nat.zero_le _, φ1, M2, env, s1, n.env.ext x1, Ext.refl, h⟩, ?_⟩
    rintro i m σ2 H2 ⟨rfl, hi, φ2, M3, env', s2, re2, x2, h2⟩
    have st : still its M3 = true := forL_ok h2.ne
    have mo : Mo φ1 XX H1 φ2 XX H2 := x2.mo
    by_cases hlt : i < its.ds.length
    · obtain ⟨d, hd⟩ := get_lt rfl hlt
      have hdrop : its.ds.drop i = d :: its.ds.drop (i + 1) := by
        rw [List.drop_eq_getElem_cons hlt]
        rw [List.getElem?_eq_getElem hlt] at hd
        cases hd
        rfl
      rw [hdrop] at h2
      unfold forL at h2
      rw [if_pos st] at h2
      refine .inr ⟨itd.go φ2 _ M3 H2 _ s2 mo st hlt, _, fun σ' H' p' => ⟨its.ds.length - (i + 1), by omega, p'⟩, fun x H3 y => ?_⟩
      obtain ⟨d', hd', s3, x3, rd⟩ := itd.yld φ2 _ M3 H2 i x H3 s2 mo st hlt y
      cases hd.symm.trans hd'
      have h3 := h2.later x3
      unfold forT at h3
      cases ea : asgT t d env' with
      | none => simp only [ea] at h3; exact h3.elim
      | some env2 =>
        simp only [ea] at h3
        refine hg.run s3 rd (re2.ext x3) ea fun σ3 re3 _ => ⟨φ2, XX, M3, env2, ⟨s3, re3, (n.ext.trans x1).trans (x2.trans x3)⟩, ?_⟩
        cases eb : evSs G mss env2 M3 with
        | bad => rw [eb] at h3; exact h3
        | exn z M4 => rw [eb] at h3; exact h3
        | ok fl M4 =>
          rw [eb, Res.bind_ok] at h3
          cases fl with
          | nx e => exact fun φ4 σ4 H4 s4 re4 x4 => ⟨rfl, hlt, φ4, M4, e, s4, re4, x2.trans (x3.trans x4), h3.later x4⟩
          | cnt e => exact fun φ4 σ4 H4 s4 re4 x4 => ⟨rfl, hlt, φ4, M4, e, s4, re4, x2.trans (x3.trans x4), h3.later x4⟩
          | brk e => exact h3
          | ret d => exact h3
    · have hie : i = its.ds.length := by omega
      subst hie
      rw [List.drop_length] at h2
      unfold forL at h2
      rw [if_pos st] at h2
      exact .inl ⟨itd.stop φ2 _ M3 H2 _ s2 mo st (Nat.le_refl _), h2 φ2 σ2 H2 s2 re2 Ext.refl⟩
theorem q_whl {D : Ends} {σ : L2.St} {H : Hp} (h : tS (cn X) B (evS G (.whl mc mss)) D σ H) : tWhile (tMb (cn X) B (evE G mc)) (tS (cn X) B (evSs G mss)) D σ H := by
  obtain ⟨φ, XX, M, env, n, h⟩ := h
  simp only [evS] at h
  refine ⟨fun m σ2 H2 => ∃ φ2 M3 env', Now (cn X) XX B φ2 M3 env' σ2 H2 ∧ PostF (cn X) XX B φ2 H2 D (whlL (evE G mc) (evSs G mss) m env' M3), ⟨_, φ, M, env, n, h⟩, ?_⟩
  rintro m σ2 H2 ⟨φ2, M3, env', n2, h2⟩
  cases m with
  | zero => exact h2.elim
  | succ m =>
    refine ⟨φ2, XX, M3, env', n2, ?_⟩
    unfold whlL at h2
    cases e1 : evE G mc env' M3 with
    | bad => rw [e1] at h2; exact h2
    | exn x M4 => rw [e1] at h2; exact h2
    | ok d M4 =>
      rw [e1, Res.bind_ok] at h2
      cases d with
      | bl b =>
        refine ⟨b, rfl, fun φ3 H3 s3 x3 => ?_⟩
        have n3 := n2.go s3 x3
        have h3 := h2.later x3
        cases b with
        | true =>
          show if true = true then _ else _
          rw [if_pos rfl]
          refine ⟨_, fun σ' H' p' => ⟨m, Nat.lt_succ_self m, p'⟩, φ3, XX, M4, env', n3, ?_⟩
          simp only at h3
          cases eb : evSs G mss env' M4 with
          | bad => rw [eb] at h3; exact h3
          | exn z M4 => rw [eb] at h3; exact h3
          | ok fl M5 =>
            rw [eb, Res.bind_ok] at h3
            cases fl with
            | nx e => exact fun φ4 σ4 H4 s4 re4 x4 => ⟨φ4, M5, e, ⟨s4, re4, n3.ext.trans x4⟩, h3.later x4⟩
            | cnt e => exact fun φ4 σ4 H4 s4 re4 x4 => ⟨φ4, M5, e, ⟨s4, re4, n3.ext.trans x4⟩, h3.later x4⟩
            | brk e => exact h3
            | ret d => exact h3
        | false =>
          show if false = true then _ else _
          rw [if_neg (by decide)]
          exact h3 φ3 σ2 H3 s3 n3.env Ext.refl
      | _ => exact h2.elim
end
end Mi
set_option Elab.async false
set_option linter.all false
set_option maxRecDepth 100000
set_option maxHeartbeats 0
/-! MiS1: sets of texts: what one holds, set.add, a new one. -/
namespace Mi
open PySem PySem.Spec PyProof.Rows L2
def textOf (e : Int × Value) : Str := match e.2 with
  | .str x _ => x
  | _ => ""
def IsText (w : World) (e : Int × Value) : Prop := ∃ x t, e.2 = .str x t ∧ e.1 = hashStr w x
/-- an array of entries, a table: the texts xs, each once -/
structure Txts (w : World) (xs : List Str) (es : Array (Int × Value)) (t : SetTable) : Prop where
  all : ∀ e ∈ es.toList, IsText w e
  prm : (es.toList.map textOf).Perm xs
  few : es.size < scanBound
  fit : t.fits es.size = true
  ris : Ris t.place.toList
  led : w.params.followText "set-order" = true ∨ t.led = true
def SetS (w : World) (h : Heap) (a : Addr) (xs : List Str) : Prop :=
  ∃ o es ep t, h.get? a = some o ∧ o.ExactSet ∧ o.data = .set es ep t ∧ Txts w xs es t ∧ xs.Nodup
section
variable {P : Program} {w : World} {A : Around} {E : Value → Shared → Prop} {s : Shared} {a : Addr} {xs : List Str} {x : Str}
theorem texts_elems {l : List (Int × Value)} (h : ∀ e ∈ l, IsText w e) : ElemsOf (strKind P w) l := by
  intro e he
  obtain ⟨x, t, h1, h2⟩ := h e he
  rw [h1]
  exact ⟨⟨x, by show (x == x) = true; simp, h2⟩, rfl⟩
theorem text_is {e : Int × Value} (h : IsText w e) : (strKind P w).is x e.2 = decide (textOf e = x) := by
  obtain ⟨y, t, h1, _⟩ := h
  unfold textOf
  rw [h1]
  exact Bool.beq_eq_decide_eq y x
theorem Txts.size {es : Array (Int × Value)} {t : SetTable} (T : Txts w xs es t) : es.size = xs.length := by
  rw [← T.prm.length_eq, List.length_map, Array.length_toList]
/-- what is stored back, and laid anew if it is too full -/
theorem texts_stored {g : Bool → Sem Unit} (hg : ∀ (b : Bool) (s₁ : Shared) (Q' : Unit → Shared → Prop), Q' () s₁ → wpAny (model P w) A (g b) Q' E s₁) {o : Obj} {es0 es : Array (Int × Value)} {ep : Nat} {t0 t : SetTable}
    (ho : s.heap.get? a = some o) (hex : o.ExactSet) (hd : o.data = .set es0 ep t0) (T : Txts w xs es t) (nd : xs.Nodup) {dm : Bool} {Q : Option Bool → Shared → Prop}
    (hQ : ∀ h', Heap.SameBut a s.heap h' → SetS w h' a xs → Q (some true) { s with heap := h' }) :
    wpAny (model P w) A (do
        storeSet a es t
        if (!dm && t.tooFull) = true then do
          g (relayAll t es (SetTable.grown es.size)).2.2
          storeSet a (relayAll t es (SetTable.grown es.size)).1 (relayAll t es (SetTable.grown es.size)).2.1
          pure (some true)
        else pure (some true)) Q E s := by
  refine wpAny_bind (wpAny_storeSet_of ho hd ?_ (fits_of_scanBound T.few))
  have there := L2.store_at (es' := es) (t' := t) ho hd
  have but := Heap.SameBut.update s.heap a (Obj.putSet es t)
  split
  · have q1 := relayAll_perm t es (SetTable.grown es.size)
    have q2 := relayAll_fits t es (SetTable.grown es.size)
    have q3 := relayAll_ris t es (SetTable.grown es.size)
    have q4 := relayAll_led t es (SetTable.grown es.size)
    revert q1 q2 q3 q4
    generalize relayAll t es (SetTable.grown es.size) = r
    obtain ⟨fs, u, b⟩ := r
    intro q1 q2 q3 q4
    have hs : fs.size = es.size := by
      have := List.Perm.length_eq q1
      simpa using this
    have few : fs.size < scanBound := hs ▸ T.few
    refine wpAny_bind (hg b _ _ (wpAny_bind (wpAny_storeSet_of there rfl ?_ (fits_of_scanBound few))))
    refine wpAny_pure (hQ _ (but.trans (Heap.SameBut.update _ a _)) ⟨_, fs, _, u, L2.store_at there rfl, hex, rfl, ?_, nd⟩)
    exact { all := fun e he => T.all e (q1.mem_iff.mp he), prm := (q1.map textOf).trans T.prm, few := few, fit := q2, ris := q3, led := T.led.imp_right fun z => q4.trans z }
  · exact wpAny_pure (hQ _ but ⟨_, es, _, t, there, hex, rfl, T, nd⟩)
theorem texts_add {tk : Tok} {Q : Value → Shared → Prop} (R : SetS w s.heap a xs) (room : xs.length + 1 < scanBound)
    (hQ : ∀ h', Heap.SameBut a s.heap h' → SetS w h' a (if x ∈ xs then xs else x :: xs) → Q .none { s with heap := h', toks := s.toks + 1 }) :
    wpAny (model P w) A (call (.builtin "set.add") [.ref a, .str x tk]) Q E s := by
  obtain ⟨o, es, ep, t, ho, hex, hd, T, nd⟩ := R
  refine wpAny_call_entry F.slot_set_add ⟨o, ho, hex.1⟩ F.entry_set_add ?_ (F.args_set_add_2 _ _)
  unfold Builtin.«set.add» Builtin.Frozenset.oneOther
  simp only [List.isEmpty_nil, bind_assoc]
  unfold Builtin.Frozenset.addrOf setAdd
  refine wpAny_bind (wpAny_pure ?_)
  try dsimp only
  refine wpAny_bind (wpAny_pure ?_)
  try dsimp only
  refine wpAny_bind (wpAny_holding (wpAny_bind ((strKind P w).pyHash (k := x) (by show (x == x) = true; simp) ?_)))
  have hel : ElemsOf (strKind P w) es.toList := texts_elems T.all
  have self : (strKind P w).is x (.str x tk) = true := by show (x == x) = true; simp
  have scn : (Value.str x tk).scannable = true := rfl
  unfold setAddHashed setAddHashedIn
  refine wpAny_holding (wpAny_bind (wpAny_setState_of (s := { s with toks := s.toks + 1 }) ho hd T.fit ?_))
  dsimp only
  rw [byScan_of scn T.few hel]
  simp only [↓reduceIte]
  unfold setAddByScan
  refine wpAny_bind (wpAny_bind (wpAny_rule (wpAny_bind (wpAny_setScan_of self ho hd T.fit hel ?_))))
  have fnd : es.toList.findIdx? (fun e => (strKind P w).is x e.2) = es.toList.findIdx? (fun e => decide (textOf e = x)) := by
    have go : ∀ l : List (Int × Value), (∀ e ∈ l, IsText w e) → l.findIdx? (fun e => (strKind P w).is x e.2) = l.findIdx? (fun e => decide (textOf e = x)) := by
      intro l
      induction l with
      | nil => intro _; rfl
      | cons e l ih =>
        intro h
        rw [List.findIdx?_cons, List.findIdx?_cons, text_is (h e List.mem_cons_self), ih fun y hy => h y (List.mem_cons_of_mem _ hy)]
    exact go _ T.all
  rw [fnd]
  by_cases hx : x ∈ xs
  · rw [if_pos hx] at hQ
    have some_ : ∃ j, es.toList.findIdx? (fun e => decide (textOf e = x)) = some j := by
      obtain ⟨e, he, q⟩ := List.mem_map.mp (T.prm.mem_iff.mpr hx)
      cases hf : es.toList.findIdx? (fun e => decide (textOf e = x)) with
      | some j => exact ⟨j, rfl⟩
      | none =>
        have := List.findIdx?_eq_none_iff.mp hf e he
        simp [q] at this
    obtain ⟨j, hj⟩ := some_
    rw [hj]
    dsimp only
    exact wpAny_pure (wpAny_pure (wpAny_pure ⟨_, rfl, hQ s.heap (Heap.SameBut.refl a s.heap) ⟨o, es, ep, t, ho, hex, hd, T, nd⟩⟩))
  · rw [if_neg hx] at hQ
    have none_ : es.toList.findIdx? (fun e => decide (textOf e = x)) = none := List.findIdx?_eq_none_iff.mpr fun e he => by
      refine decide_eq_false fun q => hx (T.prm.mem_iff.mp (List.mem_map.mpr ⟨e, he, q⟩))
    rw [none_]
    dsimp only
    have p1 := layNew_perm t es ((PySem.strKind P w).hash x) (.str x tk)
    have p2 := layNew_fits t es ((PySem.strKind P w).hash x) (.str x tk)
    have p3 := layNew_ris t es ((PySem.strKind P w).hash x) (.str x tk) T.ris
    have p4 := layNew_led t es ((PySem.strKind P w).hash x) (.str x tk)
    revert p1 p2 p3 p4
    generalize layNew t es ((PySem.strKind P w).hash x) (.str x tk) = r
    obtain ⟨fs, u, dm, b⟩ := r
    intro p1 p2 p3 p4
    dsimp only at p1 p2 p3 p4 ⊢
    have q : fs.toList.Perm ((hashStr w x, Value.str x tk) :: es.toList) := by
      rw [Array.toList_push] at p1
      exact p1.trans (List.perm_append_singleton _ _)
    have nd' : (x :: xs).Nodup := List.nodup_cons.mpr ⟨hx, nd⟩
    have T' : Txts w (x :: xs) fs u := {
      all := fun e he => by
        rcases List.mem_cons.mp (q.mem_iff.mp he) with z | z
        · subst z; exact ⟨x, tk, rfl, rfl⟩
        · exact T.all e z
      prm := (q.map textOf).trans (T.prm.cons x)
      few := by
        have := q.length_eq
        rw [List.length_cons, Array.length_toList, Array.length_toList, T.size] at this
        omega
      fit := p2, ris := p3, led := T.led.imp_right fun z => p4.trans z }
    refine wpAny_bind ?_
    cases b
    case' false => refine wpAny_pure ?_
    case' true => refine wpAny_rule ?_
    all_goals
      split
      · refine wpAny_bind ?_
        rw [hashByValue_scannable 8 scn]
        refine wpAny_pure ?_
        refine texts_stored (s := { s with toks := s.toks + 1 }) ?_ ho hex hd ?_ nd' fun h' sb R' => ?_
        · intro b s₁ Q' k; cases b <;> first | exact wpAny_pure k | exact wpAny_rule k
        · split
          · exact T'
          · exact { all := T'.all, prm := T'.prm, few := T'.few, fit := SetTable.fits_plain_off T'.fit, ris := T'.ris, led := T'.led }
        · dsimp only
          exact wpAny_pure (wpAny_pure ⟨_, rfl, hQ h' sb R'⟩)
      · refine wpAny_bind (wpAny_pure ?_)
        simp only [↓reduceIte]
        refine texts_stored (s := { s with toks := s.toks + 1 }) ?_ ho hex hd T' nd' fun h' sb R' => ?_
        · intro b s₁ Q' k; cases b <;> first | exact wpAny_pure k | exact wpAny_rule k
        · dsimp only
          exact wpAny_pure (wpAny_pure ⟨_, rfl, hQ h' sb R'⟩)
theorem texts_new {h : Heap} (w : World) : SetS w (h.push { cls := .type "set", dict := none, data := .set #[] 0 (.fresh 0 0 (!w.params.followText "set-order")) }) h.objs.size [] := by
  refine ⟨_, #[], 0, _, Heap.get?_push_size _ rfl, ⟨rfl, rfl, rfl⟩, rfl, { all := fun e he => by simp at he, prm := .nil, few := by decide, fit := rfl, ris := List.Pairwise.nil, led := ?_ }, List.nodup_nil⟩
  show w.params.followText "set-order" = true ∨ (!w.params.followText "set-order") = true
  cases w.params.followText "set-order"
  · exact .inr rfl
  · exact .inl rfl
/-! ### as a thing of the heap -/
def SetSO (w : World) (a : Addr) (xs : List Str) : HO := .ext fun h => SetS w h a xs
theorem SetS.move {h h' : Heap} (R : SetS w h a xs) (k : ∀ o, h.get? a = some o → h'.get? a = some o) : SetS w h' a xs := by
  obtain ⟨o, es, ep, t, ho, r⟩ := R
  exact ⟨o, es, ep, t, k o ho, r⟩
theorem setSO_new {H : Hp} {h : Heap} (R : SetS w h a xs) : ObjOk P w H h a (SetSO w a xs) := by
  have there := R
  obtain ⟨o, es, ep, t, ho, _⟩ := there
  exact ⟨R, ⟨o, ho⟩, fun _ _ p k => SetS.move p k⟩
end
section
variable {X : Cx} {pins : List (Addr × Obj)} {σ : L2.St} {H : Hp} {s : Shared} {xs : List Str}
theorem setSO_get {a : Addr} (I : L2.Inv X pins σ H s) (h : H a = some (SetSO X.w a xs)) : SetS X.w s.heap a xs := (I.hok a _ h).1
theorem addS_ok {E : Value → Shared → Prop} {Da : Addr} {x : Str} {tk : Tok} {Q : Value → Shared → Prop} (I : L2.Inv X pins σ H s) (hD : H Da = some (SetSO X.w Da xs)) (room : xs.length + 1 < scanBound)
    (h : ∀ s', L2.Inv X pins σ (upd H Da (SetSO X.w Da (if x ∈ xs then xs else x :: xs))) s' → Q .none s') : wpAny (model X.prog X.w) X.A (call (.builtin "set.add") [.ref Da, .str x tk]) Q E s := by
  refine texts_add (setSO_get I hD) room fun h' sb new => ?_
  have he : ∃ u, h'.get? Da = some u := by
    have there := new
    obtain ⟨o, es, ep, t, ho, _⟩ := there
    exact ⟨o, ho⟩
  exact h _ (I.write (e := Da) (t' := s.toks + 1) (by rw [hD]; trivial) (.inl rfl) (fun b u hb hu => (sb.2 b hb).trans hu) he (setSO_new new))
end
end Mi
set_option Elab.async false
set_option linter.all false
set_option maxRecDepth 100000
set_option maxHeartbeats 0
/-! MiS2: the set comprehension of texts. -/
namespace Mi
open PySem PySem.Spec PyProof.Rows L2
abbrev blk0 : Obj → Obj := fun o => o
section
variable {X : Cx}
/-- one turn of the block, Nx wanted behind it -/
def turnS (w : World) (g : TG) (tt : TT) (te : TE) (σ0 : L2.St) (vs : List Nat) (Da : Addr) (Nx : Hp → Prop) (x : V) (H : Hp) : Prop :=
  g x σ0 H fun σ2 H2 => L2.wipe σ2 vs = σ0 ∧ tt σ2 H2 fun b H3 => if b = true then te σ2 H3 fun y H4 => ∃ (z : Str) (xs : List Str), y = .str z ∧ H4 Da = some (SetSO w Da xs) ∧ xs.length + 1 < scanBound ∧ Nx (upd H4 Da (SetSO w Da (if z ∈ xs then xs else z :: xs))) else Nx H3
/-- {elt for target in iter if ..} of texts -/
def tScS (w : World) (wi : TI) (g : TG) (tt : TT) (te : TE) (vs : List Nat) : TE := fun σ H Q => wi σ H fun J H1 => ∀ Da, H1 Da = none → ∃ W : Nat → Nat → Hp → Prop, (∃ m, W 0 m (upd H1 Da (SetSO w Da []))) ∧
  ∀ i m H, W i m H → (J.stop i H ∧ Q (.ref Da) H) ∨ (J.go i H ∧ ∃ Nx : Hp → Prop, (∀ H', Nx H' → ∃ m', m' < m ∧ W (i + 1) m' H') ∧ ∀ x H', J.yld i H x H' → turnS w g tt te (L2.wipe σ vs) vs Da Nx x H')
theorem pe_scS {elt tg iter : Expr} {ifs : List Expr} {scope : Scope} {own : List (Str × Nat)} {pos : Pos} {wi : TI} {g : TG} {tt : TT} {te : TE} (calm : X.calm = true) (nd : X.N.Nodup) (hi : PI X tg iter wi) (ok : BlkOk X.N X.env.scope scope own)
    (hg : ∀ s H C cl fp, PG (X.blk s H scope (compEnvC scope cl C X.env) fp) tg g) (ht : ∀ s H C cl fp, PTs (X.blk s H scope (compEnvC scope cl C X.env) fp) ifs tt)
    (he : ∀ s H C cl fp, PE (X.blk s H scope (compEnvC scope cl C X.env) fp) elt te) (hf : ∀ x, foldedSetIterable iter X.env x = pure x) :
    PE X (.SetComp elt [⟨tg, iter, ifs, 0⟩] scope pos) (tScS X.w wi g tt te (own.map (·.2))) := by
  refine ⟨fun pins s σ H Q I want => ?_⟩
  rw [PpSet.eval_SetComp]
  have clo : ∀ y ∈ scope.names, y.2 = .free → ∃ c, X.env.cells.lookup y.1 = some c := fun y hy e => (ok.free y hy e).elim (fun k => I.ok.has _ (.inl k)) fun k => I.ok.has _ (.inr k)
  refine wpAny_comprehension_free (use := none) rfl hf (closure_ok clo) ok.kind (fun y hy e => by rw [ok.uniq y hy, e]) (thn (hi.run pins s σ H _ I want) fun _ _ came => thn came fun _ sa walk => ?_)
  obtain ⟨it, fp, tn, J, Ha, rfl, Ia, T, sta, fpa, rest⟩ := walk
  refine PpSet.newSet_ok (newEnv_comp ?_)
  obtain ⟨Da, hDa⟩ : ∃ Da, Da = sa.heap.objs.size := ⟨_, rfl⟩
  rw [← hDa]
  have fresh : Ha Da = none := hDa ▸ Ia.hok.fresh (Nat.le_refl _)
  obtain ⟨W, ⟨m0, w0⟩, each⟩ := rest Da fresh
  obtain ⟨sb, hsb⟩ : ∃ sb : Shared, sb = { sa with heap := sa.heap.push { cls := .type "set", dict := none, data := .set #[] 0 (.fresh 0 0 (!X.w.params.followText "set-order")) } } := ⟨_, rfl⟩
  rw [← hsb]
  obtain ⟨Hb, hHb⟩ : ∃ Hb, Hb = upd Ha Da (SetSO X.w Da []) := ⟨_, rfl⟩
  rw [← hHb] at w0
  have grown : sb.heap = sa.heap.push { cls := .type "set", dict := none, data := .set #[] 0 (.fresh 0 0 (!X.w.params.followText "set-order")) } := by rw [hsb]
  have Ib : L2.Inv X pins σ Hb sb := by
    rw [hHb, hsb]
    refine Ia.laid (t' := sa.toks) (fun b o e => Heap.get?_push_of_some _ e) (Nat.le_of_eq hDa.symm) ?_
    subst hDa
    exact setSO_new (texts_new X.w)
  have young : ∀ b ∈ fp, b < sa.heap.objs.size := fun b hb => by
    obtain ⟨o, e, _⟩ := T.obj _ _ sta b hb
    exact Heap.lt_size e
  have fpb : ∀ b ∈ fp, FpOk X pins Hb b ∧ b < sb.heap.objs.size := fun b hb => by
    have lt := young b hb
    obtain ⟨k1, k2⟩ := fpa b hb
    rw [hHb, grown, Heap.size_push]
    refine ⟨⟨?_, k2⟩, Nat.lt_succ_of_lt lt⟩
    rw [upd_ne (hDa ▸ Nat.ne_of_lt lt)]
    exact k1
  have stb : tn 0 sb.heap := T.keep _ _ _ sta fun b _ o e => by rw [grown]; exact Heap.get?_push_of_some _ e
  have Ic := block_start Ib ok nd fpb
  obtain ⟨ce, hce⟩ : ∃ ce, ce = compEnvC scope (cellsFrom (sb.heap.objs.size + 1) scope.names (cloFrom X.env.cells scope.names [])) sb.heap.objs.size X.env := ⟨_, rfl⟩
  have cg := hg sb Hb sb.heap.objs.size (cellsFrom (sb.heap.objs.size + 1) scope.names (cloFrom X.env.cells scope.names [])) fp
  have ct := ht sb Hb sb.heap.objs.size (cellsFrom (sb.heap.objs.size + 1) scope.names (cloFrom X.env.cells scope.names [])) fp
  have cel := he sb Hb sb.heap.objs.size (cellsFrom (sb.heap.objs.size + 1) scope.names (cloFrom X.env.cells scope.names [])) fp
  rw [← hce] at Ic cg ct cel
  have loc : ce.locals = sb.heap.objs.size := by rw [hce]; rfl
  obtain ⟨sc, hsc⟩ : ∃ sc : Shared, sc = { sb with heap := pushCells (sb.heap.push { cls := .type "dict", data := .dict #[] }) scope.names } := ⟨_, rfl⟩
  rw [← hsc] at Ic
  show codeAny _ _ (.compStart (.SetComp elt [⟨tg, iter, ifs, 0⟩] scope pos) 0 (.ref it) (.ref Da) (compEnvC scope (cellsFrom (sb.heap.objs.size + 1) scope.names (cloFrom X.env.cells scope.names [])) sb.heap.objs.size X.env)) _ { sb with heap := pushCells (sb.heap.push { cls := .type "dict", data := .dict #[] }) scope.names }
  rw [← hce, ← hsc]
  have stc : tn 0 sc.heap := T.keep _ _ _ stb fun b _ o e => by rw [hsc]; exact pushCells_keeps _ _ _ _ (Heap.get?_push_of_some _ e)
  have within : ∀ {σ' : L2.St} {H' : Hp} {s' : Shared}, L2.Inv (X.blk sb Hb scope ce fp) [] σ' H' s' → (∀ b ∈ fp, H' b = none) → ∀ b ∈ fp, FpOk (X.blk sb Hb scope ce fp) [] H' b := fun {σ' H' s'} J' none_ b hb => by
    obtain ⟨k1, k2⟩ := J'.ok.exf b hb
    exact ⟨none_ b hb, k1, J'.ok.exfs b hb, .inl hb, k2, fun p hp => by simp at hp⟩
  refine PpSet.codeAny_compStart_set ?loop (T.self X.A 0 _ _ _ stc ?loop)
  refine PpSet.compLoopS_any (fun n s' => ∃ i H', L2.Inv (X.blk sb Hb scope ce fp) [] (L2.wipe σ (own.map (·.2))) H' s' ∧ tn i s'.heap ∧ (∀ b ∈ fp, H' b = none) ∧ W i n H') ?_ m0 ⟨0, Hb, Ic, stc, fun b hb => (fpb b hb).1.1, w0⟩
  rintro n sd ⟨i, Hd, Id, std, nod, wd⟩
  rcases each i n Hd wd with ⟨ends, got⟩ | ⟨goes, Nx, less, turn⟩
  · refine thnF (T.done (X.blk sb Hb scope ce fp) rfl rfl rfl calm i [] sd _ Hd (fun _ _ => False) Id (within Id nod) std ends) fun r se ⟨er, Ie⟩ => ?_
    subst er
    have If : L2.Inv X pins σ Hd se := Ib.call' (ch := fp) Ie.os Ie.base Ie.hok Ie.bare fun b hb => let k := (fpb b hb).1.2; ⟨k.2.2.1, k.1, k.2.2.2.1, k.2.2.2.2⟩
    have gone : Hd sb.heap.objs.size = none := loc ▸ Ie.free
    obtain ⟨m, ns, _⟩ := Ie.loc
    have ns : se.heap.Ns ce.locals m := ns
    rw [loc] at ns
    obtain ⟨f0, f1, f2, f3, f4, f5⟩ := Ib.fpOk (H' := Hd) (Nat.le_refl _) gone
    exact ⟨m, ns, fun h'' but => ⟨.ref Da, Hd, If.turned (t' := se.toks) (fun b o hb e => (but.2 b hb).trans e) f0 f1 f3 f4 f5, rfl, got⟩⟩
  · refine thnF (T.item (X.blk sb Hb scope ce fp) rfl rfl rfl calm i [] sd _ Hd (fun _ _ => False) Id (within Id nod) std goes) fun r se ⟨u, er, nxt⟩ => ?_
    subst er
    refine thnF nxt fun _ sf ⟨x, Hf, If, rf, yf, stf, nof⟩ => ?_
    have Ip := If.pinned (within If nof) (T.obj _ _ stf)
    refine thnF (cg.run _ sf _ Hf x u _ Ip rf (turn x Hf yf)) fun _ sg ⟨σg, Hg, Ig, wg, qg⟩ => ?_
    refine thnF (ct.run _ sg σg Hg _ Ig qg) fun b sh ⟨Hh, Ih, qh⟩ => ?_
    have back : ∀ {s' : Shared} {H' : Hp}, L2.Inv (X.blk sb Hb scope ce fp) ([] ++ pinsAt fp sf.heap) σg H' s' → Nx H' → ∃ m, m < n ∧ ∃ i H', L2.Inv (X.blk sb Hb scope ce fp) [] (L2.wipe σ (own.map (·.2))) H' s' ∧ tn i s'.heap ∧ (∀ b ∈ fp, H' b = none) ∧ W i m H' := fun {s' H'} J' nx => by
      obtain ⟨m', lt, w'⟩ := less H' nx
      have pinned : ∀ b ∈ fp, ∀ o, sf.heap.get? b = some o → s'.heap.get? b = some o ∧ H' b = none := fun b hb o e => by
        obtain ⟨k1, k2, _⟩ := J'.pin (b, o) (List.mem_append_right _ (List.mem_append_right _ (mem_pinsAt hb e)))
        exact ⟨k1, k2⟩
      refine ⟨m', lt, i + 1, H', (J'.unpinned (pins := [])).weak (by rw [← wg, wipe_length]) (fun j v e => ?_), T.keep _ _ _ stf fun b hb o e => (pinned b hb o e).1, fun b hb => ?_, w'⟩
      · rw [← wg] at e
        exact (wipe_some e).1
      · obtain ⟨o, e, _⟩ := T.obj _ _ stf b hb
        exact (pinned b hb o e).2
    cases b with
    | false => exact back Ih qh
    | true =>
      simp only [if_true] at qh ⊢
      refine thnF (cel.run _ sh σg Hh _ Ih qh) fun v sk ⟨y, Hk, Ik, rk, z, xs, ey, hDk, room, nx⟩ => ?_
      subst ey
      obtain ⟨tk, rfl⟩ : ∃ tk, v = Value.str z tk := rk
      exact addS_ok (X := X.blk sb Hb scope ce fp) Ik hDk room fun sl Il => back Il nx
end
end Mi
set_option Elab.async false
set_option linter.all false
set_option maxRecDepth 100000
set_option maxHeartbeats 0
/-! MiS3: sorted of a set of texts. -/
namespace Mi
open PySem PySem.Spec PyProof.Rows L2
theorem leS_trans (a b c : Str) : leS a b = true → leS b c = true → leS a c = true := by
  unfold leS
  simp only [decide_eq_true_eq]
  exact List.le_trans
theorem leS_total (a b : Str) : (leS a b || leS b a) = true := by
  unfold leS
  simp only [Bool.or_eq_true, decide_eq_true_eq]
  exact List.le_total _ _
theorem leS_anti (a b : Str) : leS a b = true → leS b a = true → a = b := by
  unfold leS
  simp only [decide_eq_true_eq]
  intro h1 h2
  have := List.le_antisymm h1 h2
  cases a
  cases b
  congr
  exact Array.toList_inj.mp this
theorem sortS_perm {xs ys : List Str} (h : xs.Perm ys) : sortS xs = sortS ys := by
  refine List.Perm.eq_of_pairwise (le := fun a b => leS a b = true) (fun a b _ _ => leS_anti a b) (List.pairwise_mergeSort leS_trans leS_total xs) (List.pairwise_mergeSort leS_trans leS_total ys) ?_
  exact (List.mergeSort_perm xs leS).trans (h.trans (List.mergeSort_perm ys leS).symm)
section
variable {X : Cx}
def rSortS (w : World) : List V → Hp → VK → Prop := fun vs H Q => ∃ (a : Addr) (xs : List Str), vs = [V.ref a] ∧ H a = some (SetSO w a xs) ∧ ∀ p, H p = none → Q (.ref p) (upd H p (.lst ((sortS xs).map V.str)))
theorem each_texts {w : World} : ∀ {l : List (Int × Value)} {vs : List Value}, (∀ v ∈ vs, ∃ e, IsText w e ∧ v = e.2) → PySem.W.EachIs (fun v x => ∃ t, v = Value.str x t) vs (vs.map fun v => textOf (0, v))
  | _, [], _ => .nil
  | l, v :: vs, h => by
    obtain ⟨e, ⟨x, t, h1, _⟩, h2⟩ := h v List.mem_cons_self
    refine .cons ⟨t, ?_⟩ (each_texts (l := l) fun u hu => h u (List.mem_cons_of_mem _ hu))
    rw [h2, h1]
    rfl
theorem vals_texts : ∀ {vs : List Value} {xs : List Str}, PySem.W.EachIs (fun v x => ∃ t, v = Value.str x t) vs xs → Vals (xs.map V.str) vs
  | _, _, .nil => .nil
  | _, _, .cons ⟨t, e⟩ r => .cons ⟨t, e⟩ (vals_texts r)
theorem cr_sortS (calm : X.calm = true) (hu : X.A.units + 70 < cLine) : CallR X (.builtin "sorted") (rSortS X.w) := by
  intro pins s σ H vs us Q I r h
  obtain ⟨a, xs, rfl, ha, got⟩ := h
  rw [Vals.ref1 r]
  obtain ⟨o, es, ep, t, ho, hex, hd, T, nd⟩ := setSO_get I ha
  refine Calls.call_function_entry kind_sorted plain_sorted entry_sorted (args_sorted1 _) ?_
  unfold Builtin.«sorted»
  refine wpAny_bind (m := checkCount "sorted" 1 1 _) (wpAny_pure ?_)
  refine wpAny_bind (collect_set (A := X.A.in1) (I.ok.hd calm) ⟨o, ho, hex.1, hd⟩ T.fit T.few T.ris T.led fun s1 out k1 z1 g1 o1 pm => ?_)
  have two : out.length = xs.length := by rw [pm.length_eq, List.length_map, Array.length_toList, T.size]
  have each := each_texts (w := X.w) (l := es.toList) (vs := out) fun v hv => by
    obtain ⟨e, he, q⟩ := List.mem_map.mp (pm.mem_iff.mp hv)
    exact ⟨e, T.all e he, q.symm⟩
  have same : (out.map fun v => textOf (0, v)).Perm xs := by
    have q := pm.map fun v => textOf (0, v)
    rw [List.map_map] at q
    exact q.trans T.prm
  have few : xs.length < scanBound := T.size ▸ T.few
  have small : xs.length ≤ sizeLine := by rw [sizeLine_eq]; unfold scanBound at few; omega
  refine wpAny_bind (wpAny_newList ?_ (by rw [two]; exact small))
  have hoL : (s1.heap.push (seqObj "list" out.toArray 0)).get? s1.heap.objs.size = some (seqObj "list" out.toArray 0) := Heap.get?_push_size _ rfl
  refine wpAny_bind (wpAny_holding (PySem.W.list_sort_data (enc := fun x : Str => PyData.str x) (bs := out.map fun v => textOf (0, v)) hoL each ?er ?al ?so ?le ?un fun res len done_ => ?_))
  case al => exact PySem.W.AllAlike.of fun _ _ => rfl
  case so => exact PySem.W.Sortable.others fun _ => ⟨(fun z => by cases z), fun _ z => by cases z⟩
  case le => rw [List.length_map, two]; exact small
  case un =>
    intro b _
    show X.A.in1.units + 1 + 0 < cLine
    show X.A.units + 1 + 1 + 0 < cLine
    omega
  case er =>
    have go : ∀ {vs : List Value} {ys : List Str}, PySem.W.EachIs (fun v x => ∃ t, v = Value.str x t) vs ys → PySem.W.EachIs (fun v b => ∃ as, Reads (s1.heap.push (seqObj "list" out.toArray 0)) v (PyData.str b) as ∧ s1.heap.objs.size ∉ as) vs ys := by
      intro vs ys e
      induction e with
      | nil => exact .nil
      | cons q r ih =>
        obtain ⟨t, rfl⟩ := q
        exact .cons ⟨[], by constructor, List.not_mem_nil⟩ ih
    exact go each
  obtain ⟨c, hc⟩ := sortedHeap_at (vs := out) (out := res.toArray) hoL
  have fin : (sortS xs).map V.str = ((out.map fun v => textOf (0, v)).mergeSort (PySem.W.dataLe false fun x : Str => PyData.str x)).map V.str := by
    rw [PySem.W.dataLe_str (fun x : Str => x)]
    exact congrArg (List.map V.str) (sortS_perm same.symm)
  have rel : Vals ((sortS xs).map V.str) res := by rw [fin]; exact vals_texts done_
  have small2 : ((sortS xs).map V.str).length ≤ sizeLine := by
    rw [rel.length, len, List.length_map, two]
    exact small
  have none_ : H s1.heap.objs.size = none := I.hok.fresh z1
  have keep : ∀ b o, s.heap.get? b = some o → (sortedHeap (s1.heap.push (seqObj "list" out.toArray 0)) s1.heap.objs.size out res.toArray).get? b = some o := fun b u e => by
    have q := k1 b u e
    have lt := Heap.lt_size q
    rw [sortedHeap_old (Nat.ne_of_lt lt) (by rw [size_push']; exact Nat.lt_succ_of_lt lt)]
    exact Heap.get?_push_of_some _ q
  refine wpAny_pure ⟨_, rfl, .ref s1.heap.objs.size, upd H s1.heap.objs.size (.lst ((sortS xs).map V.str)), ?_, rfl, got _ none_⟩
  exact I.call' (ch := []) o1 (Un.laid keep z1 none_) (I.hok.laid keep z1 ⟨small2, res, c, rel, hc⟩) (by rw [g1]; exact I.bare) (fun _ z => nomatch z)
end
end Mi
set_option Elab.async false
set_option linter.all false
set_option maxRecDepth 100000
set_option maxHeartbeats 0
/-! MiS4: sorted({..}) of texts, by what the evaluator says. -/
namespace Mi
open PySem PySem.Spec PyProof.Rows L2
theorem strsD_app : ∀ {as bs : List D} {xs : List Str}, strsD (as ++ bs) = some xs → ∃ ys zs, strsD as = some ys ∧ strsD bs = some zs ∧ xs = ys ++ zs
  | [], bs, xs, h => ⟨[], xs, rfl, h, rfl⟩
  | a :: as, bs, xs, h => by
    cases a with
    | str x =>
      have h : (strsD (as ++ bs)).map (x :: ·) = some xs := h
      obtain ⟨ws, h1, h2⟩ := Option.map_eq_some_iff.mp h
      obtain ⟨ys, zs, k1, k2, k3⟩ := strsD_app h1
      exact ⟨x :: ys, zs, by show (strsD as).map (x :: ·) = _; rw [k1]; rfl, k2, by rw [← h2, k3]; rfl⟩
    | _ => cases h
theorem setS_len (xs : List Str) : (setS xs).length ≤ xs.length := by
  have go : ∀ (xs acc : List Str), (xs.foldl (fun acc z => if z ∈ acc then acc else z :: acc) acc).length ≤ acc.length + xs.length := by
    intro xs
    induction xs with
    | nil => intro acc; simp
    | cons x xs ih =>
      intro acc
      rw [List.foldl_cons]
      refine Nat.le_trans (ih _) ?_
      split
      · simp only [List.length_cons]; omega
      · simp only [List.length_cons]; omega
  have := go xs []
  rw [List.length_nil, Nat.zero_add] at this
  exact this
theorem setS_snoc (xs : List Str) (z : Str) : setS (xs ++ [z]) = if z ∈ setS xs then setS xs else z :: setS xs := by
  unfold setS
  rw [List.foldl_append]
  rfl
section
variable {X : Cx} {B : Bs} {G : Ce} {elt tg iter c : Expr} {ifs : List Expr} {scope : Scope} {own : List (Str × Nat)} {pos : Pos} {k : IK} {es : MEs} {t : MT} {mc me : ME} {g : TG}
theorem rs_strs {C : Cn} {φ X : List Addr} {H : Hp} : ∀ xs : List Str, Rs C φ X H (xs.map D.str) (xs.map V.str)
  | [] => .nil
  | x :: xs => .cons (.str x) (rs_strs xs)
theorem pm_scomp {tt : TT} (hg1 : TgOk (cn X) t g) (hown : ∀ i ∈ t.slots, i ∈ own.map (·.2)) (htt : ∀ σ H Q, tMb (cn X) B0 (evE G mc) σ H Q → tt σ H Q) :
    ∀ σ H Q, tM (cn X) B true (evE G (.scomp (.comp k es t (own.map (·.2)) mc me))) σ H Q → tScS X.w (tI (cn X) B (itR G k es)) g tt (tM (cn X) B0 false (evE G me)) (own.map (·.2)) σ H (fun x H1 => rSortS X.w [x] H1 Q) := by
  intro σ H Q ⟨φ, XX, M, env, n, h⟩
  refine ⟨φ, XX, M, env, n, ?_⟩
  simp only [evE] at h
  change Post (cn X) XX B true φ H Q (((itR G k es env M).bind fun its M2 => compR (evE G mc) (evE G me) t (wipeE env (own.map (·.2))) its M2).bind fun d M1 => match d with
    | .lst ds => sortSet ds M1
    | _ => .bad) at h
  cases e1 : itR G k es env M with
  | bad => rw [e1] at h; exact h.elim
  | exn x M1 => rw [e1] at h; exact h
  | ok its M2 =>
    rw [e1, Res.bind_ok] at h
    intro φ1 H1 J s1 x1 itd D hD
    unfold compR at h
    by_cases hl : its.ds.length ≤ SL
    case neg => rw [if_neg hl] at h; exact h.elim
    rw [if_pos hl] at h
    have hDX : D ∉ XX := fun z => (s1.xs D z).2 hD
    generalize hf : compT (evE G mc) (evE G me) t (wipeE env (own.map (·.2))) = f at h
    cases e2 : compL f (still its) its.ds M2 with
    | bad => rw [e2] at h; exact h.elim
    | exn x M3 => exact absurd e2 (compL_exn fun _ _ _ _ z => compT_exn (by rw [hf]; exact z))
    | ok all Mz =>
      rw [e2] at h
      simp only [Res.bind_ok] at h
      unfold sortSet at h
      cases es' : strsD all with
      | none => rw [es'] at h; exact h.elim
      | some xall =>
        rw [es'] at h
        simp only at h
        by_cases hsz : xall.length ≤ 4000
        case neg => rw [if_neg hsz] at h; exact h.elim
        rw [if_pos hsz] at h
        refine ⟨fun i m H2 => m = its.ds.length - i ∧ i ≤ its.ds.length ∧ ∃ φ2 M3 xs ds r, Sim (cn X) φ2 (D :: XX) M3 H2 ∧ Ext φ1 H1 φ2 H2 ∧ H2 D = some (SetSO X.w D (setS xs)) ∧ strsD ds = some xs ∧ compL f (still its) (its.ds.drop i) M3 = .ok r Mz ∧ all = ds ++ r,
          ⟨_, rfl, Nat.zero_le _, φ1, M2, [], [], all, s1.newX hD, Ext.updNew Ext.refl hD, upd_same, rfl, e2, rfl⟩, ?_⟩
        rintro i m H2 ⟨rfl, hi, φ2, M3, xs, ds, r, s2, x2, hD2, hxs, er, eall⟩
        have st : still its M3 = true := compL_ok (by rw [er]; exact fun z => by cases z)
        have mo : Mo φ1 XX H1 φ2 (D :: XX) H2 := ⟨fun a o e nφ nX => by
          obtain ⟨k1, k2⟩ := x2.keep a o e nφ
          refine ⟨k1, k2, fun z => ?_⟩
          rcases List.mem_cons.mp z with z | z
          · exact ne_of_none e hD z
          · exact nX z, fun n a e => x2.get e⟩
        have hDn : D ∉ φ2 := (s2.xs D List.mem_cons_self).1
        by_cases hlt : i < its.ds.length
        · obtain ⟨d, hd⟩ := get_lt rfl hlt
          have hdrop : its.ds.drop i = d :: its.ds.drop (i + 1) := by
            rw [List.drop_eq_getElem_cons hlt]
            rw [List.getElem?_eq_getElem hlt] at hd
            cases hd
            rfl
          rw [hdrop] at er
          obtain ⟨o, M5, r2, ef, er2, rfl⟩ := compL_cons er
          rw [← hf] at ef
          obtain ⟨env', b, M6, ea, ec, eo⟩ := compT_ok ef
          refine .inr ⟨itd.go φ2 _ M3 H2 _ s2 mo st hlt, _, fun H' p' => ⟨its.ds.length - (i + 1), by omega, p'⟩, fun x H3 y => ?_⟩
          obtain ⟨d', hd', s3, x3, rd⟩ := itd.yld φ2 _ M3 H2 i x H3 s2 mo st hlt y
          cases hd.symm.trans hd'
          obtain ⟨hD3, hDn3⟩ := x3.keep D _ hD2 hDn
          refine hg1.run s3 rd (((((n.env.ext x1).mono mo).ext x3)).wipe (own.map (·.2))) ea fun σ' re' hw => ⟨(hw _ hown).trans (wipe_wipe _ _), htt σ' H3 _ ⟨φ2, D :: XX, M3, env', ⟨s3, re', ext0⟩, ?_⟩⟩
          rw [ec]
          refine ⟨b, rfl, fun φ4 H4 s4 x4 => ?_⟩
          obtain ⟨hD4, hDn4⟩ := x4.keep D _ hD3 hDn3
          rcases eo with ⟨rfl, v, ev, rfl⟩ | ⟨rfl, rfl, rfl⟩
          · rw [if_pos rfl]
            refine ⟨φ4, D :: XX, M6, env', ⟨s4, re'.ext x4, ext0⟩, ?_⟩
            rw [ev]
            intro φ5 H5 w s5 x5 rw5 _
            obtain ⟨hD5, hDn5⟩ := x5.keep D _ hD4 hDn4
            have eall' : all = (ds ++ [v]) ++ r2 := by rw [eall]; simp
            rw [eall'] at es'
            obtain ⟨ys, zs, k1, k2, k3⟩ := strsD_app es'
            obtain ⟨ys1, ys2, k4, k5, k6⟩ := strsD_app k1
            rw [hxs] at k4
            cases k4
            cases v with
            | str z =>
              cases rw5
              cases k5
              have lxs : (setS xs).length ≤ xs.length := setS_len xs
              have lall : xs.length ≤ 4000 := by
                have : xall.length = xs.length + 1 + zs.length := by
                  rw [k3, k6]
                  simp only [List.length_append, List.length_cons, List.length_nil]
                omega
              refine ⟨z, setS xs, rfl, hD5, by unfold scanBound; omega, rfl, hlt, φ5, M5, xs ++ [z], ds ++ [.str z], r2, s5.writeX List.mem_cons_self, (x2.trans (x3.trans (x4.trans x5))).updNew hD, ?_, ?_, er2, by rw [eall]; simp⟩
              · rw [upd_same, setS_snoc]
              · rw [k1, k6]
            | _ => cases k5
          · rw [if_neg (by decide)]
            exact ⟨rfl, hlt, φ4, M5, xs, ds, r2, s4, x2.trans (x3.trans x4), hD4, hxs, er2, by rw [eall]; simp⟩
        · have hie : i = its.ds.length := by omega
          subst hie
          refine .inl ⟨itd.stop φ2 _ M3 H2 _ s2 mo st (Nat.le_refl _), D, setS xs, rfl, hD2, ?_⟩
          rw [List.drop_length] at er
          unfold compL at er
          rw [if_pos st] at er
          cases er
          rw [List.append_nil] at eall
          subst eall
          rw [hxs] at es'
          cases es'
          exact (h.later (x1.trans x2) s2.dropX).newLst s2.dropX (rs_strs _)
end
end Mi
set_option Elab.async false
set_option linter.all false
set_option maxRecDepth 100000
set_option maxHeartbeats 0
/-! Mi12: which terms tell an expression of the program: a check, and that it suffices. -/
namespace Mi
open PySem PySem.Spec PyProof.Rows L2
/-- what is known of the names where an expression stands -/
structure Sco where
  N : List Str
  names : List (Str × NameKind)
  fn : Str → Bool
def Sco.vis (S : Sco) (x : Str) : Bool := match S.names.lookup x with
  | some .local | some .cell | some .free => true
  | _ => false
def Sco.glob (S : Sco) (x : Str) : Bool := decide (S.names.lookup x = some .globalImplicit) && !(x == ("__debug__" : Str))
def Sco.own (S : Sco) (x : Str) : Bool := match S.names.lookup x with
  | some .local => true
  | some .cell => S.fn x
  | _ => false
def Sco.blk (S : Sco) (scope : Scope) : Sco :=
  ⟨S.N, scope.names.map fun (n, k) => if (k == NameKind.free && S.names.lookup n == some .cell) then (n, NameKind.cell) else (n, k), fun x => scope.names.lookup x == some .cell⟩
/-- the built-in names that are read -/
def btNames : List Str := ["len", "sum", "all", "any", "sorted", "tuple", "list", "int", "str", "bool", "dict", "isinstance", "range", "enumerate", "zip", "min", "max"]
structure Good (G : Ce) (T : List Fn) (X : Cx) (S : Sco) : Prop where
  calm : X.calm = true
  N : X.N = S.N
  nd : S.N.Nodup
  kind : X.env.scope.kind = .function
  names : X.env.scope.names = S.names
  fn : ∀ x, X.fn x = S.fn x
  un : X.A.units + 80 < cLine
  bt : ∀ x ∈ btNames, X.mg x = none
  fns : ∀ f ∈ T, ∃ k a fd ps, FnOk X.prog X.w X.K X.mg X.base CX0 k a fd ps (spM (G.call f.name) f.np (cn X)) ∧ Room k X.A ∧ X.mg f.name = some (.ref a) ∧ PySem.W.keepIn X.K (.ref a) = true ∧ Binds X.K fd ps []
  gls : ∀ x d, G.gl x = some d → ∃ v u, X.mg x = some u ∧ RelV v u ∧ ∀ φ XX H, R (cn X) φ XX H d v
  nogl : G.gl "" = none
section
variable {G : Ce} {T : List Fn} {X : Cx} {S : Sco}
theorem relabel_eq {sc : Scope} (h1 : sc.kind = ScopeKind.function) (names : List (Str × NameKind)) : (names.map fun (p : Str × NameKind) => if (p.2 == NameKind.free && sc.kind == ScopeKind.function && sc.names.lookup p.1 == some NameKind.cell) = true then (p.1, NameKind.cell) else (p.1, p.2)) =
    names.map fun (p : Str × NameKind) => if (p.2 == NameKind.free && sc.names.lookup p.1 == some NameKind.cell) = true then (p.1, NameKind.cell) else (p.1, p.2) := by
  apply List.map_congr_left
  intro p _
  rw [h1]
  cases p.2 == NameKind.free <;> rfl
theorem Good.blk (g : Good G T X S) {scope : Scope} (hk : scope.kind = .function) (s : Shared) (H : Hp) (C : Addr) (cl : List (Str × Addr)) (fp : List Addr) : Good G T (X.blk s H scope (compEnvC scope cl C X.env) fp) (S.blk scope) where
  calm := g.calm
  N := g.N
  nd := g.nd
  kind := hk
  names := by
    show (relabel scope X.env).names = _
    have e := relabel_eq (sc := X.env.scope) g.kind scope.names
    rw [g.names] at e
    refine Eq.trans ?_ e
    show (scope.names.map _) = _
    rw [← g.names]
    rfl
  fn := fun x => rfl
  un := g.un
  bt := g.bt
  fns := g.fns
  gls := g.gls
  nogl := g.nogl
theorem Good.vis (g : Good G T X S) {x : Str} (h : S.vis x = true) : Vis X.env.scope x := by
  unfold Sco.vis at h
  unfold Vis
  rw [g.names]
  split at h
  · exact .inl (by assumption)
  · exact .inr (.inl (by assumption))
  · exact .inr (.inr (by assumption))
  · cases h
theorem Good.gl (g : Good G T X S) {x : Str} (h : S.glob x = true) : Gl X x ∧ (x == ("__debug__" : Str)) = false := by
  unfold Sco.glob at h
  simp only [Bool.and_eq_true, decide_eq_true_eq, Bool.not_eq_true'] at h
  exact ⟨by unfold Gl Env.kindOf; rw [g.names]; exact h.1, h.2⟩
theorem Good.own (g : Good G T X S) {x : Str} (h : S.own x = true) : L2.Loc X.env.scope x ∧ (X.fn x = true ∨ X.env.scope.names.lookup x = some .local) := by
  unfold Sco.own at h
  unfold L2.Loc
  rw [g.names]
  split at h
  · rename_i e; exact ⟨.inl e, .inr e⟩
  · rename_i e; exact ⟨.inr e, .inl ((g.fn x).trans h)⟩
  · cases h
end
/-! ### the check -/
def constD : Const → Option D
  | .none => some .non
  | .bool b => some (.bl b)
  | .int i => some (.int i)
  | .str x => some (.str x)
  | _ => none
def p1Name : P1 → Str
  | .len => "len" | .sum => "sum" | .all => "all" | .any => "any" | .sorted => "sorted" | .tuple => "tuple" | .list => "list" | .int => "int" | .str => "str" | .neg => ""
def binP : Operator → Option P2
  | .Add => some .add | .Sub => some .sub | .Mult => some .mul | .FloorDiv => some .fdiv | .Mod => some .mod | .Pow => some .pow
  | _ => none
def cmpP : CmpOp → Option P2
  | .Eq => some .eq | .NotEq => some .ne | .Lt => some .lt | .LtE => some .le | .Gt => some .gt | .GtE => some .ge | .In => some .isin | .NotIn => some .notin | .Is => some .is | .IsNot => some .isnot
def tyName : Str → Option String := fun x => if x = "int" then some "int" else if x = "str" then some "str" else if x = "bool" then some "bool" else if x = "tuple" then some "tuple" else if x = "list" then some "list" else if x = "dict" then some "dict" else none
def ckTy (S : Sco) (t : String) : Expr → Bool
  | .Name y _ => S.glob y && decide (tyName y = some t)
  | _ => false
def ckTys (S : Sco) : List String → List Expr → Bool
  | [], [] => true
  | t :: ts, e :: es => ckTy S t e && ckTys S ts es
  | _, _ => false
def ckNm (S : Sco) (i : Nat) : Expr → Bool
  | .Name x _ => decide (S.N[i]? = some x) && S.own x
  | _ => false
def ckNms (S : Sco) : List Nat → List Expr → Bool
  | [], [] => true
  | i :: is, e :: es => ckNm S i e && ckNms S is es
  | _, _ => false
def ckT (S : Sco) : MT → Expr → Bool
  | .nm i, e => ckNm S i e
  | .tp is, .Tuple es _ _ => ckNms S is es
  | .tp _, _ => false
def isFr : ME → Bool
  | .lst _ | .dic0 | .comp .. | .sli .. | .rev _ => true
  | .scomp _ | .p1 .list _ | .p1 .sorted _ | .p2 .add .. | .p2 .mul .. => true
  | _ => false
def isSet : Expr → Bool
  | .Set .. => true
  | _ => false
def isSl : Expr → Bool
  | .Slice .. => true
  | _ => false
def isTrueM : ME → Bool
  | .con (.bl true) => true
  | _ => false
theorem isTrueM_ok {m : ME} (h : isTrueM m = true) : m = .con (.bl true) := by
  unfold isTrueM at h
  split at h
  · rfl
  · cases h
def isRev : Expr → Bool
  | .Slice none none (some (.UnaryOp .USub (.Constant (.int 1) _ _) _)) _ => true
  | _ => false
def isTup : Expr → Bool
  | .Tuple .. => true
  | _ => false
/-- the own names of a block by their places -/
def ownOf (N : List Str) (own : List Nat) : List (Str × Nat) := own.map fun i => (N.getD i "", i)
def hasFn (T : List Fn) (x : Str) (n : Nat) : Bool := T.any fun f => decide (f.name = x) && decide (f.np = n)
def MEs.len : MEs → Nat
  | .nil => 0
  | .cons _ es => es.len + 1
section
variable (T : List Fn)
mutual
def ckE (S : Sco) : ME → Expr → Bool
  | .var i, .Name x _ => decide (S.N[i]? = some x) && S.vis x && !(x == ("__debug__" : Str)) && !(x == ("__classdict__" : Str))
  | .con d, .Constant c _ _ => decide (constD c = some d)
  | .glo x, e => decide (x = "") || match e with
    | .Name y _ => decide (x = y) && S.glob x
    | _ => false
  | .p1 p a, e => match e with
    | .UnaryOp .USub e' _ => decide (p = .neg) && ckE S a e'
    | .Call (.Name f _) [e'] [] _ => decide (p ≠ .neg) && decide (f = p1Name p) && S.glob f && noStar e' && ckE S a e'
    | _ => false
  | .p2 p a b, e => match e with
    | .BinOp l op r _ => decide (binP op = some p) && ckE S a l && ckE S b r
    | .Compare l [op] [r] _ => decide (cmpP op = some p) && !behindInMarks op r && ckE S a l && ckE S b r
    | .Subscript o i _ => decide (p = .item) && !isSl i && ckE S a o && ckE S b i
    | .Call (.Name f _) [l, r] [] _ => ((decide (p = .min2) && decide (f = "min")) || (decide (p = .max2) && decide (f = "max"))) && S.glob f && noStar l && noStar r && ckE S a l && ckE S b r
    | _ => false
  | .chain p q a b c, .Compare l [op, op'] [r, r'] _ => decide (cmpP op = some p) && decide (cmpP op' = some q) && !lastMarks [op, op'] [r, r'] && ckE S a l && ckE S b r && ckE S c r'
  | .and a b, .BoolOp .And es pos => match es with
    | [l, r] => ckE S a l && ckE S b r
    | l :: r :: r' :: rest => ckE S a l && ckE S b (.BoolOp .And (r :: r' :: rest) pos)
    | _ => false
  | .or a b, .BoolOp .Or es pos => match es with
    | [l, r] => ckE S a l && ckE S b r
    | l :: r :: r' :: rest => ckE S a l && ckE S b (.BoolOp .Or (r :: r' :: rest) pos)
    | _ => false
  | .not a, .UnaryOp .Not e _ => ckE S a e
  | .ife c a b, .IfExp c' a' b' _ => ckE S c c' && ckE S a a' && ckE S b b'
  | .tup ms, .Tuple es _ _ => ckEs S ms es
  | .lst ms, .List es _ => ckEs S ms es
  | .dic0, .Dict [] [] _ => true
  | .isi a ts, .Call (.Name f _) [e, t] [] _ => decide (f = "isinstance") && S.glob f && noStar e && ckE S a e && decide (ts.length ≤ 100) && match t with
    | .Tuple es _ _ => ckTys S ts es
    | t => ckTys S ts [t]
  | .sli a lo hi, .Subscript o (.Slice l h none _) _ => ckE S a o && (match l with
    | none => decide (lo.isNon = true)
    | some e => !lo.isNon && ckE S lo e) && (match h with
    | none => decide (hi.isNon = true)
    | some e => !hi.isNon && ckE S hi e)
  | .rev a, .Subscript o i _ => isRev i && ckE S a o
  | .call f ms, .Call (.Name f' _) (e :: es) [] pos => decide (f = f') && S.glob f && hasFn T f (e :: es).length && (e :: es).all noStar && ckEs S ms (e :: es)
  | .comp k ms t own c m, .ListComp elt gs scope _ => match gs with
    | [⟨tg, iter, ifs, n⟩] =>
      decide (n = 0) && L2.blkC S.N { scope with names := S.names } scope (ownOf S.N own) && t.slots.all (fun i => decide (i ∈ own)) && !isSet iter &&
      ckI S k ms tg iter && ckT (S.blk scope) t tg && ckE (S.blk scope) m elt &&
      (match ifs with
      | [] => isTrueM c
      | [e] => ckE (S.blk scope) c e
      | _ => false)
    | _ => false
  | .scomp e', .Call (.Name fn _) [se] [] _ => decide (fn = "sorted") && S.glob fn && (match e', se with
    | .comp k ms t own c m, .SetComp elt gs scope _ => (match gs with
      | [⟨tg, iter, ifs, n⟩] =>
        decide (n = 0) && L2.blkC S.N { scope with names := S.names } scope (ownOf S.N own) && t.slots.all (fun i => decide (i ∈ own)) && !isSet iter &&
        ckI S k ms tg iter && ckT (S.blk scope) t tg && ckE (S.blk scope) m elt &&
        (match ifs with
        | [] => isTrueM c
        | [e] => ckE (S.blk scope) c e
        | _ => false)
      | _ => false)
    | _, _ => false)
  | .new m, e => isFr m && ckE S m e
  | _, _ => false
def ckEs (S : Sco) : MEs → List Expr → Bool
  | .nil, [] => true
  | .cons m ms, e :: es => noStar e && ckE S m e && ckEs S ms es
  | _, _ => false
/-- what is walked: target, iterator -/
def ckI (S : Sco) (k : IK) (ms : MEs) (tg : Expr) (iter : Expr) : Bool := match k, ms with
  | .seq, .cons m .nil => ckE S m iter
  | .range, .cons m .nil => match iter with
    | .Call (.Name f _) [e] [] _ => decide (f = "range") && S.glob f && noStar e && ckE S m e
    | _ => false
  | .range2, .cons m (.cons m' .nil) => match iter with
    | .Call (.Name f _) [e, e'] [] _ => decide (f = "range") && S.glob f && noStar e && noStar e' && ckE S m e && ckE S m' e'
    | _ => false
  | .enum, .cons m .nil => match iter with
    | .Call (.Name f _) [e] [] _ => isTup tg && decide (f = "enumerate") && S.glob f && noStar e && ckE S m e
    | _ => false
  | .zip, .cons m (.cons m' .nil) => match iter with
    | .Call (.Name f _) [e, e'] [] _ => isTup tg && decide (f = "zip") && S.glob f && noStar e && noStar e' && ckE S m e && ckE S m' e'
    | _ => false
  | _, _ => false
end
end
end Mi
set_option Elab.async false
set_option linter.all false
set_option maxRecDepth 100000
set_option maxHeartbeats 0
/-! Mi13: the check of an expression suffices. -/
namespace Mi
open PySem PySem.Spec PyProof.Rows L2
theorem Bool.and3 {a b : Bool} (h : (a && b) = true) : a = true ∧ b = true := by simpa using h
section
variable {G : Ce} {T : List Fn} {X : Cx} {S : Sco} {B : Bs} {a b c e : Expr} {m ma mb mc : ME} {pos p0 : Pos}
theorem pm_false {r : Rd0} {fr : Bool} (h : PM X B fr e r) : PM X B false e r := by
  cases fr with
  | false => exact h
  | true => exact pm_weak h
theorem pm_never {fr : Bool} {r : Rd0} (h : ∀ env M, r env M = .bad) : PM X B fr e r := ⟨fun pins s σ H Q I ⟨φ, XX, M, env, n, q⟩ => by rw [h] at q; exact q.elim⟩
theorem pb_never {r : Rd0} (h : ∀ env M, r env M = .bad) : PB X B e r := ⟨fun pins s σ H Q I ⟨φ, XX, M, env, n, q⟩ => by rw [h] at q; exact q.elim⟩
theorem pwb_never {r : Rd0} (h : ∀ env M, r env M = .bad) : PWB X B e r := ⟨fun w pins s σ H Q I ⟨φ, XX, M, env, n, q⟩ => by rw [h] at q; exact q.elim⟩
/-- the three readings -/
structure Says (G : Ce) (X : Cx) (B : Bs) (e : Expr) (m : ME) : Prop where
  val : PM X B (isFr m) e (evE G m)
  tst : PB X B e (evE G m)
  bop : ∀ op es pos, e = .BoolOp op es pos → PWB X B e (evE G m)
theorem Says.pm (h : Says G X B e m) : PM X B false e (evE G m) := pm_false h.val
/-- an expression whose test is its value's -/
def plainE : Expr → Bool
  | .UnaryOp .Not _ _ | .BoolOp .. | .IfExp .. | .Compare .. => false
  | _ => true
theorem isTrue_plain (h : plainE e = true) : ∀ whole, isTrue e X.env whole = (do let v ← whole; standAt e.pos; holding [v] (truthy v)) := by
  intro whole
  cases e with
  | UnaryOp op e pos =>
    cases op with
    | Not => cases h
    | _ => rfl
  | BoolOp => cases h
  | IfExp => cases h
  | Compare => cases h
  | _ => rfl
theorem says_plain (h : plainE e = true) (v : PM X B (isFr m) e (evE G m)) : Says G X B e m :=
  ⟨v, pb_plain (pm_false v) (isTrue_plain h), fun op es pos q => by subst q; cases h⟩
theorem says_never (h : ∀ env M, evE G m env M = .bad) : Says G X B e m := ⟨pm_never h, pb_never h, fun _ _ _ _ => pwb_never h⟩
theorem bt_get {x : Str} (g : Good G T X S) (h : x ∈ btNames) : X.mg x = none := g.bt x h
theorem tyName_ok {y : Str} {t : String} (h : tyName y = some t) : y ∈ btNames ∧ bootBuiltins y = some (.type t) ∧ t ∈ tyNames ∧ y ≠ "__name__" := by
  unfold tyName at h
  repeat' split at h
  all_goals first
    | cases h
    | skip
  all_goals (rename_i e; subst e; exact ⟨by decide, by rfl, by decide, by decide⟩)
theorem ckTy_ok (g : Good G T X S) {t : String} {e : Expr} (h : ckTy S t e = true) : PE X e (tC (.ty t)) ∧ noStar e = true ∧ t ∈ tyNames := by
  unfold ckTy at h
  split at h
  · simp only [Bool.and_eq_true, decide_eq_true_eq] at h
    obtain ⟨h1, h2⟩ := h
    obtain ⟨k1, k2⟩ := g.gl h1
    obtain ⟨b1, b2, b3, b4⟩ := tyName_ok h2
    exact ⟨pe_tyn k1 (g.bt _ b1) b2 b4 k2, rfl, b3⟩
  · cases h
theorem ckTys_ok (g : Good G T X S) : ∀ {ts : List String} {es : List Expr}, ckTys S ts es = true → Paired (fun t e => PE X e (tC (.ty t)) ∧ noStar e = true) ts es ∧ ∀ t ∈ ts, t ∈ tyNames
  | [], [], _ => ⟨.nil, fun _ h => by cases h⟩
  | t :: ts, e :: es, h => by
    simp only [ckTys, Bool.and_eq_true] at h
    obtain ⟨h1, h2, h3⟩ := ckTy_ok g h.1
    obtain ⟨k1, k2⟩ := ckTys_ok g h.2
    exact ⟨.cons ⟨h1, h2⟩ k1, fun t' ht => by
      rcases List.mem_cons.mp ht with z | z
      · rw [z]; exact h3
      · exact k2 t' z⟩
  | [], _ :: _, h => by simp [ckTys] at h
  | _ :: _, [], h => by simp [ckTys] at h
theorem ckNm_ok (g : Good G T X S) {i : Nat} {e : Expr} (h : ckNm S i e = true) : ∃ x p, e = Expr.Name x p ∧ X.N[i]? = some x ∧ L2.Loc X.env.scope x ∧ (X.fn x = true ∨ X.env.scope.names.lookup x = some .local) := by
  unfold ckNm at h
  split at h
  · simp only [Bool.and_eq_true, decide_eq_true_eq] at h
    exact ⟨_, _, rfl, by rw [g.N]; exact h.1, g.own h.2⟩
  · cases h
theorem ckNms_ok (g : Good G T X S) : ∀ {is : List Nat} {es : List Expr}, ckNms S is es = true → Paired (fun i e => ∃ x p, e = Expr.Name x p ∧ X.N[i]? = some x ∧ L2.Loc X.env.scope x ∧ (X.fn x = true ∨ X.env.scope.names.lookup x = some .local)) is es ∧ is.length = es.length
  | [], [], _ => ⟨.nil, rfl⟩
  | i :: is, e :: es, h => by
    simp only [ckNms, Bool.and_eq_true] at h
    obtain ⟨k1, k2⟩ := ckNms_ok g h.2
    exact ⟨.cons (ckNm_ok g h.1) k1, by simp [k2]⟩
  | [], _ :: _, h => by simp [ckNms] at h
  | _ :: _, [], h => by simp [ckNms] at h
def gOf (K : PySem.W.Frag) : MT → TG
  | .nm i => gName i
  | .tp is => gTup K is.length (gNames is)
theorem tg_of (C : Cn) (t : MT) : TgOk C t (gOf C.K t) := by
  cases t with
  | nm i => exact tg_nm
  | tp is => exact tg_tp
theorem assign_names : ∀ {is : List Nat} {es : List Expr} {N : Nat → Expr → Prop}, Paired (fun i e => ∃ x p, e = Expr.Name x p ∧ N i e) is es → (assignEach es X.env).length = is.length ∧ (assignEach es X.env).findIdx? (·.1) = none
  | _, _, _, .nil => ⟨rfl, rfl⟩
  | _, _, N, .cons ⟨x, p, e, _⟩ r => by
    subst e
    obtain ⟨h1, h2⟩ := assign_names r
    refine ⟨by
      show (assignEach _ X.env).length + 1 = _
      rw [h1]; rfl, ?_⟩
    show List.findIdx? _ ((false, _) :: assignEach _ X.env) = _
    rw [List.findIdx?_cons]
    simp only [Bool.false_eq_true, if_false]
    rw [h2]
    rfl
theorem ckT_ok (g : Good G T X S) {t : MT} {e : Expr} (h : ckT S t e = true) : PG X e (gOf X.K t) := by
  cases t with
  | nm i =>
    obtain ⟨x, p, e1, h1, h2, h3⟩ := ckNm_ok g h
    subst e1
    exact pg_name (by rw [g.N]; exact g.nd) h1 h2 h3
  | tp is =>
    cases e with
    | Tuple es k pos =>
      obtain ⟨h1, h2⟩ := ckNms_ok g h
      have h3 := assign_names (X := X) (N := fun _ _ => True) (is := is) (es := es) (by
        clear h h2
        induction h1 with
        | nil => exact .nil
        | cons q r ih => obtain ⟨x, p, e, _⟩ := q; exact .cons ⟨x, p, e, trivial⟩ ih)
      exact pg_tup g.calm (pgs_names (by rw [g.N]; exact g.nd) h1) h3.1 h3.2
    | _ => cases h
/-- the operators -/
theorem bin_ok {op : Operator} {p : P2} {fr : Bool} (h : binP op = some p) : OpR X (binaryOp op) (rD2 (cn X) B fr (op2 p)) := by
  cases op <;> cases h
  · exact op_addD
  · exact op_subD
  · exact op_mulD
  · exact op_modD
  · exact op_powD
  · exact op_fdivD
theorem cmp_ok {op : CmpOp} {p : P2} {fr : Bool} (g : Good G T X S) (h : cmpP op = some p) : OpR X (compareOp op) (rD2 (cn X) B fr (op2 p)) := by
  have hu := g.un
  cases op <;> cases h
  · exact op_eqOp (by omega)
  · exact op_neOp (by omega)
  · exact op_ltD
  · exact op_leD
  · exact op_gtD
  · exact op_geD
  · exact op_isD
  · exact op_isnotD
  · exact op_inOp (by omega)
  · exact op_notinOp (by omega)
theorem any_all {env : PySem.Env} {pos : Pos} : ∀ {es : List Expr}, es.all noStar = true → (backTo pos (starEach es env)).any (·.1) = false
  | [], _ => rfl
  | e :: es, h => by
    rw [List.all_cons, Bool.and_eq_true] at h
    rw [star_of h.1]
    show (false || (backTo pos (starEach es env)).any (·.1)) = false
    rw [any_all h.2]
    rfl
theorem hasFn_ok {x : Str} {n : Nat} (h : hasFn T x n = true) : ∃ f ∈ T, f.name = x ∧ f.np = n := by
  unfold hasFn at h
  obtain ⟨f, hf, e⟩ := List.any_eq_true.mp h
  simp only [Bool.and_eq_true, decide_eq_true_eq] at e
  exact ⟨f, hf, e.1, e.2⟩
theorem evEs_len : ∀ {ms : MEs} {env : Env} {M : Mem} {ds : List D} {M' : Mem}, evEs G ms env M = .ok ds M' → ds.length = ms.len
  | .nil, _, _, _, _, h => by simp only [evEs] at h; cases h; rfl
  | .cons m ms, env, M, ds, M', h => by
    simp only [evEs] at h
    cases e1 : evE G m env M with
    | ok d M1 =>
      rw [e1, Res.bind_ok] at h
      cases e2 : evEs G ms env M1 with
      | ok es M2 =>
        rw [e2, Res.bind_ok] at h
        cases h
        rw [List.length_cons, evEs_len e2]
        rfl
      | _ => rw [e2] at h; cases h
    | _ => rw [e1] at h; cases h
theorem ckEs_len : ∀ {ms : MEs} {es : List Expr}, ckEs T S ms es = true → es.length = ms.len
  | .nil, [], _ => rfl
  | .cons m ms, e :: es, h => by
    simp only [ckEs, Bool.and_eq_true] at h
    rw [List.length_cons, ckEs_len h.2]
    rfl
  | .nil, _ :: _, h => by simp [ckEs] at h
  | .cons _ _, [], h => by simp [ckEs] at h
theorem slices_ix {i : Expr} (h : isSl i = false) : PlainIx i := by
  intro o v
  cases i with
  | Slice => cases h
  | _ => rfl
theorem noSet_fold {e : Expr} (h : isSet e = false) : ∀ x, foldedSetIterable e X.env x = pure x := by
  intro x
  cases e with
  | Set => cases h
  | _ => rfl
theorem blk_of {N : List Str} {sc sc' scope : Scope} {own : List (Str × Nat)} (h : BlkOk N sc scope own) (e : sc.names = sc'.names) : BlkOk N sc' scope own := by
  obtain ⟨h1, h2, h3, h4, h5⟩ := h
  exact ⟨h1, h2, h3, by rw [← e]; exact h4, h5⟩
theorem ownOf_snd (N : List Str) (own : List Nat) : (ownOf N own).map (·.2) = own := by
  unfold ownOf
  rw [List.map_map]
  exact List.map_id' own
theorem p1_ok {p : P1} {fr : Bool} (g : Good G T X S) (hf : fr = isFr (.p1 p ma)) (hp : p ≠ .neg) (hgl : S.glob (p1Name p) = true) (hs : noStar a = true) (ha : PM X B false a (evE G ma)) : PM X B fr (.Call (.Name (p1Name p) p0) [a] [] pos) (evE G (.p1 p ma)) := by
  obtain ⟨h1, h2⟩ := g.gl hgl
  have hu := g.un
  cases p with
  | neg => exact absurd rfl hp
  | len => exact pm_b1 cr_len h1 (g.bt _ (by decide)) (by rfl) ha hs (by decide) h2
  | sum => exact pm_b1 (cr_sumD g.calm) h1 (g.bt _ (by decide)) (by rfl) ha hs (by decide) h2
  | all => exact pm_b1 (cr_allD g.calm) h1 (g.bt _ (by decide)) (by rfl) ha hs (by decide) h2
  | any => exact pm_b1 (cr_anyD g.calm) h1 (g.bt _ (by decide)) (by rfl) ha hs (by decide) h2
  | sorted => exact pm_b1 (cr_sortedD (by omega)) h1 (g.bt _ (by decide)) (by rfl) ha hs (by decide) h2
  | tuple => exact pm_t1 cr_tupleD h1 (g.bt _ (by decide)) (by rfl) ha hs (by decide) h2
  | list => exact pm_t1 cr_listD h1 (g.bt _ (by decide)) (by rfl) ha hs (by decide) h2
  | int => exact pm_t1 cr_intD h1 (g.bt _ (by decide)) (by rfl) ha hs (by decide) h2
  | str => exact pm_t1 cr_strD h1 (g.bt _ (by decide)) (by rfl) ha hs (by decide) h2
theorem const_ok {c : Const} {d : D} {k : Nat} (h : constD c = some d) : PM X B false (.Constant c k pos) (evE G (.con d)) := by
  cases c with
  | none => cases h; exact pm_con pe_non fun _ _ _ => .non
  | bool b => cases h; exact pm_con pe_bl fun _ _ _ => .bl _
  | int i => cases h; exact pm_con pe_int fun _ _ _ => .int _
  | str x => cases h; exact pm_con pe_str fun _ _ _ => .str _
  | _ => cases h
theorem isRev_ok {i : Expr} (h : isRev i = true) : ∃ k p1 p2 p3, i = .Slice none none (some (.UnaryOp .USub (.Constant (.int 1) k p1) p2)) p3 := by
  unfold isRev at h
  split at h
  · exact ⟨_, _, _, _, rfl⟩
  · cases h
theorem isTup_ok {i : Expr} (h : isTup i = true) : ∃ es k p, i = .Tuple es k p := by
  unfold isTup at h
  split at h
  · exact ⟨_, _, _, rfl⟩
  · cases h
theorem pb_ife (hc : PB X B c (evE G mc)) (ha : PB X B a (evE G ma)) (hb : PB X B b (evE G mb)) : PB X B (.IfExp c a b pos) (evE G (.ife mc ma mb)) := by
  refine ⟨fun pins s σ H Q I ⟨φ, XX, M, env, n, h⟩ => ?_⟩
  unfold evE at h
  have h1 : tMb (cn X) B (evE G mc) σ H fun d H1 => tMb (cn X) B (evE G (if d then ma else mb)) σ H1 Q :=
    tb_then (k := fun b env M => if b then evE G ma env M else evE G mb env M) n h fun φ1 M1 H1 b n1 x1 h1 => ⟨φ1, XX, M1, env, n1, by cases b <;> exact h1⟩
  refine isTrue_IfExp (thn (hc.run pins s σ H _ I h1) fun d s1 ⟨H1, I1, q1⟩ => ?_)
  cases d with
  | true => exact ha.run pins s1 σ H1 _ I1 q1
  | false => exact hb.run pins s1 σ H1 _ I1 q1
/-- a store place is no test -/
theorem newD_ref {d e : D} {M M' : Mem} (h : newD d M = .ok e M') : ∃ n, e = .ref n := by
  unfold newD at h
  split at h <;> cases h <;> exact ⟨_, rfl⟩
theorem newD_exn {d : D} {M M' : Mem} {x : Ex} : newD d M ≠ .exn x M' := by
  intro h
  unfold newD at h
  split at h <;> cases h
theorem new_vac {P : Bool → Hp → Prop} {C : Cn} {φ XX : List Addr} {H : Hp} {env : Env} {M : Mem} (hB : B.out = none) (h : match evE G (.new m) env M with
  | .ok d M' => ∃ b, d = .bl b ∧ ∀ φ' H', Sim C φ' XX M' H' → Ext φ H φ' H' → P b H'
  | .exn x M' => B.out = some (x, M')
  | .bad => False) : False := by
  simp only [evE] at h
  cases e1 : evE G m env M with
  | bad => rw [e1] at h; exact h
  | exn x M1 => rw [e1] at h; have h : B.out = some (x, M1) := h; rw [hB] at h; cases h
  | ok d M1 =>
    rw [e1, Res.bind_ok] at h
    cases e2 : newD d M1 with
    | bad => rw [e2] at h; exact h
    | exn x M2 => exact newD_exn e2
    | ok r M2 =>
      rw [e2] at h
      obtain ⟨b, e3, _⟩ := h
      obtain ⟨k, e4⟩ := newD_ref e2
      rw [e3] at e4
      cases e4
theorem says_new (hB : B.out = none) (h : PM X B true e (evE G m)) : Says G X B e (.new m) :=
  ⟨pm_new h, ⟨fun pins s σ H Q I ⟨φ, XX, M, env, n, q⟩ => (new_vac hB q).elim⟩, fun _ _ _ _ => ⟨fun w pins s σ H Q I ⟨φ, XX, M, env, n, q⟩ => (new_vac hB q).elim⟩⟩
/-- no test of a clause -/
theorem yes_of {C : Cn} {σ : L2.St} {H : Hp} {Q : Bool → Hp → Prop} (h : tMb C B0 (evE G (.con (.bl true))) σ H Q) : tYes σ H Q := by
  obtain ⟨φ, XX, M, env, n, h⟩ := h
  simp only [evE] at h
  obtain ⟨b, e, h⟩ := h
  cases e
  exact h φ H n.sim Ext.refl
theorem comp_ok {k : IK} {ms : MEs} {t : MT} {own : List Nat} {elt tg iter : Expr} {ifs : List Expr} {scope : Scope} (g : Good G T X S) (h1 : L2.blkC S.N { scope with names := S.names } scope (ownOf S.N own) = true) (h2 : t.slots.all (fun i => decide (i ∈ own)) = true) (h3 : isSet iter = false)
    (hi : PI X tg iter (tI (cn X) B (itR G k ms))) (h5 : ckT (S.blk scope) t tg = true)
    (he : ∀ {X' : Cx}, Good G T X' (S.blk scope) → PM X' B0 false elt (evE G m))
    (ht : (ifs = [] ∧ mc = .con (.bl true)) ∨ ∃ e, ifs = [e] ∧ ∀ {X' : Cx}, Good G T X' (S.blk scope) → PB X' B0 e (evE G mc)) :
    PM X B true (.ListComp elt [⟨tg, iter, ifs, 0⟩] scope pos) (evE G (.comp k ms t own mc m)) ∧
    (∀ {i : Nat} {y : Str} {py spos : Pos}, X.N[i]? = some y → X.env.scope.names.lookup y = some .local → swapsWith (.ListComp elt [⟨tg, iter, ifs, 0⟩] scope pos) (some (.Name y py)) spos.line X.env = pure true →
      PS X (.Assign [.Name y py] (.ListComp elt [⟨tg, iter, ifs, 0⟩] scope pos) spos) (tAsg (tM (cn X) B true (evE G (.comp k ms t own mc m))) (gName i))) := by
  have hN : X.N.Nodup := by rw [g.N]; exact g.nd
  have bo := blkOk_by h1
  have hbk : scope.kind = .function := bo.kind
  have ok : BlkOk X.N X.env.scope scope (ownOf S.N own) := by rw [g.N]; exact blk_of bo g.names.symm
  have hown : ∀ i ∈ t.slots, i ∈ (ownOf S.N own).map (·.2) := fun i hi => by
    rw [ownOf_snd]
    exact of_decide_eq_true (List.all_eq_true.mp h2 i hi)
  have hg : ∀ (s : Shared) (H : Hp) (C : Addr) (cl : List (Str × Addr)) (fp : List Addr), PG (X.blk s H scope (compEnvC scope cl C X.env) fp) tg (gOf X.K t) := fun s H C cl fp => ckT_ok (g.blk hbk s H C cl fp) h5
  have he' : ∀ (s : Shared) (H : Hp) (C : Addr) (cl : List (Str × Addr)) (fp : List Addr), PM (X.blk s H scope (compEnvC scope cl C X.env) fp) B0 false elt (evE G m) := fun s H C cl fp => he (g.blk hbk s H C cl fp)
  have hf := noSet_fold (X := X) h3
  rcases ht with ⟨rfl, rfl⟩ | ⟨e, rfl, ht⟩
  · have go := pm_comp (B := B) (G := G) (mc := .con (.bl true)) (me := m) (ec := evE G (.con (.bl true))) g.calm hN hi ok (tg_of (cn X) t) hown hg (fun s H C cl fp => pts_nil) (fun σ H Q q => yes_of q) he' hf
    rw [ownOf_snd] at go
    exact ⟨(pe_lc g.calm hN hi ok hg (fun s H C cl fp => pts_nil) he' hf).imp fun σ H Q q => by rw [ownOf_snd]; exact go σ H Q q,
      fun hy hl hsw => (ps_setLc g.calm hN hy hl hsw hi ok hg (fun s H C cl fp => pts_nil) he' hf).imp fun D σ H q => by rw [ownOf_snd]; exact go σ H _ q⟩
  · have ht' : ∀ (s : Shared) (H : Hp) (C : Addr) (cl : List (Str × Addr)) (fp : List Addr), PTs (X.blk s H scope (compEnvC scope cl C X.env) fp) [e] (tMb (cn X) B0 (evE G mc)) := fun s H C cl fp => pts_one (ht (g.blk hbk s H C cl fp))
    have go := pm_comp (B := B) (G := G) (mc := mc) (me := m) (ec := evE G mc) g.calm hN hi ok (tg_of (cn X) t) hown hg ht' (fun σ H Q q => q) he' hf
    rw [ownOf_snd] at go
    exact ⟨(pe_lc g.calm hN hi ok hg ht' he' hf).imp fun σ H Q q => by rw [ownOf_snd]; exact go σ H Q q,
      fun hy hl hsw => (ps_setLc g.calm hN hy hl hsw hi ok hg ht' he' hf).imp fun D σ H q => by rw [ownOf_snd]; exact go σ H _ q⟩
theorem scomp_ok {k : IK} {ms : MEs} {t : MT} {own : List Nat} {elt tg iter : Expr} {ifs : List Expr} {scope : Scope} {p1 : Pos} (g : Good G T X S) (h1 : L2.blkC S.N { scope with names := S.names } scope (ownOf S.N own) = true) (h2 : t.slots.all (fun i => decide (i ∈ own)) = true) (h3 : isSet iter = false)
    (hs : S.glob "sorted" = true) (hi : PI X tg iter (tI (cn X) B (itR G k ms))) (h5 : ckT (S.blk scope) t tg = true)
    (he : ∀ {X' : Cx}, Good G T X' (S.blk scope) → PM X' B0 false elt (evE G m))
    (ht : (ifs = [] ∧ mc = .con (.bl true)) ∨ ∃ e, ifs = [e] ∧ ∀ {X' : Cx}, Good G T X' (S.blk scope) → PB X' B0 e (evE G mc)) :
    PM X B true (.Call (.Name "sorted" p0) [.SetComp elt [⟨tg, iter, ifs, 0⟩] scope p1] [] pos) (evE G (.scomp (.comp k ms t own mc m))) := by
  have hN : X.N.Nodup := by rw [g.N]; exact g.nd
  have bo := blkOk_by h1
  have hbk : scope.kind = .function := bo.kind
  have ok : BlkOk X.N X.env.scope scope (ownOf S.N own) := by rw [g.N]; exact blk_of bo g.names.symm
  have hown : ∀ i ∈ t.slots, i ∈ (ownOf S.N own).map (·.2) := fun i hi => by
    rw [ownOf_snd]
    exact of_decide_eq_true (List.all_eq_true.mp h2 i hi)
  have hg : ∀ (s : Shared) (H : Hp) (C : Addr) (cl : List (Str × Addr)) (fp : List Addr), PG (X.blk s H scope (compEnvC scope cl C X.env) fp) tg (gOf X.K t) := fun s H C cl fp => ckT_ok (g.blk hbk s H C cl fp) h5
  have he' : ∀ (s : Shared) (H : Hp) (C : Addr) (cl : List (Str × Addr)) (fp : List Addr), PM (X.blk s H scope (compEnvC scope cl C X.env) fp) B0 false elt (evE G m) := fun s H C cl fp => he (g.blk hbk s H C cl fp)
  have hf := noSet_fold (X := X) h3
  have hu := g.un
  obtain ⟨k1, k2⟩ := g.gl hs
  have out : ∀ {te : TE} {se : Expr}, PE X se te → noStar se = true → (∀ σ H Q, tM (cn X) B true (evE G (.scomp (.comp k ms t own mc m))) σ H Q → te σ H fun x H1 => rSortS X.w [x] H1 Q) →
      PM X B true (.Call (.Name "sorted" p0) [se] [] pos) (evE G (.scomp (.comp k ms t own mc m))) := fun {te se} hp hn q =>
    (pe_callB (cr_sortS g.calm (by omega)) k1 (g.bt _ (by decide)) PyProof.Rows.boot_sorted (pa_cons hp pa_nil (star_of hn)) (by decide) k2 (star_of hn) any_nil).imp fun σ H Q z => q σ H Q z
  rcases ht with ⟨rfl, rfl⟩ | ⟨e, rfl, ht⟩
  · have go := pm_scomp (X := X) (B := B) (G := G) (k := k) (es := ms) (mc := .con (.bl true)) (me := m) (tg_of (cn X) t) hown (fun σ H Q q => yes_of q)
    rw [ownOf_snd] at go
    exact out (pe_scS g.calm hN hi ok hg (fun s H C cl fp => pts_nil) he' hf) rfl fun σ H Q q => by rw [ownOf_snd]; exact go σ H Q q
  · have ht' : ∀ (s : Shared) (H : Hp) (C : Addr) (cl : List (Str × Addr)) (fp : List Addr), PTs (X.blk s H scope (compEnvC scope cl C X.env) fp) [e] (tMb (cn X) B0 (evE G mc)) := fun s H C cl fp => pts_one (ht (g.blk hbk s H C cl fp))
    have go := pm_scomp (X := X) (B := B) (G := G) (k := k) (es := ms) (mc := mc) (me := m) (tg_of (cn X) t) hown (fun σ H Q q => q)
    rw [ownOf_snd] at go
    exact out (pe_scS g.calm hN hi ok hg ht' he' hf) rfl fun σ H Q q => by rw [ownOf_snd]; exact go σ H Q q
mutual
theorem saysE : ∀ (m : ME) {X : Cx} {S : Sco} {B : Bs} {e : Expr}, Good G T X S → B.out = none → ckE T S m e = true → Says G X B e m
  | .var i, X, S, B, e, g, hB, h => by
    cases e with
    | Name x p =>
      simp only [ckE, Bool.and_eq_true, decide_eq_true_eq, Bool.not_eq_true'] at h
      obtain ⟨⟨⟨h1, h2⟩, h3⟩, h4⟩ := h
      exact says_plain rfl (pm_var (by rw [g.N]; exact h1) (g.vis h2) h3 h4)
    | _ => simp [ckE] at h
  | .con d, X, S, B, e, g, hB, h => by
    cases e with
    | Constant c k p =>
      simp only [ckE, decide_eq_true_eq] at h
      exact says_plain rfl (const_ok h)
    | _ => simp [ckE] at h
  | .glo x, X, S, B, e, g, hB, h => by
    by_cases hx : x = ""
    · subst hx
      exact says_never fun env M => by simp only [evE, g.nogl]
    · cases e with
      | Name y p =>
        simp only [ckE, decide_eq_false hx, Bool.false_or, Bool.and_eq_true, decide_eq_true_eq] at h
        obtain ⟨rfl, h2⟩ := h
        obtain ⟨k1, k2⟩ := g.gl h2
        refine says_plain rfl ?_
        cases e1 : G.gl x with
        | none => exact pm_never fun env M => by simp only [evE, e1]
        | some d =>
          obtain ⟨v, u, h3, h4, h5⟩ := g.gls x d e1
          exact pm_glo e1 k1 h3 h4 h5 k2
      | _ => simp [ckE, hx] at h
  | .p1 p a, X, S, B, e, g, hB, h => by
    cases e with
    | UnaryOp op e' pos =>
      cases op with
      | USub =>
        simp only [ckE, Bool.and_eq_true, decide_eq_true_eq] at h
        obtain ⟨rfl, h2⟩ := h
        exact says_plain rfl (pm_neg un_negD (saysE a g hB h2).pm)
      | _ => simp [ckE] at h
    | Call f es kws pos =>
      cases f with
      | Name f p0 =>
        match es, kws with
        | [e'], [] =>
          simp only [ckE, Bool.and_eq_true, decide_eq_true_eq] at h
          obtain ⟨⟨⟨⟨h1, rfl⟩, h3⟩, h4⟩, h5⟩ := h
          exact says_plain rfl (p1_ok g rfl h1 h3 h4 (saysE a g hB h5).pm)
        | [], _ => simp [ckE] at h
        | _ :: _ :: _, _ => simp [ckE] at h
        | [_], _ :: _ => simp [ckE] at h
      | _ => simp [ckE] at h
    | _ => simp [ckE] at h
  | .p2 p a b, X, S, B, e, g, hB, h => by
    cases e with
    | BinOp l op r pos =>
      simp only [ckE, Bool.and_eq_true, decide_eq_true_eq] at h
      obtain ⟨⟨h1, h2⟩, h3⟩ := h
      exact says_plain rfl (pm_bin (bin_ok h1) (saysE a g hB h2).pm (saysE b g hB h3).pm)
    | Compare l ops rs pos =>
      match ops, rs with
      | [op], [r] =>
        simp only [ckE, Bool.and_eq_true, decide_eq_true_eq, Bool.not_eq_true'] at h
        obtain ⟨⟨⟨h1, h2⟩, h3⟩, h4⟩ := h
        exact ⟨pm_cmp (cmp_ok g h1) (saysE a g hB h3).pm (saysE b g hB h4).pm h2, pb_cmp (cmp_ok g h1) (saysE a g hB h3).pm (saysE b g hB h4).pm h2, fun _ _ _ q => by cases q⟩
      | [], _ => simp [ckE] at h
      | _ :: _ :: _, _ => simp [ckE] at h
      | [_], [] => simp [ckE] at h
      | [_], _ :: _ :: _ => simp [ckE] at h
    | Subscript o i pos =>
      simp only [ckE, Bool.and_eq_true, decide_eq_true_eq, Bool.not_eq_true'] at h
      obtain ⟨⟨⟨rfl, h2⟩, h3⟩, h4⟩ := h
      have hu := g.un
      exact says_plain rfl (pm_ix (ix_itemD (by omega)) (saysE a g hB h3).pm (saysE b g hB h4).pm (slices_ix h2))
    | Call f es kws pos =>
      cases f with
      | Name f p0 =>
        match es, kws with
        | [l, r], [] =>
          simp only [ckE, Bool.and_eq_true, Bool.or_eq_true, decide_eq_true_eq] at h
          obtain ⟨⟨⟨⟨⟨h1, h2⟩, h3⟩, h4⟩, h5⟩, h6⟩ := h
          obtain ⟨k1, k2⟩ := g.gl h2
          refine says_plain rfl ?_
          rcases h1 with ⟨rfl, rfl⟩ | ⟨rfl, rfl⟩
          · exact pm_b2 (cr_min g.calm) k1 (g.bt _ (by decide)) (by rfl) (saysE a g hB h5).pm h3 (saysE b g hB h6).pm h4 (by decide) k2
          · exact pm_b2 (cr_max g.calm) k1 (g.bt _ (by decide)) (by rfl) (saysE a g hB h5).pm h3 (saysE b g hB h6).pm h4 (by decide) k2
        | [], _ => simp [ckE] at h
        | [_], _ => simp [ckE] at h
        | _ :: _ :: _ :: _, _ => simp [ckE] at h
        | [_, _], _ :: _ => simp [ckE] at h
      | _ => simp [ckE] at h
    | _ => simp [ckE] at h
  | .chain p q a b c, X, S, B, e, g, hB, h => by
    cases e with
    | Compare l ops rs pos =>
      match ops, rs with
      | [op, op'], [r, r'] =>
        simp only [ckE, Bool.and_eq_true, decide_eq_true_eq, Bool.not_eq_true'] at h
        obtain ⟨⟨⟨⟨⟨h1, h2⟩, h3⟩, h4⟩, h5⟩, h6⟩ := h
        exact ⟨pm_chain (cmp_ok g h1) (cmp_ok g h2) (saysE a g hB h4).pm (saysE b g hB h5).pm (saysE c g hB h6).pm h3, pb_chain (cmp_ok g h1) (cmp_ok g h2) (saysE a g hB h4).pm (saysE b g hB h5).pm (saysE c g hB h6).pm h3, fun _ _ _ q => by cases q⟩
      | [], _ => simp [ckE] at h
      | [_], _ => simp [ckE] at h
      | _ :: _ :: _ :: _, _ => simp [ckE] at h
      | [_, _], [] => simp [ckE] at h
      | [_, _], [_] => simp [ckE] at h
      | [_, _], _ :: _ :: _ :: _ => simp [ckE] at h
    | _ => simp [ckE] at h
  | .and a b, X, S, B, e, g, hB, h => by
    cases e with
    | BoolOp op es pos =>
      cases op with
      | Or => simp [ckE] at h
      | And =>
        match es with
        | [l, r] =>
          simp only [ckE, Bool.and_eq_true] at h
          have sa := saysE a g hB h.1
          have sb := saysE b g hB h.2
          have w : PWB X B (.BoolOp .And [l, r] pos) (evE G (.and a b)) := pwb_and sa.tst (pwb_and1 sb.tst)
          exact ⟨pm_and sa.pm (pm_one sb.pm), w.pt, fun _ _ _ _ => w⟩
        | l :: r :: r' :: rest =>
          simp only [ckE, Bool.and_eq_true] at h
          have sa := saysE a g hB h.1
          have sb := saysE b g hB h.2
          have w : PWB X B (.BoolOp .And (l :: r :: r' :: rest) pos) (evE G (.and a b)) := pwb_and sa.tst (sb.bop _ _ _ rfl)
          exact ⟨pm_and sa.pm sb.pm, w.pt, fun _ _ _ _ => w⟩
        | [] => simp [ckE] at h
        | [_] => simp [ckE] at h
    | _ => simp [ckE] at h
  | .or a b, X, S, B, e, g, hB, h => by
    cases e with
    | BoolOp op es pos =>
      cases op with
      | And => simp [ckE] at h
      | Or =>
        match es with
        | [l, r] =>
          simp only [ckE, Bool.and_eq_true] at h
          have sa := saysE a g hB h.1
          have sb := saysE b g hB h.2
          have w : PWB X B (.BoolOp .Or [l, r] pos) (evE G (.or a b)) := pwb_or sa.tst (pwb_or1 sb.tst)
          exact ⟨pm_or sa.pm (pm_one sb.pm), w.pt, fun _ _ _ _ => w⟩
        | l :: r :: r' :: rest =>
          simp only [ckE, Bool.and_eq_true] at h
          have sa := saysE a g hB h.1
          have sb := saysE b g hB h.2
          have w : PWB X B (.BoolOp .Or (l :: r :: r' :: rest) pos) (evE G (.or a b)) := pwb_or sa.tst (sb.bop _ _ _ rfl)
          exact ⟨pm_or sa.pm sb.pm, w.pt, fun _ _ _ _ => w⟩
        | [] => simp [ckE] at h
        | [_] => simp [ckE] at h
    | _ => simp [ckE] at h
  | .not a, X, S, B, e, g, hB, h => by
    cases e with
    | UnaryOp op e' pos =>
      cases op with
      | Not =>
        simp only [ckE] at h
        have sa := saysE a g hB h
        exact ⟨pm_not sa.pm, pb_not sa.tst, fun _ _ _ q => by cases q⟩
      | _ => simp [ckE] at h
    | _ => simp [ckE] at h
  | .ife c a b, X, S, B, e, g, hB, h => by
    cases e with
    | IfExp c' a' b' pos =>
      simp only [ckE, Bool.and_eq_true] at h
      have sc := saysE c g hB h.1.1
      have sa := saysE a g hB h.1.2
      have sb := saysE b g hB h.2
      exact ⟨pm_ife sc.tst sa.pm sb.pm, pb_ife sc.tst sa.tst sb.tst, fun _ _ _ q => by cases q⟩
    | _ => simp [ckE] at h
  | .tup ms, X, S, B, e, g, hB, h => by
    cases e with
    | Tuple es k pos =>
      simp only [ckE] at h
      exact says_plain rfl (pm_tup (saysEs ms g hB h))
    | _ => simp [ckE] at h
  | .lst ms, X, S, B, e, g, hB, h => by
    cases e with
    | List es pos =>
      simp only [ckE] at h
      exact says_plain rfl (pm_lst (saysEs ms g hB h))
    | _ => simp [ckE] at h
  | .dic0, X, S, B, e, g, hB, h => by
    cases e with
    | Dict ks vs pos =>
      match ks, vs with
      | [], [] => exact says_plain rfl pm_dic0
      | _ :: _, _ => simp [ckE] at h
      | [], _ :: _ => simp [ckE] at h
    | _ => simp [ckE] at h
  | .isi a ts, X, S, B, e, g, hB, h => by
    cases e with
    | Call f es kws pos =>
      cases f with
      | Name f p0 =>
        match es, kws with
        | [e', t], [] =>
          simp only [ckE, Bool.and_eq_true, decide_eq_true_eq] at h
          obtain ⟨⟨⟨⟨⟨rfl, h2⟩, h3⟩, h4⟩, h5⟩, h6⟩ := h
          obtain ⟨k1, k2⟩ := g.gl h2
          have sa := saysE a g hB h4
          refine says_plain rfl ?_
          cases t with
          | Tuple es k p2 =>
            obtain ⟨q1, q2⟩ := ckTys_ok g h6
            exact pm_isiT k1 (g.bt _ (by decide)) sa.pm h3 q1 q2 h5
          | _ =>
            match ts, h6 with
            | [t], h6 =>
              simp only [ckTys, Bool.and_true] at h6
              obtain ⟨q1, q2, q3⟩ := ckTy_ok g h6
              exact pm_isi1 k1 (g.bt _ (by decide)) sa.pm h3 q1 q2 q3
            | [], h6 => simp [ckTys] at h6
            | _ :: _ :: _, h6 => simp [ckTys] at h6
        | [], _ => simp [ckE] at h
        | [_], _ => simp [ckE] at h
        | _ :: _ :: _ :: _, _ => simp [ckE] at h
        | [_, _], _ :: _ => simp [ckE] at h
      | _ => simp [ckE] at h
    | _ => simp [ckE] at h
  | .sli a lo hi, X, S, B, e, g, hB, h => by
    cases e with
    | Subscript o i pos =>
      cases i with
      | Slice l hh st p2 =>
        cases st with
        | none =>
          simp only [ckE, Bool.and_eq_true] at h
          obtain ⟨⟨h1, h2⟩, h3⟩ := h
          have po : ∀ {m : ME} {x : Option Expr}, (match x with
              | none => decide (m.isNon = true)
              | some e => !m.isNon && ckE T S m e) = true → (∀ e, x = some e → ckE T S m e = true → PM X B false e (evE G m)) → PO X x (tO (cn X) B m (evE G m)) := fun {m x} hx hs => by
            cases x with
            | none =>
              simp only [decide_eq_true_eq] at hx
              have : m = .con .non := by
                cases m <;> simp [ME.isNon] at hx
                rename_i d
                cases d <;> simp at hx
                rfl
              subst this
              exact pmo_none
            | some e =>
              simp only [Bool.and_eq_true, Bool.not_eq_true'] at hx
              exact pmo_some hx.1 (hs e rfl hx.2)
          exact says_plain rfl (pm_sli (saysE a g hB h1).pm (po h2 fun e _ q => (saysE lo g hB q).pm) (po h3 fun e _ q => (saysE hi g hB q).pm))
        | some s => simp [ckE] at h
      | _ => simp [ckE] at h
    | _ => simp [ckE] at h
  | .rev a, X, S, B, e, g, hB, h => by
    cases e with
    | Subscript o i pos =>
      simp only [ckE, Bool.and_eq_true] at h
      obtain ⟨k, p1, p2, p3, rfl⟩ := isRev_ok h.1
      exact says_plain rfl (pm_rev (saysE a g hB h.2).pm)
    | _ => simp [ckE] at h
  | .call f ms, X, S, B, e, g, hB, h => by
    cases e with
    | Call f' es kws pos =>
      cases f' with
      | Name f' p0 =>
        match es, kws with
        | e :: es, [] =>
          simp only [ckE, Bool.and_eq_true, decide_eq_true_eq] at h
          obtain ⟨⟨⟨⟨rfl, h2⟩, h3⟩, h4⟩, h5⟩ := h
          obtain ⟨k1, k2⟩ := g.gl h2
          obtain ⟨fn, hf, rfl, hnp⟩ := hasFn_ok h3
          obtain ⟨k, a, fd, ps, F, hr, hm, hk, hb⟩ := g.fns fn hf
          have hl := ckEs_len h5
          rw [List.all_cons, Bool.and_eq_true] at h4
          refine says_plain rfl ?_
          match ms, h5, hl with
          | .cons m ms, h5, hl =>
            exact pm_call hB F hr k1 hm hk hb (saysEs (.cons m ms) g hB h5) (fun env M ds M' q => by rw [evEs_len q, ← hl, hnp]) k2 h4.1 (any_all h4.2)
          | .nil, h5, hl => simp [ckEs] at h5
        | [], _ => simp [ckE] at h
        | _ :: _, _ :: _ => simp [ckE] at h
      | _ => simp [ckE] at h
    | _ => simp [ckE] at h
  | .comp k ms t own c m, X, S, B, e, g, hB, h => by
    cases e with
    | ListComp elt gs scope pos =>
      match gs with
      | [⟨tg, iter, ifs, n⟩] =>
        simp only [ckE, Bool.and_eq_true, Bool.not_eq_true', decide_eq_true_eq] at h
        obtain ⟨⟨⟨⟨⟨⟨⟨rfl, h1⟩, h2⟩, h3⟩, h4⟩, h5⟩, h6⟩, h7⟩ := h
        refine says_plain rfl (comp_ok g h1 h2 h3 (saysI ms g hB h4) h5 (fun g' => (saysE m g' rfl h6).pm) ?_).1
        match ifs, h7 with
        | [], h7 => exact .inl ⟨rfl, isTrueM_ok h7⟩
        | [e], h7 => exact .inr ⟨e, rfl, fun g' => (saysE c g' rfl h7).tst⟩
      | [] => simp [ckE] at h
      | _ :: _ :: _ => simp [ckE] at h
    | _ => simp [ckE] at h
  | .scomp e', X, S, B, e, g, hB, h => by
    cases e with
    | Call f es kws pos =>
      cases f with
      | Name f p0 =>
        match es, kws with
        | [se], [] =>
          cases e' with
          | comp k ms t own c m =>
            cases se with
            | SetComp elt gs scope p1 =>
              match gs, h with
              | [⟨tg, iter, ifs, n⟩], h =>
                simp only [ckE, Bool.and_eq_true, Bool.not_eq_true', decide_eq_true_eq] at h
                obtain ⟨⟨rfl, h0⟩, ⟨⟨⟨⟨⟨⟨rfl, h1⟩, h2⟩, h3⟩, h4⟩, h5⟩, h6⟩, h7⟩ := h
                refine says_plain rfl (scomp_ok g h1 h2 h3 h0 (saysI ms g hB h4) h5 (fun g' => (saysE m g' rfl h6).pm) ?_)
                match ifs, h7 with
                | [], h7 => exact .inl ⟨rfl, isTrueM_ok h7⟩
                | [e], h7 => exact .inr ⟨e, rfl, fun g' => (saysE c g' rfl h7).tst⟩
              | [], h => simp [ckE] at h
              | _ :: _ :: _, h => simp [ckE] at h
            | _ => simp [ckE] at h
          | _ => simp [ckE] at h
        | [], _ => simp [ckE] at h
        | _ :: _ :: _, _ => simp [ckE] at h
        | [_], _ :: _ => simp [ckE] at h
      | _ => simp [ckE] at h
    | _ => simp [ckE] at h
  | .new m, X, S, B, e, g, hB, h => by
    simp only [ckE, Bool.and_eq_true] at h
    have v := (saysE m g hB h.2).val
    rw [h.1] at v
    exact says_new hB v
theorem saysEs : ∀ (ms : MEs) {X : Cx} {S : Sco} {B : Bs} {es : List Expr}, Good G T X S → B.out = none → ckEs T S ms es = true → PMs X B es (evEs G ms)
  | .nil, X, S, B, es, g, hB, h => by
    cases es with
    | nil => exact pms_nil
    | cons e es => simp [ckEs] at h
  | .cons m ms, X, S, B, es, g, hB, h => by
    cases es with
    | nil => simp [ckEs] at h
    | cons e es =>
      simp only [ckEs, Bool.and_eq_true] at h
      exact pms_cons (saysE m g hB h.1.2).pm (saysEs ms g hB h.2) (star_of h.1.1)
theorem saysI : ∀ (ms : MEs) {X : Cx} {S : Sco} {B : Bs} {k : IK} {tg iter : Expr}, Good G T X S → B.out = none → ckI T S k ms tg iter = true → PI X tg iter (tI (cn X) B (itR G k ms))
  | .cons m .nil, X, S, B, k, tg, iter, g, hB, h => by
    cases k with
    | seq =>
      simp only [ckI] at h
      exact pi_seq (saysE m g hB h).pm
    | range =>
      simp only [ckI] at h
      split at h
      · simp only [Bool.and_eq_true, decide_eq_true_eq] at h
        obtain ⟨⟨⟨rfl, h2⟩, h3⟩, h4⟩ := h
        exact pi_rg1 (g.gl h2).1 (g.bt _ (by decide)) (saysE m g hB h4).pm h3
      · cases h
    | enum =>
      simp only [ckI] at h
      split at h
      · simp only [Bool.and_eq_true, decide_eq_true_eq] at h
        obtain ⟨⟨⟨⟨h0, rfl⟩, h2⟩, h3⟩, h4⟩ := h
        obtain ⟨es, kk, p, rfl⟩ := isTup_ok h0
        exact pi_en (g.gl h2).1 (g.bt _ (by decide)) (saysE m g hB h4).pm h3
      · cases h
    | _ => simp [ckI] at h
  | .cons m (.cons m' .nil), X, S, B, k, tg, iter, g, hB, h => by
    cases k with
    | range2 =>
      simp only [ckI] at h
      split at h
      · simp only [Bool.and_eq_true, decide_eq_true_eq] at h
        obtain ⟨⟨⟨⟨⟨rfl, h2⟩, h3⟩, h4⟩, h5⟩, h6⟩ := h
        exact pi_rg2 (g.gl h2).1 (g.bt _ (by decide)) (saysE m g hB h5).pm (saysE m' g hB h6).pm h3 h4
      · cases h
    | zip =>
      simp only [ckI] at h
      split at h
      · simp only [Bool.and_eq_true, decide_eq_true_eq] at h
        obtain ⟨⟨⟨⟨⟨⟨h0, rfl⟩, h2⟩, h3⟩, h4⟩, h5⟩, h6⟩ := h
        obtain ⟨es, kk, p, rfl⟩ := isTup_ok h0
        exact pi_zp (g.gl h2).1 (g.bt _ (by decide)) (saysE m g hB h5).pm (saysE m' g hB h6).pm h3 h4
      · cases h
    | _ => simp [ckI] at h
  | .nil, X, S, B, k, tg, iter, g, hB, h => by cases k <;> simp [ckI] at h
  | .cons m (.cons m' (.cons _ _)), X, S, B, k, tg, iter, g, hB, h => by cases k <;> simp [ckI] at h
end
end
end Mi
set_option Elab.async false
set_option linter.all false
set_option maxRecDepth 100000
set_option maxHeartbeats 0
/-! Mi14: the check of statements, and that it suffices. -/
namespace Mi
open PySem PySem.Spec PyProof.Rows L2
def isCompE : Expr → Bool
  | .ListComp .. | .SetComp .. | .DictComp .. => true
  | _ => false
def isCall : Expr → Bool
  | .Call .. => true
  | _ => false
def isSub : Expr → Bool
  | .Subscript .. => true
  | _ => false
def isStar : Expr → Bool
  | .Starred .. => true
  | _ => false
def compM : ME → Option ME
  | .comp k ms t own c m => some (.comp k ms t own c m)
  | .new (.comp k ms t own c m) => some (.comp k ms t own c m)
  | _ => none
/-- a list comprehension stored straight into a name -/
def swLc (S : Sco) (y : Str) (py : Pos) : Expr → Bool
  | .ListComp _ _ scope pos => decide (S.names.lookup y = some .local) && (py.line == pos.line) && !(scope.names.any fun (n, k) => n == y && (k == .local || k == .cell))
  | _ => false
/-- the names of a tuple that are stored from the right -/
def swNm (S : Sco) (line : Nat) : Expr → Option Str
  | .Name id pos => if S.names.lookup id == some .local && pos.line == line then some id else none
  | _ => none
def swapped (S : Sco) (ts vs : List Expr) : Bool :=
  let names := ts.filterMap (swNm S ((ts.head?.map (·.pos.line)).getD 0))
  (ts.length == 2 || ts.length == 3) && vs.length == ts.length && !(vs.any isStar) && names.length == ts.length && names.eraseDups.length == names.length && !vs.all (foldedForSure 8) && !vs.all (constantsAlone 8)
def swNone (S : Sco) (vs : List Expr) (ts : List Expr) : Bool := !(ts.length == 2 || ts.length == 3) || vs.length != ts.length || vs.all (foldedForSure 8) || (ts.filterMap (swNm S ((ts.head?.map (·.pos.line)).getD 0))).length != ts.length
section
variable (T : List Fn)
mutual
def ckS (S : Sco) : MS → Stmt → Bool
  | .asg t m, .Assign tgs e _ => match tgs with
    | [tg] => match t with
      | .nm i => match tg with
        | .Name y py => decide (S.N[i]? = some y) && S.own y && ckE T S m e && match e with
          | .ListComp elt gs scope pos => if swLc S y py (.ListComp elt gs scope pos) then (compM m).isSome else true
          | e => !isCompE e
        | _ => false
      | .tp is => isTup tg && ckT S (.tp is) tg && ckE T S m e && match e, tg with
        | .Tuple vs _ _, .Tuple ts _ _ => swNone S vs ts
        | _, _ => true
    | _ => false
  | .par is ms, .Assign tgs v _ => match tgs with
    | [tg] => match tg, v with
      | .Tuple ts _ _, .Tuple vs _ _ => swapped S ts vs && ckEs T S ms vs && ckNms S is ts && match is with
        | [i, j] => decide (i ≠ j)
        | [i, j, l] => decide (i ≠ j) && decide (i ≠ l) && decide (j ≠ l)
        | _ => false
      | _, _ => false
    | _ => false
  | .setI o i m, .Assign tgs e _ => match tgs with
    | [tg] => match tg with
      | .Subscript o' i' _ => ckE T S o o' && !isSl i' && ckE T S i i' && ckE T S m e
      | _ => false
    | _ => false
  | .app o m, .Expr (.Call (.Attribute o' name apos) [e] [] cpos) _ => decide (name = "append") && (apos.endLine == cpos.line) && !isCall o' && noStar e && ckE T S o o' && ckE T S m e
  | .ext o m, .Expr (.Call (.Attribute o' name apos) [e] [] cpos) _ => decide (name = "extend") && (apos.endLine == cpos.line) && !isCall o' && noStar e && ckE T S o o' && ckE T S m e
  | .aug i p m, .AugAssign x op e _ => ckNm S i x && ((decide (p = .add) && decide (op = .Add)) || (decide (p = .sub) && decide (op = .Sub))) && ckE T S m e
  | .expr m, .Expr e _ => !isCompE e && ckE T S m e
  | .ite c a b, .If c' a' b' _ => ckE T S c c' && ckSs S a a' && ckSs S b b'
  | .for_ k ms t b, .For tg iter body [] _ => ckI T S k ms tg iter && ckT S t tg && !isSet iter && ckSs S b body
  | .whl c b, .While c' body [] _ => ckE T S c c' && ckSs S b body
  | .ret m, .Return (some e) _ => ckE T S m e
  | .retN, .Return none _ => true
  | .brk, .Break _ => true
  | .cnt, .Continue _ => true
  | .pas, .Pass _ => true
  | .raise _ _, _ => true
  | _, _ => false
def ckSs (S : Sco) : MSs → List Stmt → Bool
  | .nil, [] => true
  | .cons m ms, s :: ss => ckS S m s && ckSs S ms ss
  | _, _ => false
end
end
section
variable {G : Ce} {T : List Fn} {X : Cx} {S : Sco} {B : Bs} {a b c e : Expr} {m ma mb mc : ME} {pos p0 : Pos}
theorem sw_noComp (h : isCompE e = false) {t : Option Expr} {l : Nat} {env : PySem.Env} : swapsWith e t l env = pure false := by
  cases e <;> first
    | cases h; done
    | rfl
theorem sw_tup {es : List Expr} {k : Nat} {p : Pos} {l : Nat} {env : PySem.Env} : swapsWithSole [.Tuple es k p] e l env = pure false := by
  cases e <;> rfl
theorem sw_sub {o i : Expr} {p : Pos} {l : Nat} {env : PySem.Env} : swapsWithSole [.Subscript o i p] e l env = pure false := by
  cases e <;> rfl
theorem ss_sub {o i : Expr} {p : Pos} {env : PySem.Env} : swappedStores [.Subscript o i p] e env = pure none := by
  cases e <;> rfl
theorem ss_noTup {ts : List Expr} {k : Nat} {p : Pos} {env : PySem.Env} (h : isTup e = false) : swappedStores [.Tuple ts k p] e env = pure none := by
  cases e <;> first
    | cases h; done
    | rfl
theorem beq_bne {a b : Nat} (h : (a == b) = true) : (a != b) = false := by unfold bne; rw [h]; rfl
theorem swNm_eq (g : Good G T X S) (line : Nat) : swNm S line = fun x => (match x with
    | .Name id pos => if (X.env.kindOf id == some NameKind.local && pos.line == line) = true then some id else none
    | _ => none) := by
  funext x
  cases x <;> first
    | rfl
    | (unfold swNm Env.kindOf; rw [g.names]; done)
theorem ss_none {ts vs : List Expr} {k k2 : Nat} {p p2 : Pos} (g : Good G T X S) (h : swNone S vs ts = true) : swappedStores [.Tuple ts k p] (.Tuple vs k2 p2) X.env = pure none := by
  unfold swNone at h
  rw [swNm_eq g] at h
  unfold swappedStores
  simp only
  split
  · rfl
  · rename_i hA
    split
    · rfl
    · split
      · rfl
      · rename_i hC
        split
        · rfl
        · rename_i hD
          simp only [Bool.or_eq_true] at hA
          rcases (Bool.or_eq_true _ _).mp h with h | h
          · simp only [Bool.or_eq_true] at h
            rcases h with (h | h) | h
            · exact absurd (.inl (.inl h)) hA
            · exact absurd (.inl (.inr h)) hA
            · exact absurd h hD
          · exact absurd ((Bool.or_eq_true _ _).mpr (.inl h)) hC
theorem ss_some {ts vs : List Expr} {k k2 : Nat} {p p2 : Pos} (g : Good G T X S) (h : swapped S ts vs = true) : swappedStores [.Tuple ts k p] (.Tuple vs k2 p2) X.env = pure (some (ts.filterMap (swNm S ((ts.head?.map (·.pos.line)).getD 0)))) := by
  unfold swapped at h
  rw [swNm_eq g] at h ⊢
  unfold swappedStores
  obtain ⟨h, h7⟩ := Bool.and3 h
  obtain ⟨h, h6⟩ := Bool.and3 h
  obtain ⟨h, h5⟩ := Bool.and3 h
  obtain ⟨h, h4⟩ := Bool.and3 h
  obtain ⟨h, h3⟩ := Bool.and3 h
  obtain ⟨h1, h2⟩ := Bool.and3 h
  have hk : (X.env.blockKind != ScopeKind.function) = false := by
    unfold Env.blockKind
    rw [g.kind]
    rfl
  refine (if_neg ?A).trans ((if_neg ?B).trans ((if_neg ?C).trans ((if_neg ?D).trans (if_neg ?E))))
  case A =>
    rw [hk, h1, beq_bne h2]
    decide
  case B => exact fun z => by rw [show vs.any isStar = true from z] at h3; cases h3
  case C =>
    intro z
    rcases (Bool.or_eq_true _ _).mp z with z | z
    · exact absurd ((beq_bne h4).symm.trans z) (by decide)
    · exact absurd ((beq_bne h5).symm.trans z) (by decide)
  case D => exact fun z => by rw [z] at h6; cases h6
  case E => exact fun z => by rw [z] at h7; cases h7
theorem filterMap_names {line : Nat} : ∀ {is : List Nat} {ts : List Expr}, ckNms S is ts = true → (ts.filterMap (swNm S line)).length = ts.length →
    ∃ xs, ts.filterMap (swNm S line) = xs ∧ Paired (fun i x => S.N[i]? = some x ∧ S.names.lookup x = some .local) is xs ∧ ts = (xs.zip (ts.map Expr.pos)).map (fun q => Expr.Name q.1 q.2)
  | [], [], _, _ => ⟨[], rfl, .nil, rfl⟩
  | i :: is, t :: ts, h, hl => by
    simp only [ckNms, Bool.and_eq_true] at h
    have ht : ∃ x p, t = Expr.Name x p ∧ S.N[i]? = some x := by
      have h1 := h.1
      unfold ckNm at h1
      split at h1
      · simp only [Bool.and_eq_true, decide_eq_true_eq] at h1
        exact ⟨_, _, rfl, h1.1⟩
      · cases h1
    obtain ⟨x, p, rfl, hx⟩ := ht
    by_cases hc : (S.names.lookup x == some NameKind.local && p.line == line) = true
    · have e : swNm S line (.Name x p) = some x := if_pos hc
      rw [List.filterMap_cons, e] at hl ⊢
      simp only [List.length_cons, Nat.add_right_cancel_iff] at hl
      obtain ⟨xs, h1, h2, h3⟩ := filterMap_names h.2 hl
      refine ⟨x :: xs, by rw [h1], .cons ⟨hx, ?_⟩ h2, ?_⟩
      · exact eq_of_beq (Bool.and3 hc).1
      · rw [List.map_cons, List.zip_cons_cons, List.map_cons, ← h3]
        rfl
    · have e : swNm S line (.Name x p) = none := if_neg hc
      rw [List.filterMap_cons, e] at hl
      simp only [List.length_cons] at hl
      have := List.length_filterMap_le (swNm S line) ts
      omega
  | [], _ :: _, h, _ => by simp [ckNms] at h
  | _ :: _, [], h, _ => by simp [ckNms] at h
/-- a list comprehension, stored straight -/
theorem lc_ok {k : IK} {ms : MEs} {t : MT} {own : List Nat} {c m : ME} {elt : Expr} {gs : List Comprehension} {scope : Scope} (g : Good G T X S) (hB : B.out = none) (h : ckE T S (.comp k ms t own c m) (.ListComp elt gs scope pos) = true)
    {i : Nat} {y : Str} {py spos : Pos} (hy : X.N[i]? = some y) (hl : X.env.scope.names.lookup y = some .local) (hsw : swapsWith (.ListComp elt gs scope pos) (some (.Name y py)) spos.line X.env = pure true) :
    PS X (.Assign [.Name y py] (.ListComp elt gs scope pos) spos) (tAsg (tM (cn X) B true (evE G (.comp k ms t own c m))) (gName i)) := by
  match gs with
  | [⟨tg, iter, ifs, n⟩] =>
    simp only [ckE, Bool.and_eq_true, Bool.not_eq_true', decide_eq_true_eq] at h
    obtain ⟨⟨⟨⟨⟨⟨⟨rfl, h1⟩, h2⟩, h3⟩, h4⟩, h5⟩, h6⟩, h7⟩ := h
    refine (comp_ok g h1 h2 h3 (saysI ms g hB h4) h5 (fun g' => (saysE m g' rfl h6).pm) ?_).2 hy hl hsw
    match ifs, h7 with
    | [], h7 => exact .inl ⟨rfl, isTrueM_ok h7⟩
    | [e], h7 => exact .inr ⟨e, rfl, fun g' => (saysE c g' rfl h7).tst⟩
  | [] => simp [ckE] at h
  | _ :: _ :: _ => simp [ckE] at h
theorem compM_ok {m m' : ME} (h : compM m = some m') : ∃ k ms t own c n, m' = .comp k ms t own c n ∧ (m = m' ∨ m = .new m') := by
  unfold compM at h
  split at h
  · cases h; exact ⟨_, _, _, _, _, _, rfl, .inl rfl⟩
  · cases h; exact ⟨_, _, _, _, _, _, rfl, .inr rfl⟩
  · cases h
theorem t_asg_weak {D : Ends} {σ : L2.St} {H : Hp} {g : TG} (h : tAsg (tM (cn X) B false (evE G (.new m))) g D σ H) : tAsg (tM (cn X) B true (evE G m)) g D σ H := t_new h
theorem t_asg_weak2 {D : Ends} {σ : L2.St} {H : Hp} {g : TG} (h : tAsg (tM (cn X) B false (evE G m)) g D σ H) : tAsg (tM (cn X) B true (evE G m)) g D σ H := tM_weak h
theorem blk_fun (g : Good G T X S) : X.env.blockKind = .function := by
  unfold Env.blockKind
  rw [g.kind]
  rfl
theorem asg_ok {t : MT} {tg : Expr} (g : Good G T X S) (hB : B.out = none) (h : ckS T S (.asg t m) (.Assign [tg] e pos) = true) : QS X B (.Assign [tg] e pos) (evS G (.asg t m)) := by
  have hN : X.N.Nodup := by rw [g.N]; exact g.nd
  cases t with
  | nm i =>
    cases tg with
    | Name y py =>
      simp only [ckS, Bool.and_eq_true, decide_eq_true_eq] at h
      obtain ⟨⟨⟨h1, h2⟩, h3⟩, h4⟩ := h
      obtain ⟨k1, k2⟩ := g.own h2
      have h1' : X.N[i]? = some y := by rw [g.N]; exact h1
      have plain : swapsWith e (some (.Name y py)) pos.line X.env = pure false → QS X B (.Assign [.Name y py] e pos) (evS G (.asg (.nm i) m)) := fun hs =>
        (ps_set hN h1' k1 (saysE m g hB h3).pm hs k2).imp fun D σ H q => q_asg (t := .nm i) tg_nm q
      cases e with
      | ListComp elt gs scope p2 =>
        simp only at h4
        split at h4
        · rename_i hsw
          cases em : compM m with
          | none => rw [em] at h4; cases h4
          | some m' =>
            simp only [swLc, Bool.and_eq_true, decide_eq_true_eq, Bool.not_eq_true'] at hsw
            obtain ⟨⟨s1, s2⟩, s3⟩ := hsw
            have hl : X.env.scope.names.lookup y = some .local := by rw [g.names]; exact s1
            have sw := sw_true (elt := elt) (gs := gs) (l := pos.line) g.kind hl s2 s3
            obtain ⟨k, ms, t, own, c, n, rfl, hm⟩ := compM_ok em
            rcases hm with rfl | rfl
            · exact (lc_ok g hB h3 h1' hl sw).imp fun D σ H q => t_asg_weak2 (q_asg (t := .nm i) tg_nm q)
            · simp only [ckE, Bool.and_eq_true] at h3
              have h3' : ckE T S (.comp k ms t own c n) (.ListComp elt gs scope p2) = true := by
                simp only [ckE]
                exact h3.2
              exact (lc_ok g hB h3' h1' hl sw).imp fun D σ H q => t_asg_weak (q_asg (t := .nm i) tg_nm q)
        · rename_i hsw
          refine plain ?_
          have hk : X.env.kindOf y = S.names.lookup y := by unfold Env.kindOf; rw [g.names]
          have hv : swLc S y py (.ListComp elt gs scope p2) = (X.env.blockKind == ScopeKind.function && X.env.kindOf y == some NameKind.local && py.line == p2.line && !(scope.names.any fun (n, k) => n == y && (k == .local || k == .cell))) := by
            rw [blk_fun g, hk]
            unfold swLc
            simp only [Bool.beq_eq_decide_eq]
            rfl
          show (pure (X.env.blockKind == ScopeKind.function && X.env.kindOf y == some NameKind.local && py.line == p2.line && !(scope.names.any fun (n, k) => n == y && (k == .local || k == .cell))) : Sem Bool) = pure false
          rw [← hv]
          exact congrArg pure (Bool.eq_false_iff.mpr hsw)
      | _ => exact plain (sw_noComp (by simpa [isCompE] using h4))
    | _ => simp [ckS] at h
  | tp is =>
    simp only [ckS, Bool.and_eq_true] at h
    obtain ⟨⟨⟨h1, h2⟩, h3⟩, h4⟩ := h
    obtain ⟨ts, kt, pt, rfl⟩ := isTup_ok h1
    have hg := ckT_ok g h2
    refine (ps_asg (saysE m g hB h3).pm hg sw_tup ?_ rfl).imp fun D σ H q => q_asg (t := .tp is) (tg_of (cn X) _) q
    cases e with
    | Tuple vs k2 p2 => exact ss_none g h4
    | _ => exact ss_noTup rfl
theorem base_ok {o : Expr} {x : Str} (h : isCall o = false) : attributeBase o x X.env (eval o X.env) = eval o X.env := by
  cases o <;> first
    | cases h; done
    | rfl
theorem few_ok {cpos : Pos} (h : noStar e = true) : ((backTo cpos (starEach [e] X.env)).all (fun x => !x.1) && (backToKw cpos (keywordEach [] X.env)).all (fun x => x.1.isSome)
      && decide (([e] : List Expr).length + ([] : List Keyword).length + (if ([] : List Keyword).isEmpty then 0 else 1) < 30)) = true := by
  rw [star_of h]
  rfl
theorem par_ok {is : List Nat} {ms : MEs} {ts vs : List Expr} {kt k2 : Nat} {pt p2 : Pos} (g : Good G T X S) (hB : B.out = none) (h : ckS T S (.par is ms) (.Assign [.Tuple ts kt pt] (.Tuple vs k2 p2) pos) = true) : QS X B (.Assign [.Tuple ts kt pt] (.Tuple vs k2 p2) pos) (evS G (.par is ms)) := by
  have hN : X.N.Nodup := by rw [g.N]; exact g.nd
  simp only [ckS, Bool.and_eq_true] at h
  obtain ⟨⟨⟨h1, h2⟩, h3⟩, h4⟩ := h
  have hsw := ss_some (k := kt) (k2 := k2) (p := pt) (p2 := p2) g h1
  have hlen : (ts.filterMap (swNm S ((ts.head?.map (·.pos.line)).getD 0))).length = ts.length := by
    unfold swapped at h1
    obtain ⟨h1, _⟩ := Bool.and3 h1
    obtain ⟨h1, _⟩ := Bool.and3 h1
    obtain ⟨h1, _⟩ := Bool.and3 h1
    obtain ⟨_, h4⟩ := Bool.and3 h1
    exact eq_of_beq h4
  have hvl : vs.length = ts.length := by
    unfold swapped at h1
    obtain ⟨h1, _⟩ := Bool.and3 h1
    obtain ⟨h1, _⟩ := Bool.and3 h1
    obtain ⟨h1, _⟩ := Bool.and3 h1
    obtain ⟨h1, _⟩ := Bool.and3 h1
    obtain ⟨h1, _⟩ := Bool.and3 h1
    obtain ⟨_, h4⟩ := Bool.and3 h1
    exact eq_of_beq h4
  obtain ⟨xs, e1, hp, e2⟩ := filterMap_names h3 hlen
  rw [e1] at hsw hlen
  have hv := saysEs ms g hB h2
  have lk : ∀ {x : Str}, S.names.lookup x = some .local → X.env.scope.names.lookup x = some .local := fun h => by rw [g.names]; exact h
  have nn : ∀ {i : Nat} {x : Str}, S.N[i]? = some x → X.N[i]? = some x := fun h => by rw [g.N]; exact h
  match is, xs, hp, h4 with
  | [i, j], [x, y], .cons ⟨n1, l1⟩ (.cons ⟨n2, l2⟩ .nil), h4 =>
    match ts, e2, hvl, hsw, hlen with
    | [t1, t2], e2, hvl, hsw, _ =>
      simp only [List.map_cons, List.map_nil, List.zip_cons_cons, List.zip_nil_right, List.cons.injEq, and_true] at e2
      obtain ⟨q1, q2⟩ := e2
      rw [q1, q2] at hsw ⊢
      match vs, hvl, hv, hsw with
      | [a, b], _, hv, hsw => exact (ps_par g.calm hN (nn n1) (nn n2) (of_decide_eq_true h4) (lk l1) (lk l2) hv hsw sw_tup).imp fun D σ H q => q_par2 q
    | [], _, _, _, e2 => simp at e2
    | [_], _, _, _, e2 => simp at e2
    | _ :: _ :: _ :: _, _, _, _, e2 => simp at e2
  | [i, j, l], [x, y, z], .cons ⟨n1, l1⟩ (.cons ⟨n2, l2⟩ (.cons ⟨n3, l3⟩ .nil)), h4 =>
    match ts, e2, hvl, hsw, hlen with
    | [t1, t2, t3], e2, hvl, hsw, _ =>
      simp only [List.map_cons, List.map_nil, List.zip_cons_cons, List.zip_nil_right, List.cons.injEq, and_true] at e2
      obtain ⟨q1, q2, q3⟩ := e2
      rw [q1, q2, q3] at hsw ⊢
      simp only [Bool.and_eq_true, decide_eq_true_eq] at h4
      match vs, hvl, hv, hsw with
      | [a, b, c], _, hv, hsw => exact (ps_par3 g.calm hN (nn n1) (nn n2) (nn n3) h4.1.1 h4.1.2 h4.2 (lk l1) (lk l2) (lk l3) hv hsw sw_tup).imp fun D σ H q => q_par3 q
    | [], _, _, _, e2 => simp at e2
    | [_], _, _, _, e2 => simp at e2
    | [_, _], _, _, _, e2 => simp at e2
    | _ :: _ :: _ :: _ :: _, _, _, _, e2 => simp at e2
  | [], _, _, h4 => cases h4
  | [_], _, _, h4 => cases h4
  | _ :: _ :: _ :: _ :: _, _, _, h4 => cases h4
theorem s_asg {t : MT} {m : ME} {st : Stmt} (g : Good G T X S) (hp : PassesOwn (model X.prog X.w) X.A X.env X.xe) (hB : B.out = none) (h : ckS T S (.asg t m) st = true) : QS X B st (evS G (.asg t m)) := by
    cases st with
    | Assign ts e pos =>
      match ts with
      | [tg] => exact asg_ok g hB h
      | [] => simp [ckS] at h
      | _ :: _ :: _ => simp [ckS] at h
    | _ => simp [ckS] at h
theorem s_par {is : List Nat} {ms : MEs} {st : Stmt} (g : Good G T X S) (hp : PassesOwn (model X.prog X.w) X.A X.env X.xe) (hB : B.out = none) (h : ckS T S (.par is ms) st = true) : QS X B st (evS G (.par is ms)) := by
    cases st with
    | Assign ts e pos =>
      match ts with
      | [tg] =>
        cases tg with
        | Tuple ts kt pt =>
          cases e with
          | Tuple vs k2 p2 => exact par_ok g hB h
          | _ => simp [ckS] at h
        | _ => simp [ckS] at h
      | [] => simp [ckS] at h
      | _ :: _ :: _ => simp [ckS] at h
    | _ => simp [ckS] at h
theorem s_setI {o : ME} {i : ME} {m : ME} {st : Stmt} (g : Good G T X S) (hp : PassesOwn (model X.prog X.w) X.A X.env X.xe) (hB : B.out = none) (h : ckS T S (.setI o i m) st = true) : QS X B st (evS G (.setI o i m)) := by
    cases st with
    | Assign ts e pos =>
      match ts with
      | [tg] =>
        cases tg with
        | Subscript o' i' p =>
          simp only [ckS, Bool.and_eq_true, Bool.not_eq_true'] at h
          obtain ⟨⟨⟨h1, h2⟩, h3⟩, h4⟩ := h
          have hu := g.un
          refine (ps_asg (saysE m g hB h4).pm (pg_sub (saysE o g hB h1).pm (saysE i g hB h3).pm (set_mix (by omega)) ?_) sw_sub ss_sub rfl).imp fun D σ H q => q_setI q
          intro v
          cases i' <;> first
            | cases h2; done
            | rfl
        | _ => simp [ckS] at h
      | [] => simp [ckS] at h
      | _ :: _ :: _ => simp [ckS] at h
    | _ => simp [ckS] at h
theorem s_app {o : ME} {m : ME} {st : Stmt} (g : Good G T X S) (hp : PassesOwn (model X.prog X.w) X.A X.env X.xe) (hB : B.out = none) (h : ckS T S (.app o m) st = true) : QS X B st (evS G (.app o m)) := by
    cases st with
    | Expr v pos =>
      cases v with
      | Call f es kws cpos =>
        cases f with
        | Attribute o' name apos =>
          match es, kws with
          | [e], [] =>
            simp only [ckS, Bool.and_eq_true, Bool.not_eq_true', decide_eq_true_eq] at h
            obtain ⟨⟨⟨⟨⟨rfl, h2⟩, h3⟩, h4⟩, h5⟩, h6⟩ := h
            exact (ps_expr (pe_bm PySem.F.plainAttrs_list PySem.F.slot_list_append PySem.F.type_list_append mt_append (saysE o g hB h5).pm (pms_one (saysE m g hB h6).pm h4) (base_ok h3) (few_ok h4) h2 (star_of h4) any_nil) rfl).imp fun D σ H q => q_app q
          | [], _ => simp [ckS] at h
          | _ :: _ :: _, _ => simp [ckS] at h
          | [_], _ :: _ => simp [ckS] at h
        | _ => simp [ckS] at h
      | _ => simp [ckS] at h
    | _ => simp [ckS] at h
theorem s_ext {o : ME} {m : ME} {st : Stmt} (g : Good G T X S) (hp : PassesOwn (model X.prog X.w) X.A X.env X.xe) (hB : B.out = none) (h : ckS T S (.ext o m) st = true) : QS X B st (evS G (.ext o m)) := by
    cases st with
    | Expr v pos =>
      cases v with
      | Call f es kws cpos =>
        cases f with
        | Attribute o' name apos =>
          match es, kws with
          | [e], [] =>
            simp only [ckS, Bool.and_eq_true, Bool.not_eq_true', decide_eq_true_eq] at h
            obtain ⟨⟨⟨⟨⟨rfl, h2⟩, h3⟩, h4⟩, h5⟩, h6⟩ := h
            exact (ps_expr (pe_bm PySem.F.plainAttrs_list PySem.F.slot_list_extend PySem.F.type_list_extend mt_extend (saysE o g hB h5).pm (pms_one (saysE m g hB h6).pm h4) (base_ok h3) (few_ok h4) h2 (star_of h4) any_nil) rfl).imp fun D σ H q => q_ext q
          | [], _ => simp [ckS] at h
          | _ :: _ :: _, _ => simp [ckS] at h
          | [_], _ :: _ => simp [ckS] at h
        | _ => simp [ckS] at h
      | _ => simp [ckS] at h
    | _ => simp [ckS] at h
theorem s_aug {i : Nat} {p : P2} {m : ME} {st : Stmt} (g : Good G T X S) (hp : PassesOwn (model X.prog X.w) X.A X.env X.xe) (hB : B.out = none) (h : ckS T S (.aug i p m) st = true) : QS X B st (evS G (.aug i p m)) := by
    cases st with
    | AugAssign x op e pos =>
      simp only [ckS, Bool.and_eq_true, Bool.or_eq_true, decide_eq_true_eq] at h
      obtain ⟨⟨h1, h2⟩, h3⟩ := h
      obtain ⟨y, p0, rfl, k1, k2, k3⟩ := ckNm_ok g h1
      have hN : X.N.Nodup := by rw [g.N]; exact g.nd
      rcases h2 with ⟨rfl, rfl⟩ | ⟨rfl, rfl⟩
      · exact (ps_aug hN k1 k2 (saysE m g hB h3).pm ip_add k3).imp fun D σ H q => q_aug aug_add q
      · exact (ps_aug hN k1 k2 (saysE m g hB h3).pm ip_sub k3).imp fun D σ H q => q_aug aug_sub q
    | _ => simp [ckS] at h
theorem s_expr {m : ME} {st : Stmt} (g : Good G T X S) (hp : PassesOwn (model X.prog X.w) X.A X.env X.xe) (hB : B.out = none) (h : ckS T S (.expr m) st = true) : QS X B st (evS G (.expr m)) := by
    cases st with
    | Expr e pos =>
      simp only [ckS, Bool.and_eq_true, Bool.not_eq_true'] at h
      exact qs_expr (saysE m g hB h.2).pm (sw_noComp h.1)
    | _ => simp [ckS] at h
theorem s_ret {m : ME} {st : Stmt} (g : Good G T X S) (hp : PassesOwn (model X.prog X.w) X.A X.env X.xe) (hB : B.out = none) (h : ckS T S (.ret m) st = true) : QS X B st (evS G (.ret m)) := by
    cases st with
    | Return v pos =>
      cases v with
      | some e =>
        simp only [ckS] at h
        exact qs_ret (saysE m g hB h).pm
      | none => simp [ckS] at h
    | _ => simp [ckS] at h
theorem s_retN  {st : Stmt} (g : Good G T X S) (hp : PassesOwn (model X.prog X.w) X.A X.env X.xe) (hB : B.out = none) (h : ckS T S (.retN) st = true) : QS X B st (evS G (.retN)) := by
    cases st with
    | Return v pos =>
      cases v with
      | some e => simp [ckS] at h
      | none => exact qs_retN
    | _ => simp [ckS] at h
theorem s_brk  {st : Stmt} (g : Good G T X S) (hp : PassesOwn (model X.prog X.w) X.A X.env X.xe) (hB : B.out = none) (h : ckS T S (.brk) st = true) : QS X B st (evS G (.brk)) := by
    cases st with
    | Break pos => exact qs_brk
    | _ => simp [ckS] at h
theorem s_cnt  {st : Stmt} (g : Good G T X S) (hp : PassesOwn (model X.prog X.w) X.A X.env X.xe) (hB : B.out = none) (h : ckS T S (.cnt) st = true) : QS X B st (evS G (.cnt)) := by
    cases st with
    | Continue pos => exact qs_cnt
    | _ => simp [ckS] at h
theorem s_pas  {st : Stmt} (g : Good G T X S) (hp : PassesOwn (model X.prog X.w) X.A X.env X.xe) (hB : B.out = none) (h : ckS T S (.pas) st = true) : QS X B st (evS G (.pas)) := by
    cases st with
    | Pass pos => exact qs_pas
    | _ => simp [ckS] at h
theorem s_raise {c : Str} {es : MEs} {st : Stmt} (g : Good G T X S) (hp : PassesOwn (model X.prog X.w) X.A X.env X.xe) (hB : B.out = none) (h : ckS T S (.raise c es) st = true) : QS X B st (evS G (.raise c es)) := ps_never.imp fun D σ H ⟨φ, XX, M, env, n, q⟩ => by simp only [evS] at q; exact q
mutual
theorem saysS : ∀ (m : MS) {X : Cx} {S : Sco} {B : Bs} {st : Stmt}, Good G T X S → PassesOwn (model X.prog X.w) X.A X.env X.xe → B.out = none → ckS T S m st = true → QS X B st (evS G m)
  | .asg t m, X, S, B, st, g, hp, hB, h => s_asg g hp hB h
  | .par is ms, X, S, B, st, g, hp, hB, h => s_par g hp hB h
  | .setI o i m, X, S, B, st, g, hp, hB, h => s_setI g hp hB h
  | .app o m, X, S, B, st, g, hp, hB, h => s_app g hp hB h
  | .ext o m, X, S, B, st, g, hp, hB, h => s_ext g hp hB h
  | .aug i p m, X, S, B, st, g, hp, hB, h => s_aug g hp hB h
  | .expr m, X, S, B, st, g, hp, hB, h => s_expr g hp hB h
  | .ite c a b, X, S, B, st, g, hp, hB, h => by
    cases st with
    | If c' a' b' pos =>
      simp only [ckS, Bool.and_eq_true] at h
      exact qs_ite (saysE c g hB h.1.1).tst (saysSs a g hp hB h.1.2) (saysSs b g hp hB h.2)
    | _ => simp [ckS] at h
  | .for_ k ms t b, X, S, B, st, g, hp, hB, h => by
    cases st with
    | For tg iter body els pos =>
      match els with
      | [] =>
        simp only [ckS, Bool.and_eq_true, Bool.not_eq_true'] at h
        obtain ⟨⟨⟨h1, h2⟩, h3⟩, h4⟩ := h
        exact (ps_for hp g.calm (saysI ms g hB h1) (ckT_ok g h2) (saysSs b g hp hB h4) (noSet_fold h3)).imp fun D σ H q => q_for (tg_of (cn X) t) q
      | _ :: _ => simp [ckS] at h
    | _ => simp [ckS] at h
  | .whl c b, X, S, B, st, g, hp, hB, h => by
    cases st with
    | While c' body els pos =>
      match els with
      | [] =>
        simp only [ckS, Bool.and_eq_true] at h
        exact (ps_while hp (saysE c g hB h.1).tst (saysSs b g hp hB h.2)).imp fun D σ H q => q_whl q
      | _ :: _ => simp [ckS] at h
    | _ => simp [ckS] at h
  | .ret m, X, S, B, st, g, hp, hB, h => s_ret g hp hB h
  | .retN, X, S, B, st, g, hp, hB, h => s_retN g hp hB h
  | .brk, X, S, B, st, g, hp, hB, h => s_brk g hp hB h
  | .cnt, X, S, B, st, g, hp, hB, h => s_cnt g hp hB h
  | .pas, X, S, B, st, g, hp, hB, h => s_pas g hp hB h
  | .raise c es, X, S, B, st, g, hp, hB, h => s_raise g hp hB h
theorem saysSs : ∀ (ms : MSs) {X : Cx} {S : Sco} {B : Bs} {st : List Stmt}, Good G T X S → PassesOwn (model X.prog X.w) X.A X.env X.xe → B.out = none → ckSs T S ms st = true → QSs X B st (evSs G ms)
  | .nil, X, S, B, st, g, hp, hB, h => by
    cases st with
    | nil => exact qs_nil
    | cons s ss => simp [ckSs] at h
  | .cons m ms, X, S, B, st, g, hp, hB, h => by
    cases st with
    | nil => simp [ckSs] at h
    | cons s ss =>
      simp only [ckSs, Bool.and_eq_true] at h
      exact qs_cons (saysS m g hp hB h.1) (saysSs ms g hp hB h.2)
end
end
end Mi
set_option Elab.async false
set_option linter.all false
set_option maxRecDepth 100000
set_option maxHeartbeats 0
/-! Mi15: a call's end; all defs of a table. -/
namespace Mi
open PySem PySem.Spec PyProof.Rows L2
section
variable {C : Cn} {φ ψ X : List Addr} {H : Hp} {M M1 : Mem}
/-! ### references stay below the store's length -/
theorem key_refs {L : Nat} {d : D} {k : Key} (h : keyD d = some k) : D.refsLt L d = true := by
  cases d <;> first
    | rfl
    | cases h
theorem keys_refs {L : Nat} : ∀ {ds : List D} {ks : List Key}, keysD ds = some ks → D.refsLts L ds = true
  | [], _, _ => rfl
  | d :: ds, ks, h => by
    unfold keysD at h
    cases e1 : keyD d with
    | none => rw [e1] at h; cases h
    | some k =>
      cases e2 : keysD ds with
      | none => rw [e1, e2] at h; cases h
      | some ks' =>
        unfold D.refsLts
        rw [key_refs e1, keys_refs e2]
        rfl
theorem keyT_refs {L : Nat} {d : D} {k : List Key} (h : keyT d = some k) : D.refsLt L d = true := by
  cases d with
  | tup ds => exact keys_refs h
  | _ => cases h
theorem refsk_of {L : Nat} {α : Type} {f : D → Option α} (hf : ∀ d k, f d = some k → D.refsLt L d = true) : ∀ {kvs : List (D × D)} {ks : List α}, kvs.map (fun p => f p.1) = ks.map some → D.refsLts L (kvs.map (·.2)) = true → D.refsLtk L kvs = true
  | [], _, _, _ => rfl
  | p :: r, k :: ks, h, h2 => by
    simp only [List.map_cons, List.cons.injEq] at h
    simp only [List.map_cons, D.refsLts, Bool.and_eq_true] at h2
    obtain ⟨a, b⟩ := p
    unfold D.refsLtk
    rw [hf _ _ h.1, h2.1, refsk_of hf h.2 h2.2]
    rfl
  | _ :: _, [], h, _ => by simp at h
mutual
theorem R.refs : ∀ {d : D} {v : V}, R C φ X H d v → D.refsLt φ.length d = true
  | _, _, .non => rfl
  | _, _, .bl b => rfl
  | _, _, .int i => rfl
  | _, _, .str x => rfl
  | _, _, .tup h r => Rs.refs r
  | _, _, .lst h r => Rs.refs r
  | _, _, .scr h r => Rs.refs r
  | _, _, .dic h hk r => refsk_of (fun _ _ => key_refs) hk (Rs.refs r)
  | _, _, .dix ne h hk r => refsk_of (fun _ _ => keyT_refs) hk (Rs.refs r)
  | _, _, .tab h r => Rs.refs r
  | _, _, .ref h => decide_eq_true (List.getElem?_eq_some_iff.mp h).1
  | _, _, .glo h r ok => rfl
theorem Rs.refs : ∀ {ds : List D} {vs : List V}, Rs C φ X H ds vs → D.refsLts φ.length ds = true
  | _, _, .nil => rfl
  | _, _, .cons r rs => by
    unfold D.refsLts
    rw [R.refs r, Rs.refs rs]
    rfl
end
/-! ### back to fewer store places -/
theorem Rs.of_k {L : Nat} : ∀ {kvs : List (D × D)}, D.refsLtk L kvs = true → D.refsLts L (kvs.map (·.2)) = true
  | [], _ => rfl
  | (a, b) :: r, h => by
    simp only [D.refsLtk, Bool.and_eq_true] at h
    simp only [List.map_cons, D.refsLts, Bool.and_eq_true]
    exact ⟨h.1.2, Rs.of_k h.2⟩
theorem not_sub {a : Addr} (h : a ∉ φ ++ ψ) : a ∉ φ := fun z => h (List.mem_append_left _ z)
mutual
theorem R.down : ∀ {d : D} {v : V}, R C (φ ++ ψ) X H d v → D.refsLt φ.length d = true → R C φ X H d v
  | _, _, .non, _ => .non
  | _, _, .bl b, _ => .bl b
  | _, _, .int i, _ => .int i
  | _, _, .str x, _ => .str x
  | _, _, .tup h r, q => .tup (h.imp (fun z => ⟨z.1, not_sub z.2.1, z.2.2⟩) id) (Rs.down r q)
  | _, _, .lst h r, q => .lst ⟨h.1, not_sub h.2.1, h.2.2⟩ (Rs.down r q)
  | _, _, .scr h r, q => .scr (h.imp (fun z => ⟨z.1, not_sub z.2.1, z.2.2⟩) id) (Rs.down r q)
  | _, _, .dic h hk r, q => .dic ⟨h.1, not_sub h.2.1, h.2.2⟩ hk (Rs.down r (Rs.of_k q))
  | _, _, .dix ne h hk r, q => .dix ne ⟨h.1, not_sub h.2.1, h.2.2⟩ hk (Rs.down r (Rs.of_k q))
  | _, _, .tab h r, q => .tab h (Rs.down r q)
  | _, _, .ref h, q => .ref (by
      have hn := of_decide_eq_true q
      rw [List.getElem?_append_left hn] at h
      exact h)
  | _, _, .glo h r ok, _ => .glo h r ok
theorem Rs.down : ∀ {ds : List D} {vs : List V}, Rs C (φ ++ ψ) X H ds vs → D.refsLts φ.length ds = true → Rs C φ X H ds vs
  | _, _, .nil, _ => .nil
  | _, _, .cons r rs, q => by
    have q' := Bool.and3 (show (D.refsLt φ.length _ && D.refsLts φ.length _) = true from q)
    exact .cons (R.down r q'.1) (Rs.down rs q'.2)
end
theorem RO.down {a : Addr} {o : O} (h : RO C (φ ++ ψ) X H a o) (q : O.refsLt φ.length o = true) : RO C φ X H a o := by
  cases o with
  | lst ds => obtain ⟨vs, h1, h2⟩ := h; exact ⟨vs, h1, h2.down q⟩
  | dic kvs =>
    rcases h with ⟨ks, vs, h1, h2, h3, h4⟩ | ⟨ks, vs, h0, h1, h2, h3, h4⟩
    · exact .inl ⟨ks, vs, h1, h2, h3, h4.down (Rs.of_k q)⟩
    · exact .inr ⟨ks, vs, h0, h1, h2, h3, h4.down (Rs.of_k q)⟩
  | ins c fs => obtain ⟨K, dx, vs, h1, h2, h3, h4⟩ := h; exact ⟨K, dx, vs, h1, h2, h3.down q, h4⟩
  | dead => exact h
theorem RO.refs {a : Addr} {o : O} (h : RO C φ X H a o) : O.refsLt φ.length o = true := by
  cases o with
  | lst ds => obtain ⟨vs, h1, h2⟩ := h; exact h2.refs
  | dic kvs =>
    rcases h with ⟨ks, vs, h1, h2, h3, h4⟩ | ⟨ks, vs, h0, h1, h2, h3, h4⟩
    · exact refsk_of (fun _ _ => key_refs) h3 h4.refs
    · exact refsk_of (fun _ _ => keyT_refs) h3 h4.refs
  | ins c fs => obtain ⟨K, dx, vs, h1, h2, h3, h4⟩ := h; exact h3.refs
  | dead => rfl
theorem keptFrom_ok {L : Nat} {M M' : Mem} : ∀ {k : Nat}, keptFrom L M M' k = true → ∀ n, n < k → M'[n]? = M[n]? ∨ ∃ o, M'[n]? = some o ∧ O.refsLt L o = true
  | 0, _, n, h => by omega
  | k + 1, h, n, hn => by
    simp only [keptFrom, Bool.and_eq_true, Bool.or_eq_true, decide_eq_true_eq] at h
    by_cases e : n = k
    · subst e
      rcases h.1 with h1 | h1
      · exact .inl h1
      · split at h1
        · rename_i o ho
          exact .inr ⟨o, ho, h1⟩
        · cases h1
    · exact keptFrom_ok h.2 n (by omega)
section
variable {XX : List Addr} {H1 : Hp} (s : Sim C φ XX M H) (s1 : Sim C (φ ++ ψ) XX M1 H1)
theorem freeze_ok (s1 : Sim C (φ ++ ψ) XX M1 H1) : ∀ (k : Nat) {d : D} {v : V}, R C (φ ++ ψ) XX H1 d v → D.refsLt φ.length (freeze M1 φ.length k d) = true → R C φ XX H1 (freeze M1 φ.length k d) v
  | 0, _, _, r, q => R.down r q
  | k + 1, d, v, r, q => by
    have many : ∀ {ds : List D} {vs : List V}, Rs C (φ ++ ψ) XX H1 ds vs → D.refsLts φ.length (ds.map (freeze M1 φ.length k)) = true → Rs C φ XX H1 (ds.map (freeze M1 φ.length k)) vs := by
      intro ds vs rs
      induction ds generalizing vs with
      | nil => intro _; cases rs; exact .nil
      | cons d ds ih =>
        intro q
        cases rs with
        | cons r rs =>
          simp only [List.map_cons, D.refsLts, Bool.and_eq_true] at q
          exact .cons (freeze_ok s1 k r q.1) (ih rs q.2)
    cases d with
    | tup ds =>
      cases r with
      | tup h rs => exact .tup (h.imp (fun z => ⟨z.1, not_sub z.2.1, z.2.2⟩) id) (many rs q)
    | ref n =>
      unfold freeze at q ⊢
      split
      · rename_i hn
        rw [if_pos hn] at q
        exact R.down r q
      · rename_i hn
        rw [if_neg hn] at q
        cases r with
        | @ref n a ha =>
          have hx : a ∉ φ := fun z => by
            obtain ⟨i, hi⟩ := List.mem_iff_getElem?.mp z
            have hil := (List.getElem?_eq_some_iff.mp hi).1
            have e : i = n := s1.idx (a := a) (by rw [List.getElem?_append_left hil]; exact hi) ha
            omega
          have hX : a ∉ XX := fun z => (s1.xs a z).1 (mem_of_get ha)
          cases e1 : M1[n]? with
          | none =>
            rw [e1] at q
            exact absurd (of_decide_eq_true q) hn
          | some o =>
            rw [e1] at q
            have hro := s1.obj n o a e1 ha
            cases o with
            | lst ds =>
              obtain ⟨vs, h1, h2⟩ := hro
              exact .lst ⟨h1, hx, hX⟩ (many h2 q)
            | dic kvs =>
              have qk : ∀ {kvs : List (D × D)} {vs : List V}, Rs C (φ ++ ψ) XX H1 (kvs.map (·.2)) vs → D.refsLtk φ.length (kvs.map fun p => (p.1, freeze M1 φ.length k p.2)) = true → Rs C φ XX H1 ((kvs.map fun p => (p.1, freeze M1 φ.length k p.2)).map (·.2)) vs := fun {kvs vs} rs q => by
                have q2 := Rs.of_k q
                rw [List.map_map] at q2 ⊢
                have := many rs (by rw [List.map_map]; exact q2)
                rw [List.map_map] at this
                exact this
              have kk : ∀ {α : Type} (f : D → Option α), (kvs.map fun p => (p.1, freeze M1 φ.length k p.2)).map (fun p => f p.1) = kvs.map (fun p => f p.1) := fun f => by
                rw [List.map_map]
                rfl
              rcases hro with ⟨ks, vs, h1, h2, h3, h4⟩ | ⟨ks, vs, h0, h1, h2, h3, h4⟩
              · exact .dic ⟨h1, hx, hX, h2⟩ (by rw [kk]; exact h3) (qk h4 q)
              · exact .dix (fun z => h0 (List.map_eq_nil_iff.mp z)) ⟨h1, hx, hX, h2⟩ (by rw [kk]; exact h3) (qk h4 q)
            | ins c fs => exact absurd (of_decide_eq_true q) hn
            | dead => exact absurd (of_decide_eq_true q) hn
    | _ => exact R.down r q
theorem take_sim (s : Sim C φ XX M H) (s1 : Sim C (φ ++ ψ) XX M1 H1) (h : keptFrom M.length M M1 M.length = true) : Sim C φ XX (M1.take M.length) H1 := by
  have hl : (φ ++ ψ).length = M1.length := s1.len
  rw [List.length_append] at hl
  have hs := s.len
  refine ⟨by rw [List.length_take]; omega, (List.nodup_append.mp s1.nd).1, fun a ha => ⟨not_sub (s1.xs a ha).1, (s1.xs a ha).2⟩, fun n o a e1 e2 => ?_⟩
  have hn : n < φ.length := (List.getElem?_eq_some_iff.mp e2).1
  rw [List.getElem?_take, if_pos (by omega)] at e1
  have e2' : (φ ++ ψ)[n]? = some a := by rw [List.getElem?_append_left hn]; exact e2
  refine (s1.obj n o a e1 e2').down ?_
  rcases keptFrom_ok h n (by omega) with e | ⟨o', e, q⟩
  · rw [e1] at e
    exact (s.obj n o a e.symm e2).refs
  · rw [e1] at e
    cases e
    rw [hs]
    exact q
theorem finish_ok {φ1 : List Addr} (s : Sim C φ XX M H) (s1 : Sim C φ1 XX M1 H1) (x : Ext φ H φ1 H1) {d d' : D} {v : V} {M' : Mem} (r : R C φ1 XX H1 d v) (h : finish M (.ok d M1) = .ok d' M') :
    Sim C φ XX M' H1 ∧ Ext φ H φ H1 ∧ R C φ XX H1 d' v := by
  obtain ⟨ψ, rfl⟩ := x.pre
  simp only [finish] at h
  split at h
  · rename_i q
    obtain ⟨q1, q2⟩ := Bool.and3 q
    cases h
    refine ⟨take_sim s s1 q2, ⟨⟨[], by simp⟩, fun a o e n => ⟨(x.keep a o e n).1, n⟩⟩, ?_⟩
    rw [← s.len] at q1 ⊢
    exact freeze_ok s1 3 r q1
  · cases h
end
end
end Mi
set_option Elab.async false
set_option linter.all false
set_option maxRecDepth 100000
set_option maxHeartbeats 0
/-! Mi16: all defs of a table, n deep. -/
namespace Mi
open PySem PySem.Spec PyProof.Rows L2
/-- a def of the program and the body that tells it -/
structure Df where
  fn : Fn
  d : He.DefD
  N : List Str
  ps : List Str
def scB (N ps : List Str) (sc : Scope) : Bool :=
  decide (sc.kind = .function) && !sc.isCoroutine && !sc.isGenerator && decide N.Nodup && decide (N.take ps.length = ps) &&
  ps.all (fun x => decide (sc.names.lookup x = some .local) || decide (sc.names.lookup x = some .cell)) && sc.names.all (fun y => decide (y.2 ≠ .free))
theorem scB_ok {N ps : List Str} {sc : Scope} (h : scB N ps sc = true) : FnScope N ps sc := by
  unfold scB at h
  simp only [Bool.and_eq_true, decide_eq_true_eq, Bool.not_eq_true', List.all_eq_true, Bool.or_eq_true] at h
  obtain ⟨⟨⟨⟨⟨⟨h1, h2⟩, h3⟩, h4⟩, h5⟩, h6⟩, h7⟩ := h
  exact ⟨h1, h2, h3, h4, h5, h6, h7⟩
structure DfOk (T : List Fn) (x : Df) : Prop where
  at_ : x.d.at_ = (x.fn.name, none)
  dfl : x.d.dfl = []
  sc : FnScope x.N x.ps x.d.scope
  np : x.fn.np = x.ps.length
  ns : x.fn.ns = x.N.length
  ck : ckSs T ⟨x.N, x.d.scope.names, fun _ => true⟩ x.fn.body x.d.body = true
  find : findFn x.fn.name T = some x.fn
  bind : ∀ (kV doc pm : Value) (an : Option Addr) (cdv ct : Value) (us : List Value), us.length = x.ps.length →
    bindArgs (PySem.W.fnOf x.d.name x.d.qual x.d.params x.d.body x.d.scope .none kV doc pm an cdv ct) ⟨us, []⟩ = pure (x.ps.zip us)
def dfB (T : List Fn) (x : Df) : Bool :=
  decide (x.d.at_ = (x.fn.name, none)) && x.d.dfl.isEmpty && scB x.N x.ps x.d.scope && decide (x.fn.np = x.ps.length) && decide (x.fn.ns = x.N.length) &&
  ckSs T ⟨x.N, x.d.scope.names, fun _ => true⟩ x.fn.body x.d.body
theorem start_env {C : Cn} {φ XX : List Addr} {H : Hp} {N : List Str} {ds : List D} {vs : List V} (r : Rs C φ XX H ds vs) : RE C φ XX H (ds.map some ++ List.replicate (N.length - ds.length) none) (L2.start N vs) := by
  have hl := r.length
  refine ⟨by simp [L2.start, hl], fun i d h => ?_⟩
  by_cases hi : i < ds.length
  · rw [List.getElem?_append_left (by simpa using hi), List.getElem?_map] at h
    obtain ⟨d', e1, e2⟩ := Option.map_eq_some_iff.mp h
    cases e2
    obtain ⟨v, h1, h2⟩ := r.get e1
    refine ⟨v, ?_, h2⟩
    unfold L2.start
    rw [List.getElem?_append_left (by rw [List.length_map, ← hl]; exact hi), List.getElem?_map, h1]
    rfl
  · rw [List.getElem?_append_right (by simpa using hi), List.getElem?_replicate] at h
    split at h <;> cases h
section
variable {P : Program} {w : World} {K : PySem.W.Frag} {mg : Str → Option Value} {base : Heap} {tbl : List Df} {gl : Str → Option D} {W : Nat}
structure TabOk (K : PySem.W.Frag) (w : World) (mg : Str → Option Value) (tbl : List Df) (gl : Str → Option D) : Prop where
  df : ∀ x ∈ tbl, DfOk (tbl.map (·.fn)) x
  fn : ∀ x ∈ tbl, ∃ kws fd, FunD K x.d.name x.d.qual x.d.params x.d.body x.d.scope [] kws (He.fAd K x.d.at_) fd
  mgs : ∀ x ∈ tbl, mg x.fn.name = some (.ref (He.fAd K x.d.at_))
  bt : ∀ x ∈ btNames, mg x = none
  gls : ∀ x d, gl x = some d → ∃ v u, mg x = some u ∧ RelV v u ∧ ∀ φ XX H, R ⟨K, w, mg⟩ φ XX H d v
  nogl : gl "" = none
theorem TabOk.fnOk (t : TabOk K w mg tbl gl) : ∀ (n : Nat) (x : Df), x ∈ tbl → ∀ {kws : List (Str × V)} {fd : FuncData}, FunD K x.d.name x.d.qual x.d.params x.d.body x.d.scope [] kws (He.fAd K x.d.at_) fd →
    FnOk P w K mg base CX0 n (He.fAd K x.d.at_) fd x.ps (spM (callF (tbl.map (·.fn)) gl W n x.fn.name) x.fn.np ⟨K, w, mg⟩)
  | 0, x, hx, kws, fd, F => by
    refine ⟨fun vs H Q E h => by rw [h.1]; exact (t.df x hx).np, fun A outer s H args us vs Q E hr e0 hb r h => ?_⟩
    obtain ⟨_, φ, XX, M, ds, s, rs, h⟩ := h
    simp only [callF] at h
  | n + 1, x, hx, kws, fd, F => by
    have o := t.df x hx
    refine F.ok o.sc (fun vs H Q E h => by rw [h.1]; exact o.np) fun cdv A outer s H vs Q E hr h => ?_
    obtain ⟨hl, φ, XX, M, ds, sim, rs, h⟩ := h
    generalize hX : cxOf CX0 P w K mg base x.N x.d.qual x.d.scope (He.fAd K x.d.at_) cdv A outer s H E = X
    have hcn : cn X = ⟨K, w, mg⟩ := by subst hX; rfl
    generalize hG : (⟨callF (tbl.map (·.fn)) gl W n, gl, W⟩ : Ce) = G
    have g : Good G (tbl.map (·.fn)) X ⟨x.N, x.d.scope.names, fun _ => true⟩ := by
      subst hX hG
      refine ⟨rfl, rfl, o.sc.nd, o.sc.kind, rfl, fun _ => rfl, ?_, t.bt, fun f hf => ?_, t.gls, t.nogl⟩
      · have := hr.un
        show (A.deeper _).units + 80 < cLine
        omega
      · obtain ⟨y, hy, rfl⟩ := List.mem_map.mp hf
        obtain ⟨kws', fd', F'⟩ := t.fn y hy
        exact ⟨n, _, fd', y.ps, t.fnOk n y hy F', hr, t.mgs y hy, F'.kp, F'.bindsN (t.df y hy).bind⟩
    have hp : PassesOwn (model X.prog X.w) X.A X.env X.xe := by
      subst hX
      exact PassesOwn.leaving
    refine ⟨_, saysSs (B := ⟨φ, H, none⟩) x.fn.body g hp rfl o.ck, φ, XX, M, _, ⟨by rw [hcn]; exact sim, by rw [hcn]; exact start_env (N := x.N) rs, Ext.refl⟩, ?_⟩
    have hds : ds.length = x.fn.np := by rw [rs.length]; exact hl
    simp only [callF, o.find] at h
    rw [if_pos hds, hG, o.ns, hds.symm] at h
    rw [hcn]
    cases er : evSs G x.fn.body (ds.map some ++ List.replicate (x.N.length - ds.length) none) M with
    | bad => rw [er] at h; exact h
    | exn y M1 =>
      rw [er] at h
      simp only [bodyRes, finish] at h
      split at h
      · rename_i heq
        split at heq <;> cases heq
      · exact h.elim
      · exact h.elim
    | ok fl M1 =>
      rw [er] at h
      have fin : ∀ {d : D} {φ1 : List Addr} {H1 : Hp} {v : V}, (match finish M (.ok d M1) with
          | .ok d M' => ∀ φ' H' v, Sim ⟨K, w, mg⟩ φ' XX M' H' → Ext φ H φ' H' → R ⟨K, w, mg⟩ φ' XX H' d v → Q v H'
          | .exn _ _ => False
          | .bad => False) → Sim ⟨K, w, mg⟩ φ1 XX M1 H1 → Ext φ H φ1 H1 → R ⟨K, w, mg⟩ φ1 XX H1 d v → Q v H1 := fun {d φ1 H1 v} h s1 x1 r1 => by
        cases ef : finish M (.ok d M1) with
        | bad => rw [ef] at h; exact h.elim
        | exn y M2 => rw [ef] at h; exact h.elim
        | ok d' M' =>
          rw [ef] at h
          obtain ⟨k1, k2, k3⟩ := finish_ok sim s1 x1 r1 ef
          exact h φ H1 v k1 k2 k3
      cases fl with
      | nx env' => exact fun φ1 σ1 H1 s1 _ x1 => fin h s1 x1 .non
      | ret d => exact fun φ1 H1 v s1 x1 r1 => fin h s1 x1 r1
      | brk env' => exact h.elim
      | cnt env' => exact h.elim
end
end Mi
set_option Elab.async false
set_option linter.all false
set_option maxRecDepth 100000
set_option maxHeartbeats 0
/-! Mi17: what the top has left, checked; a law's walk. -/
namespace Mi
open PySem PySem.Spec PyProof.Rows L2
/-! ### constants -/
def sv : D → Option V
  | .non => some .non
  | .bl b => some (.bl b)
  | .int i => some (.int i)
  | .str x => some (.str x)
  | _ => none
def svs : List D → Option (List V)
  | [] => some []
  | d :: ds => match sv d, svs ds with
    | some v, some vs => some (v :: vs)
    | _, _ => none
theorem sv_ok {C : Cn} {φ X : List Addr} {H : Hp} {d : D} {v : V} (h : sv d = some v) : R C φ X H d v := by
  cases d <;> cases h
  · exact .non
  · exact .bl _
  · exact .int _
  · exact .str _
theorem svs_ok {C : Cn} {φ X : List Addr} {H : Hp} : ∀ {ds : List D} {vs : List V}, svs ds = some vs → Rs C φ X H ds vs
  | [], _, h => by cases h; exact .nil
  | d :: ds, vs, h => by
    unfold svs at h
    cases e1 : sv d with
    | none => rw [e1] at h; cases h
    | some v =>
      cases e2 : svs ds with
      | none => rw [e1, e2] at h; cases h
      | some us =>
        rw [e1, e2] at h
        cases h
        exact .cons (sv_ok e1) (svs_ok e2)
/-- the values of a written dict, in order -/
def dvals (K : PySem.W.Frag) (a : Addr) : Option (List DictEntry) := match K.lookup a with
  | some ⟨_, _, .dict es _, _⟩ => some es.toList
  | _ => none
def tabB (p : Params) (K : PySem.W.Frag) (a : Addr) (ks : List Str) (ds : List D) : Prop :=
  He.dicW K a = some (He.keysIn p ks) ∧ (match dvals K a, svs ds with
    | some es, some vs => He.relAll vs (es.map (·.val))
    | _, _ => false) = true
theorem find_at {p : Params} : ∀ {es : List DictEntry} {ks : List Str} {vs : List V}, es.map He.keyOf = He.keysIn p ks → Vals vs (es.map (·.val)) → ∀ z : Str, ∃ r, (match es.find? (·.key.isStr z) with
      | some e => some (some e.val)
      | none => if es.any (·.refKey) then none else some none) = some r ∧ RelO ((ks.zip vs).lookup z) r
  | [], [], _, _, _, z => ⟨none, rfl, by simp [RelO]⟩
  | e :: es, k :: ks, v :: vs, h, .cons r rs, z => by
    have h1 : He.keyOf e :: es.map He.keyOf = some (k, PyData.keyHash p k) :: He.keysIn p ks := h
    injection h1 with h2 h3
    obtain ⟨t, ek⟩ : ∃ t, e.key = .str k t := by
      unfold He.keyOf at h2
      split at h2
      · rename_i x t q
        have h4 := Option.some.inj h2
        obtain ⟨h5, h6⟩ := Prod.mk.inj h4
        exact ⟨t, by rw [q, h5]⟩
      · cases h2
    obtain ⟨r', q1, q2⟩ := find_at h3 rs z
    by_cases hz : z = k
    · subst hz
      refine ⟨some e.val, ?_, ?_⟩
      · rw [List.find?_cons]
        have : e.key.isStr z = true := by rw [ek]; simp [Value.isStr]
        rw [this]
      · rw [List.zip_cons_cons, List.lookup_cons]
        simp only [beq_self_eq_true]
        exact r
    · refine ⟨r', ?_, ?_⟩
      · rw [List.find?_cons]
        have : e.key.isStr z = false := by rw [ek]; simp [Value.isStr]; exact fun w => hz w.symm
        rw [this, List.any_cons]
        have : e.refKey = false := by unfold DictEntry.refKey; rw [ek]
        rw [this, Bool.false_or]
        exact q1
      · rw [List.zip_cons_cons, List.lookup_cons]
        have : (z == k) = false := by simpa using hz
        rw [this]
        exact q2
  | [], _ :: _, _, h, _, _ => by cases h
  | _ :: _, [], _, h, _, _ => by cases h
theorem kd_ok {w : World} {K : PySem.W.Frag} {mg : Str → Option Value} {a : Addr} {ks : List Str} {ds : List D} (h1 : He.dicW K a = some (He.keysIn w.params ks)) {es : List DictEntry} {vs : List V} (h2 : dvals K a = some es) (h3 : svs ds = some vs) (h4 : He.relAll vs (es.map (·.val)) = true)
    (φ X : List Addr) (H : Hp) : R ⟨K, w, mg⟩ φ X H (.tab ks ds) (.ref a) := by
  obtain ⟨es', n, kd⟩ := He.dicW_ok (w := w) h1
  have hl := kd.at_
  have e : es = es'.toList := by
    unfold dvals at h2
    rw [hl] at h2
    cases h2
    rfl
  subst e
  refine .tab ⟨⟨es', n, kd⟩, fun z => ?_⟩ (svs_ok h3)
  have hk : es'.toList.map He.keyOf = He.keysIn w.params ks := by
    unfold He.dicW at h1
    rw [hl] at h1
    simp only at h1
    split at h1
    · exact Option.some.inj h1
    · cases h1
  obtain ⟨r, q1, q2⟩ := find_at hk (He.relAll_ok h4) z
  refine ⟨r, ?_, q2⟩
  unfold PySem.W.nsIn
  rw [hl]
  exact q1
def glB (K : PySem.W.Frag) (q : Str × D) : Bool := match q.2 with
  | .tab _ ds => (match dvals K (He.ga K q.1), svs ds with
    | some es, some vs => He.relAll vs (es.map (·.val))
    | _, _ => false) && He.eqO (PySem.W.nsIn K mainGlobals q.1) (some (some (.ref (He.ga K q.1))))
  | d => match sv d, PySem.W.nsIn K mainGlobals q.1 with
    | some v, some (some u) => He.relB v u
    | _, _ => false
def tabsOf (gls : List (Str × D)) : List (Str × List Str) := gls.filterMap fun q => match q.2 with
  | .tab ks _ => some (q.1, ks)
  | _ => none
def faOf (tbl : List Df) : List He.Fa := tbl.map (fun x => He.Fa.glo x.fn.name) ++ btNames.map He.Fa.free
/-- what the top has left -/
structure HeadOk (tbl : List Df) (gls : List (Str × D)) (p : Params) (K : PySem.W.Frag) : Prop where
  says : He.obsD (faOf tbl) (tbl.map (·.d)) K = He.valD (tbl.map (·.d))
  cons : gls.all (glB K) = true
  tabs : ((tabsOf gls).map fun t => He.dicW K (He.ga K t.1)) = (tabsOf gls).map fun t => some (He.keysIn p t.2)
theorem map_eq_mem {α β : Type} {f g : α → β} : ∀ {l : List α}, l.map f = l.map g → ∀ x ∈ l, f x = g x
  | y :: l, h, x, hx => by
    simp only [List.map_cons, List.cons.injEq] at h
    rcases List.mem_cons.mp hx with z | z
    · rw [z]; exact h.1
    · exact map_eq_mem h.2 x z
theorem lookup_mem {d : D} {x : Str} : ∀ {gls : List (Str × D)}, gls.lookup x = some d → (x, d) ∈ gls
  | [], h => by cases h
  | (y, e) :: r, h => by
    rw [List.lookup_cons] at h
    cases hx : x == y with
    | true =>
      rw [hx] at h
      cases h
      rw [eq_of_beq hx]
      exact List.mem_cons_self
    | false =>
      rw [hx] at h
      exact List.mem_cons_of_mem _ (lookup_mem h)
theorem HeadOk.tabOk {tbl : List Df} {gls : List (Str × D)} {w : World} {K : PySem.W.Frag} {h : Heap} {mg : Str → Option Value} (c : HeadOk tbl gls w.params K) (hdf : ∀ x ∈ tbl, DfOk (tbl.map (·.fn)) x) (hno : gls.lookup ("" : Str) = none) (X : K.In h) (G : h.Ns mainGlobals mg) :
    TabOk K w mg tbl (fun x => gls.lookup x) := by
  have c' : He.SaysD (faOf tbl) (tbl.map (·.d)) K := c.says
  refine ⟨hdf, fun x hx => ?_, fun x hx => ?_, fun x hx => ?_, fun x d e => ?_, hno⟩
  · obtain ⟨fd, F⟩ := c'.defs (List.mem_map.mpr ⟨x, hx, rfl⟩)
    have e : x.d.dvs K = [] := by unfold He.DefD.dvs; rw [(hdf x hx).dfl]; rfl
    rw [e] at F
    exact ⟨_, fd, F⟩
  · have q := He.glo_ok X G (c'.facts (f := .glo x.fn.name) (List.mem_append_left _ (List.mem_map.mpr ⟨x, hx, rfl⟩)))
    rw [(hdf x hx).at_]
    exact q
  · exact He.free_ok X G (c'.facts (f := .free x) (List.mem_append_right _ (List.mem_map.mpr ⟨x, hx, rfl⟩)))
  · have hm := lookup_mem e
    have hb := List.all_eq_true.mp c.cons _ hm
    have scalar : ∀ {v : V}, sv d = some v → (match sv d, PySem.W.nsIn K mainGlobals x with
        | some v, some (some u) => He.relB v u
        | _, _ => false) = true → ∃ v u, mg x = some u ∧ RelV v u ∧ ∀ φ XX H, R ⟨K, w, mg⟩ φ XX H d v := fun {v} hv hb => by
      rw [hv] at hb
      cases e2 : PySem.W.nsIn K mainGlobals x with
      | none => rw [e2] at hb; cases hb
      | some r =>
        rw [e2] at hb
        cases r with
        | none => cases hb
        | some u => exact ⟨v, u, PySem.W.mg_of X G e2, He.relB_ok hb, fun φ XX H => sv_ok hv⟩
    cases d with
    | tab ks ds =>
      simp only [glB, Bool.and_eq_true] at hb
      obtain ⟨h1, h2⟩ := hb
      have h3 : He.dicW K (He.ga K x) = some (He.keysIn w.params ks) := map_eq_mem c.tabs (x, ks) (List.mem_filterMap.mpr ⟨_, hm, rfl⟩)
      cases e1 : dvals K (He.ga K x) with
      | none => rw [e1] at h1; cases h1
      | some es =>
        cases e2 : svs ds with
        | none => rw [e1, e2] at h1; cases h1
        | some vs =>
          rw [e1, e2] at h1
          exact ⟨.ref (He.ga K x), _, PySem.W.mg_of X G (He.eqO_ok h2), rfl, fun φ XX H => kd_ok h3 e1 e2 h1 φ XX H⟩
    | non => exact scalar rfl hb
    | bl b => exact scalar rfl hb
    | int i => exact scalar rfl hb
    | str z => exact scalar rfl hb
    | tup ds => cases hb
    | lst ds => cases hb
    | scr ds => cases hb
    | dic kvs => cases hb
    | ref n => cases hb
    | glo z => cases hb
/-! ### a law -/
/-- a list of at most n ints is handed in, True comes out -/
def spLaw (n : Nat) (K : PySem.W.Frag) : Sp := fun vs H Q _ => ∃ (a : Addr) (ns : List Int), vs = [.ref a] ∧ ns.length ≤ n ∧ SqL K H a (ns.map V.int) ∧ ∀ H', Q (.bl true) H'
theorem sim0 {C : Cn} {H : Hp} : Sim C [] [] [] H := ⟨rfl, List.nodup_nil, fun _ h => (List.not_mem_nil h).elim, fun _ _ _ h _ => by simp at h⟩
theorem rs_ints {C : Cn} {φ X : List Addr} {H : Hp} : ∀ ns : List Int, Rs C φ X H (ns.map D.int) (ns.map V.int)
  | [] => .nil
  | n :: ns => .cons (.int n) (rs_ints ns)
theorem law_walk {l : PySem.W.OpenLaw} {q : Program} {loose : List Str} {XP : (Str → Option Value) → Heap → Prop} {YP : World → Heap → Prop} {d : DefRec} {K : Params → PySem.W.Frag} (tbl : List Df) (gls : List (Str × D)) (W n : Nat) (hn : l.most = some 63) (hdf : d.params.defaults = [])
    (hY : ∀ (w : World) (h : Heap), YP w h → (K w.params).In h) (hr : Room n callerA) (hd : d.name = ("law" : Str)) (c : ∀ p, HeadOk tbl gls p (K p)) (hdfs : ∀ x ∈ tbl, DfOk (tbl.map (·.fn)) x) (hno : gls.lookup ("" : Str) = none)
    (x : Df) (hx : x ∈ tbl) (hxn : x.fn.name = ("law" : Str)) (hps : x.ps = [("script" : Str)])
    (run : ∀ ns : List Int, ns.length ≤ 63 → ∃ M, callF (tbl.map (·.fn)) (fun x => gls.lookup x) W n "law" [.scr (ns.map D.int)] [] = .ok (.bl true) M) :
    PySem.W.WalkO q loose XP YP l.row.toRowW d [] (fun f vs => PySem.call f vs) := by
  refine L2.walk_of (n := 63) (k := n) (x := "script") (K := K) (CX := fun _ => CX0) (sp := fun w => spLaw 63 (K w.params)) hn (by decide) hdf hr hY (fun w mg fa h KX G hm => ?_) (fun _ _ a ns hl _ hS => ⟨a, ns, rfl, hl, hS, fun _ => rfl⟩) fun _ _ _ _ _ z => z
  have t := (c w.params).tabOk hdfs hno KX G
  obtain ⟨kws, fd, F⟩ := t.fn x hx
  have e : fa = He.fAd (K w.params) x.d.at_ := by
    have q := t.mgs x hx
    rw [hxn, ← hd, hm] at q
    cases q
    rfl
  have o := hdfs x hx
  have np1 : x.fn.np = 1 := by rw [o.np, hps]; rfl
  subst e
  refine ⟨fd, fun s u => F.bindsA o.bind s [u] (by rw [hps]; rfl) |> fun z => by rw [hps] at z; exact z, fun base KB GB => ?_⟩
  have t' := (c w.params).tabOk hdfs hno KB GB
  have f := t'.fnOk (P := l.prog) (base := base) (W := W) n x hx F
  rw [hps] at f
  refine f.imp fun vs H Q E ⟨a, ns, e, hl, hS, hq⟩ => ?_
  obtain ⟨M, hrun⟩ := run ns hl
  subst e
  refine ⟨by rw [np1]; rfl, [], [], [], [.scr (ns.map D.int)], sim0, .cons (.scr ?_ (rs_ints ns)) .nil, ?_⟩
  · rcases hS with h | h
    · exact .inl ⟨h, List.not_mem_nil, List.not_mem_nil⟩
    · exact .inr h
  · rw [hxn, hrun]
    intro φ' H' v s' x' r'
    cases r'
    exact hq H'
end Mi
set_option Elab.async false
set_option linter.all false
set_option maxRecDepth 100000
set_option maxHeartbeats 0
/-! MiP1: the evaluator in plain Lean: what a call, a comprehension, a loop gives. -/
namespace Mi
open PySem PySem.Spec PyProof.Rows L2
/-! ### calls -/
theorem freeze_id {M : Mem} {L : Nat} : ∀ (k : Nat) (d : D), D.refsLt L d = true → freeze M L k d = d
  | 0, _, _ => rfl
  | k + 1, d, h => by
    cases d with
    | ref n =>
      unfold freeze
      rw [if_pos (of_decide_eq_true h)]
    | tup ds =>
      unfold freeze
      congr 1
      have go : ∀ ds : List D, D.refsLts L ds = true → ds.map (freeze M L k) = ds := by
        intro ds
        induction ds with
        | nil => intro _; rfl
        | cons d ds ih =>
          intro h
          simp only [D.refsLts, Bool.and_eq_true] at h
          rw [List.map_cons, freeze_id k d h.1, ih h.2]
      exact go ds h
    | _ => rfl
theorem kept_same {L : Nat} {M : Mem} : ∀ k, keptFrom L M M k = true
  | 0 => rfl
  | k + 1 => by unfold keptFrom; rw [kept_same k]; simp
theorem finish_same {M : Mem} {d : D} (h : D.refsLt M.length d = true) : finish M (.ok d M) = .ok d M := by
  unfold finish
  simp only [freeze_id 3 d h, h, kept_same, Bool.and_self, if_true, List.take_length]
section
variable {T : List Fn} {gl : Str → Option D} {W n : Nat}
theorem callF_pure {x : Str} {ds : List D} {M : Mem} {f : Fn} {d : D} (hf : findFn x T = some f) (hl : ds.length = f.np) (h : evSs ⟨callF T gl W n, gl, W⟩ f.body (ds.map some ++ List.replicate (f.ns - f.np) none) M = .ok (.ret d) M) (hr : D.refsLt M.length d = true) :
    callF T gl W (n + 1) x ds M = .ok d M := by
  simp only [callF, hf]
  rw [if_pos hl, h]
  exact finish_same hr
theorem callF_none {x : Str} {ds : List D} {M : Mem} {f : Fn} {env : Env} (hf : findFn x T = some f) (hl : ds.length = f.np) (h : evSs ⟨callF T gl W n, gl, W⟩ f.body (ds.map some ++ List.replicate (f.ns - f.np) none) M = .ok (.nx env) M) :
    callF T gl W (n + 1) x ds M = .ok .non M := by
  simp only [callF, hf]
  rw [if_pos hl, h]
  exact finish_same rfl
end
/-! ### comprehensions over frozen things -/
theorem compL_map {α : Type} {enc : α → D} {f : D → Mem → Res (Option D)} {g : α → Option D} {M : Mem} : ∀ {l : List α}, (∀ a ∈ l, f (enc a) M = .ok (g a) M) → compL f (still ⟨[], l.map enc⟩) (l.map enc) M = .ok (l.filterMap g) M := by
  have go : ∀ (ok : Mem → Bool), (∀ M, ok M = true) → ∀ l : List α, (∀ a ∈ l, f (enc a) M = .ok (g a) M) → compL f ok (l.map enc) M = .ok (l.filterMap g) M := by
    intro ok hok l
    induction l with
    | nil => intro _; simp [compL, hok]
    | cons a l ih =>
      intro h
      rw [List.map_cons, compL, if_pos (hok M), h a List.mem_cons_self, Res.bind_ok, ih fun b hb => h b (List.mem_cons_of_mem _ hb), Res.bind_ok]
      cases e : g a with
      | none => rw [List.filterMap_cons_none e]; rfl
      | some d => rw [List.filterMap_cons_some e]; rfl
  intro l h
  exact go _ (fun _ => rfl) l h
/-! ### what the operations give -/
section
variable {M : Mem} {a b : Int} {x y : Str} {d e : D} {ds es : List D}
@[simp] theorem p_eqI : op2 .eq (.int a) (.int b) M = .ok (.bl (decide (a = b))) M := by simp [op2, eqOp, eqD, flatEq]
@[simp] theorem p_neI : op2 .ne (.int a) (.int b) M = .ok (.bl (!decide (a = b))) M := by
  simp only [op2, eqOp, eqD, flatEq]
  cases decide (a = b) <;> rfl
@[simp] theorem p_eqS : op2 .eq (.str x) (.str y) M = .ok (.bl (decide (x = y))) M := by simp [op2, eqOp, eqD, flatEq]
@[simp] theorem p_neS : op2 .ne (.str x) (.str y) M = .ok (.bl (!decide (x = y))) M := by
  simp only [op2, eqOp, eqD, flatEq]
  cases decide (x = y) <;> rfl
@[simp] theorem p_add : op2 .add (.int a) (.int b) M = .ok (.int (a + b)) M := rfl
@[simp] theorem p_sub : op2 .sub (.int a) (.int b) M = .ok (.int (a - b)) M := rfl
@[simp] theorem p_lt : op2 .lt (.int a) (.int b) M = .ok (.bl (decide (a < b))) M := rfl
@[simp] theorem p_le : op2 .le (.int a) (.int b) M = .ok (.bl (decide (a ≤ b))) M := rfl
@[simp] theorem p_gt : op2 .gt (.int a) (.int b) M = .ok (.bl (decide (b < a))) M := rfl
@[simp] theorem p_ge : op2 .ge (.int a) (.int b) M = .ok (.bl (decide (b ≤ a))) M := rfl
theorem atI_get {α : Type} {xs : List α} {i : Int} (h : 0 ≤ i) : L2.atI xs i = xs[i.toNat]? := by
  unfold L2.atI L2.ixN
  rw [if_pos h]
  by_cases hi : i < xs.length
  · rw [if_pos hi]; rfl
  · rw [if_neg hi, List.getElem?_eq_none (by omega)]; rfl
@[simp] theorem p_itemT {i : Int} (h : 0 ≤ i) : op2 .item (.tup ds) (.int i) M = match ds[i.toNat]? with
    | some d => .ok d M
    | none => .bad := by
  simp only [op2, itemD, view, atI_get h]
  all_goals (cases ds[i.toNat]? <;> rfl)
@[simp] theorem p_itemL {i : Int} (h : 0 ≤ i) : op2 .item (.lst ds) (.int i) M = match ds[i.toNat]? with
    | some d => .ok d M
    | none => .bad := by
  simp only [op2, itemD, view, atI_get h]
  all_goals (cases ds[i.toNat]? <;> rfl)
@[simp] theorem bindOk {α β : Type} {v : α} {f : α → Mem → Res β} : (Res.ok v M).bind f = f v M := (rfl)
@[simp] theorem noX_ok (d : D) : (Res.ok d M).noX = .ok d M := rfl
@[simp] theorem p_isNon : op2 .is d .non M = .ok (.bl (decide (d = .non))) M := by
  simp only [op2, isOp]
  cases d <;> simp [isB]
end
/-! ### comprehensions, by types -/
section
variable {G : Ce} {k : IK} {es : MEs} {t : MT} {own : List Nat} {c e : ME} {env : Env} {M : Mem}
theorem ev_comp {α β : Type} {enc : α → D} (g : α → Option β) (h : β → D) {l : List α} {xs : List β} (hx : l.filterMap g = xs) (hit : itR G k es env M = .ok ⟨[], l.map enc⟩ M) (hl : l.length ≤ SL) (ht : ∀ a ∈ l, compT (evE G c) (evE G e) t (wipeE env own) (enc a) M = .ok ((g a).map h) M) :
    evE G (.comp k es t own c e) env M = .ok (.lst (xs.map h)) M := by
  show (itR G k es env M).bind _ = _
  rw [hit, bindOk]
  unfold compR
  rw [if_pos (by simpa using hl), compL_map ht, bindOk, ← hx, List.map_filterMap]
theorem it_seq {a : ME} {d : D} {ds : List D} (h : evE G a env M = .ok d M) (hs : seqD M d = some ⟨[], ds⟩) : itR G .seq (.cons a .nil) env M = .ok ⟨[], ds⟩ M := by
  show (evEs G _ env M).bind _ = _
  rw [ev1, h, bindOk]
  show okIt M (seqD M d) = _
  rw [hs]
  rfl
theorem it_enum {a : ME} {d : D} {ds : List D} (h : evE G a env M = .ok d M) (hs : enuD M d = some ⟨[], ds⟩) : itR G .enum (.cons a .nil) env M = .ok ⟨[], ds⟩ M := by
  show (evEs G _ env M).bind _ = _
  rw [ev1, h, bindOk]
  show okIt M (enuD M d) = _
  rw [hs]
  rfl
theorem it_range {a : ME} {j : Int} (h : evE G a env M = .ok (.int j) M) (hj : 0 ≤ j) (hk : j < 2 ^ 62) : itR G .range (.cons a .nil) env M = .ok ⟨[], (List.range j.toNat).map fun k => .int (k : Nat)⟩ M := by
  show (evEs G _ env M).bind _ = _
  rw [ev1, h, bindOk]
  show (if inR j then _ else _) = _
  rw [if_pos (by unfold inR; simp only [Bool.and_eq_true, decide_eq_true_eq]; omega)]
  unfold rangeD
  simp
end
theorem enumD_map {α : Type} [Inhabited α] (enc : α → D) (l : List α) : enumD (l.map enc) = (List.range l.length).map fun k => .tup [.int (k : Nat), enc (l.getD k default)] := by
  apply List.ext_getElem?
  intro i
  by_cases hi : i < l.length
  · have h1 : (l.map enc)[i]? = some (enc (l.getD i default)) := by
      rw [List.getElem?_map, List.getD_eq_getElem?_getD, List.getElem?_eq_getElem hi]; rfl
    rw [enumD_get h1, List.getElem?_map, List.getElem?_range hi]
    rfl
  · rw [List.getElem?_eq_none (by rw [enumD_length]; simpa using hi), List.getElem?_eq_none (by simpa using hi)]
/-! ### a for whose source stands still -/
theorem forL_inv {f : D → Env → Mem → Res Fl} {ok : Mem → Bool} {ds : List D} {I : Nat → Env → Mem → Prop} (hok : ∀ i env M, I i env M → ok M = true)
    (step : ∀ i d env M, ds[i]? = some d → I i env M → ∃ env' M', f d env M = .ok (.nx env') M' ∧ I (i + 1) env' M') {env : Env} {M : Mem} (h0 : I 0 env M) :
    ∃ env' M', forL f ok ds env M = .ok (.nx env') M' ∧ I ds.length env' M' := by
  have go : ∀ (l : List D) (i : Nat) (env : Env) (M : Mem), ds.drop i = l → I i env M → ∃ env' M', forL f ok l env M = .ok (.nx env') M' ∧ I (i + l.length) env' M' := by
    intro l
    induction l with
    | nil =>
      intro i env M _ h
      exact ⟨env, M, by rw [forL, if_pos (hok i env M h)], h⟩
    | cons d l ih =>
      intro i env M e h
      have hd : ds[i]? = some d := by
        have := congrArg (fun z => z[0]?) e
        simpa using this
      obtain ⟨env1, M1, h1, h2⟩ := step i d env M hd h
      have e2 : ds.drop (i + 1) = l := by
        rw [← List.drop_drop, e]
        rfl
      obtain ⟨env2, M2, h3, h4⟩ := ih (i + 1) env1 M1 e2 h2
      refine ⟨env2, M2, ?_, by rw [List.length_cons]; rw [show i + (l.length + 1) = i + 1 + l.length by omega]; exact h4⟩
      rw [forL, if_pos (hok i env M h), h1, bindOk]
      exact h3
  obtain ⟨env', M', h1, h2⟩ := go ds 0 env M rfl h0
  exact ⟨env', M', h1, by simpa using h2⟩
/-! ### equality of plain data -/
def Sh : Nat → D → Bool
  | _, .non => true
  | _, .int _ => true
  | _, .str x => (PyData.str x).canLay0
  | k + 1, .tup ds => ds.all (Sh k)
  | k + 1, .lst ds => ds.all (Sh k)
  | _, _ => false
theorem sh_lay : ∀ (k : Nat) (d : D), Sh k d = true → d.py.canLay0 = true ∧ d.py.depth ≤ k
  | k, d, h => by
    have many : ∀ (j : Nat), j < k → ∀ ds : List D, ds.all (Sh j) = true → PyData.canLayAll0 (D.pys ds) = true ∧ PyData.depthAll (D.pys ds) ≤ j := by
      intro j hj ds
      induction ds with
      | nil => intro _; exact ⟨rfl, Nat.zero_le _⟩
      | cons d ds ih =>
        intro h
        rw [List.all_cons, Bool.and_eq_true] at h
        obtain ⟨h1, h2⟩ := sh_lay j d h.1
        obtain ⟨h3, h4⟩ := ih h.2
        exact ⟨by show (PyData.canLay0 _ && PyData.canLayAll0 _) = true; rw [h1, h3]; rfl, Nat.max_le.mpr ⟨h2, h4⟩⟩
    cases d with
    | non => exact ⟨rfl, Nat.zero_le _⟩
    | int i => exact ⟨rfl, Nat.zero_le _⟩
    | str x => cases k <;> exact ⟨h, Nat.zero_le _⟩
    | tup ds =>
      cases k with
      | zero => cases h
      | succ k =>
        obtain ⟨h1, h2⟩ := many k (Nat.lt_succ_self k) ds h
        exact ⟨h1, Nat.succ_le_succ h2⟩
    | lst ds =>
      cases k with
      | zero => cases h
      | succ k =>
        obtain ⟨h1, h2⟩ := many k (Nat.lt_succ_self k) ds h
        exact ⟨h1, Nat.succ_le_succ h2⟩
    | _ => cases k <;> cases h
theorem sh_eqv : ∀ (k : Nat) (d e : D), Sh k d = true → Sh k e = true → PyData.eqv d.py e.py = decide (d = e)
  | k, d, e, hd, he => by
    have many : ∀ (j : Nat), j < k → ∀ ds es : List D, ds.all (Sh j) = true → es.all (Sh j) = true → PyData.eqvAll (D.pys ds) (D.pys es) = decide (ds = es) := by
      intro j hj ds
      induction ds with
      | nil =>
        intro es _ _
        cases es <;> simp [D.pys, PyData.eqvAll]
      | cons d ds ih =>
        intro es h1 h2
        cases es with
        | nil => simp [D.pys, PyData.eqvAll]
        | cons e es =>
          rw [List.all_cons, Bool.and_eq_true] at h1 h2
          show (PyData.eqv _ _ && PyData.eqvAll _ _) = _
          rw [sh_eqv j d e h1.1 h2.1, ih es h1.2 h2.2]
          simp [Bool.decide_and]
    cases d with
    | tup ds =>
      cases k with
      | zero => cases hd
      | succ k =>
        cases e with
        | tup es =>
          show PyData.eqvAll _ _ = _
          rw [many k (Nat.lt_succ_self k) ds es hd he]
          simp
        | lst es => simp [D.py, PyData.eqv]
        | non => simp [D.py, PyData.eqv]
        | int i => simp [D.py, PyData.eqv]
        | str x => simp [D.py, PyData.eqv]
        | _ => cases he
    | lst ds =>
      cases k with
      | zero => cases hd
      | succ k =>
        cases e with
        | lst es =>
          show PyData.eqvAll _ _ = _
          rw [many k (Nat.lt_succ_self k) ds es hd he]
          simp
        | tup es => simp [D.py, PyData.eqv]
        | non => simp [D.py, PyData.eqv]
        | int i => simp [D.py, PyData.eqv]
        | str x => simp [D.py, PyData.eqv]
        | _ => cases he
    | non => cases e <;> first | (cases k <;> cases he; done) | simp [D.py, PyData.eqv]
    | int i =>
      cases e <;> first
        | (cases k <;> cases he; done)
        | (simp [D.py, PyData.eqv]; done)
        | (simp [D.py, PyData.eqv, Bool.beq_eq_decide_eq]; done)
    | str x =>
      cases e <;> first
        | (cases k <;> cases he; done)
        | (simp [D.py, PyData.eqv]; done)
        | (simp [D.py, PyData.eqv, Bool.beq_eq_decide_eq]; done)
    | _ => cases k <;> cases hd
theorem sh_shaped {k : Nat} {d : D} (hk : k ≤ 64) (h : Sh k d = true) : SeqAt.shaped d.py = true := by
  obtain ⟨h1, h2⟩ := sh_lay k d h
  unfold SeqAt.shaped
  rw [h1, decide_eq_true (by omega)]
  rfl
theorem sh_deref {k : Nat} {d : D} {M : Mem} (h : Sh k d = true) : deref M d = d := by
  cases d <;> first | rfl | (cases k <;> cases h)
theorem flat_eq {d e : D} {r : Bool} (h : flatEq d e = some r) (hd : ∀ b, d ≠ .bl b) (he : ∀ b, e ≠ .bl b) : r = decide (d = e) := by
  cases d <;> cases e <;> first | (exact absurd rfl (hd _)) | (exact absurd rfl (he _)) | (simp [flatEq] at h; done) | (simp [flatEq] at h; subst h; rfl) | (simp [flatEq] at h; subst h; simp; done) | (simp [flatEq] at h; rw [← h]; simp; done)
theorem eqD_sh {k : Nat} {d e : D} {M : Mem} (hk : k ≤ 64) (hd : Sh k d = true) (he : Sh k e = true) : eqD M d e = some (decide (d = e)) := by
  have nb : ∀ {d : D}, Sh k d = true → ∀ b, d ≠ .bl b := fun h b z => by subst z; cases k <;> cases h
  unfold eqD
  cases hf : flatEq d e with
  | some r => rw [flat_eq hf (nb hd) (nb he)]
  | none =>
    rw [sh_deref hd, sh_deref he]
    simp only [sh_shaped hk hd, sh_shaped hk he, Bool.and_self, if_true, sh_eqv k d e hd he]
theorem p_eqSh {k : Nat} {d e : D} {M : Mem} (hk : k ≤ 64) (hd : Sh k d = true) (he : Sh k e = true) : op2 .eq d e M = .ok (.bl (decide (d = e))) M := by
  show eqOp false d e M = _
  unfold eqOp
  rw [eqD_sh hk hd he]
  simp
theorem p_neSh {k : Nat} {d e : D} {M : Mem} (hk : k ≤ 64) (hd : Sh k d = true) (he : Sh k e = true) : op2 .ne d e M = .ok (.bl (!decide (d = e))) M := by
  show eqOp true d e M = _
  unfold eqOp
  rw [eqD_sh hk hd he]
  cases decide (d = e) <;> rfl
/-! ### terms, one step -/
section
variable {G : Ce} {env : Env} {M : Mem} {a b c : ME} {ms : MEs}
@[simp] theorem e_var {i : Nat} : evE G (.var i) env M = match env[i]? with
  | some (some d) => .ok d M
  | _ => .bad := by (conv => lhs; unfold evE) <;> rfl
@[simp] theorem e_con {d : D} : evE G (.con d) env M = .ok d M := by (conv => lhs; unfold evE) <;> rfl
@[simp] theorem e_glo {x : Str} : evE G (.glo x) env M = match G.gl x with
  | some d => .ok d M
  | none => .bad := by (conv => lhs; unfold evE) <;> rfl
@[simp] theorem e_p1 {p : P1} : evE G (.p1 p a) env M = (evE G a env M).bind fun d M1 => op1 p d M1 := by (conv => lhs; unfold evE) <;> rfl
@[simp] theorem e_p2 {p : P2} : evE G (.p2 p a b) env M = (evE G a env M).bind fun d M1 => (evE G b env M1).bind fun e M2 => op2 p d e M2 := by (conv => lhs; unfold evE) <;> rfl
@[simp] theorem e_chain {p q : P2} : evE G (.chain p q a b c) env M = (evE G a env M).bind fun x M1 => (evE G b env M1).bind fun y M2 => (op2 p x y M2).bind fun r M3 => match r with
    | .bl true => (evE G c env M3).bind fun z M4 => op2 q y z M4
    | .bl false => .ok (.bl false) M3
    | _ => .bad := by (conv => lhs; unfold evE) <;> rfl
@[simp] theorem e_and : evE G (.and a b) env M = (evE G a env M).bind fun d M1 => match d with
    | .bl true => evE G b env M1
    | .bl false => .ok (.bl false) M1
    | _ => .bad := by (conv => lhs; unfold evE) <;> rfl
@[simp] theorem e_or : evE G (.or a b) env M = (evE G a env M).bind fun d M1 => match d with
    | .bl false => evE G b env M1
    | .bl true => .ok (.bl true) M1
    | _ => .bad := by (conv => lhs; unfold evE) <;> rfl
@[simp] theorem e_not : evE G (.not a) env M = (evE G a env M).bind fun d M1 => match d with
    | .bl b => .ok (.bl (!b)) M1
    | _ => .bad := by (conv => lhs; unfold evE) <;> rfl
@[simp] theorem e_ife : evE G (.ife c a b) env M = (evE G c env M).bind fun d M1 => match d with
    | .bl true => evE G a env M1
    | .bl false => evE G b env M1
    | _ => .bad := by (conv => lhs; unfold evE) <;> rfl
@[simp] theorem e_tup : evE G (.tup ms) env M = (evEs G ms env M).bind fun ds M1 => if ds.length ≤ SL then .ok (.tup ds) M1 else .bad := by (conv => lhs; unfold evE) <;> rfl
@[simp] theorem e_lst : evE G (.lst ms) env M = (evEs G ms env M).bind fun ds M1 => if ds.length ≤ SL then .ok (.lst ds) M1 else .bad := by (conv => lhs; unfold evE) <;> rfl
@[simp] theorem e_dic0 : evE G .dic0 env M = .ok (.dic []) M := by (conv => lhs; unfold evE) <;> rfl
@[simp] theorem e_isi {ts : List String} : evE G (.isi a ts) env M = (evE G a env M).bind fun d M1 => match isTys M1 d ts with
    | some b => .ok (.bl b) M1
    | none => .bad := by (conv => lhs; unfold evE) <;> rfl
@[simp] theorem e_sli : evE G (.sli a b c) env M = (evE G a env M).bind fun d M1 => (evE G b env M1).bind fun l M2 => match bndOf b.isNon l with
    | some lb => (evE G c env M2).bind fun h M3 => sliD d (some lb) (bndOf c.isNon h) M3
    | none => .bad := by (conv => lhs; unfold evE) <;> rfl
@[simp] theorem e_rev : evE G (.rev a) env M = (evE G a env M).bind fun d M1 => revD d M1 := by (conv => lhs; unfold evE) <;> rfl
@[simp] theorem e_call {f : Str} : evE G (.call f ms) env M = (evEs G ms env M).bind fun ds M1 => G.call f ds M1 := by (conv => lhs; unfold evE) <;> rfl
theorem e_scomp : evE G (.scomp a) env M = (evE G a env M).bind fun d M1 => match d with
    | .lst ds => sortSet ds M1
    | _ => .bad := by (conv => lhs; unfold evE) <;> rfl
@[simp] theorem e_new : evE G (.new a) env M = (evE G a env M).bind fun d M1 => newD d M1 := by (conv => lhs; unfold evE) <;> rfl
@[simp] theorem e_nil : evEs G .nil env M = .ok [] M := by (conv => lhs; unfold evEs) <;> rfl
@[simp] theorem e_cons : evEs G (.cons a ms) env M = (evE G a env M).bind fun d M1 => (evEs G ms env M1).bind fun ds M2 => .ok (d :: ds) M2 := by (conv => lhs; unfold evEs) <;> rfl
end
@[simp] theorem still_nil {ds : List D} {M : Mem} : still ⟨[], ds⟩ M = true := rfl
/-! ### statements, one step -/
section
variable {G : Ce} {env : Mi.Env} {M : Mem} {a b c : ME} {ms : MEs} {s : MS} {ss ss' : MSs}
@[simp] theorem z_nil : evSs G .nil env M = .ok (.nx env) M := by (conv => lhs; unfold evSs) <;> rfl
@[simp] theorem z_cons : evSs G (.cons s ss) env M = (evS G s env M).bind fun fl M1 => match fl with
    | .nx env' => evSs G ss env' M1
    | fl => .ok fl M1 := by (conv => lhs; unfold evSs) <;> rfl
@[simp] theorem z_asg {t : MT} : evS G (.asg t a) env M = (evE G a env M).bind fun d M1 => match asgT t d env with
    | some env' => .ok (.nx env') M1
    | none => .bad := by (conv => lhs; unfold evS) <;> rfl
@[simp] theorem z_par {is : List Nat} : evS G (.par is ms) env M = (evEs G ms env M).bind fun ds M1 => match setMany is ds env with
    | some env' => .ok (.nx env') M1
    | none => .bad := by (conv => lhs; unfold evS) <;> rfl
@[simp] theorem z_setI : evS G (.setI a b c) env M = (evE G c env M).bind fun d M1 => (evE G a env M1).bind fun x M2 => (evE G b env M2).bind fun k M3 => toFl (setD x k d M3) env := by (conv => lhs; unfold evS) <;> rfl
@[simp] theorem z_app : evS G (.app a b) env M = (evE G a env M).bind fun x M1 => if lstAt x M1 then (evE G b env M1).bind fun d M2 => toFl (appD x d M2) env else .bad := by (conv => lhs; unfold evS) <;> rfl
@[simp] theorem z_ext : evS G (.ext a b) env M = (evE G a env M).bind fun x M1 => if lstAt x M1 then (evE G b env M1).bind fun d M2 => toFl (extD x d M2) env else .bad := by (conv => lhs; unfold evS) <;> rfl
@[simp] theorem z_expr : evS G (.expr a) env M = (evE G a env M).bind fun _ M1 => .ok (.nx env) M1 := by (conv => lhs; unfold evS) <;> rfl
@[simp] theorem z_ite : evS G (.ite c ss ss') env M = (evE G c env M).bind fun d M1 => match d with
    | .bl true => evSs G ss env M1
    | .bl false => evSs G ss' env M1
    | _ => .bad := by (conv => lhs; unfold evS) <;> rfl
@[simp] theorem z_ret : evS G (.ret a) env M = (evE G a env M).bind fun d M1 => .ok (.ret d) M1 := by (conv => lhs; unfold evS) <;> rfl
@[simp] theorem z_retN : evS G .retN env M = .ok (.ret .non) M := by (conv => lhs; unfold evS) <;> rfl
@[simp] theorem z_pas : evS G .pas env M = .ok (.nx env) M := by (conv => lhs; unfold evS) <;> rfl
@[simp] theorem z_raise {x : Str} : evS G (.raise x ms) env M = .bad := by (conv => lhs; unfold evS) <;> rfl
theorem z_for {k : IK} {t : MT} {its : Mi.Its} {M1 : Mem} (h : itR G k ms env M = .ok its M1) : evS G (.for_ k ms t ss) env M = forL (forT (evSs G ss) t) (still its) its.ds env M1 := by
  have e : evS G (.for_ k ms t ss) env M = (itR G k ms env M).bind fun its M2 => forL (forT (evSs G ss) t) (still its) its.ds env M2 := by (conv => lhs; unfold evS) <;> rfl
  rw [e, h]
  rfl
end
/-! ### what a call has made is dropped at its end -/
theorem kept_app {M N : Mem} : ∀ k, k ≤ M.length → keptFrom M.length M (M ++ N) k = true
  | 0, _ => rfl
  | k + 1, h => by
    unfold keptFrom
    rw [kept_app k (by omega), List.getElem?_append_left (by omega)]
    simp
theorem finish_app {M N : Mem} {d : D} (h : D.refsLt M.length d = true) : finish M (.ok d (M ++ N)) = .ok d M := by
  unfold finish
  simp only [freeze_id 3 d h, h, kept_app M.length (Nat.le_refl _), Bool.and_self, if_true]
  rw [List.take_left]
theorem callF_alloc {T : List Fn} {gl : Str → Option D} {W n : Nat} {x : Str} {ds : List D} {M N : Mem} {f : Fn} {d : D} (hf : findFn x T = some f) (hl : ds.length = f.np) (h : evSs ⟨callF T gl W n, gl, W⟩ f.body (ds.map some ++ List.replicate (f.ns - f.np) none) M = .ok (.ret d) (M ++ N)) (hr : D.refsLt M.length d = true) :
    callF T gl W (n + 1) x ds M = .ok d M := by
  simp only [callF, hf]
  rw [if_pos hl, h]
  exact finish_app hr
/-! ### sorted -/
theorem sorted_gen {α : Type} {enc : α → D} {l : List α} {d : D} {M : Mem} (hv : lview M d = some (l.map enc)) (hl : l.length ≤ SL) (alk : ∀ a b, PySem.W.alike (enc a).py (enc b).py = true) (kind : (∀ a, isTupC (enc a).py = true) ∨ (∀ a, isPlainS (enc a).py = true)) (sh : ∀ a ∈ l, SeqAt.shaped (enc a).py = true) :
    op1 .sorted d M = .ok (.lst ((l.mergeSort fun a b => PySem.W.dataLe false D.py (enc a) (enc b)).map enc)) M := by
  have ok : okSort (l.map enc) = true := by
    unfold okSort
    simp only [Bool.and_eq_true, decide_eq_true_eq, List.all_eq_true, List.mem_map, Bool.or_eq_true]
    refine ⟨by simpa using hl, ?_, ?_, ?_⟩
    · rintro _ ⟨a, _, rfl⟩ _ ⟨b, _, rfl⟩
      exact alk a b
    · rcases kind with k | k
      · left
        rintro _ ⟨a, _, rfl⟩
        exact k a
      · right
        rintro _ ⟨a, _, rfl⟩
        exact k a
    · rintro _ ⟨a, h, rfl⟩
      exact sh a h
  simp only [op1, hv, ok, if_true]
  unfold sortD
  rw [List.map_mergeSort (f := enc) (s := PySem.W.dataLe false D.py) (r := fun a b => PySem.W.dataLe false D.py (enc a) (enc b)) fun a _ b _ => rfl]
def leI (a b : Int) : Bool := decide (a ≤ b)
def sortI (xs : List Int) : List Int := xs.mergeSort leI
theorem sorted_ints {xs : List Int} {d : D} {M : Mem} (hv : lview M d = some (xs.map D.int)) (hl : xs.length ≤ SL) : op1 .sorted d M = .ok (.lst ((sortI xs).map D.int)) M := by
  rw [sorted_gen hv hl (fun _ _ => rfl) (.inr fun _ => rfl) (fun a _ => sh_shaped (k := 0) (by decide) rfl)]
  have e : (fun a b : Int => PySem.W.dataLe false D.py (.int a) (.int b)) = leI := by
    funext a b
    show (!PySem.W.dataLt (.int b) (.int a)) = _
    rw [PySem.W.dataLt_int, PySem.W.not_lt_int]
    rfl
  rw [e]
  rfl
theorem sorted_strs {xs : List Str} {d : D} {M : Mem} (hv : lview M d = some (xs.map D.str)) (hl : xs.length ≤ SL) (hs : ∀ x ∈ xs, (PyData.str x).canLay0 = true) : op1 .sorted d M = .ok (.lst ((sortS xs).map D.str)) M := by
  rw [sorted_gen hv hl (fun _ _ => rfl) (.inr fun _ => rfl) (fun a h => sh_shaped (k := 0) (by decide) (hs a h))]
  have e : (fun a b : Str => PySem.W.dataLe false D.py (.str a) (.str b)) = leS := by
    funext a b
    show (!PySem.W.dataLt (.str b) (.str a)) = _
    rw [PySem.W.dataLt_str, PySem.W.not_lt_str]
    rfl
  rw [e]
  rfl
theorem leI_trans (a b c : Int) : leI a b = true → leI b c = true → leI a c = true := by
  unfold leI
  simp only [decide_eq_true_eq]
  omega
theorem leI_total (a b : Int) : (leI a b || leI b a) = true := by
  unfold leI
  simp only [Bool.or_eq_true, decide_eq_true_eq]
  omega
theorem sortI_perm {xs ys : List Int} (h : xs.Perm ys) : sortI xs = sortI ys := by
  refine List.Perm.eq_of_pairwise (le := fun a b => leI a b = true) (fun a b _ _ h1 h2 => ?_) (List.pairwise_mergeSort leI_trans leI_total xs) (List.pairwise_mergeSort leI_trans leI_total ys) ?_
  · unfold leI at h1 h2
    simp only [decide_eq_true_eq] at h1 h2
    omega
  · exact (List.mergeSort_perm xs leI).trans (h.trans (List.mergeSort_perm ys leI).symm)
/-! ### sets of texts -/
theorem strsD_map : ∀ xs : List Str, strsD (xs.map D.str) = some xs
  | [] => rfl
  | x :: xs => by
    show (strsD (xs.map D.str)).map (x :: ·) = _
    rw [strsD_map xs]
    rfl
theorem setS_mem {x : Str} (xs : List Str) : x ∈ setS xs ↔ x ∈ xs := by
  have go : ∀ (xs acc : List Str), x ∈ xs.foldl (fun acc z => if z ∈ acc then acc else z :: acc) acc ↔ x ∈ acc ∨ x ∈ xs := by
    intro xs
    induction xs with
    | nil => intro acc; simp
    | cons y xs ih =>
      intro acc
      rw [List.foldl_cons, ih]
      split
      · rename_i h
        constructor
        · rintro (k | k)
          · exact .inl k
          · exact .inr (List.mem_cons_of_mem _ k)
        · rintro (k | k)
          · exact .inl k
          · rcases List.mem_cons.mp k with z | z
            · rw [z]; exact .inl h
            · exact .inr z
      · simp only [List.mem_cons]
        constructor
        · rintro ((k | k) | k)
          · exact .inr (.inl k)
          · exact .inl k
          · exact .inr (.inr k)
        · rintro (k | k | k)
          · exact .inl (.inr k)
          · exact .inl (.inl k)
          · exact .inr k
  have := go xs []
  simpa [setS] using this
theorem setS_nodup (xs : List Str) : (setS xs).Nodup := by
  have go : ∀ (xs acc : List Str), acc.Nodup → (xs.foldl (fun acc z => if z ∈ acc then acc else z :: acc) acc).Nodup := by
    intro xs
    induction xs with
    | nil => intro acc h; exact h
    | cons y xs ih =>
      intro acc h
      rw [List.foldl_cons]
      split
      · exact ih acc h
      · rename_i hn
        exact ih _ (List.nodup_cons.mpr ⟨hn, h⟩)
  exact go xs [] List.nodup_nil
theorem sortS_ext {xs ys : List Str} (hx : xs.Nodup) (hy : ys.Nodup) (h : ∀ z, z ∈ xs ↔ z ∈ ys) : sortS xs = sortS ys :=
  sortS_perm ((List.perm_ext_iff_of_nodup hx hy).mpr h)
/-! ### the last thing of the store -/
section
variable {M : Mem} {x : List D} {d : D}
theorem last_at {o : O} : (M ++ [o])[M.length]? = some o := by simp
@[simp] theorem lst_last : lstAt (.ref M.length) (M ++ [.lst x]) = true := by simp [lstAt]
@[simp] theorem view_last : view (M ++ [.lst x]) (.ref M.length) = some x := by simp [view]
theorem app_last (h : x.length < SL) : appD (.ref M.length) d (M ++ [.lst x]) = .ok () (M ++ [.lst (x ++ [d])]) := by
  simp [appD, h]
theorem ext_last {es : List D} (h : x.length + es.length ≤ SL) : extD (.ref M.length) (.lst es) (M ++ [.lst x]) = .ok () (M ++ [.lst (x ++ es)]) := by
  simp [extD, h]
@[simp] theorem tup_last : op1 .tuple (.ref M.length) (M ++ [.lst x]) = .ok (.tup x) (M ++ [.lst x]) := by
  simp [op1]
end
theorem flatMap_le {α β : Type} {f : α → List β} {k : Nat} : ∀ {l : List α}, (∀ a ∈ l, (f a).length ≤ k) → (l.flatMap f).length ≤ k * l.length
  | [], _ => by simp
  | a :: l, h => by
    rw [List.flatMap_cons, List.length_append, List.length_cons, Nat.mul_succ]
    have h1 := h a List.mem_cons_self
    have h2 := flatMap_le fun b hb => h b (List.mem_cons_of_mem _ hb)
    omega
theorem flatMap_take {α β : Type} {f : α → List β} {l : List α} {i : Nat} {a : α} (h : l[i]? = some a) : (l.take (i + 1)).flatMap f = (l.take i).flatMap f ++ f a := by
  rw [List.take_add_one, h]
  simp
theorem sortI_pair (xs : List Int) : (sortI xs).Pairwise fun a b => leI a b = true := List.pairwise_mergeSort leI_trans leI_total xs
theorem sortS_pair (xs : List Str) : (sortS xs).Pairwise fun a b => leS a b = true := List.pairwise_mergeSort leS_trans leS_total xs
theorem sortI_filter (p : Int → Bool) (xs : List Int) : (sortI xs).filter p = sortI (xs.filter p) := by
  refine List.Perm.eq_of_pairwise (le := fun a b => leI a b = true) (fun a b _ _ h1 h2 => ?_) ((sortI_pair xs).filter p) (sortI_pair _) ?_
  · unfold leI at h1 h2
    simp only [decide_eq_true_eq] at h1 h2
    omega
  · exact ((List.mergeSort_perm xs leI).filter p).trans (List.mergeSort_perm _ leI).symm
theorem sortS_filter (p : Str → Bool) (xs : List Str) : (sortS xs).filter p = sortS (xs.filter p) := by
  refine List.Perm.eq_of_pairwise (le := fun a b => leS a b = true) (fun a b _ _ h1 h2 => leS_anti a b h1 h2) ((sortS_pair xs).filter p) (sortS_pair _) ?_
  exact ((List.mergeSort_perm xs leS).filter p).trans (List.mergeSort_perm _ leS).symm
theorem sortI_mem {x : Int} {xs : List Int} : x ∈ sortI xs ↔ x ∈ xs := (List.mergeSort_perm xs leI).mem_iff
theorem sortS_mem {x : Str} {xs : List Str} : x ∈ sortS xs ↔ x ∈ xs := (List.mergeSort_perm xs leS).mem_iff
theorem sortI_len (xs : List Int) : (sortI xs).length = xs.length := (List.mergeSort_perm xs leI).length_eq
theorem sortS_len (xs : List Str) : (sortS xs).length = xs.length := (List.mergeSort_perm xs leS).length_eq
theorem sortI_ext {xs ys : List Int} (hx : xs.Nodup) (hy : ys.Nodup) (h : ∀ z, z ∈ xs ↔ z ∈ ys) : sortI xs = sortI ys :=
  sortI_perm ((List.perm_ext_iff_of_nodup hx hy).mpr h)
/-- the members in the order in which they are met -/
def uniq (xs : List Str) : List Str := xs.foldl (fun acc z => if z ∈ acc then acc else acc ++ [z]) []
theorem uniq_snoc (xs : List Str) (z : Str) : uniq (xs ++ [z]) = if z ∈ uniq xs then uniq xs else uniq xs ++ [z] := by
  unfold uniq
  rw [List.foldl_append]
  rfl
theorem uniq_ok (xs : List Str) : (uniq xs).Nodup ∧ (∀ z, z ∈ uniq xs ↔ z ∈ xs) ∧ (uniq xs).length ≤ xs.length := by
  have go : ∀ l : List Str, (uniq l.reverse).Nodup ∧ (∀ z, z ∈ uniq l.reverse ↔ z ∈ l.reverse) ∧ (uniq l.reverse).length ≤ l.reverse.length := by
    intro l
    induction l with
    | nil => exact ⟨List.nodup_nil, fun z => Iff.rfl, Nat.le_refl _⟩
    | cons x l ih =>
      obtain ⟨h1, h2, h3⟩ := ih
      rw [List.reverse_cons, uniq_snoc]
      split
      · rename_i hx
        refine ⟨h1, fun z => ?_, ?_⟩
        · rw [List.mem_append, h2]
          constructor
          · exact .inl
          · rintro (k | k)
            · exact k
            · rw [List.mem_singleton.mp k]; exact (h2 x).mp hx
        · rw [List.length_append]; exact Nat.le_trans h3 (by simp)
      · rename_i hx
        refine ⟨List.nodup_append.mpr ⟨h1, by simp, fun a ha b hb e => ?_⟩, fun z => ?_, ?_⟩
        · rw [List.mem_singleton.mp hb] at e
          exact hx (e ▸ ha)
        · rw [List.mem_append, List.mem_append, h2]
        · rw [List.length_append, List.length_append]; omega
  have := go xs.reverse
  rwa [List.reverse_reverse] at this
theorem sort_uniq (xs : List Str) : sortS (uniq xs) = sortS (setS xs) := by
  obtain ⟨h1, h2, _⟩ := uniq_ok xs
  exact sortS_ext h1 (setS_nodup xs) fun z => (h2 z).trans (setS_mem xs).symm
end Mi
set_option Elab.async false
set_option linter.all false
set_option maxRecDepth 100000
set_option maxHeartbeats 0
/-! G77: the bodies of k77's defs (printed by gen.py). -/
namespace G77
open PySem PySem.Spec PyProof.Rows L2 Mi
def top (i : Nat) : Stmt := PySem.Challenge.pw_linesure_k77_what_records_tell.main.body.getD i (.Pass ⟨0, 0, 0, 0⟩)
def str_1 : Str := "abcdefghijklmnopqrstuvwxyz"
def b_is_whole : MSs := (.cons (.ret (.and (.isi (.var 0) ["int"]) (.not (.isi (.var 0) ["bool"])))) .nil)
def f_is_whole : Fn := ⟨"is_whole", 1, 1, b_is_whole⟩
def d_is_whole : He.DefD := ⟨("is_whole", none), "is_whole", "is_whole", defArgs (top 3), defBody (top 3), defScope (top 3), [], []⟩
def x_is_whole : Df := ⟨f_is_whole, d_is_whole, ["value"], ["value"]⟩
def b_is_within : MSs := (.cons (.ret (.and (.call "is_whole" (.cons (.var 0) .nil)) (.chain .le .le (.var 1) (.var 0) (.var 2)))) .nil)
def f_is_within : Fn := ⟨"is_within", 3, 3, b_is_within⟩
def d_is_within : He.DefD := ⟨("is_within", none), "is_within", "is_within", defArgs (top 4), defBody (top 4), defScope (top 4), [], []⟩
def x_is_within : Df := ⟨f_is_within, d_is_within, ["value", "least", "most"], ["value", "least", "most"]⟩
def b_is_name : MSs := (.cons (.ite (.or (.not (.isi (.var 0) ["str"])) (.not (.chain .le .le (.con (.int 1)) (.p1 .len (.var 0)) (.glo "LONGEST")))) (.cons (.ret (.con (.bl false))) .nil) .nil) (.cons (.ret (.p1 .all (.comp .seq (.cons (.var 0) .nil) (.nm 1) [1] (.con (.bl true)) (.p2 .isin (.var 1) (.glo "LETTERS"))))) .nil))
def f_is_name : Fn := ⟨"is_name", 1, 2, b_is_name⟩
def d_is_name : He.DefD := ⟨("is_name", none), "is_name", "is_name", defArgs (top 5), defBody (top 5), defScope (top 5), [], []⟩
def x_is_name : Df := ⟨f_is_name, d_is_name, ["value", "sign"], ["value"]⟩
def b_lots_ahead : MSs := (.cons (.ret (.comp .seq (.cons (.var 0) .nil) (.nm 1) [1] (.p2 .eq (.p2 .item (.var 1) (.con (.int 0))) (.con (.str "put"))) (.p2 .item (.var 1) (.con (.int 1))))) .nil)
def f_lots_ahead : Fn := ⟨"lots_ahead", 1, 2, b_lots_ahead⟩
def d_lots_ahead : He.DefD := ⟨("lots_ahead", none), "lots_ahead", "lots_ahead", defArgs (top 16), defBody (top 16), defScope (top 16), [], []⟩
def x_lots_ahead : Df := ⟨f_lots_ahead, d_lots_ahead, ["rows", "row"], ["rows"]⟩
def b_drawn_by : MSs := (.cons (.asg (.nm 2) (.comp .seq (.cons (.var 0) .nil) (.nm 3) [3] (.and (.p2 .eq (.p2 .item (.var 3) (.con (.int 0))) (.con (.str "draw"))) (.p2 .eq (.p2 .item (.var 3) (.con (.int 1))) (.var 1))) (.p2 .item (.var 3) (.con (.int 2))))) (.cons (.ret (.ife (.p2 .ne (.var 2) (.lst .nil)) (.p2 .item (.var 2) (.con (.int 0))) (.con .non))) .nil))
def f_drawn_by : Fn := ⟨"drawn_by", 2, 4, b_drawn_by⟩
def d_drawn_by : He.DefD := ⟨("drawn_by", none), "drawn_by", "drawn_by", defArgs (top 17), defBody (top 17), defScope (top 17), [], []⟩
def x_drawn_by : Df := ⟨f_drawn_by, d_drawn_by, ["rows", "ticket", "found", "row"], ["rows", "ticket"]⟩
def b_many_inside : MSs := (.cons (.asg (.nm 1) (.p1 .sum (.comp .seq (.cons (.var 0) .nil) (.nm 2) [2] (.p2 .eq (.p2 .item (.var 2) (.con (.int 0))) (.con (.str "put"))) (.p2 .item (.var 2) (.con (.int 2)))))) (.cons (.ret (.p2 .sub (.var 1) (.p1 .sum (.comp .seq (.cons (.var 0) .nil) (.nm 2) [2] (.p2 .eq (.p2 .item (.var 2) (.con (.int 0))) (.con (.str "draw"))) (.p2 .item (.var 2) (.con (.int 2))))))) .nil))
def f_many_inside : Fn := ⟨"many_inside", 1, 3, b_many_inside⟩
def d_many_inside : He.DefD := ⟨("many_inside", none), "many_inside", "many_inside", defArgs (top 18), defBody (top 18), defScope (top 18), [], []⟩
def x_many_inside : Df := ⟨f_many_inside, d_many_inside, ["rows", "put", "row"], ["rows"]⟩
def b_told_of : MSs := (.cons (.ret (.comp .seq (.cons (.var 0) .nil) (.nm 2) [2] (.and (.p2 .isin (.p2 .item (.var 2) (.con (.int 0))) (.tup (.cons (.con (.str "has")) (.cons (.con (.str "none")) .nil)))) (.p2 .eq (.p2 .item (.var 2) (.con (.int 1))) (.var 1))) (.p2 .item (.var 2) (.con (.int 2))))) .nil)
def f_told_of : Fn := ⟨"told_of", 2, 3, b_told_of⟩
def d_told_of : He.DefD := ⟨("told_of", none), "told_of", "told_of", defArgs (top 19), defBody (top 19), defScope (top 19), [], []⟩
def x_told_of : Df := ⟨f_told_of, d_told_of, ["rows", "ticket", "row"], ["rows", "ticket"]⟩
def b_lots_before : MSs := (.cons (.asg (.nm 2) (.p2 .item (.comp .enum (.cons (.var 0) .nil) (.tp [3, 4]) [3, 4] (.and (.p2 .eq (.p2 .item (.var 4) (.con (.int 0))) (.con (.str "draw"))) (.p2 .eq (.p2 .item (.var 4) (.con (.int 1))) (.var 1))) (.var 3)) (.con (.int 0)))) (.cons (.ret (.call "lots_ahead" (.cons (.sli (.var 0) (.con .non) (.var 2)) .nil))) .nil))
def f_lots_before : Fn := ⟨"lots_before", 2, 5, b_lots_before⟩
def d_lots_before : He.DefD := ⟨("lots_before", none), "lots_before", "lots_before", defArgs (top 20), defBody (top 20), defScope (top 20), [], []⟩
def x_lots_before : Df := ⟨f_lots_before, d_lots_before, ["rows", "ticket", "at", "place", "row"], ["rows", "ticket"]⟩
def b_is_told : MSs := (.cons (.asg (.tp [3, 4]) (.tup (.cons (.p2 .item (.var 0) (.con (.int 1))) (.cons (.p2 .item (.var 0) (.con (.int 2))) .nil)))) (.cons (.ite (.or (.not (.call "is_within" (.cons (.var 3) (.cons (.con (.int 1)) (.cons (.glo "MOST_TICKET") .nil))))) (.or (.not (.call "is_name" (.cons (.var 4) .nil))) (.p2 .is (.call "drawn_by" (.cons (.var 1) (.cons (.var 3) .nil))) (.con .non)))) (.cons (.ret (.con (.bl false))) .nil) .nil) (.cons (.ite (.or (.p2 .notin (.var 4) (.call "lots_before" (.cons (.var 1) (.cons (.var 3) .nil)))) (.p2 .isin (.var 4) (.call "told_of" (.cons (.var 1) (.cons (.var 3) .nil))))) (.cons (.ret (.con (.bl false))) .nil) .nil) (.cons (.ite (.p2 .eq (.p2 .item (.var 0) (.con (.int 0))) (.con (.str "none"))) (.cons (.ret (.con (.bl true))) .nil) .nil) (.cons (.ite (.not (.call "is_within" (.cons (.p2 .item (.var 0) (.con (.int 3))) (.cons (.con (.int 1)) (.cons (.glo "MOST_PIECES") .nil))))) (.cons (.ret (.con (.bl false))) .nil) .nil) (.cons (.asg (.nm 2) (.p1 .sum (.comp .seq (.cons (.var 1) .nil) (.nm 5) [5] (.and (.p2 .eq (.p2 .item (.var 5) (.con (.int 0))) (.con (.str "has"))) (.p2 .eq (.p2 .item (.var 5) (.con (.int 1))) (.var 3))) (.p2 .item (.var 5) (.con (.int 3)))))) (.cons (.ret (.p2 .le (.p2 .add (.var 2) (.p2 .item (.var 0) (.con (.int 3)))) (.call "drawn_by" (.cons (.var 1) (.cons (.var 3) .nil))))) .nil)))))))
def f_is_told : Fn := ⟨"is_told", 2, 6, b_is_told⟩
def d_is_told : He.DefD := ⟨("is_told", none), "is_told", "is_told", defArgs (top 21), defBody (top 21), defScope (top 21), [], []⟩
def x_is_told : Df := ⟨f_is_told, d_is_told, ["row", "ahead", "known", "ticket", "lot", "one"], ["row", "ahead"]⟩
def b_is_record_row : MSs := (.cons (.ite (.or (.not (.isi (.var 0) ["tuple"])) (.or (.p2 .eq (.p1 .len (.var 0)) (.con (.int 0))) (.or (.not (.isi (.p2 .item (.var 0) (.con (.int 0))) ["str"])) (.p2 .notin (.p2 .item (.var 0) (.con (.int 0))) (.glo "SIZES"))))) (.cons (.ret (.con (.bl false))) .nil) .nil) (.cons (.ite (.p2 .ne (.p1 .len (.var 0)) (.p2 .item (.glo "SIZES") (.p2 .item (.var 0) (.con (.int 0))))) (.cons (.ret (.con (.bl false))) .nil) .nil) (.cons (.ite (.p2 .eq (.p2 .item (.var 0) (.con (.int 0))) (.con (.str "put"))) (.cons (.ret (.and (.call "is_name" (.cons (.p2 .item (.var 0) (.con (.int 1))) .nil)) (.call "is_within" (.cons (.p2 .item (.var 0) (.con (.int 2))) (.cons (.con (.int 1)) (.cons (.glo "MOST_PIECES") .nil)))))) .nil) .nil) (.cons (.ite (.p2 .eq (.p2 .item (.var 0) (.con (.int 0))) (.con (.str "draw"))) (.cons (.ite (.or (.not (.call "is_within" (.cons (.p2 .item (.var 0) (.con (.int 1))) (.cons (.con (.int 1)) (.cons (.glo "MOST_TICKET") .nil))))) (.not (.call "is_within" (.cons (.p2 .item (.var 0) (.con (.int 2))) (.cons (.con (.int 1)) (.cons (.glo "MOST_PIECES") .nil)))))) (.cons (.ret (.con (.bl false))) .nil) .nil) (.cons (.ret (.and (.p2 .is (.call "drawn_by" (.cons (.var 1) (.cons (.p2 .item (.var 0) (.con (.int 1))) .nil))) (.con .non)) (.p2 .le (.p2 .item (.var 0) (.con (.int 2))) (.call "many_inside" (.cons (.var 1) .nil))))) .nil)) .nil) (.cons (.ret (.call "is_told" (.cons (.var 0) (.cons (.var 1) .nil)))) .nil)))))
def f_is_record_row : Fn := ⟨"is_record_row", 2, 2, b_is_record_row⟩
def d_is_record_row : He.DefD := ⟨("is_record_row", none), "is_record_row", "is_record_row", defArgs (top 22), defBody (top 22), defScope (top 22), [], []⟩
def x_is_record_row : Df := ⟨f_is_record_row, d_is_record_row, ["row", "ahead"], ["row", "ahead"]⟩
def l_require_record_1 : MSs := (.cons (.ite (.not (.call "is_record_row" (.cons (.var 2) (.cons (.sli (.var 0) (.con .non) (.var 1)) .nil)))) (.cons (.raise "" .nil) .nil) .nil) .nil)
def b_require_record : MSs := (.cons (.ite (.or (.not (.isi (.var 0) ["tuple"])) (.p2 .gt (.p1 .len (.var 0)) (.glo "MOST_ROWS"))) (.cons (.raise "" .nil) .nil) .nil) (.cons (.for_ .enum (.cons (.var 0) .nil) (.tp [1, 2]) l_require_record_1) .nil))
def f_require_record : Fn := ⟨"require_record", 1, 3, b_require_record⟩
def d_require_record : He.DefD := ⟨("require_record", none), "require_record", "require_record", defArgs (top 23), defBody (top 23), defScope (top 23), [], []⟩
def x_require_record : Df := ⟨f_require_record, d_require_record, ["record", "place", "row"], ["record"]⟩
def b_lots_in : MSs := (.cons (.expr (.call "require_record" (.cons (.var 0) .nil))) (.cons (.ret (.p1 .tuple (.scomp (.comp .seq (.cons (.call "lots_ahead" (.cons (.var 0) .nil)) .nil) (.nm 1) [1] (.con (.bl true)) (.var 1))))) .nil))
def f_lots_in : Fn := ⟨"lots_in", 1, 2, b_lots_in⟩
def d_lots_in : He.DefD := ⟨("lots_in", none), "lots_in", "lots_in", defArgs (top 24), defBody (top 24), defScope (top 24), [], []⟩
def x_lots_in : Df := ⟨f_lots_in, d_lots_in, ["record", "lot"], ["record"]⟩
def b_draws_in : MSs := (.cons (.expr (.call "require_record" (.cons (.var 0) .nil))) (.cons (.ret (.p1 .tuple (.comp .seq (.cons (.var 0) .nil) (.nm 1) [1] (.p2 .eq (.p2 .item (.var 1) (.con (.int 0))) (.con (.str "draw"))) (.tup (.cons (.p2 .item (.var 1) (.con (.int 1))) (.cons (.p2 .item (.var 1) (.con (.int 2))) .nil)))))) .nil))
def f_draws_in : Fn := ⟨"draws_in", 1, 2, b_draws_in⟩
def d_draws_in : He.DefD := ⟨("draws_in", none), "draws_in", "draws_in", defArgs (top 25), defBody (top 25), defScope (top 25), [], []⟩
def x_draws_in : Df := ⟨f_draws_in, d_draws_in, ["record", "row"], ["record"]⟩
def b_left_in : MSs := (.cons (.expr (.call "require_record" (.cons (.var 0) .nil))) (.cons (.ret (.call "many_inside" (.cons (.var 0) .nil))) .nil))
def f_left_in : Fn := ⟨"left_in", 1, 1, b_left_in⟩
def d_left_in : He.DefD := ⟨("left_in", none), "left_in", "left_in", defArgs (top 26), defBody (top 26), defScope (top 26), [], []⟩
def x_left_in : Df := ⟨f_left_in, d_left_in, ["record"], ["record"]⟩
def b_require_drawn : MSs := (.cons (.ite (.or (.p2 .notin (.var 1) (.comp .seq (.cons (.call "draws_in" (.cons (.var 0) .nil)) .nil) (.tp [2, 3]) [2, 3] (.con (.bl true)) (.var 2))) (.isi (.var 1) ["bool"])) (.cons (.raise "" .nil) .nil) .nil) .nil)
def f_require_drawn : Fn := ⟨"require_drawn", 2, 4, b_require_drawn⟩
def d_require_drawn : He.DefD := ⟨("require_drawn", none), "require_drawn", "require_drawn", defArgs (top 27), defBody (top 27), defScope (top 27), [], []⟩
def x_require_drawn : Df := ⟨f_require_drawn, d_require_drawn, ["record", "ticket", "number", "many"], ["record", "ticket"]⟩
def b_require_lot : MSs := (.cons (.ite (.or (.not (.isi (.var 1) ["str"])) (.p2 .notin (.var 1) (.call "lots_ahead" (.cons (.var 0) .nil)))) (.cons (.raise "" .nil) .nil) .nil) .nil)
def f_require_lot : Fn := ⟨"require_lot", 2, 2, b_require_lot⟩
def d_require_lot : He.DefD := ⟨("require_lot", none), "require_lot", "require_lot", defArgs (top 28), defBody (top 28), defScope (top 28), [], []⟩
def x_require_lot : Df := ⟨f_require_lot, d_require_lot, ["record", "lot"], ["record", "lot"]⟩
def l_demands_of_1 : MSs := (.cons (.asg (.nm 5) (.p1 .sorted (.comp .seq (.cons (.var 0) .nil) (.nm 7) [7] (.and (.p2 .eq (.p2 .item (.var 7) (.con (.int 0))) (.con (.str "has"))) (.p2 .eq (.p2 .item (.var 7) (.con (.int 1))) (.var 3))) (.tup (.cons (.p2 .item (.var 7) (.con (.int 2))) (.cons (.p2 .item (.var 7) (.con (.int 3))) .nil)))))) (.cons (.ext (.var 1) (.comp .seq (.cons (.var 5) .nil) (.tp [8, 9]) [8, 9] (.con (.bl true)) (.tup (.cons (.var 3) (.cons (.var 8) (.cons (.var 9) .nil)))))) (.cons (.asg (.nm 6) (.p2 .sub (.var 4) (.p1 .sum (.comp .seq (.cons (.var 5) .nil) (.tp [8, 9]) [8, 9] (.con (.bl true)) (.var 9))))) (.cons (.ite (.p2 .gt (.var 6) (.con (.int 0))) (.cons (.app (.var 1) (.tup (.cons (.var 3) (.cons (.con (.str "")) (.cons (.var 6) .nil))))) .nil) .nil) .nil))))
def b_demands_of : MSs := (.cons (.asg (.nm 1) (.new (.lst .nil))) (.cons (.for_ .seq (.cons (.comp .seq (.cons (.var 0) .nil) (.nm 7) [7] (.p2 .eq (.p2 .item (.var 7) (.con (.int 0))) (.con (.str "draw"))) (.var 7)) .nil) (.tp [2, 3, 4]) l_demands_of_1) (.cons (.ret (.p1 .tuple (.var 1))) .nil)))
def f_demands_of : Fn := ⟨"demands_of", 1, 10, b_demands_of⟩
def d_demands_of : He.DefD := ⟨("demands_of", none), "demands_of", "demands_of", defArgs (top 29), defBody (top 29), defScope (top 29), [], []⟩
def x_demands_of : Df := ⟨f_demands_of, d_demands_of, ["record", "found", "word", "ticket", "many", "told", "rest", "row", "lot", "pieces"], ["record"]⟩
def b_demands : MSs := (.cons (.expr (.call "require_record" (.cons (.var 0) .nil))) (.cons (.ret (.call "demands_of" (.cons (.var 0) .nil))) .nil))
def f_demands : Fn := ⟨"demands", 1, 1, b_demands⟩
def d_demands : He.DefD := ⟨("demands", none), "demands", "demands", defArgs (top 30), defBody (top 30), defScope (top 30), [], []⟩
def x_demands : Df := ⟨f_demands, d_demands, ["record"], ["record"]⟩
def b_row_of_draw : MSs := (.cons (.ret (.p2 .item (.comp .enum (.cons (.var 0) .nil) (.tp [2, 3]) [2, 3] (.and (.p2 .eq (.p2 .item (.var 3) (.con (.int 0))) (.con (.str "draw"))) (.p2 .eq (.p2 .item (.var 3) (.con (.int 1))) (.var 1))) (.var 2)) (.con (.int 0)))) .nil)
def f_row_of_draw : Fn := ⟨"row_of_draw", 2, 4, b_row_of_draw⟩
def d_row_of_draw : He.DefD := ⟨("row_of_draw", none), "row_of_draw", "row_of_draw", defArgs (top 31), defBody (top 31), defScope (top 31), [], []⟩
def x_row_of_draw : Df := ⟨f_row_of_draw, d_row_of_draw, ["record", "ticket", "place", "row"], ["record", "ticket"]⟩
def b_barred_lots : MSs := (.cons (.ret (.comp .seq (.cons (.var 0) .nil) (.nm 2) [2] (.and (.p2 .eq (.p2 .item (.var 2) (.con (.int 0))) (.con (.str "none"))) (.p2 .eq (.p2 .item (.var 2) (.con (.int 1))) (.var 1))) (.p2 .item (.var 2) (.con (.int 2))))) .nil)
def f_barred_lots : Fn := ⟨"barred_lots", 2, 3, b_barred_lots⟩
def d_barred_lots : He.DefD := ⟨("barred_lots", none), "barred_lots", "barred_lots", defArgs (top 32), defBody (top 32), defScope (top 32), [], []⟩
def x_barred_lots : Df := ⟨f_barred_lots, d_barred_lots, ["record", "ticket", "row"], ["record", "ticket"]⟩
def b_supplies_for : MSs := (.cons (.asg (.nm 3) (.sli (.var 0) (.con .non) (.call "row_of_draw" (.cons (.var 0) (.cons (.var 1) .nil))))) (.cons (.ite (.p2 .ne (.var 2) (.con (.str ""))) (.cons (.ret (.comp .enum (.cons (.var 3) .nil) (.tp [5, 6]) [5, 6] (.and (.p2 .eq (.p2 .item (.var 6) (.con (.int 0))) (.con (.str "put"))) (.p2 .eq (.p2 .item (.var 6) (.con (.int 1))) (.var 2))) (.var 5))) .nil) .nil) (.cons (.asg (.nm 4) (.call "barred_lots" (.cons (.var 0) (.cons (.var 1) .nil)))) (.cons (.ret (.comp .enum (.cons (.var 3) .nil) (.tp [5, 6]) [5, 6] (.and (.p2 .eq (.p2 .item (.var 6) (.con (.int 0))) (.con (.str "put"))) (.p2 .notin (.p2 .item (.var 6) (.con (.int 1))) (.var 4))) (.var 5))) .nil))))
def f_supplies_for : Fn := ⟨"supplies_for", 3, 7, b_supplies_for⟩
def d_supplies_for : He.DefD := ⟨("supplies_for", none), "supplies_for", "supplies_for", defArgs (top 33), defBody (top 33), defScope (top 33), [], []⟩
def x_supplies_for : Df := ⟨f_supplies_for, d_supplies_for, ["record", "ticket", "lot", "ahead", "barred", "place", "row"], ["record", "ticket", "lot"]⟩
def b_takes : MSs := (.cons (.ret (.p1 .tuple (.comp .seq (.cons (.call "demands" (.cons (.var 0) .nil)) .nil) (.tp [1, 2, 3]) [1, 2, 3] (.con (.bl true)) (.p1 .tuple (.call "supplies_for" (.cons (.var 0) (.cons (.var 1) (.cons (.var 2) .nil)))))))) .nil)
def f_takes : Fn := ⟨"takes", 1, 4, b_takes⟩
def d_takes : He.DefD := ⟨("takes", none), "takes", "takes", defArgs (top 34), defBody (top 34), defScope (top 34), [], []⟩
def x_takes : Df := ⟨f_takes, d_takes, ["record", "ticket", "lot", "many"], ["record"]⟩
def l_require_lots_1 : MSs := (.cons (.expr (.call "require_lot" (.cons (.var 0) (.cons (.var 2) .nil)))) .nil)
def b_require_lots : MSs := (.cons (.expr (.call "require_record" (.cons (.var 0) .nil))) (.cons (.ite (.not (.isi (.var 1) ["tuple"])) (.cons (.raise "" .nil) .nil) .nil) (.cons (.for_ .seq (.cons (.var 1) .nil) (.nm 2) l_require_lots_1) .nil)))
def f_require_lots : Fn := ⟨"require_lots", 2, 3, b_require_lots⟩
def d_require_lots : He.DefD := ⟨("require_lots", none), "require_lots", "require_lots", defArgs (top 36), defBody (top 36), defScope (top 36), [], []⟩
def x_require_lots : Df := ⟨f_require_lots, d_require_lots, ["record", "lots", "lot"], ["record", "lots"]⟩
def b_barred_tickets : MSs := (.cons (.expr (.call "require_lots" (.cons (.var 0) (.cons (.tup (.cons (.var 1) .nil)) .nil)))) (.cons (.asg (.nm 2) (.p1 .sorted (.comp .seq (.cons (.var 0) .nil) (.nm 3) [3] (.p2 .eq (.p2 .item (.var 3) (.con (.int 0))) (.con (.str "draw"))) (.p2 .item (.var 3) (.con (.int 1)))))) (.cons (.ret (.p1 .tuple (.comp .seq (.cons (.var 2) .nil) (.nm 4) [4] (.p2 .isin (.var 1) (.call "barred_lots" (.cons (.var 0) (.cons (.var 4) .nil)))) (.var 4)))) .nil)))
def f_barred_tickets : Fn := ⟨"barred_tickets", 2, 5, b_barred_tickets⟩
def d_barred_tickets : He.DefD := ⟨("barred_tickets", none), "barred_tickets", "barred_tickets", defArgs (top 37), defBody (top 37), defScope (top 37), [], []⟩
def x_barred_tickets : Df := ⟨f_barred_tickets, d_barred_tickets, ["record", "lot", "tickets", "row", "ticket"], ["record", "lot"]⟩
def b_lots_ahead_of : MSs := (.cons (.expr (.call "require_record" (.cons (.var 0) .nil))) (.cons (.expr (.call "require_drawn" (.cons (.var 0) (.cons (.var 1) .nil)))) (.cons (.ret (.p1 .tuple (.scomp (.comp .seq (.cons (.call "lots_ahead" (.cons (.sli (.var 0) (.con .non) (.call "row_of_draw" (.cons (.var 0) (.cons (.var 1) .nil)))) .nil)) .nil) (.nm 2) [2] (.con (.bl true)) (.var 2))))) .nil)))
def f_lots_ahead_of : Fn := ⟨"lots_ahead_of", 2, 3, b_lots_ahead_of⟩
def d_lots_ahead_of : He.DefD := ⟨("lots_ahead_of", none), "lots_ahead_of", "lots_ahead_of", defArgs (top 38), defBody (top 38), defScope (top 38), [], []⟩
def x_lots_ahead_of : Df := ⟨f_lots_ahead_of, d_lots_ahead_of, ["record", "ticket", "lot"], ["record", "ticket"]⟩
def b__law_taken : MSs := (.cons (.ite (.p2 .gt (.p2 .item (.var 0) (.con (.int 3))) (.con (.int 0))) (.cons (.asg (.nm 3) (.p2 .mod (.p1 .int (.p2 .item (.var 0) (.con (.int 3)))) (.var 1))) (.cons (.setI (.var 0) (.con (.int 3)) (.p2 .fdiv (.p2 .item (.var 0) (.con (.int 3))) (.var 1))) (.cons (.ret (.var 3)) .nil))) .nil) (.cons (.setI (.var 0) (.con (.int 1)) (.p2 .add (.p2 .item (.var 0) (.con (.int 1))) (.con (.int 1)))) (.cons (.ite (.p2 .gt (.p2 .item (.var 0) (.con (.int 1))) (.p1 .len (.p2 .item (.var 0) (.con (.int 0))))) (.cons (.setI (.var 0) (.con (.int 2)) (.p2 .mod (.p1 .int (.p2 .add (.p2 .mul (.p2 .item (.var 0) (.con (.int 2))) (.con (.int 48271))) (.con (.int 11)))) (.con (.int 2147483647)))) (.cons (.ret (.p2 .mod (.p1 .int (.p2 .fdiv (.p2 .item (.var 0) (.con (.int 2))) (.con (.int 7)))) (.var 1))) .nil)) .nil) (.cons (.asg (.nm 2) (.p2 .item (.p2 .item (.var 0) (.con (.int 0))) (.p2 .sub (.p2 .item (.var 0) (.con (.int 1))) (.con (.int 1))))) (.cons (.setI (.var 0) (.con (.int 2)) (.p2 .mod (.p1 .int (.p2 .add (.p2 .add (.p2 .mul (.p2 .item (.var 0) (.con (.int 2))) (.con (.int 48271))) (.var 2)) (.con (.int 11)))) (.con (.int 2147483647)))) (.cons (.ite (.p2 .ge (.var 2) (.p2 .pow (.con (.int 10)) (.con (.int 18)))) (.cons (.setI (.var 0) (.con (.int 3)) (.p2 .fdiv (.var 2) (.var 1))) (.cons (.ret (.p2 .mod (.p1 .int (.var 2)) (.var 1))) .nil)) .nil) (.cons (.ret (.p2 .mod (.p1 .int (.p2 .add (.p2 .mul (.p2 .mod (.p1 .int (.var 2)) (.con (.int 1000003))) (.con (.int 31))) (.p2 .fdiv (.p2 .item (.var 0) (.con (.int 2))) (.con (.int 11))))) (.var 1))) .nil)))))))
def f__law_taken : Fn := ⟨"_law_taken", 2, 4, b__law_taken⟩
def d__law_taken : He.DefD := ⟨("_law_taken", none), "_law_taken", "_law_taken", defArgs (top 40), defBody (top 40), defScope (top 40), [], []⟩
def x__law_taken : Df := ⟨f__law_taken, d__law_taken, ["row", "many", "cell", "found"], ["row", "many"]⟩
def b__law_pick : MSs := (.cons (.ret (.p2 .item (.var 1) (.call "_law_taken" (.cons (.var 0) (.cons (.p1 .len (.var 1)) .nil))))) .nil)
def f__law_pick : Fn := ⟨"_law_pick", 2, 2, b__law_pick⟩
def d__law_pick : He.DefD := ⟨("_law_pick", none), "_law_pick", "_law_pick", defArgs (top 41), defBody (top 41), defScope (top 41), [], []⟩
def x__law_pick : Df := ⟨f__law_pick, d__law_pick, ["row", "things"], ["row", "things"]⟩
def b__law_alike : MSs := (.cons (.ite (.isi (.var 1) ["tuple", "list"]) (.cons (.ite (.or (.not (.isi (.var 0) ["tuple", "list"])) (.p2 .ne (.isi (.var 0) ["list"]) (.isi (.var 1) ["list"]))) (.cons (.ret (.con (.bl false))) .nil) .nil) (.cons (.ite (.p2 .ne (.p1 .len (.var 0)) (.p1 .len (.var 1))) (.cons (.ret (.con (.bl false))) .nil) .nil) (.cons (.ret (.p2 .eq (.comp .range (.cons (.p1 .len (.var 1)) .nil) (.nm 2) [2] (.not (.call "_law_alike" (.cons (.p2 .item (.var 0) (.var 2)) (.cons (.p2 .item (.var 1) (.var 2)) .nil)))) (.var 2)) (.lst .nil))) .nil))) .nil) (.cons (.ite (.or (.p2 .is (.var 1) (.con .non)) (.isi (.var 1) ["str"])) (.cons (.ret (.and (.p2 .eq (.var 0) (.var 1)) (.p2 .eq (.isi (.var 0) ["str"]) (.isi (.var 1) ["str"])))) .nil) .nil) (.cons (.ret (.and (.isi (.var 0) ["int"]) (.and (.p2 .eq (.isi (.var 0) ["bool"]) (.isi (.var 1) ["bool"])) (.p2 .eq (.var 0) (.var 1))))) .nil)))
def f__law_alike : Fn := ⟨"_law_alike", 2, 3, b__law_alike⟩
def d__law_alike : He.DefD := ⟨("_law_alike", none), "_law_alike", "_law_alike", defArgs (top 42), defBody (top 42), defScope (top 42), [], []⟩
def x__law_alike : Df := ⟨f__law_alike, d__law_alike, ["found", "due", "k"], ["found", "due"]⟩
def l__law_names_1 : MSs := (.cons (.asg (.nm 9) (.p2 .item (.var 2) (.p2 .mod (.p1 .int (.p2 .add (.var 7) (.p2 .mul (.con (.int 7)) (.var 6)))) (.con (.int 26))))) (.cons (.app (.var 8) (.ife (.p2 .eq (.var 5) (.con (.int 0))) (.p2 .add (.p2 .add (.var 3) (.var 9)) (.var 4)) (.p2 .add (.var 9) (.p2 .mul (.p2 .item (.var 2) (.call "_law_taken" (.cons (.var 0) (.cons (.con (.int 26)) .nil)))) (.call "_law_taken" (.cons (.var 0) (.cons (.con (.int 8)) .nil))))))) .nil))
def b__law_names : MSs := (.cons (.asg (.nm 2) (.con (.str str_1))) (.cons (.par [7, 8] (.cons (.call "_law_taken" (.cons (.var 0) (.cons (.con (.int 26)) .nil))) (.cons (.new (.lst .nil)) .nil))) (.cons (.asg (.nm 3) (.p2 .mul (.p2 .item (.var 2) (.call "_law_taken" (.cons (.var 0) (.cons (.con (.int 26)) .nil)))) (.call "_law_taken" (.cons (.var 0) (.cons (.con (.int 4)) .nil))))) (.cons (.asg (.nm 4) (.p2 .mul (.p2 .item (.var 2) (.call "_law_taken" (.cons (.var 0) (.cons (.con (.int 26)) .nil)))) (.call "_law_taken" (.cons (.var 0) (.cons (.con (.int 4)) .nil))))) (.cons (.asg (.nm 5) (.call "_law_taken" (.cons (.var 0) (.cons (.con (.int 2)) .nil)))) (.cons (.for_ .range (.cons (.var 1) .nil) (.nm 6) l__law_names_1) (.cons (.ret (.var 8)) .nil)))))))
def f__law_names : Fn := ⟨"_law_names", 2, 10, b__law_names⟩
def d__law_names : He.DefD := ⟨("_law_names", none), "_law_names", "_law_names", defArgs (top 43), defBody (top 43), defScope (top 43), [], []⟩
def x__law_names : Df := ⟨f__law_names, d__law_names, ["row", "many", "letters", "head", "tail", "kind", "k", "start", "names", "sign"], ["row", "many"]⟩
def l__law_record_1 : MSs := (.cons (.asg (.nm 9) (.call "_law_taken" (.cons (.var 0) (.cons (.con (.int 5)) .nil)))) (.cons (.ite (.or (.p2 .lt (.var 9) (.con (.int 2))) (.p2 .eq (.var 5) (.con (.int 0)))) (.cons (.app (.var 4) (.tup (.cons (.con (.str "put")) (.cons (.call "_law_pick" (.cons (.var 0) (.cons (.var 3) .nil))) (.cons (.p2 .add (.con (.int 1)) (.call "_law_taken" (.cons (.var 0) (.cons (.con (.int 3)) .nil)))) .nil))))) (.cons (.asg (.nm 5) (.p2 .add (.var 5) (.p2 .item (.p2 .item (.var 4) (.p1 .neg (.con (.int 1)))) (.con (.int 2))))) .nil)) (.cons (.ite (.and (.p2 .lt (.var 9) (.con (.int 4))) (.p2 .lt (.p1 .len (.var 6)) (.con (.int 4)))) (.cons (.app (.var 4) (.tup (.cons (.con (.str "draw")) (.cons (.p2 .item (.var 1) (.p1 .len (.var 6))) (.cons (.p2 .add (.con (.int 1)) (.call "_law_taken" (.cons (.var 0) (.cons (.p2 .min2 (.var 5) (.con (.int 3))) .nil)))) .nil))))) (.cons (.asg (.nm 5) (.p2 .sub (.var 5) (.p2 .item (.p2 .item (.var 4) (.p1 .neg (.con (.int 1)))) (.con (.int 2))))) (.cons (.app (.var 6) (.p2 .item (.var 4) (.p1 .neg (.con (.int 1))))) (.cons (.setI (.var 8) (.p2 .item (.p2 .item (.var 4) (.p1 .neg (.con (.int 1)))) (.con (.int 1))) (.comp .seq (.cons (.var 4) .nil) (.nm 13) [13] (.p2 .eq (.p2 .item (.var 13) (.con (.int 0))) (.con (.str "put"))) (.p2 .item (.var 13) (.con (.int 1))))) .nil)))) (.cons (.ite (.p2 .ne (.var 6) (.lst .nil)) (.cons (.asg (.tp [14, 15]) (.sli (.call "_law_pick" (.cons (.var 0) (.cons (.var 6) .nil))) (.con (.int 1)) (.con .non))) (.cons (.asg (.nm 11) (.call "_law_pick" (.cons (.var 0) (.cons (.p2 .item (.var 8) (.var 14)) .nil)))) (.cons (.asg (.nm 12) (.p1 .sum (.comp .seq (.cons (.var 4) .nil) (.nm 13) [13] (.p2 .eq (.sli (.var 13) (.con .non) (.con (.int 2))) (.tup (.cons (.con (.str "has")) (.cons (.var 14) .nil)))) (.p2 .item (.var 13) (.con (.int 3)))))) (.cons (.ite (.and (.p2 .notin (.tup (.cons (.var 14) (.cons (.var 11) .nil))) (.var 7)) (.and (.p2 .lt (.var 12) (.var 15)) (.p2 .eq (.call "_law_taken" (.cons (.var 0) (.cons (.con (.int 2)) .nil))) (.con (.int 0))))) (.cons (.app (.var 4) (.tup (.cons (.con (.str "has")) (.cons (.var 14) (.cons (.var 11) (.cons (.p2 .add (.con (.int 1)) (.call "_law_taken" (.cons (.var 0) (.cons (.p2 .sub (.var 15) (.var 12)) .nil)))) .nil)))))) (.cons (.app (.var 7) (.tup (.cons (.var 14) (.cons (.var 11) .nil)))) .nil)) (.cons (.ite (.p2 .notin (.tup (.cons (.var 14) (.cons (.var 11) .nil))) (.var 7)) (.cons (.app (.var 4) (.tup (.cons (.con (.str "none")) (.cons (.var 14) (.cons (.var 11) .nil))))) (.cons (.app (.var 7) (.tup (.cons (.var 14) (.cons (.var 11) .nil)))) .nil)) .nil) .nil)) .nil)))) .nil) .nil)) .nil)) .nil))
def b__law_record : MSs := (.cons (.par [3, 4, 5] (.cons (.call "_law_names" (.cons (.var 0) (.cons (.call "_law_pick" (.cons (.var 0) (.cons (.lst (.cons (.con (.int 2)) (.cons (.con (.int 2)) (.cons (.con (.int 3)) .nil)))) .nil))) .nil))) (.cons (.new (.lst .nil)) (.cons (.con (.int 0)) .nil)))) (.cons (.asg (.nm 1) (.comp .range (.cons (.con (.int 5)) .nil) (.nm 10) [10] (.con (.bl true)) (.p2 .add (.p2 .add (.con (.int 1)) (.p1 .int (.call "_law_taken" (.cons (.var 0) (.cons (.con (.int 30)) .nil))))) (.p2 .mul (.con (.int 40)) (.var 10))))) (.cons (.ite (.p2 .eq (.call "_law_taken" (.cons (.var 0) (.cons (.con (.int 3)) .nil))) (.con (.int 0))) (.cons (.asg (.nm 1) (.rev (.var 1))) .nil) .nil) (.cons (.par [6, 7, 8] (.cons (.new (.lst .nil)) (.cons (.new (.lst .nil)) (.cons (.new .dic0) .nil)))) (.cons (.for_ .range (.cons (.call "_law_pick" (.cons (.var 0) (.cons (.lst (.cons (.con (.int 3)) (.cons (.con (.int 5)) (.cons (.con (.int 7)) (.cons (.con (.int 9)) (.cons (.con (.int 14)) .nil)))))) .nil))) .nil) (.nm 2) l__law_record_1) (.cons (.ret (.p1 .tuple (.var 4))) .nil))))))
def f__law_record : Fn := ⟨"_law_record", 1, 16, b__law_record⟩
def d__law_record : He.DefD := ⟨("_law_record", none), "_law_record", "_law_record", defArgs (top 44), defBody (top 44), defScope (top 44), [], []⟩
def x__law_record : Df := ⟨f__law_record, d__law_record, ["row", "tickets", "turn", "lots", "rows", "inside", "drawn", "told", "ahead", "kind", "k", "lot", "known", "one", "ticket", "many"], ["row"]⟩
def l__law_lots_1 : MSs := (.cons (.ite (.and (.p2 .eq (.p2 .item (.var 2) (.con (.int 0))) (.con (.str "put"))) (.p2 .notin (.p2 .item (.var 2) (.con (.int 1))) (.var 1))) (.cons (.app (.var 1) (.p2 .item (.var 2) (.con (.int 1)))) .nil) .nil) .nil)
def b__law_lots : MSs := (.cons (.asg (.nm 1) (.new (.lst .nil))) (.cons (.for_ .seq (.cons (.var 0) .nil) (.nm 2) l__law_lots_1) (.cons (.ret (.p1 .sorted (.var 1))) .nil)))
def f__law_lots : Fn := ⟨"_law_lots", 1, 3, b__law_lots⟩
def d__law_lots : He.DefD := ⟨("_law_lots", none), "_law_lots", "_law_lots", defArgs (top 45), defBody (top 45), defScope (top 45), [], []⟩
def x__law_lots : Df := ⟨f__law_lots, d__law_lots, ["record", "found", "one"], ["record"]⟩
def l_law_1 : MSs := (.cons (.app (.var 7) (.tup (.cons (.var 9) (.cons (.var 6) (.cons (.var 18) .nil))))) (.cons (.app (.var 8) (.p1 .tuple (.comp .range (.cons (.var 11) .nil) (.nm 19) [19] (.p2 .eq (.sli (.p2 .item (.var 3) (.var 19)) (.con .non) (.con (.int 2))) (.tup (.cons (.con (.str "put")) (.cons (.var 6) .nil)))) (.var 19)))) .nil))
def l_law_2 : MSs := (.cons (.asg (.nm 11) (.p2 .item (.comp .range (.cons (.p1 .len (.var 3)) .nil) (.nm 19) [19] (.p2 .eq (.sli (.p2 .item (.var 3) (.var 19)) (.con .non) (.con (.int 2))) (.tup (.cons (.con (.str "draw")) (.cons (.var 9) .nil)))) (.var 19)) (.con (.int 0)))) (.cons (.asg (.nm 12) (.p1 .sorted (.comp .seq (.cons (.var 3) .nil) (.nm 17) [17] (.p2 .eq (.sli (.var 17) (.con .non) (.con (.int 2))) (.tup (.cons (.con (.str "has")) (.cons (.var 9) .nil)))) (.tup (.cons (.p2 .item (.var 17) (.con (.int 2))) (.cons (.p2 .item (.var 17) (.con (.int 3))) .nil)))))) (.cons (.asg (.nm 13) (.comp .seq (.cons (.var 3) .nil) (.nm 17) [17] (.p2 .eq (.sli (.var 17) (.con .non) (.con (.int 2))) (.tup (.cons (.con (.str "none")) (.cons (.var 9) .nil)))) (.p2 .item (.var 17) (.con (.int 2))))) (.cons (.for_ .seq (.cons (.var 12) .nil) (.tp [6, 18]) l_law_1) (.cons (.asg (.nm 14) (.p2 .sub (.var 10) (.p1 .sum (.comp .seq (.cons (.var 12) .nil) (.nm 17) [17] (.con (.bl true)) (.p2 .item (.var 17) (.con (.int 1))))))) (.cons (.ite (.p2 .gt (.var 14) (.con (.int 0))) (.cons (.app (.var 7) (.tup (.cons (.var 9) (.cons (.con (.str "")) (.cons (.var 14) .nil))))) (.cons (.app (.var 8) (.p1 .tuple (.comp .range (.cons (.var 11) .nil) (.nm 19) [19] (.and (.p2 .eq (.p2 .item (.p2 .item (.var 3) (.var 19)) (.con (.int 0))) (.con (.str "put"))) (.p2 .notin (.p2 .item (.p2 .item (.var 3) (.var 19)) (.con (.int 1))) (.var 13))) (.var 19)))) .nil)) .nil) (.cons (.asg (.nm 15) (.comp .seq (.cons (.sli (.var 3) (.con .non) (.var 11)) .nil) (.nm 17) [17] (.p2 .eq (.p2 .item (.var 17) (.con (.int 0))) (.con (.str "put"))) (.p2 .item (.var 17) (.con (.int 1))))) (.cons (.ite (.not (.call "_law_alike" (.cons (.call "lots_ahead_of" (.cons (.var 3) (.cons (.var 9) .nil))) (.cons (.p1 .tuple (.comp .seq (.cons (.call "_law_lots" (.cons (.var 3) .nil)) .nil) (.nm 6) [6] (.p2 .isin (.var 6) (.var 15)) (.var 6))) .nil)))) (.cons (.ret (.con (.bl false))) .nil) .nil) .nil))))))))
def l_law_3 : MSs := (.cons (.asg (.nm 16) (.p1 .sorted (.comp .seq (.cons (.var 3) .nil) (.nm 17) [17] (.and (.p2 .eq (.p2 .item (.var 17) (.con (.int 0))) (.con (.str "none"))) (.p2 .eq (.p2 .item (.var 17) (.con (.int 2))) (.var 6))) (.p2 .item (.var 17) (.con (.int 1)))))) (.cons (.ite (.not (.call "_law_alike" (.cons (.call "barred_tickets" (.cons (.var 3) (.cons (.var 6) .nil))) (.cons (.p1 .tuple (.var 16)) .nil)))) (.cons (.ret (.con (.bl false))) .nil) .nil) .nil))
def l_law_4 : MSs := (.cons (.asg (.nm 3) (.call "_law_record" (.cons (.var 1) .nil))) (.cons (.asg (.nm 4) (.comp .seq (.cons (.var 3) .nil) (.nm 17) [17] (.p2 .eq (.p2 .item (.var 17) (.con (.int 0))) (.con (.str "draw"))) (.tup (.cons (.p2 .item (.var 17) (.con (.int 1))) (.cons (.p2 .item (.var 17) (.con (.int 2))) .nil))))) (.cons (.asg (.nm 5) (.p2 .sub (.p1 .sum (.comp .seq (.cons (.var 3) .nil) (.nm 17) [17] (.p2 .eq (.p2 .item (.var 17) (.con (.int 0))) (.con (.str "put"))) (.p2 .item (.var 17) (.con (.int 2))))) (.p1 .sum (.comp .seq (.cons (.var 4) .nil) (.nm 17) [17] (.con (.bl true)) (.p2 .item (.var 17) (.con (.int 1))))))) (.cons (.ite (.not (.call "_law_alike" (.cons (.tup (.cons (.call "lots_in" (.cons (.var 3) .nil)) (.cons (.call "draws_in" (.cons (.var 3) .nil)) (.cons (.call "left_in" (.cons (.var 3) .nil)) .nil)))) (.cons (.tup (.cons (.p1 .tuple (.call "_law_lots" (.cons (.var 3) .nil))) (.cons (.p1 .tuple (.var 4)) (.cons (.var 5) .nil)))) .nil)))) (.cons (.ret (.con (.bl false))) .nil) .nil) (.cons (.par [7, 8] (.cons (.new (.lst .nil)) (.cons (.new (.lst .nil)) .nil))) (.cons (.for_ .seq (.cons (.var 4) .nil) (.tp [9, 10]) l_law_2) (.cons (.ite (.or (.not (.call "_law_alike" (.cons (.call "demands" (.cons (.var 3) .nil)) (.cons (.p1 .tuple (.var 7)) .nil)))) (.not (.call "_law_alike" (.cons (.call "takes" (.cons (.var 3) .nil)) (.cons (.p1 .tuple (.var 8)) .nil))))) (.cons (.ret (.con (.bl false))) .nil) .nil) (.cons (.for_ .seq (.cons (.call "_law_lots" (.cons (.var 3) .nil)) .nil) (.nm 6) l_law_3) .nil))))))))
def b_law : MSs := (.cons (.asg (.nm 1) (.new (.lst (.cons (.var 0) (.cons (.con (.int 0)) (.cons (.con (.int 7771)) (.cons (.con (.int 0)) .nil))))))) (.cons (.for_ .range (.cons (.con (.int 5)) .nil) (.nm 2) l_law_4) (.cons (.ret (.con (.bl true))) .nil)))
def f_law : Fn := ⟨"law", 1, 20, b_law⟩
def d_law : He.DefD := ⟨("law", none), "law", "law", defArgs (top 46), defBody (top 46), defScope (top 46), [], []⟩
def x_law : Df := ⟨f_law, d_law, ["script", "row", "turn", "record", "draws", "inside", "lot", "due", "may", "ticket", "many", "at", "known", "barred", "rest", "ahead", "there", "one", "pieces", "k"], ["script"]⟩
def tbl : List Df := [x_is_whole, x_is_within, x_is_name, x_lots_ahead, x_drawn_by, x_many_inside, x_told_of, x_lots_before, x_is_told, x_is_record_row, x_require_record, x_lots_in, x_draws_in, x_left_in, x_require_drawn, x_require_lot, x_demands_of, x_demands, x_row_of_draw, x_barred_lots, x_supplies_for, x_takes, x_require_lots, x_barred_tickets, x_lots_ahead_of, x__law_taken, x__law_pick, x__law_alike, x__law_names, x__law_record, x__law_lots, x_law]
def glT : List (Str × D) := [("LETTERS", .str "abcdefghijklmnopqrstuvwxyz"), ("LONGEST", .int 8), ("MOST_ROWS", .int 30), ("MOST_PIECES", .int 9), ("MOST_TICKET", .int 999), ("SIZES", .tab ["put", "draw", "has", "none"] [.int 3, .int 3, .int 4, .int 3])]
-- need 32 defs
def T : List Fn := tbl.map (·.fn)
def gl : Str → Option D := fun x => glT.lookup x
abbrev cl (n : Nat) := callF T gl 100 n
abbrev Gn (n : Nat) : Ce := ⟨cl n, gl, 100⟩
end G77
set_option Elab.async false
set_option linter.all false
set_option maxRecDepth 100000
set_option maxHeartbeats 0
/-! P77a: k77's record functions, by types. -/
namespace P77
open PySem PySem.Spec PyProof.Rows L2 Mi G77
inductive Rw where
  | put (n : Str) (m : Int) | drw (t m : Int) | has (t : Int) (l : Str) (p : Int) | non (t : Int) (l : Str)
  deriving Inhabited
def enc : Rw → D
  | .put n m => .tup [.str "put", .str n, .int m]
  | .drw t m => .tup [.str "draw", .int t, .int m]
  | .has t l p => .tup [.str "has", .int t, .str l, .int p]
  | .non t l => .tup [.str "none", .int t, .str l]
abbrev Rec (rs : List Rw) : D := .tup (rs.map enc)
/-! ### words -/
@[simp] theorem w1 : (("put" : Str) = "draw") = False := by simp; decide
@[simp] theorem w2 : (("put" : Str) = "has") = False := by simp; decide
@[simp] theorem w3 : (("put" : Str) = "none") = False := by simp; decide
@[simp] theorem w4 : (("draw" : Str) = "put") = False := by simp; decide
@[simp] theorem w5 : (("draw" : Str) = "has") = False := by simp; decide
@[simp] theorem w6 : (("draw" : Str) = "none") = False := by simp; decide
@[simp] theorem w7 : (("has" : Str) = "put") = False := by simp; decide
@[simp] theorem w8 : (("has" : Str) = "draw") = False := by simp; decide
@[simp] theorem w9 : (("has" : Str) = "none") = False := by simp; decide
@[simp] theorem w10 : (("none" : Str) = "put") = False := by simp; decide
@[simp] theorem w11 : (("none" : Str) = "draw") = False := by simp; decide
@[simp] theorem w12 : (("none" : Str) = "has") = False := by simp; decide
/-! ### by types -/
def fPut : Rw → Option Str
  | .put n _ => some n
  | _ => none
def fPutM : Rw → Option Int
  | .put _ m => some m
  | _ => none
def fDrw : Rw → Option (Int × Int)
  | .drw t m => some (t, m)
  | _ => none
def fDrwM : Rw → Option Int
  | .drw _ m => some m
  | _ => none
def fDr (t : Int) : Rw → Option Int
  | .drw t' m => if t' = t then some m else none
  | _ => none
def fTold (t : Int) : Rw → Option Str
  | .has t' l _ => if t' = t then some l else none
  | .non t' l => if t' = t then some l else none
  | _ => none
def fHas (t : Int) : Rw → Option (Str × Int)
  | .has t' l p => if t' = t then some (l, p) else none
  | _ => none
def fHasP (t : Int) : Rw → Option Int
  | .has t' _ p => if t' = t then some p else none
  | _ => none
def fNon (t : Int) : Rw → Option Str
  | .non t' l => if t' = t then some l else none
  | _ => none
def lotsOf (rs : List Rw) : List Str := rs.filterMap fPut
def drawn (rs : List Rw) (t : Int) : List Int := rs.filterMap (fDr t)
def puts (rs : List Rw) : List Int := rs.filterMap fPutM
def drs (rs : List Rw) : List (Int × Int) := rs.filterMap fDrw
def drsM (rs : List Rw) : List Int := rs.filterMap fDrwM
def inside (rs : List Rw) : Int := (puts rs).sum - (drsM rs).sum
def told (rs : List Rw) (t : Int) : List Str := rs.filterMap (fTold t)
def hasL (rs : List Rw) (t : Int) : List (Str × Int) := rs.filterMap (fHas t)
def hasP (rs : List Rw) (t : Int) : List Int := rs.filterMap (fHasP t)
def nons (rs : List Rw) (t : Int) : List Str := rs.filterMap (fNon t)
def isDr (t : Int) : Rw → Bool
  | .drw t' _ => decide (t' = t)
  | _ => false
def fIx (rs : List Rw) (t : Int) (k : Nat) : Option Nat := if isDr t (rs.getD k default) then some k else none
def dix (rs : List Rw) (t : Int) : List Nat := (List.range rs.length).filterMap (fIx rs t)
/-- where t was drawn -/
def at_ (rs : List Rw) (t : Int) : Nat := (dix rs t).headD 0
section
variable {n : Nat} {M : Mem} {rs : List Rw} {t : Int}
theorem findsum : ∀ (xs : List Int), intsOf (xs.map D.int) = some xs
  | [] => rfl
  | x :: xs => by simp [intsOf, findsum xs]
theorem refs_int (L : Nat) : ∀ xs : List Int, D.refsLts L (xs.map D.int) = true
  | [] => rfl
  | x :: xs => by simp [D.refsLts, D.refsLt, refs_int L xs]
theorem refs_str (L : Nat) : ∀ xs : List Str, D.refsLts L (xs.map D.str) = true
  | [] => rfl
  | x :: xs => by simp [D.refsLts, D.refsLt, refs_str L xs]
theorem fn_lots_ahead : findFn "lots_ahead" T = some f_lots_ahead := by kernel_rfl
theorem fn_drawn_by : findFn "drawn_by" T = some f_drawn_by := by kernel_rfl
theorem fn_many_inside : findFn "many_inside" T = some f_many_inside := by kernel_rfl
theorem fn_told_of : findFn "told_of" T = some f_told_of := by kernel_rfl
abbrev v2 (n : Nat) : Ce := ⟨callF T gl 100 n, gl, 100⟩
theorem c_lots_ahead (hl : rs.length ≤ SL) : callF T gl 100 (n + 1) "lots_ahead" [Rec rs] M = .ok (.lst ((lotsOf rs).map D.str)) M := by
  refine callF_pure fn_lots_ahead rfl ?_ (refs_str _ _)
  simp only [f_lots_ahead, b_lots_ahead, z_cons, z_asg, z_ret]
  rw [ev_comp fPut D.str (enc := enc) (xs := lotsOf rs) rfl (it_seq rfl rfl) hl (fun r _ => ?_)]
  · rfl
  · cases r <;> simp [compT, asgT, enc, wipeE, fPut]
theorem sh_ints (k : Nat) : ∀ xs : List Int, (xs.map D.int).all (Sh k) = true
  | [] => rfl
  | x :: xs => by rw [List.map_cons, List.all_cons, sh_ints k xs]; cases k <;> rfl
theorem c_drawn_by (hl : rs.length ≤ SL) : callF T gl 100 (n + 1) "drawn_by" [Rec rs, .int t] M = .ok (match drawn rs t with
    | [] => .non
    | m :: _ => .int m) M := by
  refine callF_pure fn_drawn_by rfl ?_ (by split <;> rfl)
  simp only [f_drawn_by, b_drawn_by, z_cons, z_asg, z_ret]
  rw [ev_comp (fDr t) D.int (enc := enc) (xs := drawn rs t) rfl (it_seq rfl rfl) hl (fun r _ => ?_)]
  · generalize drawn rs t = xs
    have hs : Sh 2 (.lst (xs.map D.int)) = true := sh_ints 1 xs
    have hn := p_neSh (M := M) (by decide : 2 ≤ 64) hs (show Sh 2 (.lst []) = true from rfl)
    cases xs with
    | nil => simp [asgT, SL] at hn ⊢; simp [hn]
    | cons x xs => simp [asgT, SL] at hn ⊢; simp [hn]
  · cases r with
    | drw t' m => by_cases h : t' = t <;> simp [compT, asgT, enc, wipeE, h, fDr]
    | _ => simp [compT, asgT, enc, wipeE, fDr]
@[simp] theorem sum_ok {xs : List Int} : op1 .sum (.lst (xs.map D.int)) M = .ok (.int xs.sum) M := by
  simp [op1, lv, view, findsum]
theorem c_many_inside (hl : rs.length ≤ SL) : callF T gl 100 (n + 1) "many_inside" [Rec rs] M = .ok (.int (inside rs)) M := by
  refine callF_pure fn_many_inside rfl ?_ rfl
  simp only [f_many_inside, b_many_inside, z_cons, z_asg, z_ret, e_p1, e_p2]
  rw [ev_comp fPutM D.int (enc := enc) (xs := puts rs) rfl (it_seq rfl rfl) hl (fun r _ => ?_)]
  · simp [asgT]
    rw [ev_comp fDrwM D.int (enc := enc) (xs := drsM rs) rfl (it_seq rfl rfl) hl (fun r _ => ?_)]
    · simp [inside]
    · cases r <;> simp [compT, asgT, enc, wipeE, fDrwM]
  · cases r <;> simp [compT, asgT, enc, wipeE, fPutM]
end
end P77
set_option Elab.async false
set_option linter.all false
set_option maxRecDepth 100000
set_option maxHeartbeats 0
/-! P77b: a record's rows are valid. -/
namespace P77
open PySem PySem.Spec PyProof.Rows L2 Mi G77
@[simp] theorem g1 : gl "LETTERS" = some (.str "abcdefghijklmnopqrstuvwxyz") := by kernel_rfl
@[simp] theorem g2 : gl "LONGEST" = some (.int 8) := by kernel_rfl
@[simp] theorem g3 : gl "MOST_ROWS" = some (.int 30) := by kernel_rfl
@[simp] theorem g4 : gl "MOST_PIECES" = some (.int 9) := by kernel_rfl
@[simp] theorem g5 : gl "MOST_TICKET" = some (.int 999) := by kernel_rfl
@[simp] theorem g6 : gl "SIZES" = some (.tab ["put", "draw", "has", "none"] [.int 3, .int 3, .int 4, .int 3]) := by kernel_rfl
theorem fn_is_whole : findFn "is_whole" T = some f_is_whole := by kernel_rfl
theorem fn_is_within : findFn "is_within" T = some f_is_within := by kernel_rfl
theorem fn_is_name : findFn "is_name" T = some f_is_name := by kernel_rfl
theorem fn_lots_before : findFn "lots_before" T = some f_lots_before := by kernel_rfl
theorem fn_is_told : findFn "is_told" T = some f_is_told := by kernel_rfl
theorem fn_is_record_row : findFn "is_record_row" T = some f_is_record_row := by kernel_rfl
theorem fn_require_record : findFn "require_record" T = some f_require_record := by kernel_rfl
def letters : Str := "abcdefghijklmnopqrstuvwxyz"
structure NameOk (s : Str) : Prop where
  pos : 1 ≤ s.length
  few : s.length ≤ 8
  all : ∀ c ∈ s.cps.toList, c ∈ letters.cps.toList
section
variable {n : Nat} {M : Mem} {rs : List Rw} {t : Int} {a b v : Int} {s : Str} {ds : List D}
@[simp] theorem i1 : isTys M (.int v) ["int"] = some true := rfl
@[simp] theorem i2 : isTys M (.int v) ["bool"] = some false := rfl
@[simp] theorem i3 : isTys M (.str s) ["str"] = some true := rfl
@[simp] theorem i4 : isTys M (.tup ds) ["tuple"] = some true := rfl
@[simp] theorem i5 : isTys M (.str s) ["bool"] = some false := rfl
@[simp] theorem len_tup : op1 .len (.tup ds) M = .ok (.int ds.length) M := rfl
@[simp] theorem len_lst : op1 .len (.lst ds) M = .ok (.int ds.length) M := rfl
@[simp] theorem c_is_whole : callF T gl 100 (n + 1) "is_whole" [.int v] M = .ok (.bl true) M := by
  refine callF_pure fn_is_whole rfl ?_ rfl
  simp [f_is_whole, b_is_whole]
@[simp] theorem c_is_within : callF T gl 100 (n + 2) "is_within" [.int v, .int a, .int b] M = .ok (.bl (decide (a ≤ v) && decide (v ≤ b))) M := by
  refine callF_pure fn_is_within rfl ?_ rfl
  simp only [f_is_within, b_is_within]
  by_cases h : a ≤ v <;> simp [h]
theorem c_is_name (h : NameOk s) : callF T gl 100 (n + 1) "is_name" [.str s] M = .ok (.bl true) M := by
  refine callF_pure fn_is_name rfl ?_ rfl
  simp only [f_is_name, b_is_name, z_cons, z_asg, z_ret, e_p1]
  have hl : op1 .len (.str s) M = .ok (.int s.length) M := by
    show (if s.length ≤ SL then _ else _) = _
    rw [if_pos (by have := h.few; unfold SL; omega)]
  have h1 : ((1 : Int) ≤ (s.length : Nat)) := by have := h.pos; omega
  have h2 : ((s.length : Nat) : Int) ≤ 8 := by have := h.few; omega
  have hz : s.cps.toList.length ≤ SL := by
    have e : s.cps.toList.length = s.length := by simp [Str.length]
    have := h.few
    rw [e]
    unfold SL
    omega
  simp [hl, h1, h2]
  rw [ev_comp (fun _ => some true) D.bl (enc := fun c => .str ⟨#[c]⟩) (l := s.cps.toList) (xs := s.cps.toList.map fun _ => true) (by induction s.cps.toList <;> simp_all) (it_seq rfl rfl) hz (fun c hc => ?_)]
  · have : ∀ l : List Nat, blsOf ((l.map fun _ => true).map D.bl) = some (l.map fun _ => true) := by
      intro l
      induction l with
      | nil => rfl
      | cons x l ih => simp [blsOf] at ih ⊢; simp [ih]
    simp [op1, lv, view]
    have h3 := this s.cps.toList
    simp at h3
    simp [h3]
  · have := h.all c hc
    simp [letters] at this
    simp [compT, asgT, wipeE, op2, Mi.inD, Mi.inB]
    exact this
/-! ### where a ticket was drawn -/
theorem dix_enum (hl : rs.length ≤ SL) {G : Ce} {c e : ME} {env : Mi.Env} {mv : ME} {own : List Nat} {tg : MT} (hr : evE G mv env M = .ok (Rec rs) M)
    (ht : ∀ k ∈ List.range rs.length, compT (evE G c) (evE G e) tg (wipeE env own) (.tup [.int (k : Nat), enc (rs.getD k default)]) M = .ok ((fIx rs t k).map fun k => .int (k : Nat)) M) :
    evE G (.comp .enum (.cons mv .nil) tg own c e) env M = .ok (.lst ((dix rs t).map fun k => .int (k : Nat))) M :=
  ev_comp (fIx rs t) (fun k => .int (k : Nat)) (enc := fun k => .tup [.int (k : Nat), enc (rs.getD k default)]) rfl (it_enum hr (by show some _ = _; rw [enumD_map])) (by simpa using hl) ht
theorem cut_take {k : Nat} : Mi.cutD none (some (k : Int)) ds = ds.take k := by
  unfold Mi.cutD
  rw [HT.sIx_none, HT.sIx_nat]
  rw [List.drop_zero]
  have e : HT.sIx ds.length 0 none = 0 := rfl
  rcases Nat.le_total k ds.length with h | h
  · rw [Nat.min_eq_left h]
    simp
  · rw [Nat.min_eq_right h, List.take_of_length_le h]
    simp
theorem at_dix (h : dix rs t ≠ []) : ∃ r, (dix rs t) = at_ rs t :: r := by
  unfold at_
  cases e : dix rs t with
  | nil => exact absurd e h
  | cons a r => exact ⟨r, rfl⟩
theorem take_rec {k : Nat} : (rs.map enc).take k = (rs.take k).map enc := by rw [List.map_take]
theorem c_lots_before (hl : rs.length ≤ SL) (hd : dix rs t ≠ []) : callF T gl 100 (n + 2) "lots_before" [Rec rs, .int t] M = .ok (.lst ((lotsOf (rs.take (at_ rs t))).map D.str)) M := by
  refine callF_pure fn_lots_before rfl ?_ (refs_str _ _)
  simp only [f_lots_before, b_lots_before, z_cons, z_asg, z_ret, e_p2]
  rw [dix_enum (t := t) hl rfl (fun k hk => ?_)]
  · obtain ⟨r, hr⟩ := at_dix hd
    rw [hr]
    simp [asgT, bndOf, ME.isNon, sliD, cut_take]
    rw [← List.map_take, c_lots_ahead (rs := rs.take (at_ rs t)) (by rw [List.length_take]; omega)]
    simp
  · unfold fIx
    generalize rs.getD k default = r
    cases r with
    | drw t' m => by_cases h : t' = t <;> simp [compT, asgT, setMany, enc, wipeE, isDr, h]
    | _ => simp [compT, asgT, setMany, enc, wipeE, isDr]
/-! ### in -/
theorem plain_strs : ∀ xs : List Str, (xs.map D.str).all Mi.plain = true
  | [] => rfl
  | x :: xs => by rw [List.map_cons, List.all_cons, plain_strs xs]; rfl
theorem any_strs {x : Str} : ∀ xs : List Str, ((xs.map D.str).any fun d => eqPl d (.str x)) = decide (x ∈ xs)
  | [] => by simp
  | y :: xs => by
    rw [List.map_cons, List.any_cons, any_strs xs]
    show ((y == x) || _) = _
    by_cases h : y = x
    · subst h; simp
    · have h' : ¬ x = y := fun z => h z.symm
      simp [h, h']
@[simp] theorem in_strs {x : Str} {xs : List Str} : op2 .isin (.str x) (.lst (xs.map D.str)) M = .ok (.bl (decide (x ∈ xs))) M := by
  show Mi.inD false _ _ M = _
  unfold Mi.inD Mi.inB
  simp only [view]
  have h1 := plain_strs xs
  have h2 := any_strs (x := x) xs
  rw [show Mi.plain (.str x) = true from rfl, h1, h2]
  simp
@[simp] theorem notin_strs {x : Str} {xs : List Str} : op2 .notin (.str x) (.lst (xs.map D.str)) M = .ok (.bl (!decide (x ∈ xs))) M := by
  show Mi.inD true _ _ M = _
  unfold Mi.inD Mi.inB
  simp only [view]
  have h1 := plain_strs xs
  have h2 := any_strs (x := x) xs
  rw [show Mi.plain (.str x) = true from rfl, h1, h2]
  cases decide (x ∈ xs) <;> rfl
@[simp] theorem in_two {x y z : Str} : op2 .isin (.str x) (.tup [.str y, .str z]) M = .ok (.bl (decide (x = y) || decide (x = z))) M := by
  simp only [op2]
  have e : Mi.inB M (.str x) (.tup [.str y, .str z]) = some ((y == x) || ((z == x) || false)) := rfl
  unfold Mi.inD
  rw [e]
  simp [Bool.beq_eq_decide_eq, eq_comm]
theorem fn_told_of' : findFn "told_of" T = some f_told_of := fn_told_of
theorem c_told_of (hl : rs.length ≤ SL) : callF T gl 100 (n + 1) "told_of" [Rec rs, .int t] M = .ok (.lst ((told rs t).map D.str)) M := by
  refine callF_pure fn_told_of rfl ?_ (refs_str _ _)
  simp only [f_told_of, b_told_of, z_cons, z_ret]
  rw [ev_comp (fTold t) D.str (enc := enc) (xs := told rs t) rfl (it_seq rfl rfl) hl (fun r _ => ?_)]
  · rfl
  · cases r with
    | has t' l p => by_cases h : t' = t <;> simp [compT, asgT, enc, wipeE, h, fTold, SL]
    | non t' l => by_cases h : t' = t <;> simp [compT, asgT, enc, wipeE, h, fTold, SL]
    | _ => simp [compT, asgT, enc, wipeE, fTold, SL]
/-! ### a row that is told -/
structure ToldOk (pre : List Rw) (t : Int) (l : Str) : Prop where
  lo : 1 ≤ t
  hi : t ≤ 999
  nm : NameOk l
  dr : drawn pre t ≠ []
  di : dix pre t ≠ []
  inn : l ∈ lotsOf (pre.take (at_ pre t))
  new : l ∉ told pre t
def OkRow (pre : List Rw) : Rw → Prop
  | .put nm m => NameOk nm ∧ 1 ≤ m ∧ m ≤ 9
  | .drw t m => 1 ≤ t ∧ t ≤ 999 ∧ 1 ≤ m ∧ m ≤ 9 ∧ drawn pre t = [] ∧ m ≤ inside pre
  | .has t l p => ToldOk pre t l ∧ 1 ≤ p ∧ p ≤ 9 ∧ (hasP pre t).sum + p ≤ (drawn pre t).headD 0
  | .non t l => ToldOk pre t l
theorem c_told_non (hl : rs.length ≤ SL) {l : Str} (h : ToldOk rs t l) : callF T gl 100 (n + 3) "is_told" [enc (.non t l), Rec rs] M = .ok (.bl true) M := by
  refine callF_pure fn_is_told rfl ?_ rfl
  simp only [f_is_told, b_is_told, enc]
  have hd := c_drawn_by (n := n + 1) (M := M) (t := t) hl
  obtain ⟨m, r, hm⟩ : ∃ m r, drawn rs t = m :: r := by
    cases e : drawn rs t with
    | nil => exact absurd e h.dr
    | cons a r => exact ⟨a, r, rfl⟩
  rw [hm] at hd
  have h1 := c_is_name (n := n + 1) (M := M) h.nm
  have h2 := c_lots_before (n := n) (M := M) hl h.di
  have h3 := c_told_of (n := n + 1) (M := M) (t := t) hl
  simp [asgT, setMany, SL, h.lo, h.hi, h1, hd, h2, h3, h.inn, h.new]
theorem c_told_has (hl : rs.length ≤ SL) {l : Str} {p : Int} (h : ToldOk rs t l) (p1 : 1 ≤ p) (p2 : p ≤ 9) (p3 : (hasP rs t).sum + p ≤ (drawn rs t).headD 0) : callF T gl 100 (n + 3) "is_told" [enc (.has t l p), Rec rs] M = .ok (.bl true) M := by
  refine callF_pure fn_is_told rfl ?_ rfl
  simp only [f_is_told, b_is_told, enc]
  have hd := c_drawn_by (n := n + 1) (M := M) (t := t) hl
  obtain ⟨m, r, hm⟩ : ∃ m r, drawn rs t = m :: r := by
    cases e : drawn rs t with
    | nil => exact absurd e h.dr
    | cons a r => exact ⟨a, r, rfl⟩
  rw [hm] at hd p3
  have p3 : (hasP rs t).sum + p ≤ m := p3
  have h1 := c_is_name (n := n + 1) (M := M) h.nm
  have h2 := c_lots_before (n := n) (M := M) hl h.di
  have h3 := c_told_of (n := n + 1) (M := M) (t := t) hl
  simp [asgT, setMany, SL, h.lo, h.hi, h1, hd, h2, h3, h.inn, h.new, p1, p2]
  rw [ev_comp (fHasP t) D.int (enc := enc) (xs := hasP rs t) rfl (it_seq rfl rfl) hl (fun r _ => ?_)]
  · simp [hd, p3]
  · cases r with
    | has t' l p => by_cases h : t' = t <;> simp [compT, asgT, enc, wipeE, h, fHasP]
    | _ => simp [compT, asgT, enc, wipeE, fHasP]
@[simp] theorem notin_sizes {x : Str} (hx : x = "put" ∨ x = "draw" ∨ x = "has" ∨ x = "none") : op2 .notin (.str x) (.tab ["put", "draw", "has", "none"] [.int 3, .int 3, .int 4, .int 3]) M = .ok (.bl false) M := by
  rcases hx with rfl | rfl | rfl | rfl <;> kernel_rfl
@[simp] theorem size_put : op2 .item (.tab ["put", "draw", "has", "none"] [.int 3, .int 3, .int 4, .int 3]) (.str "put") M = .ok (.int 3) M := by kernel_rfl
@[simp] theorem size_drw : op2 .item (.tab ["put", "draw", "has", "none"] [.int 3, .int 3, .int 4, .int 3]) (.str "draw") M = .ok (.int 3) M := by kernel_rfl
@[simp] theorem size_has : op2 .item (.tab ["put", "draw", "has", "none"] [.int 3, .int 3, .int 4, .int 3]) (.str "has") M = .ok (.int 4) M := by kernel_rfl
@[simp] theorem size_non : op2 .item (.tab ["put", "draw", "has", "none"] [.int 3, .int 3, .int 4, .int 3]) (.str "none") M = .ok (.int 3) M := by kernel_rfl
theorem c_row (hl : rs.length ≤ SL) {r : Rw} (h : OkRow rs r) : callF T gl 100 (n + 4) "is_record_row" [enc r, Rec rs] M = .ok (.bl true) M := by
  refine callF_pure fn_is_record_row rfl ?_ rfl
  simp only [f_is_record_row, b_is_record_row, enc]
  cases r with
  | put nm m =>
    obtain ⟨h1, h2, h3⟩ := h
    have k1 := c_is_name (n := n + 2) (M := M) h1
    simp [enc, k1, h2, h3]
  | drw t m =>
    obtain ⟨h1, h2, h3, h4, h5, h6⟩ := h
    have k1 := c_drawn_by (n := n + 2) (M := M) (t := t) hl
    rw [h5] at k1
    have k2 := c_many_inside (n := n + 2) (M := M) hl
    simp [enc, h1, h2, h3, h4, k1, k2, h6]
  | has t l p =>
    obtain ⟨h1, h2, h3, h4⟩ := h
    have k1 := c_told_has (n := n) (M := M) hl h1 h2 h3 h4
    simp only [enc] at k1
    simp [enc, k1]
  | non t l =>
    have k1 := c_told_non (n := n) (M := M) hl h
    simp only [enc] at k1
    simp [enc, k1]
/-! ### a valid record -/
structure Valid (rs : List Rw) : Prop where
  len : rs.length ≤ 30
  row : ∀ i, i < rs.length → OkRow (rs.take i) (rs.getD i default)
theorem Valid.sl (h : Valid rs) : rs.length ≤ SL := by have := h.len; unfold SL; omega
theorem c_require (h : Valid rs) : callF T gl 100 (n + 5) "require_record" [Rec rs] M = .ok .non M := by
  have key : ∃ env, evSs ⟨callF T gl 100 (n + 4), gl, 100⟩ f_require_record.body ([Rec rs].map some ++ List.replicate (f_require_record.ns - f_require_record.np) none) M = .ok (.nx env) M := by
    simp only [f_require_record, b_require_record]
    have hl := h.len
    have c30 : ¬ ((30 : Int) < (rs.length : Nat)) := by omega
    have loop := forL_inv (f := forT (evSs ⟨callF T gl 100 (n + 4), gl, 100⟩ l_require_record_1) (.tp [1, 2])) (ok := stillS []) (ds := enumD (rs.map enc))
      (I := fun i env M' => M' = M ∧ ∃ a b, env = [some (Rec rs), a, b]) (fun _ _ _ _ => rfl) (fun i d env M' hd hI => ?_) (env := [some (Rec rs), none, none]) ⟨rfl, none, none, rfl⟩
    · obtain ⟨env', M', e1, hM, _⟩ := loop
      subst hM
      refine ⟨env', ?_⟩
      simp [c30]
      rw [z_for (its := ⟨[], enumD (rs.map enc)⟩) (it_enum rfl rfl)]
      show Res.bind (forL _ (stillS []) _ _ _) _ = _
      rw [e1]
      rfl
    · obtain ⟨rfl, a, b, rfl⟩ := hI
      have hi : i < rs.length := by
        have := (List.getElem?_eq_some_iff.mp hd).1
        simpa [enumD_length] using this
      rw [enumD_map, List.getElem?_map, List.getElem?_range hi] at hd
      cases hd
      have hr := c_row (n := n) (M := M') (rs := rs.take i) (by rw [List.length_take]; have := h.sl; omega) (h.row i hi)
      refine ⟨[some (Rec rs), some (.int (i : Nat)), some (enc (rs.getD i default))], M', ?_, rfl, _, _, rfl⟩
      simp only [Rec, List.map_take, List.getD_eq_getElem?_getD] at hr
      simp [forT, asgT, setMany, bndOf, ME.isNon, sliD, cut_take, hr, l_require_record_1]
  obtain ⟨env, key⟩ := key
  exact callF_none fn_require_record rfl key
end
end P77
set_option Elab.async false
set_option linter.all false
set_option maxRecDepth 100000
set_option maxHeartbeats 0
/-! MiL1: the defs that the laws share: draws from the script, comparing. -/
namespace Mi
open PySem PySem.Spec PyProof.Rows L2
theorem callF_gen {T : List Fn} {gl : Str → Option D} {W n : Nat} {x : Str} {ds : List D} {M : Mem} {f : Fn} {r : Res Fl} (hf : findFn x T = some f) (hl : ds.length = f.np) (h : evSs ⟨callF T gl W n, gl, W⟩ f.body (ds.map some ++ List.replicate (f.ns - f.np) none) M = r) :
    callF T gl W (n + 1) x ds M = finish M (bodyRes r) := by
  simp only [callF, hf]
  rw [if_pos hl, h]
theorem it_rangeN {G : Ce} {env : Mi.Env} {M : Mem} {a : ME} {m : Nat} (h : evE G a env M = .ok (.int (m : Int)) M) (hm : m ≤ SL) : itR G .range (.cons a .nil) env M = .ok ⟨[], (List.range m).map fun k => .int (k : Nat)⟩ M := by
  have := it_range h (by omega) (by unfold SL at hm; omega)
  simpa using this
def takenB : MSs := (.cons (.ite (.p2 .gt (.p2 .item (.var 0) (.con (.int 3))) (.con (.int 0))) (.cons (.asg (.nm 3) (.p2 .mod (.p1 .int (.p2 .item (.var 0) (.con (.int 3)))) (.var 1))) (.cons (.setI (.var 0) (.con (.int 3)) (.p2 .fdiv (.p2 .item (.var 0) (.con (.int 3))) (.var 1))) (.cons (.ret (.var 3)) .nil))) .nil) (.cons (.setI (.var 0) (.con (.int 1)) (.p2 .add (.p2 .item (.var 0) (.con (.int 1))) (.con (.int 1)))) (.cons (.ite (.p2 .gt (.p2 .item (.var 0) (.con (.int 1))) (.p1 .len (.p2 .item (.var 0) (.con (.int 0))))) (.cons (.setI (.var 0) (.con (.int 2)) (.p2 .mod (.p1 .int (.p2 .add (.p2 .mul (.p2 .item (.var 0) (.con (.int 2))) (.con (.int 48271))) (.con (.int 11)))) (.con (.int 2147483647)))) (.cons (.ret (.p2 .mod (.p1 .int (.p2 .fdiv (.p2 .item (.var 0) (.con (.int 2))) (.con (.int 7)))) (.var 1))) .nil)) .nil) (.cons (.asg (.nm 2) (.p2 .item (.p2 .item (.var 0) (.con (.int 0))) (.p2 .sub (.p2 .item (.var 0) (.con (.int 1))) (.con (.int 1))))) (.cons (.setI (.var 0) (.con (.int 2)) (.p2 .mod (.p1 .int (.p2 .add (.p2 .add (.p2 .mul (.p2 .item (.var 0) (.con (.int 2))) (.con (.int 48271))) (.var 2)) (.con (.int 11)))) (.con (.int 2147483647)))) (.cons (.ite (.p2 .ge (.var 2) (.p2 .pow (.con (.int 10)) (.con (.int 18)))) (.cons (.setI (.var 0) (.con (.int 3)) (.p2 .fdiv (.var 2) (.var 1))) (.cons (.ret (.p2 .mod (.p1 .int (.var 2)) (.var 1))) .nil)) .nil) (.cons (.ret (.p2 .mod (.p1 .int (.p2 .add (.p2 .mul (.p2 .mod (.p1 .int (.var 2)) (.con (.int 1000003))) (.con (.int 31))) (.p2 .fdiv (.p2 .item (.var 0) (.con (.int 2))) (.con (.int 11))))) (.var 1))) .nil)))))))
def pickB : MSs := (.cons (.ret (.p2 .item (.var 1) (.call "_law_taken" (.cons (.var 0) (.cons (.p1 .len (.var 1)) .nil))))) .nil)
def alikeB : MSs := (.cons (.ite (.isi (.var 1) ["tuple", "list"]) (.cons (.ite (.or (.not (.isi (.var 0) ["tuple", "list"])) (.p2 .ne (.isi (.var 0) ["list"]) (.isi (.var 1) ["list"]))) (.cons (.ret (.con (.bl false))) .nil) .nil) (.cons (.ite (.p2 .ne (.p1 .len (.var 0)) (.p1 .len (.var 1))) (.cons (.ret (.con (.bl false))) .nil) .nil) (.cons (.ret (.p2 .eq (.comp .range (.cons (.p1 .len (.var 1)) .nil) (.nm 2) [2] (.not (.call "_law_alike" (.cons (.p2 .item (.var 0) (.var 2)) (.cons (.p2 .item (.var 1) (.var 2)) .nil)))) (.var 2)) (.lst .nil))) .nil))) .nil) (.cons (.ite (.or (.p2 .is (.var 1) (.con .non)) (.isi (.var 1) ["str"])) (.cons (.ret (.and (.p2 .eq (.var 0) (.var 1)) (.p2 .eq (.isi (.var 0) ["str"]) (.isi (.var 1) ["str"])))) .nil) .nil) (.cons (.ret (.and (.isi (.var 0) ["int"]) (.and (.p2 .eq (.isi (.var 0) ["bool"]) (.isi (.var 1) ["bool"])) (.p2 .eq (.var 0) (.var 1))))) .nil)))
/-- the script's state: the script, the next place, a seed, what is carried -/
def rowO (ns : List Int) (i seed carry : Int) : O := .lst [.scr (ns.map D.int), .int i, .int seed, .int carry]
def RowO (ns : List Int) (o : O) : Prop := ∃ i seed carry, o = rowO ns i seed carry ∧ 0 ≤ i
theorem refs_ints (L : Nat) : ∀ xs : List Int, D.refsLts L (xs.map D.int) = true
  | [] => rfl
  | x :: xs => by simp [D.refsLts, D.refsLt, refs_ints L xs]
theorem row_refs {L : Nat} {ns : List Int} {o : O} (h : RowO ns o) : O.refsLt L o = true := by
  obtain ⟨i, s, c, rfl, _⟩ := h
  simp [rowO, O.refsLt, D.refsLts, D.refsLt, refs_ints]
theorem kept_head {L : Nat} {o o' : O} {tl : Mem} (h : O.refsLt L o' = true) : ∀ k, k ≤ tl.length + 1 → keptFrom L (o :: tl) (o' :: tl) k = true
  | 0, _ => rfl
  | 1, _ => by simp [keptFrom, h]
  | k + 2, hk => by
    unfold keptFrom
    rw [kept_head h (k + 1) (by omega)]
    simp
theorem finish_head {o o' : O} {tl : Mem} {d : D} (h : O.refsLt (tl.length + 1) o' = true) (hd : D.refsLt (tl.length + 1) d = true) : finish (o :: tl) (.ok d (o' :: tl)) = .ok d (o' :: tl) := by
  unfold finish
  simp only [List.length_cons, freeze_id 3 d hd, hd, kept_head h (tl.length + 1) (Nat.le_refl _), Bool.and_self, if_true]
  rw [show tl.length + 1 = (o' :: tl).length from rfl, List.take_length]
section
variable {M : Mem} {a b : Int} {ns : List Int} {tl : Mem} {i s c v : Int}
@[simp] theorem p_mod (h : 0 < b) : op2 .mod (.int a) (.int b) M = .ok (.int (a % b)) M := by simp [op2, modD, h]
@[simp] theorem p_fdiv (h : 0 < b) (h2 : b < 1073741824) : op2 .fdiv (.int a) (.int b) M = .ok (.int (a / b)) M := by simp [op2, fdivD, h, h2]
@[simp] theorem p_mulK (h : mulOk a b = true) : op2 .mul (.int a) (.int b) M = .ok (.int (a * b)) M := by simp [op2, mulD, h]
@[simp] theorem p_mul48 : op2 .mul (.int a) (.int 48271) M = .ok (.int (a * 48271)) M := p_mulK (by simp [mulOk])
@[simp] theorem p_mul31 : op2 .mul (.int a) (.int 31) M = .ok (.int (a * 31)) M := p_mulK (by simp [mulOk])
@[simp] theorem p_int : op1 .int (.int a) M = .ok (.int a) M := rfl
@[simp] theorem p_pow18 : op2 .pow (.int 10) (.int 18) M = .ok (.int 1000000000000000000) M := by simp [op2, powD]
@[simp] theorem row0 : op2 .item (.ref 0) (.int 0) (rowO ns i s c :: tl) = .ok (.scr (ns.map D.int)) (rowO ns i s c :: tl) := by
  simp [op2, itemD, view, rowO, atI_get]
@[simp] theorem row1 : op2 .item (.ref 0) (.int 1) (rowO ns i s c :: tl) = .ok (.int i) (rowO ns i s c :: tl) := by
  simp [op2, itemD, view, rowO, atI_get]
@[simp] theorem row2 : op2 .item (.ref 0) (.int 2) (rowO ns i s c :: tl) = .ok (.int s) (rowO ns i s c :: tl) := by
  simp [op2, itemD, view, rowO, atI_get]
@[simp] theorem row3 : op2 .item (.ref 0) (.int 3) (rowO ns i s c :: tl) = .ok (.int c) (rowO ns i s c :: tl) := by
  simp [op2, itemD, view, rowO, atI_get]
@[simp] theorem row_s1 : setD (.ref 0) (.int 1) (.int v) (rowO ns i s c :: tl) = .ok () (rowO ns v s c :: tl) := by simp [setD, rowO, ixN]
@[simp] theorem row_s2 : setD (.ref 0) (.int 2) (.int v) (rowO ns i s c :: tl) = .ok () (rowO ns i v c :: tl) := by simp [setD, rowO, ixN]
@[simp] theorem row_s3 : setD (.ref 0) (.int 3) (.int v) (rowO ns i s c :: tl) = .ok () (rowO ns i s v :: tl) := by simp [setD, rowO, ixN]
@[simp] theorem len_scr {ds : List D} : op1 .len (.scr ds) M = .ok (.int ds.length) M := rfl
@[simp] theorem toFl_ok {env : Mi.Env} : toFl (.ok () M) env = .ok (.nx env) M := rfl
theorem scr_item (h : 0 ≤ a) (h2 : a < ns.length) : op2 .item (.scr (ns.map D.int)) (.int a) M = .ok (.int (ns.getD a.toNat 0)) M := by
  have h3 : a.toNat < ns.length := by omega
  simp only [op2, itemD, view, atI_get h, List.getElem?_map, List.getD_eq_getElem?_getD]
  rw [List.getElem?_eq_getElem h3]
  rfl
end
section
variable {T : List Fn} {gl : Str → Option D} {W n : Nat} {ns : List Int} {o : O} {tl : Mem} {many : Int}
theorem taken_ok (hf : findFn "_law_taken" T = some ⟨"_law_taken", 2, 4, takenB⟩) (h : RowO ns o) (h0 : 0 < many) (h1 : many < 1073741824) :
    ∃ r o', callF T gl W (n + 1) "_law_taken" [.ref 0, .int many] (o :: tl) = .ok (.int r) (o' :: tl) ∧ 0 ≤ r ∧ r < many ∧ RowO ns o' := by
  obtain ⟨i, s, c, rfl, hi⟩ := h
  have key : ∃ r o', evSs ⟨callF T gl W n, gl, W⟩ takenB [some (.ref 0), some (.int many), none, none] (rowO ns i s c :: tl) = .ok (.ret (.int r)) (o' :: tl) ∧ 0 ≤ r ∧ r < many ∧ RowO ns o' := by
    by_cases hc : 0 < c
    · refine ⟨c % many, rowO ns i s (c / many), ?_, Int.emod_nonneg _ (by omega), Int.emod_lt_of_pos _ h0, i, s, _, rfl, hi⟩
      simp [takenB, hc, h0, h1, asgT]
    · by_cases hl : (ns.length : Int) < i + 1
      · refine ⟨(s * 48271 + 11) % 2147483647 / 7 % many, rowO ns (i + 1) ((s * 48271 + 11) % 2147483647) c, ?_, Int.emod_nonneg _ (by omega), Int.emod_lt_of_pos _ h0, i + 1, _, c, rfl, by omega⟩
        simp [takenB, hc, h0, h1, hl]
      · have hcell := scr_item (M := rowO ns (i + 1) s c :: tl) (ns := ns) (a := i) hi (by omega)
        generalize ns.getD i.toNat 0 = cell at hcell
        by_cases hb : 1000000000000000000 ≤ cell
        · refine ⟨cell % many, rowO ns (i + 1) ((s * 48271 + cell + 11) % 2147483647) (cell / many), ?_, Int.emod_nonneg _ (by omega), Int.emod_lt_of_pos _ h0, i + 1, _, _, rfl, by omega⟩
          simp [takenB, hc, h0, h1, hl, hcell, asgT, hb]
        · refine ⟨(cell % 1000003 * 31 + (s * 48271 + cell + 11) % 2147483647 / 11) % many, rowO ns (i + 1) ((s * 48271 + cell + 11) % 2147483647) c, ?_, Int.emod_nonneg _ (by omega), Int.emod_lt_of_pos _ h0, i + 1, _, _, rfl, by omega⟩
          simp [takenB, hc, h0, h1, hl, hcell, asgT, hb]
  obtain ⟨r, o', e, h2, h3, h4⟩ := key
  refine ⟨r, o', ?_, h2, h3, h4⟩
  rw [callF_gen hf rfl e]
  exact finish_head (row_refs h4) rfl
theorem pick_ok (hf : findFn "_law_taken" T = some ⟨"_law_taken", 2, 4, takenB⟩) (hp : findFn "_law_pick" T = some ⟨"_law_pick", 2, 2, pickB⟩) (h : RowO ns o) {d : D} {ds : List D} (hd : (∃ xs, d = .lst xs) ∨ ∃ m, d = .ref m)
    (hv : ∀ o', view (o' :: tl) d = some ds) (h0 : ds ≠ []) (h1 : ds.length < 1073741824) (hr : ∀ x ∈ ds, D.refsLt (tl.length + 1) x = true) :
    ∃ x o', callF T gl W (n + 2) "_law_pick" [.ref 0, d] (o :: tl) = .ok x (o' :: tl) ∧ x ∈ ds ∧ RowO ns o' := by
  have hpos : 0 < ds.length := List.length_pos_iff.mpr h0
  obtain ⟨r, o', e, k1, k2, k3⟩ := taken_ok (gl := gl) (W := W) (n := n) (tl := tl) (many := ds.length) hf h (by omega) (by omega)
  have hi : r.toNat < ds.length := by omega
  have hl : op1 .len d (o :: tl) = .ok (.int ds.length) (o :: tl) := by
    rcases hd with ⟨xs, rfl⟩ | ⟨m, rfl⟩
    · have := hv o
      simp only [view] at this
      cases this
      rfl
    · simp only [op1, lenD, hv o]
  have hit : op2 .item d (.int r) (o' :: tl) = .ok (ds[r.toNat]'hi) (o' :: tl) := by
    have e1 : L2.atI ds r = some (ds[r.toNat]'hi) := by rw [atI_get k1, List.getElem?_eq_getElem hi]
    rcases hd with ⟨xs, rfl⟩ | ⟨m, rfl⟩
    · simp only [op2, itemD, hv o', e1]
    · simp only [op2, itemD, hv o', e1]
  refine ⟨ds[r.toNat]'hi, o', ?_, List.getElem_mem hi, k3⟩
  have e2 : evSs ⟨callF T gl W (n + 1), gl, W⟩ pickB [some (.ref 0), some d] (o :: tl) = .ok (.ret (ds[r.toNat]'hi)) (o' :: tl) := by
    simp [pickB, hl, e, hit]
  rw [callF_gen hp rfl e2]
  exact finish_head (row_refs k3) (hr _ (List.getElem_mem hi))
def Lz : Nat → D → Prop
  | k + 1, .tup ds => ds.length ≤ SL ∧ ∀ d ∈ ds, Lz k d
  | k + 1, .lst ds => ds.length ≤ SL ∧ ∀ d ∈ ds, Lz k d
  | _, _ => True
theorem p_neB {M : Mem} {a : Bool} : op2 .ne (.bl a) (.bl a) M = .ok (.bl false) M := by cases a <;> rfl
theorem p_eqB {M : Mem} {a : Bool} : op2 .eq (.bl a) (.bl a) M = .ok (.bl true) M := by cases a <;> rfl
theorem alike_ok (hf : findFn "_law_alike" T = some ⟨"_law_alike", 2, 3, alikeB⟩) {M : Mem} : ∀ (k n : Nat) {d : D}, k ≤ 64 → Sh k d = true → Lz k d → callF T gl W (n + k + 1) "_law_alike" [d, d] M = .ok (.bl true) M
  | k, n, d, hk, hs, hz => by
    have seq : ∀ (j : Nat), j < k → ∀ ds : List D, ds.all (Sh j) = true → ds.length ≤ SL → (∀ d ∈ ds, Lz j d) → (d = .tup ds ∨ d = .lst ds) → callF T gl W (n + k + 1) "_law_alike" [d, d] M = .ok (.bl true) M := by
      intro j hj ds h1 h2 h3 hd
      refine callF_pure hf rfl ?_ rfl
      show evSs _ alikeB [some d, some d, none] M = _
      have t1 : isTys M d ["tuple", "list"] = some true := by rcases hd with rfl | rfl <;> rfl
      have t2 : ∃ b, isTys M d ["list"] = some b := by rcases hd with rfl | rfl <;> exact ⟨_, rfl⟩
      obtain ⟨b, t2⟩ := t2
      have t3 : op1 .len d M = .ok (.int ds.length) M := by rcases hd with rfl | rfl <;> rfl
      have t4 : ∀ i, i < ds.length → op2 .item d (.int (i : Nat)) M = .ok (ds.getD i .non) M := by
        intro i hi
        have e1 : L2.atI ds (i : Int) = some (ds.getD i .non) := by
          rw [atI_get (by omega), List.getD_eq_getElem?_getD, Int.toNat_natCast, List.getElem?_eq_getElem hi]
          rfl
        rcases hd with rfl | rfl <;> simp only [op2, itemD, view, e1]
      simp [alikeB, t1, t2, t3, p_neB]
      rw [ev_comp (fun _ : Nat => (none : Option Nat)) (fun k : Nat => D.int (k : Nat)) (enc := fun k : Nat => D.int (k : Nat)) (l := List.range ds.length) (xs := []) (by simp) (it_rangeN (by simp [t3]) h2) (by rw [List.length_range]; exact h2) (fun i hi => ?_)]
      · simp only [bindOk, List.map_nil]
        rw [p_eqSh (k := 1) (by decide) rfl rfl]
        simp
      · have hi := List.mem_range.mp hi
        have hm : ds.getD i .non ∈ ds := by
          rw [List.getD_eq_getElem?_getD, List.getElem?_eq_getElem hi]
          exact List.getElem_mem hi
        have ih := alike_ok hf (M := M) j (n + (k - 1 - j)) (d := ds.getD i .non) (by omega) (List.all_eq_true.mp h1 _ hm) (h3 _ hm)
        rw [show n + (k - 1 - j) + j + 1 = n + k by omega] at ih
        simp only [List.getD_eq_getElem?_getD] at ih
        simp [compT, asgT, wipeE, t4 i hi, ih]
    have leaf : ∀ (t1 : isTys M d ["tuple", "list"] = some false), ((d = .non ∨ ∃ x, d = .str x) ∨ ∃ i, d = .int i) → callF T gl W (n + k + 1) "_law_alike" [d, d] M = .ok (.bl true) M := by
      intro t1 hd
      refine callF_pure hf rfl ?_ rfl
      show evSs _ alikeB [some d, some d, none] M = _
      have e := p_eqSh (M := M) hk hs hs
      rcases hd with (rfl | ⟨x, rfl⟩) | ⟨i, rfl⟩
      · have t2 : isTys M .non ["str"] = some false := rfl
        simp [alikeB, t1, t2, e, p_eqB]
      · have t2 : isTys M (.str x) ["str"] = some true := rfl
        simp [alikeB, t1, t2, p_eqB]
      · have t2 : isTys M (.int i) ["str"] = some false := rfl
        have t3 : isTys M (.int i) ["int"] = some true := rfl
        have t4 : isTys M (.int i) ["bool"] = some false := rfl
        simp [alikeB, t1, t2, t3, t4, p_eqB]
    cases d with
    | non => exact leaf rfl (.inl (.inl rfl))
    | int i => exact leaf rfl (.inr ⟨i, rfl⟩)
    | str x => exact leaf rfl (.inl (.inr ⟨x, rfl⟩))
    | tup ds =>
      cases k with
      | zero => cases hs
      | succ k => exact seq k (Nat.lt_succ_self k) ds hs hz.1 hz.2 (.inl rfl)
    | lst ds =>
      cases k with
      | zero => cases hs
      | succ k => exact seq k (Nat.lt_succ_self k) ds hs hz.1 hz.2 (.inr rfl)
    | _ => cases k <;> cases hs
end
end Mi
set_option Elab.async false
set_option linter.all false
set_option maxRecDepth 100000
set_option maxHeartbeats 0
/-! P77c: what a record tells. -/
namespace P77
open PySem PySem.Spec PyProof.Rows L2 Mi G77
theorem fn_lots_in : findFn "lots_in" T = some f_lots_in := by kernel_rfl
theorem fn_draws_in : findFn "draws_in" T = some f_draws_in := by kernel_rfl
theorem fn_left_in : findFn "left_in" T = some f_left_in := by kernel_rfl
theorem fn_require_drawn : findFn "require_drawn" T = some f_require_drawn := by kernel_rfl
theorem fn_require_lot : findFn "require_lot" T = some f_require_lot := by kernel_rfl
theorem fn_require_lots : findFn "require_lots" T = some f_require_lots := by kernel_rfl
theorem fn_demands_of : findFn "demands_of" T = some f_demands_of := by kernel_rfl
theorem fn_demands : findFn "demands" T = some f_demands := by kernel_rfl
theorem fn_row_of_draw : findFn "row_of_draw" T = some f_row_of_draw := by kernel_rfl
theorem fn_barred_lots : findFn "barred_lots" T = some f_barred_lots := by kernel_rfl
theorem fn_supplies_for : findFn "supplies_for" T = some f_supplies_for := by kernel_rfl
theorem fn_takes : findFn "takes" T = some f_takes := by kernel_rfl
theorem fn_barred_tickets : findFn "barred_tickets" T = some f_barred_tickets := by kernel_rfl
theorem fn_lots_ahead_of : findFn "lots_ahead_of" T = some f_lots_ahead_of := by kernel_rfl
section
variable {n : Nat} {M : Mem} {rs : List Rw} {t : Int} {ds : List D} {lot : Str}
def lotSet (xs : List Str) : List Str := sortS (setS xs)
@[simp] theorem tup_lst : op1 .tuple (.lst ds) M = .ok (.tup ds) M := rfl
/-- sorted({x for x in xs}) -/
theorem ev_set {G : Ce} {env : Mi.Env} {a : ME} {i : Nat} {xs : List Str} (ha : evE G a env M = .ok (.lst (xs.map D.str)) M) (hi : i < env.length) (hl : xs.length ≤ 4000) :
    evE G (.scomp (.comp .seq (.cons a .nil) (.nm i) [i] (.con (.bl true)) (.var i))) env M = .ok (.lst ((lotSet xs).map D.str)) M := by
  rw [e_scomp, ev_comp (fun x => some x) D.str (enc := D.str) (l := xs) (xs := xs) (by simp) (it_seq ha rfl) (by unfold SL; omega) (fun x _ => ?_)]
  · simp only [bindOk]
    unfold sortSet
    rw [strsD_map]
    simp only [if_pos hl]
    rfl
  · simp [compT, asgT, wipeE, hi]
theorem lots_len : (lotsOf rs).length ≤ rs.length := List.length_filterMap_le _ _
theorem c_lots_in (h : Valid rs) : callF T gl 100 (n + 6) "lots_in" [Rec rs] M = .ok (.tup ((lotSet (lotsOf rs)).map D.str)) M := by
  refine callF_pure fn_lots_in rfl ?_ (refs_str _ _)
  have hr := c_require (n := n) (M := M) h
  have ha := c_lots_ahead (n := n + 4) (M := M) h.sl
  have hz : (lotsOf rs).length ≤ 4000 := by have := lots_len (rs := rs); have := h.len; omega
  simp [f_lots_in, b_lots_in, hr]
  rw [ev_set (xs := lotsOf rs) (by simp [ha]) (by simp) hz]
  simp
def pairI (p : Int × Int) : D := .tup [.int p.1, .int p.2]
theorem refs_pairI (L : Nat) : ∀ xs : List (Int × Int), D.refsLts L (xs.map pairI) = true
  | [] => rfl
  | x :: xs => by simp [D.refsLts, D.refsLt, refs_pairI L xs, pairI]
theorem c_draws_in (h : Valid rs) : callF T gl 100 (n + 6) "draws_in" [Rec rs] M = .ok (.tup ((drs rs).map pairI)) M := by
  refine callF_pure fn_draws_in rfl ?_ (refs_pairI _ _)
  have hr := c_require (n := n) (M := M) h
  simp [f_draws_in, b_draws_in, hr]
  rw [ev_comp fDrw pairI (enc := enc) (xs := drs rs) rfl (it_seq rfl rfl) h.sl (fun r _ => ?_)]
  · simp
  · cases r <;> simp [compT, asgT, enc, wipeE, fDrw, pairI, SL]
theorem c_left_in (h : Valid rs) : callF T gl 100 (n + 6) "left_in" [Rec rs] M = .ok (.int (inside rs)) M := by
  refine callF_pure fn_left_in rfl ?_ rfl
  have hr := c_require (n := n) (M := M) h
  have ha := c_many_inside (n := n + 4) (M := M) h.sl
  simp [f_left_in, b_left_in, hr, ha]
theorem c_row_of_draw (hl : rs.length ≤ SL) (hd : dix rs t ≠ []) : callF T gl 100 (n + 1) "row_of_draw" [Rec rs, .int t] M = .ok (.int (at_ rs t : Nat)) M := by
  refine callF_pure fn_row_of_draw rfl ?_ rfl
  simp only [f_row_of_draw, b_row_of_draw, z_cons, z_ret, e_p2]
  rw [dix_enum (t := t) hl rfl (fun k hk => ?_)]
  · obtain ⟨r, hr⟩ := at_dix hd
    rw [hr]
    simp
  · unfold fIx
    generalize rs.getD k default = r
    cases r with
    | drw t' m => by_cases h : t' = t <;> simp [compT, asgT, setMany, enc, wipeE, isDr, h]
    | _ => simp [compT, asgT, setMany, enc, wipeE, isDr]
theorem c_barred_lots (hl : rs.length ≤ SL) : callF T gl 100 (n + 1) "barred_lots" [Rec rs, .int t] M = .ok (.lst ((nons rs t).map D.str)) M := by
  refine callF_pure fn_barred_lots rfl ?_ (refs_str _ _)
  simp only [f_barred_lots, b_barred_lots, z_cons, z_ret]
  rw [ev_comp (fNon t) D.str (enc := enc) (xs := nons rs t) rfl (it_seq rfl rfl) hl (fun r _ => ?_)]
  · rfl
  · cases r with
    | non t' l => by_cases h : t' = t <;> simp [compT, asgT, enc, wipeE, h, fNon]
    | _ => simp [compT, asgT, enc, wipeE, fNon]
/-! ### tickets that are drawn -/
theorem plain_ints : ∀ xs : List Int, (xs.map D.int).all Mi.plain = true
  | [] => rfl
  | x :: xs => by rw [List.map_cons, List.all_cons, plain_ints xs]; rfl
theorem any_ints {x : Int} : ∀ xs : List Int, ((xs.map D.int).any fun d => eqPl d (.int x)) = decide (x ∈ xs)
  | [] => by simp
  | y :: xs => by
    rw [List.map_cons, List.any_cons, any_ints xs]
    show ((y == x) || _) = _
    by_cases h : y = x
    · subst h; simp
    · have h' : ¬ x = y := fun z => h z.symm
      simp [h, h']
@[simp] theorem notin_ints {x : Int} {xs : List Int} : op2 .notin (.int x) (.lst (xs.map D.int)) M = .ok (.bl (!decide (x ∈ xs))) M := by
  simp only [op2]
  unfold Mi.inD Mi.inB
  simp only [view]
  have h1 := plain_ints xs
  have h2 := any_ints (x := x) xs
  rw [show Mi.plain (.int x) = true from rfl, h1, h2]
  cases decide (x ∈ xs) <;> rfl
theorem c_require_drawn (h : Valid rs) (ht : t ∈ (drs rs).map (·.1)) : callF T gl 100 (n + 7) "require_drawn" [Rec rs, .int t] M = .ok .non M := by
  have ha := c_draws_in (n := n) (M := M) h
  refine callF_none (env := [some (Rec rs), some (.int t), none, none]) fn_require_drawn rfl ?_
  simp [f_require_drawn, b_require_drawn]
  have hz : (drs rs).length ≤ SL := Nat.le_trans (List.length_filterMap_le _ _) h.sl
  rw [ev_comp (fun p => some p.1) D.int (enc := pairI) (l := drs rs) (xs := (drs rs).map (·.1)) (by simp) (it_seq (by simp [ha]; rfl) rfl) hz (fun p _ => ?_)]
  · simp only [bindOk]
    rw [notin_ints, decide_eq_true ht]
    simp
  · simp [compT, asgT, setMany, wipeE, pairI]
theorem c_lots_ahead_of (h : Valid rs) (ht : t ∈ (drs rs).map (·.1)) (hd : dix rs t ≠ []) : callF T gl 100 (n + 8) "lots_ahead_of" [Rec rs, .int t] M = .ok (.tup ((lotSet (lotsOf (rs.take (at_ rs t)))).map D.str)) M := by
  refine callF_pure fn_lots_ahead_of rfl ?_ (refs_str _ _)
  have h1 := c_require (n := n + 2) (M := M) h
  have h2 := c_require_drawn (n := n) (M := M) h ht
  have h3 := c_row_of_draw (n := n + 6) (M := M) h.sl hd
  have hz : (rs.take (at_ rs t)).length ≤ 30 := by rw [List.length_take]; have := h.len; omega
  have h4 := c_lots_ahead (n := n + 6) (M := M) (rs := rs.take (at_ rs t)) (by unfold SL; omega)
  simp only [Rec, List.map_take] at h4
  have hz2 : (lotsOf (rs.take (at_ rs t))).length ≤ 4000 := by have := lots_len (rs := rs.take (at_ rs t)); omega
  simp [f_lots_ahead_of, b_lots_ahead_of, h1, h2]
  rw [ev_set (xs := lotsOf (rs.take (at_ rs t))) (by simp [h3, bndOf, ME.isNon, sliD, cut_take, h4]) (by simp) hz2]
  simp
theorem c_require_lot (h : Valid rs) (ht : lot ∈ lotsOf rs) : callF T gl 100 (n + 2) "require_lot" [Rec rs, .str lot] M = .ok .non M := by
  have ha := c_lots_ahead (n := n) (M := M) h.sl
  refine callF_none (env := [some (Rec rs), some (.str lot)]) fn_require_lot rfl ?_
  simp [f_require_lot, b_require_lot, ha, ht]
theorem c_require_lots (h : Valid rs) (ht : lot ∈ lotsOf rs) : callF T gl 100 (n + 6) "require_lots" [Rec rs, .tup [.str lot]] M = .ok .non M := by
  have h1 := c_require (n := n) (M := M) h
  have h2 := c_require_lot (n := n + 3) (M := M) h ht
  refine callF_none (env := [some (Rec rs), some (.tup [.str lot]), some (.str lot)]) fn_require_lots rfl ?_
  simp [f_require_lots, b_require_lots, h1]
  rw [z_for (its := ⟨[], [.str lot]⟩) (it_seq rfl rfl)]
  simp [forL, stillS, forT, asgT, h2, l_require_lots_1]
/-! ### what is demanded -/
def pairS (p : Str × Int) : D := .tup [.str p.1, .int p.2]
def sortP (l : List (Str × Int)) : List (Str × Int) := l.mergeSort fun a b => PySem.W.dataLe false D.py (pairS a) (pairS b)
theorem sortP_perm (l : List (Str × Int)) : (sortP l).Perm l := List.mergeSort_perm _ _
def tri (p : Int × Str × Int) : D := .tup [.int p.1, .str p.2.1, .int p.2.2]
theorem refs_tri (L : Nat) : ∀ xs : List (Int × Str × Int), D.refsLts L (xs.map tri) = true
  | [] => rfl
  | x :: xs => by simp [D.refsLts, D.refsLt, refs_tri L xs, tri]
def restOf (rs : List Rw) (q : Int × Int) : Int := q.2 - ((sortP (hasL rs q.1)).map (·.2)).sum
def dueOf (rs : List Rw) (q : Int × Int) : List (Int × Str × Int) := (sortP (hasL rs q.1)).map (fun p => (q.1, p.1, p.2)) ++ if 0 < restOf rs q then [(q.1, (("" : Str), restOf rs q))] else []
def dueAll (rs : List Rw) : List (Int × Str × Int) := (drs rs).flatMap (dueOf rs)
theorem name_ok {s : Str} (h : NameOk s) : (PyData.str s).canLay0 = true := by
  show PySem.PyData.strOk s = true
  unfold PySem.PyData.strOk
  rw [Array.all_eq_true]
  intro i hi
  have h1 := h.all (s.cps[i]) (by simp)
  have h2 : ∀ c ∈ letters.cps.toList, c < 0x110000 := by decide
  exact decide_eq_true (h2 _ h1)
theorem named {rs : List Rw} (h : Valid rs) : ∀ r ∈ rs, ∀ t l p, r = .has t l p → NameOk l := by
  intro r hr t l p e
  obtain ⟨i, hi⟩ := List.mem_iff_getElem?.mp hr
  have hil := (List.getElem?_eq_some_iff.mp hi).1
  have := h.row i hil
  rw [List.getD_eq_getElem?_getD, hi, e] at this
  exact this.1.nm
theorem hasL_named (h : Valid rs) : ∀ p ∈ hasL rs t, NameOk p.1 := by
  intro p hp
  obtain ⟨r, hr, e⟩ := List.mem_filterMap.mp hp
  cases r with
  | has t' l p' =>
    unfold fHas at e
    simp only at e
    split at e
    · cases e; exact named h _ hr _ _ _ rfl
    · cases e
  | _ => cases e
/-- sorted of pairs -/
theorem sorted_pairs {l : List (Str × Int)} (hl : l.length ≤ SL) (hn : ∀ p ∈ l, NameOk p.1) : op1 .sorted (.lst (l.map pairS)) M = .ok (.lst ((sortP l).map pairS)) M :=
  sorted_gen rfl hl (fun _ _ => rfl) (.inl fun _ => rfl) fun a ha => sh_shaped (k := 1) (by decide) (by simp [Sh, pairS, name_ok (hn a ha)])
theorem due_len (h : Valid rs) (q : Int × Int) : (dueOf rs q).length ≤ 31 := by
  unfold dueOf
  have h1 : (sortP (hasL rs q.1)).length ≤ 30 := by
    rw [(sortP_perm _).length_eq]
    exact Nat.le_trans (List.length_filterMap_le _ _) h.len
  rw [List.length_append, List.length_map]
  split
  · simp only [List.length_cons, List.length_nil]; omega
  · simp only [List.length_nil]; omega
theorem drs_len (h : Valid rs) : (drs rs).length ≤ 30 := Nat.le_trans (List.length_filterMap_le _ _) h.len
theorem due_take (h : Valid rs) (i : Nat) : (((drs rs).take i).flatMap (dueOf rs)).length ≤ 930 := by
  have h1 := flatMap_le (l := (drs rs).take i) (f := dueOf rs) (k := 31) fun q _ => due_len h q
  have h2 := drs_len h
  have h3 : ((drs rs).take i).length ≤ (drs rs).length := by rw [List.length_take]; omega
  omega
theorem c_demands_of (h : Valid rs) : callF T gl 100 (n + 1) "demands_of" [Rec rs] M = .ok (.tup ((dueAll rs).map tri)) M := by
  have loop := forL_inv (f := forT (evSs ⟨callF T gl 100 n, gl, 100⟩ l_demands_of_1) (.tp [2, 3, 4])) (ok := stillS []) (ds := (drs rs).map fun q => enc (.drw q.1 q.2))
    (I := fun i env M' => M' = M ++ [.lst ((((drs rs).take i).flatMap (dueOf rs)).map tri)] ∧ ∃ a b c d e f g k, env = [some (Rec rs), some (.ref M.length), a, b, c, d, e, f, g, k]) (fun _ _ _ _ => rfl) (fun i d env M' hd hI => ?_)
    (env := [some (Rec rs), some (.ref M.length), none, none, none, none, none, none, none, none]) (M := M ++ [.lst []]) ⟨by simp, none, none, none, none, none, none, none, none, rfl⟩
  · obtain ⟨env', M', e1, hM, a, b, c, d, e, f, g, k, rfl⟩ := loop
    rw [List.length_map, List.take_length] at hM
    subst hM
    refine callF_alloc (N := [.lst ((dueAll rs).map tri)]) fn_demands_of rfl ?_ (refs_tri _ _)
    simp only [f_demands_of, b_demands_of, z_cons, z_asg, e_new, e_lst, e_nil]
    simp [newD, asgT, SL]
    rw [z_for (its := ⟨[], (drs rs).map fun q => enc (.drw q.1 q.2)⟩) (M1 := M ++ [O.lst []]) (it_seq (d := .lst ((drs rs).map fun q => enc (.drw q.1 q.2))) (ev_comp fDrw (fun q => enc (.drw q.1 q.2)) (enc := enc) (xs := drs rs) rfl (it_seq rfl rfl) h.sl (fun r _ => ?_)) rfl)]
    · show Res.bind (forL _ (stillS []) _ _ _) _ = _
      rw [e1]
      simp [dueAll]
    · cases r <;> simp [compT, asgT, enc, wipeE, fDrw]
  · obtain ⟨rfl, a, b, c, d', e, f, g, k, rfl⟩ := hI
    rw [List.getElem?_map] at hd
    obtain ⟨q, hq, rfl⟩ := Option.map_eq_some_iff.mp hd
    have hs := due_take h i
    have hl : (hasL rs q.1).length ≤ 30 := Nat.le_trans (List.length_filterMap_le _ _) h.len
    have hl2 : (sortP (hasL rs q.1)).length ≤ 30 := by rw [(sortP_perm _).length_eq]; exact hl
    have hso := sorted_pairs (M := M ++ [.lst ((((drs rs).take i).flatMap (dueOf rs)).map tri)]) (l := hasL rs q.1) (by unfold SL; omega) (hasL_named h)
    refine ⟨[some (Rec rs), some (.ref M.length), some (.str "draw"), some (.int q.1), some (.int q.2), some (.lst ((sortP (hasL rs q.1)).map pairS)), some (.int (restOf rs q)), f, g, k], M ++ [.lst ((((drs rs).take (i + 1)).flatMap (dueOf rs)).map tri)], ?_, rfl, _, _, _, _, _, _, _, _, rfl⟩
    rw [flatMap_take hq]
    simp [forT, asgT, setMany, l_demands_of_1, enc]
    rw [ev_comp (fHas q.1) pairS (enc := enc) (xs := hasL rs q.1) rfl (it_seq rfl rfl) h.sl (fun r _ => ?_)]
    · simp only [bindOk, hso]
      simp
      rw [ev_comp (fun p => some (q.1, p.1, p.2)) tri (enc := pairS) (l := sortP (hasL rs q.1)) (xs := (sortP (hasL rs q.1)).map (fun p => (q.1, p.1, p.2))) (by simp) (it_seq rfl rfl) (by unfold SL; omega) (fun p _ => ?_)]
      · simp only [bindOk]
        rw [ext_last (by simp only [List.length_map]; unfold SL; omega)]
        simp [toFl]
        rw [ev_comp (fun p => some p.2) D.int (enc := pairS) (l := sortP (hasL rs q.1)) (xs := (sortP (hasL rs q.1)).map (·.2)) (by simp) (it_seq rfl rfl) (by unfold SL; omega) (fun p _ => ?_)]
        · simp only [bindOk, sum_ok]
          have hr : q.2 - ((sortP (hasL rs q.1)).map (·.2)).sum = restOf rs q := rfl
          simp only [p_sub, bindOk, hr]
          by_cases hp : 0 < restOf rs q
          · simp [hp, dueOf]
            rw [if_pos (by unfold SL; omega)]
            simp only [bindOk]
            rw [app_last (by simp only [List.length_append, List.length_map]; unfold SL; omega)]
            simp [tri]
          · simp [hp, dueOf]
        · simp [compT, asgT, setMany, wipeE, pairS]
      · simp [compT, asgT, setMany, wipeE, pairS, tri, SL]
    · cases r with
      | has t' l p => by_cases h : t' = q.1 <;> simp [compT, asgT, enc, wipeE, h, fHas, pairS, SL]
      | _ => simp [compT, asgT, enc, wipeE, fHas, pairS]
theorem c_demands (h : Valid rs) : callF T gl 100 (n + 6) "demands" [Rec rs] M = .ok (.tup ((dueAll rs).map tri)) M := by
  refine callF_pure fn_demands rfl ?_ (refs_tri _ _)
  have h1 := c_require (n := n) (M := M) h
  have h2 := c_demands_of (n := n + 4) (M := M) h
  simp [f_demands, b_demands, h1, h2]
/-! ### what supplies a demand -/
def fSup (rs : List Rw) (lot : Str) (bar : List Str) (k : Nat) : Option Nat := match rs.getD k default with
  | .put nm _ => if lot = "" then (if nm ∈ bar then none else some k) else (if nm = lot then some k else none)
  | _ => none
def supOf (rs : List Rw) (q : Int × Str × Int) : List Nat := (List.range (at_ rs q.1)).filterMap (fSup rs q.2.1 (nons rs q.1))
def natD (k : Nat) : D := .int (k : Nat)
theorem refs_nat (L : Nat) : ∀ xs : List Nat, D.refsLts L (xs.map natD) = true
  | [] => rfl
  | x :: xs => by simp [D.refsLts, D.refsLt, refs_nat L xs, natD]
theorem at_le (hd : dix rs t ≠ []) : at_ rs t < rs.length := by
  obtain ⟨r, e⟩ := at_dix hd
  have h : at_ rs t ∈ dix rs t := by rw [e]; exact List.mem_cons_self
  obtain ⟨k, hk, q⟩ := List.mem_filterMap.mp h
  unfold fIx at q
  split at q
  · cases q
    exact List.mem_range.mp hk
  · cases q
theorem take_getD {k m : Nat} (h : k < m) (hm : m ≤ rs.length) : (rs.take m).getD k default = rs.getD k default := by
  rw [List.getD_eq_getElem?_getD, List.getD_eq_getElem?_getD, List.getElem?_take, if_pos h]
theorem c_supplies (h : Valid rs) (hd : dix rs t ≠ []) {m : Int} : callF T gl 100 (n + 2) "supplies_for" [Rec rs, .int t, .str lot] M = .ok (.lst ((supOf rs (t, lot, m)).map natD)) M := by
  refine callF_pure fn_supplies_for rfl ?_ (refs_nat _ _)
  have h1 := c_row_of_draw (n := n) (M := M) h.sl hd
  have h2 := c_barred_lots (n := n) (M := M) (t := t) h.sl
  have ha := at_le hd
  have hl : (rs.take (at_ rs t)).length = at_ rs t := by rw [List.length_take]; omega
  have hz := h.sl
  simp [f_supplies_for, b_supplies_for, h1, bndOf, ME.isNon, sliD, cut_take, asgT]
  by_cases hlot : lot = ""
  · subst hlot
    simp [h2, asgT]
    rw [ev_comp (fSup rs "" (nons rs t)) natD (enc := fun k => .tup [.int (k : Nat), enc ((rs.take (at_ rs t)).getD k default)]) (l := List.range (at_ rs t)) (xs := supOf rs (t, "", m)) rfl
      (it_enum (d := .tup ((rs.map enc).take (at_ rs t))) (by simp) (by show some _ = _; rw [← List.map_take, enumD_map, hl])) (by rw [List.length_range]; omega) (fun k hk => ?_)]
    · simp
    · rw [take_getD (List.mem_range.mp hk) (by omega)]
      unfold fSup
      generalize rs.getD k default = r
      cases r with
      | put nm mm => by_cases hb : nm ∈ nons rs t <;> simp [compT, asgT, setMany, enc, wipeE, hb, natD]
      | _ => simp [compT, asgT, setMany, enc, wipeE]
  · simp [hlot]
    rw [ev_comp (fSup rs lot (nons rs t)) natD (enc := fun k => .tup [.int (k : Nat), enc ((rs.take (at_ rs t)).getD k default)]) (l := List.range (at_ rs t)) (xs := supOf rs (t, lot, m)) rfl
      (it_enum (d := .tup ((rs.map enc).take (at_ rs t))) (by simp) (by show some _ = _; rw [← List.map_take, enumD_map, hl])) (by rw [List.length_range]; omega) (fun k hk => ?_)]
    · simp
    · rw [take_getD (List.mem_range.mp hk) (by omega)]
      unfold fSup
      generalize rs.getD k default = r
      cases r with
      | put nm mm => by_cases hb : nm = lot <;> simp [compT, asgT, setMany, enc, wipeE, hb, natD, hlot]
      | _ => simp [compT, asgT, setMany, enc, wipeE]
def supD (rs : List Rw) (q : Int × Str × Int) : D := .tup ((supOf rs q).map natD)
theorem refs_sup (L : Nat) : ∀ xs : List (Int × Str × Int), D.refsLts L (xs.map (supD rs)) = true
  | [] => rfl
  | x :: xs => by
    rw [List.map_cons]
    unfold D.refsLts
    rw [refs_sup L xs]
    show (D.refsLts L _ && true) = true
    rw [refs_nat]
    rfl
theorem due_all_len (h : Valid rs) : (dueAll rs).length ≤ 930 := by
  have := due_take h (drs rs).length
  rw [List.take_length] at this
  exact this
theorem due_tickets {p : Int × Str × Int} (hp : p ∈ dueAll rs) : ∃ m, (p.1, m) ∈ drs rs := by
  obtain ⟨q, hq, h⟩ := List.mem_flatMap.mp hp
  refine ⟨q.2, ?_⟩
  have e : p.1 = q.1 := by
    unfold dueOf at h
    rcases List.mem_append.mp h with h | h
    · obtain ⟨z, _, rfl⟩ := List.mem_map.mp h
      rfl
    · split at h
      · rw [List.mem_singleton.mp h]
      · cases h
  rw [e]
  exact hq
theorem drs_dix {m : Int} (h : (t, m) ∈ drs rs) : dix rs t ≠ [] := by
  obtain ⟨r, hr, e⟩ := List.mem_filterMap.mp h
  obtain ⟨i, hi⟩ := List.mem_iff_getElem?.mp hr
  have hil := (List.getElem?_eq_some_iff.mp hi).1
  have : i ∈ dix rs t := by
    refine List.mem_filterMap.mpr ⟨i, List.mem_range.mpr hil, ?_⟩
    unfold fIx
    rw [List.getD_eq_getElem?_getD, hi]
    cases r with
    | drw t' m' =>
      unfold fDrw at e
      cases e
      simp [isDr]
    | _ => cases e
  exact List.ne_nil_of_mem this
theorem c_takes (h : Valid rs) : callF T gl 100 (n + 7) "takes" [Rec rs] M = .ok (.tup ((dueAll rs).map (supD rs))) M := by
  refine callF_pure fn_takes rfl ?_ (refs_sup _ _)
  have h1 := c_demands (n := n) (M := M) h
  simp [f_takes, b_takes]
  rw [ev_comp (fun p => some p) (supD rs) (enc := tri) (l := dueAll rs) (xs := dueAll rs) (by simp) (it_seq (d := .tup ((dueAll rs).map tri)) (by simp [h1]) rfl) (by have := due_all_len h; unfold SL; omega) (fun p hp => ?_)]
  · simp
  · obtain ⟨m, hm⟩ := due_tickets hp
    have h2 := c_supplies (n := n + 4) (M := M) (t := p.1) (lot := p.2.1) (m := p.2.2) h (drs_dix hm)
    simp [compT, asgT, setMany, wipeE, tri, h2, supD]
end
end P77
set_option Elab.async false
set_option linter.all false
set_option maxRecDepth 100000
set_option maxHeartbeats 0
/-! P77d: what the law counts by itself. -/
namespace P77
open PySem PySem.Spec PyProof.Rows L2 Mi G77
theorem fn_law_lots : findFn "_law_lots" T = some f__law_lots := by kernel_rfl
theorem fn_taken : findFn "_law_taken" T = some ⟨"_law_taken", 2, 4, takenB⟩ := by kernel_rfl
theorem fn_pick : findFn "_law_pick" T = some ⟨"_law_pick", 2, 2, pickB⟩ := by kernel_rfl
theorem fn_alike : findFn "_law_alike" T = some ⟨"_law_alike", 2, 3, alikeB⟩ := by kernel_rfl
section
variable {n : Nat} {M : Mem} {rs : List Rw} {t : Int} {ds : List D} {lot : Str}
/-! ### lots -/
theorem lots_named (h : Valid rs) : ∀ x ∈ lotsOf rs, NameOk x := by
  intro x hx
  obtain ⟨r, hr, e⟩ := List.mem_filterMap.mp hx
  obtain ⟨i, hi⟩ := List.mem_iff_getElem?.mp hr
  have hil := (List.getElem?_eq_some_iff.mp hi).1
  have := h.row i hil
  rw [List.getD_eq_getElem?_getD, hi] at this
  cases r with
  | put nm m => cases e; exact this.1
  | _ => cases e
theorem notin_last {x : Str} {xs : List Str} : op2 .notin (.str x) (.ref M.length) (M ++ [.lst (xs.map D.str)]) = .ok (.bl (!decide (x ∈ xs))) (M ++ [.lst (xs.map D.str)]) := by
  simp only [op2]
  unfold Mi.inD Mi.inB
  have h1 := plain_strs xs
  have h2 := any_strs (x := x) xs
  simp only [view_last]
  rw [show Mi.plain (.str x) = true from rfl, h1, h2]
  cases decide (x ∈ xs) <;> rfl
theorem lots_take {i : Nat} {r : Rw} (h : rs[i]? = some r) : lotsOf (rs.take (i + 1)) = lotsOf (rs.take i) ++ (fPut r).toList := by
  unfold lotsOf
  rw [List.take_add_one, h, List.filterMap_append]
  cases r <;> rfl
theorem c_law_lots (h : Valid rs) : callF T gl 100 (n + 1) "_law_lots" [Rec rs] M = .ok (.lst ((lotSet (lotsOf rs)).map D.str)) M := by
  have hu := uniq_ok (lotsOf rs)
  have hlen : (lotsOf rs).length ≤ 30 := Nat.le_trans lots_len h.len
  have loop := forL_inv (f := forT (evSs ⟨callF T gl 100 n, gl, 100⟩ l__law_lots_1) (.nm 2)) (ok := stillS []) (ds := rs.map enc)
    (I := fun i env M' => M' = M ++ [.lst ((uniq (lotsOf (rs.take i))).map D.str)] ∧ ∃ a, env = [some (Rec rs), some (.ref M.length), a]) (fun _ _ _ _ => rfl) (fun i d env M' hd hI => ?_)
    (env := [some (Rec rs), some (.ref M.length), none]) (M := M ++ [.lst []]) ⟨by simp [lotsOf, uniq], none, rfl⟩
  · obtain ⟨env', M', e1, hM, a, rfl⟩ := loop
    rw [List.length_map, List.take_length] at hM
    subst hM
    refine callF_alloc (N := [.lst ((uniq (lotsOf rs)).map D.str)]) fn_law_lots rfl ?_ (refs_str _ _)
    have hso := sorted_strs (M := M ++ [.lst ((uniq (lotsOf rs)).map D.str)]) (d := .ref M.length) (xs := uniq (lotsOf rs)) (by simp [lview]) (by unfold SL; omega) (fun x hx => name_ok (lots_named h x ((hu.2.1 x).mp hx)))
    simp only [f__law_lots, b__law_lots, z_cons, z_asg, e_new, e_lst, e_nil]
    simp [newD, asgT, SL]
    rw [z_for (its := ⟨[], rs.map enc⟩) (M1 := M ++ [O.lst []]) (it_seq rfl rfl)]
    show Res.bind (forL _ (stillS []) _ _ _) _ = _
    rw [e1]
    simp only [bindOk]
    simp [hso, lotSet, sort_uniq]
  · obtain ⟨rfl, a, rfl⟩ := hI
    rw [List.getElem?_map] at hd
    obtain ⟨r, hr, rfl⟩ := Option.map_eq_some_iff.mp hd
    refine ⟨[some (Rec rs), some (.ref M.length), some (enc r)], M ++ [.lst ((uniq (lotsOf (rs.take (i + 1)))).map D.str)], ?_, rfl, _, rfl⟩
    rw [lots_take hr]
    cases r with
    | put nm m =>
      show _ = Res.ok _ (M ++ [.lst ((uniq (lotsOf (rs.take i) ++ [nm])).map D.str)])
      rw [uniq_snoc]
      have hl : (uniq (lotsOf (rs.take i))).length ≤ 30 := by
        have h1 := (uniq_ok (lotsOf (rs.take i))).2.2
        have h2 := lots_len (rs := rs.take i)
        have h3 : (rs.take i).length ≤ rs.length := by rw [List.length_take]; omega
        have := h.len
        omega
      by_cases hx : nm ∈ uniq (lotsOf (rs.take i))
      · simp [forT, asgT, l__law_lots_1, enc, notin_last, hx]
      · have ha := app_last (M := M) (x := (uniq (lotsOf (rs.take i))).map D.str) (d := .str nm) (by rw [List.length_map]; unfold SL; omega)
        simp [forT, asgT, l__law_lots_1, enc, notin_last, hx, ha]
    | _ => simp [forT, asgT, l__law_lots_1, enc, fPut]
/-! ### tickets -/
def tks (rs : List Rw) : List Int := (drs rs).map (·.1)
def fNonT (lot : Str) : Rw → Option Int
  | .non t l => if l = lot then some t else none
  | _ => none
def nonT (rs : List Rw) (lot : Str) : List Int := rs.filterMap (fNonT lot)
def fDrwT : Rw → Option Int
  | .drw t _ => some t
  | _ => none
theorem tks_eq : tks rs = rs.filterMap fDrwT := by
  unfold tks drs
  rw [List.map_filterMap]
  congr 1
  funext r
  cases r <;> rfl
theorem c_barred (h : Valid rs) (ht : lot ∈ lotsOf rs) : callF T gl 100 (n + 7) "barred_tickets" [Rec rs, .str lot] M = .ok (.tup (((sortI (tks rs)).filter fun t => decide (lot ∈ nons rs t)).map D.int)) M := by
  refine callF_pure fn_barred_tickets rfl ?_ (refs_ints _ _)
  have h1 := c_require_lots (n := n) (M := M) h ht
  have hl : (tks rs).length ≤ 30 := by unfold tks; rw [List.length_map]; exact drs_len h
  have hso := sorted_ints (M := M) (d := .lst ((tks rs).map D.int)) (xs := tks rs) rfl (by unfold SL; omega)
  simp [f_barred_tickets, b_barred_tickets, h1, SL]
  rw [ev_comp fDrwT D.int (enc := enc) (xs := tks rs) tks_eq.symm (it_seq rfl rfl) h.sl (fun r _ => ?_)]
  · simp only [bindOk, hso]
    simp [asgT]
    rw [ev_comp (fun t => if lot ∈ nons rs t then some t else none) D.int (enc := D.int) (l := sortI (tks rs)) (xs := (sortI (tks rs)).filter fun t => decide (lot ∈ nons rs t)) ?_ (it_seq rfl rfl) (by rw [sortI_len]; unfold SL; omega) (fun t _ => ?_)]
    · simp
    · rw [← List.filterMap_eq_filter]
      congr 1
      funext t
      simp [Option.guard]
    · have h2 := c_barred_lots (n := n + 5) (M := M) (t := t) h.sl
      by_cases hb : lot ∈ nons rs t <;> simp [compT, asgT, wipeE, h2, hb]
  · cases r <;> simp [compT, asgT, enc, wipeE, fDrwT]
theorem mem_at {r : Rw} (h : r ∈ rs) : ∃ i, i < rs.length ∧ rs.getD i default = r := by
  obtain ⟨i, hi⟩ := List.mem_iff_getElem?.mp h
  exact ⟨i, (List.getElem?_eq_some_iff.mp hi).1, by rw [List.getD_eq_getElem?_getD, hi]; rfl⟩
/-- no two rows give the same, if none gives what one ahead of it gives -/
theorem nodup_of {α : Type} {f : Rw → Option α} : ∀ {rs : List Rw}, (∀ i, i < rs.length → ∀ a, f (rs.getD i default) = some a → a ∉ (rs.take i).filterMap f) → (rs.filterMap f).Nodup := by
  intro rs
  have go : ∀ k, k ≤ rs.length → (∀ i, i < rs.length → ∀ a, f (rs.getD i default) = some a → a ∉ (rs.take i).filterMap f) → ((rs.take k).filterMap f).Nodup := by
    intro k
    induction k with
    | zero => intro _ _; simp
    | succ k ih =>
      intro hk h
      have hk' : k < rs.length := hk
      have e : rs.take (k + 1) = rs.take k ++ [rs.getD k default] := by
        rw [List.take_add_one, List.getD_eq_getElem?_getD, List.getElem?_eq_getElem hk']
        rfl
      rw [e, List.filterMap_append]
      refine List.nodup_append.mpr ⟨ih (by omega) h, ?_, fun a ha b hb e => ?_⟩
      · cases hf : f (rs.getD k default) with
        | none => rw [List.filterMap_cons_none hf]; exact List.nodup_nil
        | some a => rw [List.filterMap_cons_some hf]; simp
      · cases hf : f (rs.getD k default) with
        | none => rw [List.filterMap_cons_none hf] at hb; cases hb
        | some c =>
          rw [List.filterMap_cons_some hf] at hb
          have : b = c := by simpa using hb
          subst this
          subst e
          exact h k hk' a hf ha
  intro h
  have := go rs.length (Nat.le_refl _) h
  rwa [List.take_length] at this
theorem drawn_nil {pre : List Rw} {t : Int} (h : drawn pre t = []) : t ∉ pre.filterMap fDrwT := by
  intro hm
  obtain ⟨r, hr, e⟩ := List.mem_filterMap.mp hm
  cases r with
  | drw t' m =>
    cases e
    have : m ∈ drawn pre t := List.mem_filterMap.mpr ⟨_, hr, by simp [fDr]⟩
    rw [h] at this
    cases this
  | _ => cases e
theorem tks_nodup (h : Valid rs) : (tks rs).Nodup := by
  rw [tks_eq]
  refine nodup_of fun i hi a e => ?_
  have := h.row i hi
  revert e this
  generalize rs.getD i default = r
  intro e this
  cases r with
  | drw t m => cases e; exact drawn_nil this.2.2.2.2.1
  | _ => cases e
theorem nonT_nodup (h : Valid rs) : (nonT rs lot).Nodup := by
  refine nodup_of fun i hi a e => ?_
  have := h.row i hi
  revert e this
  generalize rs.getD i default = r
  intro e this
  cases r with
  | non t l =>
    unfold fNonT at e
    simp only at e
    split at e
    · rename_i hl
      cases e
      subst hl
      intro hm
      obtain ⟨r', hr, e'⟩ := List.mem_filterMap.mp hm
      refine ToldOk.new this (List.mem_filterMap.mpr ⟨r', hr, ?_⟩)
      cases r' with
      | non t2 l2 =>
        unfold fNonT at e'
        simp only at e'
        split at e'
        · rename_i h2
          cases e'
          subst h2
          simp [fTold]
        · cases e'
      | _ => cases e'
    · cases e
  | _ => cases e
theorem mem_nonT {t : Int} : t ∈ nonT rs lot ↔ lot ∈ nons rs t := by
  unfold nonT nons
  rw [List.mem_filterMap, List.mem_filterMap]
  constructor
  · rintro ⟨r, hr, e⟩
    refine ⟨r, hr, ?_⟩
    cases r with
    | non t2 l2 =>
      unfold fNonT at e
      simp only at e
      split at e
      · rename_i h2
        cases e
        subst h2
        simp [fNon]
      · cases e
    | _ => cases e
  · rintro ⟨r, hr, e⟩
    refine ⟨r, hr, ?_⟩
    cases r with
    | non t2 l2 =>
      unfold fNon at e
      simp only at e
      split at e
      · rename_i h2
        cases e
        subst h2
        simp [fNonT]
      · cases e
    | _ => cases e
theorem nonT_drawn (h : Valid rs) {t : Int} (ht : t ∈ nonT rs lot) : t ∈ tks rs := by
  obtain ⟨r, hr, e⟩ := List.mem_filterMap.mp ht
  obtain ⟨i, hi, hg⟩ := mem_at hr
  have := h.row i hi
  rw [hg] at this
  cases r with
  | non t2 l2 =>
    unfold fNonT at e
    simp only at e
    split at e
    · cases e
      have hd := ToldOk.dr this
      obtain ⟨m, hm⟩ := List.exists_mem_of_ne_nil _ hd
      obtain ⟨r', hr', e'⟩ := List.mem_filterMap.mp hm
      rw [tks_eq]
      refine List.mem_filterMap.mpr ⟨r', List.mem_of_mem_take hr', ?_⟩
      cases r' with
      | drw t3 m3 =>
        unfold fDr at e'
        simp only at e'
        split at e'
        · rename_i h3
          rw [h3]
          rfl
        · cases e'
      | _ => cases e'
    · cases e
  | _ => cases e
theorem barred_same (h : Valid rs) : ((sortI (tks rs)).filter fun t => decide (lot ∈ nons rs t)) = sortI (nonT rs lot) := by
  rw [sortI_filter]
  refine sortI_ext ((tks_nodup h).filter _) (nonT_nodup h) fun z => ?_
  rw [List.mem_filter, decide_eq_true_eq, mem_nonT]
  exact ⟨fun k => k.2, fun k => ⟨nonT_drawn h (mem_nonT.mpr k), k⟩⟩
theorem ahead_same {k : Nat} : ((lotSet (lotsOf rs)).filter fun l => decide (l ∈ lotsOf (rs.take k))) = lotSet (lotsOf (rs.take k)) := by
  unfold lotSet
  rw [sortS_filter]
  refine sortS_ext ((setS_nodup _).filter _) (setS_nodup _) fun z => ?_
  rw [List.mem_filter, decide_eq_true_eq, setS_mem, setS_mem]
  refine ⟨fun k => k.2, fun q => ⟨?_, q⟩⟩
  obtain ⟨r, hr, e⟩ := List.mem_filterMap.mp q
  exact List.mem_filterMap.mpr ⟨r, List.mem_of_mem_take hr, e⟩
end
end P77
set_option Elab.async false
set_option linter.all false
set_option maxRecDepth 100000
set_option maxHeartbeats 0
/-! P77e: names that are drawn. -/
namespace P77
open PySem PySem.Spec PyProof.Rows L2 Mi G77
theorem fn_names : findFn "_law_names" T = some f__law_names := by kernel_rfl
/-! ### stores that have grown -/
theorem kept_grown {L : Nat} {o o' : O} {tl N : Mem} (h : O.refsLt L o' = true) : ∀ k, k ≤ tl.length + 1 → keptFrom L (o :: tl) (o' :: (tl ++ N)) k = true
  | 0, _ => rfl
  | 1, _ => by simp [keptFrom, h]
  | k + 2, hk => by
    unfold keptFrom
    rw [kept_grown h (k + 1) (by omega)]
    have e : (o' :: (tl ++ N))[k + 1]? = (o :: tl)[k + 1]? := by
      rw [List.getElem?_cons_succ, List.getElem?_cons_succ, List.getElem?_append_left (by omega)]
    rw [e]
    simp
theorem finish_grown {o o' : O} {tl N : Mem} {d : D} (h : O.refsLt (tl.length + 1) o' = true) (hd : D.refsLt (tl.length + 1) d = true) : Mi.finish (o :: tl) (.ok d (o' :: (tl ++ N))) = .ok d (o' :: tl) := by
  unfold Mi.finish
  simp only [List.length_cons, freeze_id 3 d hd, hd, kept_grown h (tl.length + 1) (Nat.le_refl _), Bool.and_self, if_true]
  simp
theorem finish_list {o o' : O} {tl : Mem} {ds : List D} (h : O.refsLt (tl.length + 1) o' = true) (hd : D.refsLts (tl.length + 1) ds = true) : Mi.finish (o :: tl) (.ok (.ref (tl.length + 1)) (o' :: (tl ++ [.lst ds]))) = .ok (.lst ds) (o' :: tl) := by
  have go : ∀ ds : List D, D.refsLts (tl.length + 1) ds = true → ∀ M : Mem, ds.map (freeze M (tl.length + 1) 2) = ds := by
    intro ds
    induction ds with
    | nil => intro _ _; rfl
    | cons d ds ih =>
      intro h M
      simp only [D.refsLts, Bool.and_eq_true] at h
      rw [List.map_cons, freeze_id 2 d h.1, ih h.2]
  have e : freeze (o' :: (tl ++ [.lst ds])) (tl.length + 1) 3 (.ref (tl.length + 1)) = .lst ds := by
    unfold freeze
    rw [if_neg (Nat.lt_irrefl _)]
    have : (o' :: (tl ++ [O.lst ds]))[tl.length + 1]? = some (O.lst ds) := by simp
    simp only [this]
    rw [go ds hd]
  unfold Mi.finish
  simp only [List.length_cons, e]
  rw [show D.refsLt (tl.length + 1) (.lst ds) = true from hd, kept_grown h (tl.length + 1) (Nat.le_refl _)]
  simp
/-! ### texts of letters -/
def AllL (s : Str) : Prop := ∀ c ∈ s.cps.toList, c ∈ letters.cps.toList
theorem rep_list {c k : Nat} : (strRep ⟨#[c]⟩ k).cps.toList = List.replicate k c := by
  have go : ∀ (k : Nat) (a : Array Nat), ((List.replicate k #[c]).foldl (· ++ ·) a).toList = a.toList ++ List.replicate k c := by
    intro k
    induction k with
    | zero => intro a; simp
    | succ k ih =>
      intro a
      rw [List.replicate_succ, List.foldl_cons, ih]
      simp [List.replicate_succ]
  have := go k #[]
  simpa [strRep] using this
theorem app_list {x y : Str} : (x ++ y).cps.toList = x.cps.toList ++ y.cps.toList := by
  show (x.cps ++ y.cps).toList = _
  simp
theorem AllL.app {x y : Str} (h : AllL x) (k : AllL y) : AllL (x ++ y) := fun c hc => by
  rw [app_list] at hc
  rcases List.mem_append.mp hc with z | z
  · exact h c z
  · exact k c z
theorem AllL.rep {c k : Nat} (h : c ∈ letters.cps.toList) : AllL (strRep ⟨#[c]⟩ k) := fun d hd => by
  rw [rep_list] at hd
  rw [(List.mem_replicate.mp hd).2]
  exact h
theorem len_list {x : Str} : x.length = x.cps.toList.length := by simp [Str.length]
theorem len_app {x y : Str} : (x ++ y).length = x.length + y.length := by rw [len_list, app_list, List.length_append, ← len_list, ← len_list]
theorem len_rep {c k : Nat} : (strRep ⟨#[c]⟩ k).length = k := by rw [len_list, rep_list, List.length_replicate]
theorem nameOk_of {s : Str} (h : AllL s) (h1 : 1 ≤ s.length) (h2 : s.length ≤ 8) : NameOk s := ⟨h1, h2, h⟩
section
variable {n : Nat} {M : Mem} {ns : List Int} {o : O} {tl : Mem} {r k : Int} {x y : Str}
theorem letter (h : 0 ≤ r) (h2 : r < 26) : ∃ c, op2 .item (.str str_1) (.int r) M = .ok (.str ⟨#[c]⟩) M ∧ c ∈ letters.cps.toList := by
  have hl : letters.cps.toList.length = 26 := by decide
  have hi : r.toNat < letters.cps.toList.length := by omega
  refine ⟨letters.cps.toList[r.toNat], ?_, List.getElem_mem hi⟩
  have hz : letters.length ≤ SL := by decide
  show op2 .item (.str letters) (.int r) M = _
  simp only [op2, itemD, if_pos hz, atI_get h, List.getElem?_eq_getElem hi]
theorem times {c : Nat} (h : 0 ≤ k) (h2 : k < 100) : op2 .mul (.str ⟨#[c]⟩) (.int k) M = .ok (.str (strRep ⟨#[c]⟩ k.toNat)) M := by
  show (if _ then _ else _) = _
  rw [if_pos]
  refine ⟨h, by omega, ?_⟩
  show 1 * k.toNat ≤ SL
  unfold SL
  omega
theorem plus (h : x.length + y.length ≤ SL) : op2 .add (.str x) (.str y) M = .ok (.str (x ++ y)) M := by
  show (if _ then _ else _) = _
  rw [if_pos h]
theorem tk {many : Int} (h : RowO ns o) (h0 : 0 < many) (h1 : many < 1073741824) : ∃ r o', callF T gl 100 (n + 1) "_law_taken" [.ref 0, .int many] (o :: tl) = .ok (.int r) (o' :: tl) ∧ 0 ≤ r ∧ r < many ∧ RowO ns o' := taken_ok fn_taken h h0 h1
theorem app_last' {xs : List D} {d : D} (h : xs.length < SL) : appD (.ref (tl.length + 1)) d (o :: (tl ++ [.lst xs])) = .ok () (o :: (tl ++ [.lst (xs ++ [d])])) := app_last (M := o :: tl) h
theorem lst_last' {xs : List D} : lstAt (.ref (tl.length + 1)) (o :: (tl ++ [.lst xs])) = true := lst_last (M := o :: tl)
theorem c_names (h : RowO ns o) {many : Nat} (hm : 1 ≤ many) (hm2 : many ≤ 3) :
    ∃ names o', callF T gl 100 (n + 2) "_law_names" [.ref 0, .int many] (o :: tl) = .ok (.lst (names.map D.str)) (o' :: tl) ∧ names ≠ [] ∧ names.length ≤ 3 ∧ (∀ s ∈ names, NameOk s) ∧ RowO ns o' := by
  obtain ⟨r1, o1, e1, a1, b1, h1⟩ := tk (n := n) (tl := tl) (many := 26) h (by omega) (by omega)
  obtain ⟨r2, o2, e2, a2, b2, h2⟩ := tk (n := n) (tl := tl ++ [.lst []]) (many := 26) h1 (by omega) (by omega)
  obtain ⟨r3, o3, e3, a3, b3, h3⟩ := tk (n := n) (tl := tl ++ [.lst []]) (many := 4) h2 (by omega) (by omega)
  obtain ⟨r4, o4, e4, a4, b4, h4⟩ := tk (n := n) (tl := tl ++ [.lst []]) (many := 26) h3 (by omega) (by omega)
  obtain ⟨r5, o5, e5, a5, b5, h5⟩ := tk (n := n) (tl := tl ++ [.lst []]) (many := 4) h4 (by omega) (by omega)
  obtain ⟨r6, o6, e6, a6, b6, h6⟩ := tk (n := n) (tl := tl ++ [.lst []]) (many := 2) h5 (by omega) (by omega)
  obtain ⟨c2, l2, m2⟩ := letter (M := o2 :: (tl ++ [.lst []])) a2 b2
  obtain ⟨c4, l4, m4⟩ := letter (M := o4 :: (tl ++ [.lst []])) a4 b4
  have t2 := times (M := o3 :: (tl ++ [.lst []])) (c := c2) a3 (by omega)
  have t4 := times (M := o5 :: (tl ++ [.lst []])) (c := c4) a5 (by omega)
  generalize hh : strRep ⟨#[c2]⟩ r3.toNat = hd at t2
  generalize ht : strRep ⟨#[c4]⟩ r5.toNat = tail at t4
  have hdL : AllL hd := hh ▸ AllL.rep m2
  have tlL : AllL tail := ht ▸ AllL.rep m4
  have hdl : hd.length ≤ 3 := by rw [← hh, len_rep]; omega
  have tll : tail.length ≤ 3 := by rw [← ht, len_rep]; omega
  have loop := forL_inv (f := forT (evSs ⟨callF T gl 100 (n + 1), gl, 100⟩ l__law_names_1) (.nm 6)) (ok := stillS []) (ds := (List.range many).map fun k => .int (k : Nat))
    (I := fun i env M' => ∃ (names : List Str) (o' : O), M' = o' :: (tl ++ [.lst (names.map D.str)]) ∧ RowO ns o' ∧ names.length = i ∧ (∀ s ∈ names, NameOk s) ∧ ∃ a b, env = [some (.ref 0), some (.int many), some (.str str_1), some (.str hd), some (.str tail), some (.int r6), a, some (.int r1), some (.ref (tl.length + 1)), b])
    (fun _ _ _ _ => rfl) (fun i d env M' hd' hI => ?_)
    (env := [some (.ref 0), some (.int many), some (.str str_1), some (.str hd), some (.str tail), some (.int r6), none, some (.int r1), some (.ref (tl.length + 1)), none]) (M := o6 :: (tl ++ [.lst []])) ⟨[], o6, rfl, h6, rfl, (fun _ h => (List.not_mem_nil h).elim), none, none, rfl⟩
  · obtain ⟨env', M', e7, names, o', rfl, h7, hlen, hn, a, b, rfl⟩ := loop
    rw [List.length_map, List.length_range] at hlen
    refine ⟨names, o', ?_, fun z => by rw [z] at hlen; simp at hlen; omega, by omega, hn, h7⟩
    have body : evSs ⟨callF T gl 100 (n + 1), gl, 100⟩ b__law_names [some (.ref 0), some (.int many), none, none, none, none, none, none, none, none] (o :: tl) = .ok (.ret (.ref (tl.length + 1))) (o' :: (tl ++ [.lst (names.map D.str)])) := by
      simp only [b__law_names, z_cons, z_asg, z_par, e_con, bindOk]
      simp [asgT, setMany, e1, newD, e2, e3, l2, t2, e4, l4, e5, t4]
      rw [e6, bindOk, bindOk]
      show Res.bind (evS _ _ _ _) _ = _
      rw [z_for (its := ⟨[], (List.range many).map fun k => .int (k : Nat)⟩) (M1 := o6 :: (tl ++ [O.lst []])) (it_rangeN rfl (by unfold SL; omega))]
      show Res.bind (forL _ (stillS []) _ _ _) _ = _
      rw [e7]
      simp
    rw [callF_gen fn_names rfl body]
    exact finish_list (row_refs h7) (refs_str _ _)
  · obtain ⟨names, o', rfl, hro, hlen, hn, a, b, rfl⟩ := hI
    have hi : i < many := by
      have := (List.getElem?_eq_some_iff.mp hd').1
      simpa using this
    rw [List.getElem?_map, List.getElem?_range hi] at hd'
    cases hd'
    obtain ⟨cs, ls, ms⟩ := letter (M := o' :: (tl ++ [.lst (names.map D.str)])) (r := (r1 + 7 * (i : Nat)) % 26) (Int.emod_nonneg _ (by omega)) (Int.emod_lt_of_pos _ (by omega))
    have m7 : op2 .mul (.int 7) (.int (i : Nat)) (o' :: (tl ++ [.lst (names.map D.str)])) = .ok (.int (7 * (i : Nat))) (o' :: (tl ++ [.lst (names.map D.str)])) := p_mulK (by simp [mulOk])
    have sL : AllL ⟨#[cs]⟩ := fun c hc => by
      have : c = cs := by simpa using hc
      rw [this]
      exact ms
    have sl : (⟨#[cs]⟩ : Str).length = 1 := rfl
    have step : ∀ (s : Str) (o2 : O), NameOk s → RowO ns o2 →
        evSs ⟨callF T gl 100 (n + 1), gl, 100⟩ l__law_names_1 [some (.ref 0), some (.int many), some (.str str_1), some (.str hd), some (.str tail), some (.int r6), some (.int (i : Nat)), some (.int r1), some (.ref (tl.length + 1)), b] (o' :: (tl ++ [.lst (names.map D.str)])) = .ok (.nx [some (.ref 0), some (.int many), some (.str str_1), some (.str hd), some (.str tail), some (.int r6), some (.int (i : Nat)), some (.int r1), some (.ref (tl.length + 1)), some (.str ⟨#[cs]⟩)]) (o2 :: (tl ++ [.lst ((names ++ [s]).map D.str)])) →
        ∃ env' M', forT (evSs ⟨callF T gl 100 (n + 1), gl, 100⟩ l__law_names_1) (.nm 6) (.int (i : Nat)) [some (.ref 0), some (.int many), some (.str str_1), some (.str hd), some (.str tail), some (.int r6), a, some (.int r1), some (.ref (tl.length + 1)), b] (o' :: (tl ++ [.lst (names.map D.str)])) = .ok (.nx env') M' ∧ ∃ (names : List Str) (o' : O), M' = o' :: (tl ++ [.lst (names.map D.str)]) ∧ RowO ns o' ∧ names.length = i + 1 ∧ (∀ s ∈ names, NameOk s) ∧ ∃ a b, env' = [some (.ref 0), some (.int many), some (.str str_1), some (.str hd), some (.str tail), some (.int r6), a, some (.int r1), some (.ref (tl.length + 1)), b] := by
      intro s o2 hs hr2 he
      refine ⟨_, _, he, names ++ [s], o2, rfl, hr2, by rw [List.length_append, hlen]; rfl, fun z hz => ?_, _, _, rfl⟩
      rcases List.mem_append.mp hz with h | h
      · exact hn z h
      · rw [List.mem_singleton.mp h]
        exact hs
    by_cases hk : r6 = 0
    · have n1 : NameOk (hd ++ ⟨#[cs]⟩ ++ tail) := nameOk_of ((hdL.app sL).app tlL) (by rw [len_app, len_app, sl]; omega) (by rw [len_app, len_app, sl]; omega)
      refine step _ o' n1 hro ?_
      have q1 := plus (M := o' :: (tl ++ [.lst (names.map D.str)])) (x := hd) (y := ⟨#[cs]⟩) (by rw [sl]; unfold SL; omega)
      have q2 := plus (M := o' :: (tl ++ [.lst (names.map D.str)])) (x := hd ++ ⟨#[cs]⟩) (y := tail) (by rw [len_app, sl]; unfold SL; omega)
      have q3 := app_last' (o := o') (tl := tl) (xs := names.map D.str) (d := .str (hd ++ ⟨#[cs]⟩ ++ tail)) (by rw [List.length_map]; unfold SL; omega)
      simp [l__law_names_1, m7, ls, asgT, lst_last', hk, q1, q2, q3]
    · obtain ⟨r7, o7, e7, a7, b7, h7⟩ := tk (n := n) (tl := tl ++ [.lst (names.map D.str)]) (many := 26) hro (by omega) (by omega)
      obtain ⟨r8, o8, e8, a8, b8, h8⟩ := tk (n := n) (tl := tl ++ [.lst (names.map D.str)]) (many := 8) h7 (by omega) (by omega)
      obtain ⟨c7, l7, m7'⟩ := letter (M := o7 :: (tl ++ [.lst (names.map D.str)])) a7 b7
      have t7 := times (M := o8 :: (tl ++ [.lst (names.map D.str)])) (c := c7) a8 (by omega)
      generalize hw : strRep ⟨#[c7]⟩ r8.toNat = w at t7
      have wL : AllL w := hw ▸ AllL.rep m7'
      have wl : w.length ≤ 7 := by rw [← hw, len_rep]; omega
      have n1 : NameOk (⟨#[cs]⟩ ++ w) := nameOk_of (sL.app wL) (by rw [len_app, sl]; omega) (by rw [len_app, sl]; omega)
      refine step _ o8 n1 h8 ?_
      have q1 := plus (M := o8 :: (tl ++ [.lst (names.map D.str)])) (x := ⟨#[cs]⟩) (y := w) (by rw [sl]; unfold SL; omega)
      have q3 := app_last' (o := o8) (tl := tl) (xs := names.map D.str) (d := .str (⟨#[cs]⟩ ++ w)) (by rw [List.length_map]; unfold SL; omega)
      simp [l__law_names_1, m7, ls, asgT, lst_last', hk, e7, e8, l7, t7, q1, q3]
end
end P77
set_option Elab.async false
set_option linter.all false
set_option maxRecDepth 100000
set_option maxHeartbeats 0
/-! P77f: a record that grows row by row stays valid. -/
namespace P77
open PySem PySem.Spec PyProof.Rows L2 Mi G77
theorem lookD_put {k v : D} {kv : List (D × D)} {j : D} : lookD j (putD k v kv) = if j = k then some v else lookD j kv := by
  unfold putD
  split
  · rename_i h
    have go : ∀ kv : List (D × D), (kv.any fun p => decide (p.1 = k)) = true → lookD j (kv.map fun p => if p.1 = k then (p.1, v) else p) = if j = k then some v else lookD j kv := by
      intro kv
      induction kv with
      | nil => intro h; cases h
      | cons p r ih =>
        intro h
        rw [List.map_cons]
        by_cases hp : p.1 = k
        · rw [if_pos hp]
          unfold lookD
          by_cases hj : j = k
          · rw [if_pos (by rw [hj]; exact hp), if_pos hj]
          · rw [if_neg (fun z => hj (by rw [← z]; exact hp)), if_neg hj]
            have nk : ∀ r : List (D × D), lookD j (r.map fun p => if p.1 = k then (p.1, v) else p) = lookD j r := by
              intro r
              induction r with
              | nil => rfl
              | cons q r ih =>
                rw [List.map_cons]
                by_cases hq : q.1 = k
                · rw [if_pos hq]
                  unfold lookD
                  rw [if_neg (fun z => hj (by rw [← z]; exact hq)), if_neg (fun z => hj (by rw [← z]; exact hq)), ih]
                · rw [if_neg hq]
                  unfold lookD
                  rw [ih]
            rw [nk r, if_neg (fun z => hj (by rw [← z]; exact hp))]
        · rw [if_neg hp]
          have h' : (r.any fun p => decide (p.1 = k)) = true := by
            rw [List.any_cons, decide_eq_false hp, Bool.false_or] at h
            exact h
          unfold lookD
          rw [ih h']
          by_cases hpj : p.1 = j
          · rw [if_pos hpj, if_neg (fun z => hp (by rw [hpj, z])), if_pos hpj]
          · rw [if_neg hpj, if_neg hpj]
    exact go kv h
  · rename_i h
    have hn : ∀ p ∈ kv, ¬ p.1 = k := fun p hp e => h (List.any_eq_true.mpr ⟨p, hp, decide_eq_true e⟩)
    clear h
    induction kv with
    | nil =>
      show (if k = j then some v else none) = if j = k then some v else none
      by_cases e : k = j
      · rw [if_pos e, if_pos e.symm]
      · rw [if_neg e, if_neg fun z => e z.symm]
    | cons p r ih =>
      rw [List.cons_append]
      unfold lookD
      rw [ih fun q hq => hn q (List.mem_cons_of_mem _ hq)]
      by_cases hpj : p.1 = j
      · rw [if_pos hpj, if_pos hpj, if_neg fun z => hn p List.mem_cons_self (by rw [hpj, z])]
      · rw [if_neg hpj, if_neg hpj]
theorem putD_keys {k v : D} {kv : List (D × D)} (hk : (keyD k).isSome = true) (h : ∀ p ∈ kv, (keyD p.1).isSome = true) : (∀ p ∈ putD k v kv, (keyD p.1).isSome = true) ∧ (putD k v kv).length ≤ kv.length + 1 := by
  unfold putD
  split
  · refine ⟨fun p hp => ?_, by rw [List.length_map]; omega⟩
    obtain ⟨q, hq, e⟩ := List.mem_map.mp hp
    by_cases hqk : q.1 = k
    · rw [if_pos hqk] at e
      rw [← e]
      exact h q hq
    · rw [if_neg hqk] at e
      rw [← e]
      exact h q hq
  · refine ⟨fun p hp => ?_, by simp⟩
    rcases List.mem_append.mp hp with z | z
    · exact h p z
    · rw [List.mem_singleton.mp z]
      exact hk
section
variable {rs : List Rw} {r : Rw} {t : Int}
theorem fm_snoc {α β : Type} {f : α → Option β} {l : List α} {a : α} : (l ++ [a]).filterMap f = l.filterMap f ++ (f a).toList := by
  rw [List.filterMap_append]
  cases h : f a <;> simp [h]
theorem getD_snoc {j : Nat} (h : j < rs.length) : (rs ++ [r]).getD j default = rs.getD j default := by
  rw [List.getD_eq_getElem?_getD, List.getD_eq_getElem?_getD, List.getElem?_append_left h]
theorem getD_last : (rs ++ [r]).getD rs.length default = r := by
  rw [List.getD_eq_getElem?_getD]
  simp
theorem fm_congr {α β : Type} {f g : α → Option β} : ∀ {l : List α}, (∀ a ∈ l, f a = g a) → l.filterMap f = l.filterMap g
  | [], _ => rfl
  | a :: l, h => by
    have ih := fm_congr (l := l) fun b hb => h b (List.mem_cons_of_mem _ hb)
    have ha := h a List.mem_cons_self
    cases e : g a with
    | none => rw [List.filterMap_cons_none (by rw [ha, e]), List.filterMap_cons_none e, ih]
    | some c => rw [List.filterMap_cons_some (by rw [ha, e]), List.filterMap_cons_some e, ih]
theorem dix_snoc : dix (rs ++ [r]) t = dix rs t ++ (if isDr t r then [rs.length] else []) := by
  unfold dix
  rw [List.length_append, List.length_singleton, List.range_succ, fm_snoc]
  congr 1
  · refine fm_congr fun k hk => ?_
    unfold fIx
    rw [getD_snoc (List.mem_range.mp hk)]
  · unfold fIx
    rw [getD_last]
    cases isDr t r <;> rfl
theorem at_snoc (h : dix rs t ≠ []) : at_ (rs ++ [r]) t = at_ rs t := by
  unfold at_
  rw [dix_snoc]
  cases e : dix rs t with
  | nil => exact absurd e h
  | cons a l => rfl
theorem take_snoc {k : Nat} (h : k ≤ rs.length) : (rs ++ [r]).take k = rs.take k := by
  rw [List.take_append_of_le_length h]
theorem tks_dix (h : t ∈ tks rs) : dix rs t ≠ [] := by
  obtain ⟨q, hq, e⟩ := List.mem_map.mp h
  obtain ⟨t', m⟩ := q
  have : t' = t := e
  subst this
  exact drs_dix hq
theorem before_snoc (h : t ∈ tks rs) : (rs ++ [r]).take (at_ (rs ++ [r]) t) = rs.take (at_ rs t) := by
  have hd := tks_dix h
  rw [at_snoc hd, take_snoc (Nat.le_of_lt (at_le hd))]
/-- the state of the growing record -/
structure Gs (rs : List Rw) (tp : List (Int × Str)) (kv : List (D × D)) (tickets : List Int) (i : Nat) : Prop where
  row : ∀ j, j < rs.length → OkRow (rs.take j) (rs.getD j default)
  len : rs.length ≤ i
  dl : (drs rs).length ≤ 4
  tkp : tks rs = tickets.take (drs rs).length
  ins : 0 ≤ inside rs
  told : ∀ t l, l ∈ told rs t → (t, l) ∈ tp
  nam : ∀ q ∈ tp, NameOk q.2
  tpl : tp.length ≤ i
  kvk : ∀ p ∈ kv, (keyD p.1).isSome = true
  kvl : kv.length ≤ i
  kva : ∀ t, t ∈ tks rs → lookD (.int t) kv = some (.lst ((lotsOf (rs.take (at_ rs t))).map D.str)) ∧ lotsOf (rs.take (at_ rs t)) ≠ []
theorem row_snoc {i : Nat} {tp : List (Int × Str)} {kv : List (D × D)} {tickets : List Int} (g : Gs rs tp kv tickets i) (h : OkRow rs r) : ∀ j, j < (rs ++ [r]).length → OkRow ((rs ++ [r]).take j) ((rs ++ [r]).getD j default) := by
  intro j hj
  rw [List.length_append, List.length_singleton] at hj
  by_cases e : j = rs.length
  · subst e
    rw [getD_last, take_snoc (Nat.le_refl _), List.take_length]
    exact h
  · have hl : j < rs.length := by omega
    rw [getD_snoc hl, take_snoc (Nat.le_of_lt hl)]
    exact g.row j hl
variable {i : Nat} {tp : List (Int × Str)} {kv : List (D × D)} {tickets : List Int} (g : Gs rs tp kv tickets i)
include g
theorem Gs.put {nm : Str} {m : Int} (h1 : NameOk nm) (h2 : 1 ≤ m) (h3 : m ≤ 9) : Gs (rs ++ [.put nm m]) tp kv tickets (i + 1) := by
  have e1 : drs (rs ++ [.put nm m]) = drs rs := by unfold drs; rw [fm_snoc]; simp [fDrw]
  have e2 : tks (rs ++ [.put nm m]) = tks rs := by unfold tks; rw [e1]
  have e3 : ∀ t, P77.told (rs ++ [.put nm m]) t = P77.told rs t := fun t => by unfold P77.told; rw [fm_snoc]; simp [fTold]
  refine ⟨row_snoc g ⟨h1, h2, h3⟩, by rw [List.length_append]; have := g.len; simp; omega, by rw [e1]; exact g.dl, by rw [e1, e2]; exact g.tkp, ?_, fun t l h => g.told t l (by rw [e3] at h; exact h), g.nam, by have := g.tpl; omega, g.kvk, by have := g.kvl; omega, fun t ht => ?_⟩
  · have := g.ins
    unfold inside puts drsM at this ⊢
    rw [fm_snoc, fm_snoc]
    simp [fPutM, fDrwM]
    omega
  · rw [e2] at ht
    rw [before_snoc ht]
    exact g.kva t ht
theorem Gs.has {t : Int} {l : Str} {p : Int} (h : OkRow rs (.has t l p)) : Gs (rs ++ [.has t l p]) (tp ++ [(t, l)]) kv tickets (i + 1) := by
  have e1 : drs (rs ++ [.has t l p]) = drs rs := by unfold drs; rw [fm_snoc]; simp [fDrw]
  have e2 : tks (rs ++ [.has t l p]) = tks rs := by unfold tks; rw [e1]
  refine ⟨row_snoc g h, by rw [List.length_append]; have := g.len; simp; omega, by rw [e1]; exact g.dl, by rw [e1, e2]; exact g.tkp, ?_, fun t' l' h' => ?_, fun q hq => ?_, by rw [List.length_append]; have := g.tpl; simp; omega, g.kvk, by have := g.kvl; omega, fun t ht => ?_⟩
  · have := g.ins
    unfold inside puts drsM at this ⊢
    rw [fm_snoc, fm_snoc]
    simp [fPutM, fDrwM]
    omega
  · unfold P77.told at h'
    rw [fm_snoc] at h'
    rcases List.mem_append.mp h' with k | k
    · exact List.mem_append_left _ (g.told t' l' k)
    · refine List.mem_append_right _ ?_
      unfold fTold at k
      simp only at k
      split at k
      · rename_i ht
        have : l' = l := by simpa using k
        rw [this, ht]
        simp
      · cases k
  · rcases List.mem_append.mp hq with k | k
    · exact g.nam q k
    · rw [List.mem_singleton.mp k]
      exact h.1.nm
  · rw [e2] at ht
    rw [before_snoc ht]
    exact g.kva t ht
theorem Gs.non {t : Int} {l : Str} (h : OkRow rs (.non t l)) : Gs (rs ++ [.non t l]) (tp ++ [(t, l)]) kv tickets (i + 1) := by
  have e1 : drs (rs ++ [.non t l]) = drs rs := by unfold drs; rw [fm_snoc]; simp [fDrw]
  have e2 : tks (rs ++ [.non t l]) = tks rs := by unfold tks; rw [e1]
  refine ⟨row_snoc g h, by rw [List.length_append]; have := g.len; simp; omega, by rw [e1]; exact g.dl, by rw [e1, e2]; exact g.tkp, ?_, fun t' l' h' => ?_, fun q hq => ?_, by rw [List.length_append]; have := g.tpl; simp; omega, g.kvk, by have := g.kvl; omega, fun t ht => ?_⟩
  · have := g.ins
    unfold inside puts drsM at this ⊢
    rw [fm_snoc, fm_snoc]
    simp [fPutM, fDrwM]
    omega
  · unfold P77.told at h'
    rw [fm_snoc] at h'
    rcases List.mem_append.mp h' with k | k
    · exact List.mem_append_left _ (g.told t' l' k)
    · refine List.mem_append_right _ ?_
      unfold fTold at k
      simp only at k
      split at k
      · rename_i ht
        have : l' = l := by simpa using k
        rw [this, ht]
        simp
      · cases k
  · rcases List.mem_append.mp hq with k | k
    · exact g.nam q k
    · rw [List.mem_singleton.mp k]
      exact ToldOk.nm h
  · rw [e2] at ht
    rw [before_snoc ht]
    exact g.kva t ht
theorem Gs.fresh {m : Nat} (nd : tickets.Nodup) (hm : (drs rs).length = m) (hl : m < tickets.length) : tickets.getD m 0 ∉ tks rs := by
  rw [g.tkp, hm]
  intro h
  obtain ⟨k, hk⟩ := List.mem_iff_getElem?.mp h
  rw [List.getElem?_take] at hk
  split at hk
  · rename_i hkm
    rw [List.getD_eq_getElem?_getD, List.getElem?_eq_getElem hl] at hk
    obtain ⟨h1, h2⟩ := List.getElem?_eq_some_iff.mp hk
    exact absurd h2 (List.pairwise_iff_getElem.mp nd k m h1 hl hkm)
  · cases hk
omit g in
theorem drawn_of_not {t : Int} (h : t ∉ tks rs) : drawn rs t = [] := by
  cases e : drawn rs t with
  | nil => rfl
  | cons a l =>
    exfalso
    have : a ∈ drawn rs t := by rw [e]; exact List.mem_cons_self
    obtain ⟨r', hr, e'⟩ := List.mem_filterMap.mp this
    apply h
    rw [tks_eq]
    refine List.mem_filterMap.mpr ⟨r', hr, ?_⟩
    cases r' with
    | drw t' m =>
      unfold fDr at e'
      simp only at e'
      split at e'
      · rename_i h3
        rw [h3]; rfl
      · cases e'
    | _ => cases e'
omit g in
theorem dix_of_not {t : Int} (h : t ∉ tks rs) : dix rs t = [] := by
  cases e : dix rs t with
  | nil => rfl
  | cons a l =>
    exfalso
    have : a ∈ dix rs t := by rw [e]; exact List.mem_cons_self
    obtain ⟨k, hk, e'⟩ := List.mem_filterMap.mp this
    unfold fIx at e'
    split at e'
    · rename_i hd
      have hkl := List.mem_range.mp hk
      apply h
      rw [tks_eq]
      refine List.mem_filterMap.mpr ⟨rs.getD k default, by rw [List.getD_eq_getElem?_getD, List.getElem?_eq_getElem hkl]; exact List.getElem_mem hkl, ?_⟩
      revert hd
      generalize rs.getD k default = r'
      intro hd
      cases r' with
      | drw t' m =>
        have : t' = t := of_decide_eq_true hd
        rw [this]; rfl
      | _ => cases hd
    · cases e'
theorem Gs.drw {m : Int} (nd : tickets.Nodup) (hd : (drs rs).length < 4) (hl : 4 ≤ tickets.length) (hr : ∀ t ∈ tickets, 1 ≤ t ∧ t ≤ 999) (h1 : 1 ≤ m) (h2 : m ≤ 9) (h3 : m ≤ inside rs) :
    Gs (rs ++ [.drw (tickets.getD (drs rs).length 0) m]) tp (putD (.int (tickets.getD (drs rs).length 0)) (.lst ((lotsOf rs).map D.str)) kv) tickets (i + 1) := by
  have hf := g.fresh nd rfl (by omega : (drs rs).length < tickets.length)
  have hmem : tickets.getD (drs rs).length 0 ∈ tickets := by
    rw [List.getD_eq_getElem?_getD, List.getElem?_eq_getElem (by omega)]
    exact List.getElem_mem _
  have hrg := hr _ hmem
  have hget : tickets[(drs rs).length]? = some (tickets.getD (drs rs).length 0) := by
    rw [List.getD_eq_getElem?_getD, List.getElem?_eq_getElem (by omega)]
    rfl
  generalize tickets.getD (drs rs).length 0 = t at hf hmem hrg hget
  have e1 : drs (rs ++ [.drw t m]) = drs rs ++ [(t, m)] := by unfold drs; rw [fm_snoc]; rfl
  have e2 : tks (rs ++ [.drw t m]) = tks rs ++ [t] := by unfold tks; rw [e1, List.map_append]; rfl
  have e3 : ∀ t', P77.told (rs ++ [.drw t m]) t' = P77.told rs t' := fun t' => by unfold P77.told; rw [fm_snoc]; simp [fTold]
  have hk := putD_keys (k := .int t) (v := .lst ((lotsOf rs).map D.str)) (kv := kv) rfl g.kvk
  refine ⟨row_snoc g ⟨hrg.1, hrg.2, h1, h2, drawn_of_not hf, h3⟩, by rw [List.length_append]; have := g.len; simp; omega, by rw [e1, List.length_append]; simp; omega, ?_, ?_, fun t l h => g.told t l (by rw [e3] at h; exact h), g.nam, by have := g.tpl; omega, hk.1, by have := hk.2; have := g.kvl; omega, fun t' ht => ?_⟩
  · rw [e1, e2, List.length_append, List.length_singleton, List.take_add_one, hget, ← g.tkp]
    rfl
  · have := g.ins
    unfold inside puts drsM at this h3 ⊢
    rw [fm_snoc, fm_snoc]
    simp [fPutM, fDrwM]
    omega
  · rw [lookD_put]
    rw [e2] at ht
    by_cases he : t' = t
    · subst he
      rw [if_pos rfl]
      have hd0 := dix_of_not hf
      have ha : at_ (rs ++ [.drw t' m]) t' = rs.length := by
        unfold at_
        rw [dix_snoc, hd0]
        simp [isDr]
      rw [ha, take_snoc (Nat.le_refl _), List.take_length]
      refine ⟨rfl, fun z => ?_⟩
      have hi : 0 < inside rs := by omega
      have hp : puts rs = [] := by
        unfold puts
        unfold lotsOf at z
        rw [List.filterMap_eq_nil_iff] at z ⊢
        intro r hr
        have := z r hr
        cases r with
        | put nm m => cases this
        | _ => rfl
      have hm : ∀ x ∈ drsM rs, 1 ≤ x := by
        intro x hx
        obtain ⟨r', hr', ex⟩ := List.mem_filterMap.mp hx
        obtain ⟨k, hk, hg⟩ := mem_at hr'
        have ok := g.row k hk
        rw [hg] at ok
        cases r' with
        | drw t2 m2 => cases ex; exact ok.2.2.1
        | _ => cases ex
      have hs : ∀ l : List Int, (∀ x ∈ l, 1 ≤ x) → 0 ≤ l.sum := by
        intro l
        induction l with
        | nil => intro _; simp
        | cons a l ih =>
          intro h
          have := ih fun x hx => h x (List.mem_cons_of_mem _ hx)
          have := h a List.mem_cons_self
          rw [List.sum_cons]
          omega
      have := hs _ hm
      unfold inside at hi
      rw [hp] at hi
      simp at hi
      omega
    · have ht' : t' ∈ tks rs := by
        rcases List.mem_append.mp ht with z | z
        · exact z
        · exact absurd (List.mem_singleton.mp z) he
      rw [if_neg (fun z => he (by cases z; rfl)), before_snoc ht']
      exact g.kva t' ht'
theorem Gs.same (i' : Nat) (h : i ≤ i') : Gs rs tp kv tickets i' :=
  ⟨g.row, by have := g.len; omega, g.dl, g.tkp, g.ins, g.told, g.nam, by have := g.tpl; omega, g.kvk, by have := g.kvl; omega, g.kva⟩
end
end P77
set_option Elab.async false
set_option linter.all false
set_option maxRecDepth 100000
set_option maxHeartbeats 0
/-! P77g: a record is drawn. -/
namespace P77
open PySem PySem.Spec PyProof.Rows L2 Mi G77
theorem fn_record : findFn "_law_record" T = some f__law_record := by kernel_rfl
section
variable {n : Nat} {M : Mem} {ns : List Int} {o : O} {tl : Mem} {a b c d x : O}
/-! ### four things behind the store -/
@[simp] theorem q0 : (o :: (tl ++ [a, b, c, d]))[tl.length + 1]? = some a := by simp
@[simp] theorem q1 : (o :: (tl ++ [a, b, c, d]))[tl.length + 2]? = some b := by
  rw [List.getElem?_cons_succ, List.getElem?_append_right (by omega)]
  simp
@[simp] theorem q2 : (o :: (tl ++ [a, b, c, d]))[tl.length + 3]? = some c := by
  rw [List.getElem?_cons_succ, List.getElem?_append_right (by omega), show tl.length + 2 - tl.length = 2 by omega]
  rfl
@[simp] theorem q3 : (o :: (tl ++ [a, b, c, d]))[tl.length + 4]? = some d := by
  rw [List.getElem?_cons_succ, List.getElem?_append_right (by omega), show tl.length + 3 - tl.length = 3 by omega]
  rfl
@[simp] theorem w0' : (o :: (tl ++ [a, b, c, d])).set (tl.length + 1) x = o :: (tl ++ [x, b, c, d]) := by
  rw [List.set_cons_succ, List.set_append_right _ _ (by omega), Nat.sub_self]
  rfl
@[simp] theorem w1' : (o :: (tl ++ [a, b, c, d])).set (tl.length + 2) x = o :: (tl ++ [a, x, c, d]) := by
  rw [List.set_cons_succ, List.set_append_right _ _ (by omega), show tl.length + 1 - tl.length = 1 by omega]
  rfl
@[simp] theorem w2' : (o :: (tl ++ [a, b, c, d])).set (tl.length + 3) x = o :: (tl ++ [a, b, x, d]) := by
  rw [List.set_cons_succ, List.set_append_right _ _ (by omega), show tl.length + 2 - tl.length = 2 by omega]
  rfl
@[simp] theorem w3' : (o :: (tl ++ [a, b, c, d])).set (tl.length + 4) x = o :: (tl ++ [a, b, c, x]) := by
  rw [List.set_cons_succ, List.set_append_right _ _ (by omega), show tl.length + 3 - tl.length = 3 by omega]
  rfl
abbrev St4 (o : O) (tl : Mem) (rs : List Rw) (tp : List (Int × Str)) (kv : List (D × D)) : Mem := o :: (tl ++ [.lst (rs.map enc), .lst ((drs rs).map fun q => enc (.drw q.1 q.2)), .lst (tp.map fun q => .tup [.int q.1, .str q.2]), .dic kv])
variable {rs : List Rw} {tp : List (Int × Str)} {kv : List (D × D)} {r : Rw} {dr : List D}
@[simp] theorem s4_last (r : Rw) : op2 .item (.ref (tl.length + 1)) (.int (-1)) (o :: (tl ++ [.lst ((rs ++ [r]).map enc), b, c, d])) = .ok (enc r) (o :: (tl ++ [.lst ((rs ++ [r]).map enc), b, c, d])) := by
  simp only [op2, itemD, view, q0]
  have : L2.atI ((rs ++ [r]).map enc) (-1) = some (enc r) := by
    unfold L2.atI L2.ixN
    rw [if_neg (by decide), if_pos (by simp; omega)]
    simp
    rw [show (-1 + ((rs.length : Int) + 1)).toNat = rs.length by omega]
    simp
  rw [this]
@[simp] theorem s4_app {xs : List D} {v : D} (h : xs.length < SL) : appD (.ref (tl.length + 1)) v (o :: (tl ++ [.lst xs, b, c, d])) = .ok () (o :: (tl ++ [.lst (xs ++ [v]), b, c, d])) := by
  simp [appD, h]
@[simp] theorem s4_app1 {xs : List D} {v : D} (h : xs.length < SL) : appD (.ref (tl.length + 2)) v (o :: (tl ++ [a, .lst xs, c, d])) = .ok () (o :: (tl ++ [a, .lst (xs ++ [v]), c, d])) := by
  simp [appD, h]
@[simp] theorem s4_app2 {xs : List D} {v : D} (h : xs.length < SL) : appD (.ref (tl.length + 3)) v (o :: (tl ++ [a, b, .lst xs, d])) = .ok () (o :: (tl ++ [a, b, .lst (xs ++ [v]), d])) := by
  simp [appD, h]
@[simp] theorem s4_l0 {xs : List D} : lstAt (.ref (tl.length + 1)) (o :: (tl ++ [.lst xs, b, c, d])) = true := by simp [lstAt]
@[simp] theorem s4_l1 {xs : List D} : lstAt (.ref (tl.length + 2)) (o :: (tl ++ [a, .lst xs, c, d])) = true := by simp [lstAt]
@[simp] theorem s4_l2 {xs : List D} : lstAt (.ref (tl.length + 3)) (o :: (tl ++ [a, b, .lst xs, d])) = true := by simp [lstAt]
@[simp] theorem p_neg {i : Int} : op1 .neg (.int i) M = .ok (.int (-i)) M := rfl
def envR (tl : Mem) (tickets : List Int) (lots : List Str) (ins : Int) (a2 a9 a11 a12 a14 a15 : Option D) : Mi.Env :=
  [some (.ref 0), some (.lst (tickets.map D.int)), a2, some (.lst (lots.map D.str)), some (.ref (tl.length + 1)), some (.int ins), some (.ref (tl.length + 2)), some (.ref (tl.length + 3)), some (.ref (tl.length + 4)), a9, none, a11, a12, none, a14, a15]
abbrev S4 (o : O) (tl : Mem) (rs : List Rw) (b c d : O) : Mem := o :: (tl ++ [.lst (rs.map enc), b, c, d])
theorem step_put {tickets : List Int} {lots : List Str} {ins r0 m : Int} {nm : Str} {o0 o1 o2 : O} {a2 a9 a11 a12 a14 a15 : Option D} (hl : rs.length < 30)
    (e0 : callF T gl 100 (n + 2) "_law_taken" [.ref 0, .int 5] (S4 o tl rs b c d) = .ok (.int r0) (S4 o0 tl rs b c d)) (hc : r0 < 2 ∨ ins = 0)
    (e1 : callF T gl 100 (n + 2) "_law_pick" [.ref 0, .lst (lots.map D.str)] (S4 o0 tl rs b c d) = .ok (.str nm) (S4 o1 tl rs b c d))
    (e2 : callF T gl 100 (n + 2) "_law_taken" [.ref 0, .int 3] (S4 o1 tl rs b c d) = .ok (.int m) (S4 o2 tl rs b c d)) :
    evSs ⟨callF T gl 100 (n + 2), gl, 100⟩ l__law_record_1 (envR tl tickets lots ins a2 a9 a11 a12 a14 a15) (S4 o tl rs b c d) =
      .ok (.nx (envR tl tickets lots (ins + (1 + m)) a2 (some (.int r0)) a11 a12 a14 a15)) (S4 o2 tl (rs ++ [.put nm (1 + m)]) b c d) := by
  have ha := s4_app (o := o2) (tl := tl) (xs := rs.map enc) (v := enc (.put nm (1 + m))) (b := b) (c := c) (d := d) (by rw [List.length_map]; unfold SL; omega)
  have hb := s4_last (o := o2) (tl := tl) (rs := rs) (b := b) (c := c) (d := d) (.put nm (1 + m))
  simp only [enc, List.map_append, List.map_cons, List.map_nil] at ha hb
  simp only [l__law_record_1, envR]
  rcases hc with hc | hc
  · simp [e0, asgT, hc, e1, e2, SL, enc]
    simp [ha, hb, enc]
  · by_cases h2 : r0 < 2
    · simp [e0, asgT, hc, h2, e1, e2, SL, enc]
      simp [ha, hb, enc]
    · simp [e0, asgT, hc, h2, e1, e2, SL, enc]
      simp [ha, hb, enc]
/-- over what a store list holds -/
theorem ev_compS {G : Ce} {k : IK} {es : MEs} {t : MT} {own : List Nat} {cc e : ME} {env : Mi.Env} {M : Mem} {src : List (Nat × List D)} {α β : Type} {enc : α → D} (g : α → Option β) (h : β → D) {l : List α} {xs : List β} (hx : l.filterMap g = xs) (hit : itR G k es env M = .ok ⟨src, l.map enc⟩ M) (hs : stillS src M = true) (hl : l.length ≤ SL)
    (ht : ∀ a ∈ l, compT (evE G cc) (evE G e) t (wipeE env own) (enc a) M = .ok ((g a).map h) M) : evE G (.comp k es t own cc e) env M = .ok (.lst (xs.map h)) M := by
  have go : ∀ l : List α, (∀ a ∈ l, compT (evE G cc) (evE G e) t (wipeE env own) (enc a) M = .ok ((g a).map h) M) → ∀ ok : Mem → Bool, ok M = true → compL (compT (evE G cc) (evE G e) t (wipeE env own)) ok (l.map enc) M = .ok ((l.filterMap g).map h) M := by
    intro l
    induction l with
    | nil => intro _ ok hok; simp [compL, hok]
    | cons a l ih =>
      intro hh ok hok
      rw [List.map_cons, compL, if_pos hok, hh a List.mem_cons_self, bindOk, ih (fun b hb => hh b (List.mem_cons_of_mem _ hb)) ok hok, bindOk]
      cases e : g a with
      | none => rw [List.filterMap_cons_none e]; rfl
      | some d => rw [List.filterMap_cons_some e]; rfl
  show (itR G k es env M).bind _ = _
  rw [hit, bindOk]
  unfold compR
  rw [if_pos (by simpa using hl), go l ht _ hs, bindOk, ← hx]
@[simp] theorem s4_set {v : D} {t : Int} (h : kv.length < SL ∧ (kv.all fun p => (keyD p.1).isSome) = true) : setD (.ref (tl.length + 4)) (.int t) v (o :: (tl ++ [a, b, c, .dic kv])) = .ok () (o :: (tl ++ [a, b, c, .dic (putD (.int t) v kv)])) := by
  have e : keyD (.int t) = some (.inl t) := rfl
  simp only [setD, q3, e]
  rw [if_pos h, w3']
@[simp] theorem s4_len1 {xs : List D} : op1 .len (.ref (tl.length + 2)) (o :: (tl ++ [a, .lst xs, c, d])) = .ok (.int xs.length) (o :: (tl ++ [a, .lst xs, c, d])) := by
  simp [op1, lenD, view]
@[simp] theorem p_min {i j : Int} : op2 .min2 (.int i) (.int j) M = .ok (.int (if j < i then j else i)) M := rfl
theorem it_rows {G : Ce} {env : Mi.Env} {M : Mem} {av : ME} {m : Nat} {ds : List D} (h : evE G av env M = .ok (.ref m) M) (hm : M[m]? = some (.lst ds)) : itR G .seq (.cons av .nil) env M = .ok ⟨[(m, ds)], ds⟩ M := by
  show (evEs G _ env M).bind _ = _
  rw [ev1, h, bindOk]
  show okIt M (seqD M (.ref m)) = _
  simp [seqD, lsrc, hm, okIt]
theorem step_drw {tickets : List Int} {lots : List Str} {ins r0 m t : Int} {o0 o1 : O} {dr : List D} {a2 a9 a11 a12 a14 a15 : Option D} (hl : rs.length < 30) (hk : kv.length < SL ∧ (kv.all fun p => (keyD p.1).isSome) = true)
    (e0 : callF T gl 100 (n + 2) "_law_taken" [.ref 0, .int 5] (S4 o tl rs (.lst dr) c (.dic kv)) = .ok (.int r0) (S4 o0 tl rs (.lst dr) c (.dic kv))) (h1 : ¬ r0 < 2) (h2 : ¬ ins = 0) (h3 : r0 < 4) (h4 : dr.length < 4)
    (ht : op2 .item (.lst (tickets.map D.int)) (.int (dr.length : Nat)) (S4 o0 tl rs (.lst dr) c (.dic kv)) = .ok (.int t) (S4 o0 tl rs (.lst dr) c (.dic kv)))
    (e2 : callF T gl 100 (n + 2) "_law_taken" [.ref 0, .int (if 3 < ins then 3 else ins)] (S4 o0 tl rs (.lst dr) c (.dic kv)) = .ok (.int m) (S4 o1 tl rs (.lst dr) c (.dic kv))) :
    evSs ⟨callF T gl 100 (n + 2), gl, 100⟩ l__law_record_1 (envR tl tickets lots ins a2 a9 a11 a12 a14 a15) (S4 o tl rs (.lst dr) c (.dic kv)) =
      .ok (.nx (envR tl tickets lots (ins - (1 + m)) a2 (some (.int r0)) a11 a12 a14 a15)) (S4 o1 tl (rs ++ [.drw t (1 + m)]) (.lst (dr ++ [enc (.drw t (1 + m))])) c (.dic (putD (.int t) (.lst ((lotsOf rs).map D.str)) kv))) := by
  have ha := s4_app (o := o1) (tl := tl) (xs := rs.map enc) (v := enc (.drw t (1 + m))) (b := .lst dr) (c := c) (d := .dic kv) (by rw [List.length_map]; unfold SL; omega)
  have hb := s4_last (o := o1) (tl := tl) (rs := rs) (b := .lst dr) (c := c) (d := .dic kv) (.drw t (1 + m))
  have hb2 := s4_last (o := o1) (tl := tl) (rs := rs) (b := .lst (dr ++ [enc (.drw t (1 + m))])) (c := c) (d := .dic kv) (.drw t (1 + m))
  have hc := s4_app1 (o := o1) (tl := tl) (a := .lst ((rs ++ [Rw.drw t (1 + m)]).map enc)) (xs := dr) (v := enc (.drw t (1 + m))) (c := c) (d := .dic kv) (by unfold SL; omega)
  have h4' : ((dr.length : Nat) : Int) < 4 := by omega
  simp only [enc, List.map_append, List.map_cons, List.map_nil] at ha hb hc hb2
  simp only [l__law_record_1, envR]
  simp [e0, asgT, h1, h2, h3, h4', ht, e2, SL, enc]
  simp [ha, hb, hc, hb2]
  have hx : (rs ++ [Rw.drw t (1 + m)]).filterMap fPut = lotsOf rs := by rw [fm_snoc]; simp [fPut, lotsOf]
  rw [ev_compS fPut D.str (enc := enc) (l := rs ++ [Rw.drw t (1 + m)]) (src := [(tl.length + 1, (rs ++ [Rw.drw t (1 + m)]).map enc)]) hx (it_rows rfl (by simp [enc])) (by simp [stillS, enc]) (by rw [List.length_append]; simp; unfold SL; omega) (fun r _ => ?_)]
  · simp [hb2]
    rw [s4_set hk]
    simp [enc]
  · cases r <;> simp [compT, asgT, enc, wipeE, fPut]
end
end P77
set_option Elab.async false
set_option linter.all false
set_option maxRecDepth 100000
set_option maxHeartbeats 0
/-! P77h: a row about a draw. -/
namespace P77
open PySem PySem.Spec PyProof.Rows L2 Mi G77
section
variable {n : Nat} {M : Mem} {m : Nat} {ds : List D}
theorem p_neRef (hm : M[m]? = some (.lst ds)) (hs : ds.all (Sh 2) = true) : op2 .ne (.ref m) (.lst []) M = .ok (.bl (!decide (ds = []))) M := by
  have h1 : Sh 3 (.lst ds) = true := hs
  have e : deref M (.ref m) = .lst ds := by simp [deref, hm]
  have e2 : deref M (.lst []) = .lst [] := rfl
  have hq : eqD M (.ref m) (.lst []) = some (decide (ds = [])) := by
    unfold eqD
    rw [show flatEq (.ref m) (.lst []) = none from rfl]
    simp only [e, e2, sh_shaped (k := 3) (by decide) h1, sh_shaped (k := 3) (by decide) (show Sh 3 (.lst []) = true from rfl), Bool.and_self, if_true]
    rw [sh_eqv 3 _ _ h1 rfl]
    simp
  simp only [op2, eqOp, hq]
  cases decide (ds = []) <;> rfl
theorem any_sh {k : Nat} {d : D} (hd : Sh k d = true) : ∀ {ds : List D}, ds.all (Sh k) = true → (ds.any fun x => PyData.eqv x.py d.py) = decide (d ∈ ds)
  | [], _ => by simp
  | x :: ds, h => by
    rw [List.all_cons, Bool.and_eq_true] at h
    rw [List.any_cons, any_sh hd h.2, sh_eqv k x d h.1 hd]
    by_cases e : x = d
    · subst e; simp
    · have e' : ¬ d = x := fun z => e z.symm
      simp [e, e']
theorem notin_ref {d : D} (hm : M[m]? = some (.lst ds)) (hs : ds.all (Sh 2) = true) (hd : Sh 2 d = true) (hp : Mi.plain d = false) : op2 .notin d (.ref m) M = .ok (.bl (!decide (d ∈ ds))) M := by
  have hv : view M (.ref m) = some ds := by simp [view, hm]
  have hl : lview M (.ref m) = some ds := by simp [lview, hm]
  have h1 : SeqAt.shaped (PyData.list (D.pys ds)) = true := sh_shaped (k := 3) (d := .lst ds) (by decide) hs
  have h2 := sh_shaped (k := 2) (by decide) hd
  have e : Mi.inB M d (.ref m) = some (decide (d ∈ ds)) := by
    have e0 : Mi.inB M d (.ref m) = (match view M (.ref m) with
      | some ds => if Mi.plain d && ds.all Mi.plain then some (ds.any fun x => eqPl x d)
        else match lview M (.ref m) with
          | some _ => if SeqAt.shaped d.py && SeqAt.shaped (.list (D.pys ds)) then some (ds.any fun x => PyData.eqv x.py d.py) else none
          | none => none
      | none => match dview M (.ref m), keyD d with
        | some kvs, some _ => some (lookD d kvs).isSome
        | _, _ => none) := by
      cases d <;> rfl
    rw [e0, hv, hl]
    simp only [hp, Bool.false_and, Bool.false_eq_true, if_false, h1, h2, Bool.and_self, if_true]
    rw [any_sh hd hs]
  simp only [op2]
  unfold Mi.inD
  rw [e]
  cases decide (d ∈ ds) <;> rfl
def pTS (q : Int × Str) : D := .tup [.int q.1, .str q.2]
theorem mem_pTS {q : Int × Str} {tp : List (Int × Str)} : pTS q ∈ tp.map pTS ↔ q ∈ tp := by
  constructor
  · intro h
    obtain ⟨p, hp, e⟩ := List.mem_map.mp h
    have : p = q := by
      obtain ⟨p1, p2⟩ := p
      obtain ⟨q1, q2⟩ := q
      simp [pTS] at e
      rw [e.1, e.2]
    rw [← this]
    exact hp
  · exact fun h => List.mem_map.mpr ⟨q, h, rfl⟩
variable {ns : List Int} {o : O} {tl : Mem} {a b c d x : O} {rs : List Rw} {tp : List (Int × Str)} {kv : List (D × D)} {dr : List D}
/-- a row's first two places are plain -/
theorem sli2 {r : Rw} : Sh 2 (enc r) = true → ∃ q, sliD (enc r) (some none) (some (some 2)) M = .ok q M ∧ Sh 1 q = true ∧ (q = .tup [.str "has", .int t] ↔ ∃ l p, r = .has t l p) := by
  intro h
  have e : ∀ xs : List D, Mi.cutD none (some 2) xs = xs.take 2 := fun xs => cut_take (k := 2)
  cases r with
  | put nm mm =>
    refine ⟨.tup [.str "put", .str nm], by simp [enc, sliD, e], ?_, by simp⟩
    simp [enc, Sh] at h ⊢
    exact h
  | drw t' mm => exact ⟨.tup [.str "draw", .int t'], by simp [enc, sliD, e], by simp [Sh]; decide +kernel, by simp⟩
  | has t' l p => exact ⟨.tup [.str "has", .int t'], by simp [enc, sliD, e], by simp [Sh]; decide +kernel, by simp⟩
  | non t' l => exact ⟨.tup [.str "none", .int t'], by simp [enc, sliD, e], by simp [Sh]; decide +kernel, by simp⟩
theorem known_ok {G : Ce} {env : Mi.Env} {t : Int} (hm : M[m]? = some (.lst (rs.map enc))) (hs : ∀ r ∈ rs, Sh 2 (enc r) = true) (hl : rs.length ≤ SL) (h4 : env[4]? = some (some (.ref m))) (h14 : env[14]? = some (some (.int t))) (hlen : 13 < env.length) :
    evE G (.comp .seq (.cons (.var 4) .nil) (.nm 13) [13] (.p2 .eq (.sli (.var 13) (.con .non) (.con (.int 2))) (.tup (.cons (.con (.str "has")) (.cons (.var 14) .nil)))) (.p2 .item (.var 13) (.con (.int 3)))) env M = .ok (.lst ((hasP rs t).map D.int)) M := by
  refine ev_compS (fHasP t) D.int (enc := enc) (l := rs) rfl (it_rows (by simp [h4]) hm) (by simp [stillS, hm]) hl (fun r hr => ?_)
  obtain ⟨q, q1, q2, q3⟩ := sli2 (M := M) (t := t) (hs r hr)
  have q4 := p_eqSh (M := M) (k := 1) (by decide) q2 (show Sh 1 (.tup [.str "has", .int t]) = true by simp [Sh]; decide +kernel)
  have g13 : (((env.set 13 none).set 13 (some (enc r)))[13]?) = some (some (enc r)) := by simp [hlen]
  have g14 : (((env.set 13 none).set 13 (some (enc r)))[14]?) = some (some (.int t)) := by
    rw [List.getElem?_set_ne (by decide), List.getElem?_set_ne (by decide)]
    exact h14
  have hw : wipeE env [13] = env.set 13 none := rfl
  have i1 : (ME.con D.non).isNon = true := rfl
  have i2 : (ME.con (D.int 2)).isNon = false := rfl
  simp only [compT, hw, asgT, e_p2, e_var, e_sli, e_con, e_tup, e_cons, e_nil, List.length_set, hlen, if_true, g13, g14, bindOk, i1, i2, bndOf, if_true, Bool.false_eq_true, if_false, q1, noX_ok, SL, List.length_cons, List.length_nil]
  simp only [Nat.reduceAdd, Nat.reduceLeDiff, if_true, bindOk, q4, noX_ok]
  cases r with
  | has t' l p =>
    by_cases e : t' = t
    · have : q = D.tup [D.str "has", D.int t] := q3.mpr ⟨l, p, by rw [e]⟩
      simp [this, fHasP, e, enc]
    · have : ¬ q = D.tup [D.str "has", D.int t] := fun z => by
        obtain ⟨l', p', h⟩ := q3.mp z
        cases h
        exact e rfl
      simp [this, fHasP, e]
  | _ =>
    have : ¬ q = D.tup [D.str "has", D.int t] := fun z => by
      obtain ⟨l', p', h⟩ := q3.mp z
      cases h
    simp [this, fHasP]
end
end P77
set_option Elab.async false
set_option linter.all false
set_option maxRecDepth 100000
set_option maxHeartbeats 0
/-! P77i: a turn that tells of a draw. -/
namespace P77
open PySem PySem.Spec PyProof.Rows L2 Mi G77
section
variable {n : Nat} {ns : List Int} {o : O} {tl : Mem} {a b c d x : O} {rs : List Rw} {tp : List D} {kv : List (D × D)} {dr : List D}
@[simp] theorem s4_item {v : D} {t : Int} (hk : (kv.all fun p => (keyD p.1).isSome) = true) (h : lookD (.int t) kv = some v) : op2 .item (.ref (tl.length + 4)) (.int t) (o :: (tl ++ [a, b, c, .dic kv])) = .ok v (o :: (tl ++ [a, b, c, .dic kv])) := by
  have e : keyD (.int t) = some (.inl t) := rfl
  simp only [op2, itemD, view, q3, itemK, dview, e, hk, if_true, h]
@[simp] theorem sli_drw {M : Mem} {t m : Int} : sliD (enc (.drw t m)) (some (some 1)) (some none) M = .ok (.tup [.int t, .int m]) M := by
  simp only [enc, sliD]
  kernel_rfl
def envT (tl : Mem) (tickets : List Int) (lots : List Str) (ins : Int) (a2 : Option D) (r0 t m : Int) (l : Str) (kn : Int) : Mi.Env := envR tl tickets lots ins a2 (some (.int r0)) (some (.str l)) (some (.int kn)) (some (.int t)) (some (.int m))
/-- a turn that tells -/
theorem step_told {tickets : List Int} {lots : List Str} {ins r0 t m : Int} {l : Str} {o0 o1 o2 : O} {lots' : List Str} {a2 a9 a11 a12 a14 a15 : Option D}
    (hds : dr.all (Sh 2) = true) (hne : dr ≠ []) (hrs : ∀ r ∈ rs, Sh 2 (enc r) = true) (hl : rs.length < 30) (hts : tp.length < 30) (htp : tp.all (Sh 2) = true) (hlS : Sh 2 (pTS (t, l)) = true) (hk : (kv.all fun p => (keyD p.1).isSome) = true)
    (e0 : callF T gl 100 (n + 2) "_law_taken" [.ref 0, .int 5] (S4 o tl rs (.lst dr) (.lst tp) (.dic kv)) = .ok (.int r0) (S4 o0 tl rs (.lst dr) (.lst tp) (.dic kv))) (h1 : ¬ r0 < 2) (h2 : ¬ ins = 0) (h3 : ¬ (r0 < 4 ∧ ((dr.length : Nat) : Int) < 4))
    (e1 : callF T gl 100 (n + 2) "_law_pick" [.ref 0, .ref (tl.length + 2)] (S4 o0 tl rs (.lst dr) (.lst tp) (.dic kv)) = .ok (enc (.drw t m)) (S4 o1 tl rs (.lst dr) (.lst tp) (.dic kv)))
    (hi : lookD (.int t) kv = some (.lst (lots'.map D.str)))
    (e2 : callF T gl 100 (n + 2) "_law_pick" [.ref 0, .lst (lots'.map D.str)] (S4 o1 tl rs (.lst dr) (.lst tp) (.dic kv)) = .ok (.str l) (S4 o2 tl rs (.lst dr) (.lst tp) (.dic kv))) (R : Res Fl)
    (hA : pTS (t, l) ∈ tp → R = .ok (.nx (envT tl tickets lots ins a2 r0 t m l (hasP rs t).sum)) (S4 o2 tl rs (.lst dr) (.lst tp) (.dic kv)))
    (hB : pTS (t, l) ∉ tp → (hasP rs t).sum < m → ∃ q o3, callF T gl 100 (n + 2) "_law_taken" [.ref 0, .int 2] (S4 o2 tl rs (.lst dr) (.lst tp) (.dic kv)) = .ok (.int q) (S4 o3 tl rs (.lst dr) (.lst tp) (.dic kv)) ∧
      (q = 0 → ∃ p o4, callF T gl 100 (n + 2) "_law_taken" [.ref 0, .int (m - (hasP rs t).sum)] (S4 o3 tl rs (.lst dr) (.lst tp) (.dic kv)) = .ok (.int p) (S4 o4 tl rs (.lst dr) (.lst tp) (.dic kv)) ∧
        R = .ok (.nx (envT tl tickets lots ins a2 r0 t m l (hasP rs t).sum)) (S4 o4 tl (rs ++ [Rw.has t l (1 + p)]) (.lst dr) (.lst (tp ++ [pTS (t, l)])) (.dic kv))) ∧
      (¬ q = 0 → R = .ok (.nx (envT tl tickets lots ins a2 r0 t m l (hasP rs t).sum)) (S4 o3 tl (rs ++ [Rw.non t l]) (.lst dr) (.lst (tp ++ [pTS (t, l)])) (.dic kv))))
    (hC : pTS (t, l) ∉ tp → ¬ (hasP rs t).sum < m → R = .ok (.nx (envT tl tickets lots ins a2 r0 t m l (hasP rs t).sum)) (S4 o2 tl (rs ++ [Rw.non t l]) (.lst dr) (.lst (tp ++ [pTS (t, l)])) (.dic kv))) :
    evSs ⟨callF T gl 100 (n + 2), gl, 100⟩ l__law_record_1 (envR tl tickets lots ins a2 a9 a11 a12 a14 a15) (S4 o tl rs (.lst dr) (.lst tp) (.dic kv)) = R := by
  have k1 := p_neRef (M := S4 o0 tl rs (.lst dr) (.lst tp) (.dic kv)) (m := tl.length + 2) (by simp) hds
  rw [decide_eq_false hne] at k1
  have k2 := s4_item (o := o1) (tl := tl) (a := .lst (rs.map enc)) (b := .lst dr) (c := .lst tp) hk hi
  have k3 := fun (env : Mi.Env) (z1 : env[4]? = some (some (.ref (tl.length + 1)))) (z2 : env[14]? = some (some (.int t))) (z3 : 13 < env.length) => known_ok (G := ⟨callF T gl 100 (n + 2), gl, 100⟩) (M := S4 o2 tl rs (.lst dr) (.lst tp) (.dic kv)) (m := tl.length + 1) (rs := rs) (t := t) (env := env) (by simp) hrs (by unfold SL; omega) z1 z2 z3
  have k4 := fun o3 => notin_ref (M := S4 o3 tl rs (.lst dr) (.lst tp) (.dic kv)) (m := tl.length + 3) (d := pTS (t, l)) (by simp) htp hlS rfl
  simp only [pTS] at k4 hA hB hC
  have i1 : (ME.con (D.int 1)).isNon = false := rfl
  have i2 : (ME.con D.non).isNon = true := rfl
  have ha := fun (o : O) (v : D) (c : O) => s4_app (o := o) (tl := tl) (xs := rs.map enc) (v := v) (b := .lst dr) (c := c) (d := .dic kv) (by rw [List.length_map]; unfold SL; omega)
  have hc := fun (o : O) (v : D) (a : O) => s4_app2 (o := o) (tl := tl) (a := a) (b := .lst dr) (xs := tp) (v := v) (d := .dic kv) (by unfold SL; omega)
  simp only [l__law_record_1, envR]
  by_cases z : r0 < 4
  · have z2 : ¬ ((dr.length : Nat) : Int) < 4 := fun w => h3 ⟨z, w⟩
    simp [e0, h1, h2, z, z2, k1, e1, asgT, setMany, bndOf, i1, i2]
    simp [k2, e2]
    rw [k3 _ rfl rfl (by simp)]
    by_cases hin : D.tup [.int t, .str l] ∈ tp
    · rw [hA hin]
      simp [k4, hin, SL, envT, envR]
    · by_cases hlt : (hasP rs t).sum < m
      · obtain ⟨q, o3, f1, f2, f3⟩ := hB hin hlt
        by_cases hq : q = 0
        · obtain ⟨p, o4, f4, f5⟩ := f2 hq
          rw [f5]
          subst hq
          simp [k4, hin, hlt, f1, f4, SL, ha, hc, envT, envR, enc]
        · rw [f3 hq]
          simp [k4, hin, hlt, f1, hq, SL, ha, hc, envT, envR, enc]
      · rw [hC hin hlt]
        simp [k4, hin, hlt, SL, ha, hc, envT, envR, enc]
  · simp [e0, h1, h2, z, k1, e1, asgT, setMany, bndOf, i1, i2]
    simp [k2, e2]
    rw [k3 _ rfl rfl (by simp)]
    by_cases hin : D.tup [.int t, .str l] ∈ tp
    · rw [hA hin]
      simp [k4, hin, SL, envT, envR]
    · by_cases hlt : (hasP rs t).sum < m
      · obtain ⟨q, o3, f1, f2, f3⟩ := hB hin hlt
        by_cases hq : q = 0
        · obtain ⟨p, o4, f4, f5⟩ := f2 hq
          rw [f5]
          subst hq
          simp [k4, hin, hlt, f1, f4, SL, ha, hc, envT, envR, enc]
        · rw [f3 hq]
          simp [k4, hin, hlt, f1, hq, SL, ha, hc, envT, envR, enc]
      · rw [hC hin hlt]
        simp [k4, hin, hlt, SL, ha, hc, envT, envR, enc]
theorem step_idle {tickets : List Int} {lots : List Str} {ins r0 : Int} {o0 : O} {a2 a9 a11 a12 a14 a15 : Option D}
    (e0 : callF T gl 100 (n + 2) "_law_taken" [.ref 0, .int 5] (S4 o tl rs (.lst []) c d) = .ok (.int r0) (S4 o0 tl rs (.lst []) c d)) (h1 : ¬ r0 < 2) (h2 : ¬ ins = 0) (h3 : ¬ r0 < 4) :
    evSs ⟨callF T gl 100 (n + 2), gl, 100⟩ l__law_record_1 (envR tl tickets lots ins a2 a9 a11 a12 a14 a15) (S4 o tl rs (.lst []) c d) =
      .ok (.nx (envR tl tickets lots ins a2 (some (.int r0)) a11 a12 a14 a15)) (S4 o0 tl rs (.lst []) c d) := by
  have k1 := p_neRef (M := S4 o0 tl rs (.lst []) c d) (m := tl.length + 2) (ds := []) (by simp) rfl
  simp only [l__law_record_1, envR]
  simp [e0, h1, h2, h3, asgT, k1]
end
end P77
set_option Elab.async false
set_option linter.all false
set_option maxRecDepth 100000
set_option maxHeartbeats 0
/-! P77j: facts of a record whose rows fit. -/
namespace P77
open PySem PySem.Spec PyProof.Rows L2 Mi G77
def VR (rs : List Rw) : Prop := ∀ j, j < rs.length → OkRow (rs.take j) (rs.getD j default)
theorem VR.split {rs : List Rw} {r : Rw} (h : VR (rs ++ [r])) : VR rs ∧ OkRow rs r := by
  constructor
  · intro j hj
    have := h j (by rw [List.length_append]; omega)
    rw [getD_snoc hj, take_snoc (Nat.le_of_lt hj)] at this
    exact this
  · have := h rs.length (by rw [List.length_append]; simp)
    rw [getD_last, take_snoc (Nat.le_refl _), List.take_length] at this
    exact this
theorem VR.ind {P : List Rw → Prop} (h0 : P []) (hs : ∀ rs r, VR rs → OkRow rs r → P rs → P (rs ++ [r])) {rs : List Rw} (h : VR rs) : P rs := by
  have go : ∀ k (rs : List Rw), rs.length = k → VR rs → P rs := by
    intro k
    induction k with
    | zero => intro rs e _; rw [List.length_eq_zero_iff.mp e]; exact h0
    | succ k ih =>
      intro rs e hv
      have hne : rs ≠ [] := fun z => by rw [z] at e; simp at e
      have := List.dropLast_concat_getLast hne
      rw [← this] at hv ⊢
      exact hs _ _ hv.split.1 hv.split.2 (ih _ (by rw [List.length_dropLast]; omega) hv.split.1)
  exact go _ rs rfl h
theorem draw_one {rs : List Rw} (h : VR rs) : ∀ t m, (t, m) ∈ drs rs → drawn rs t = [m] ∧ 1 ≤ m ∧ m ≤ 9 := by
  refine VR.ind (P := fun rs => ∀ t m, (t, m) ∈ drs rs → drawn rs t = [m] ∧ 1 ≤ m ∧ m ≤ 9) (fun t m z => (List.not_mem_nil z).elim) (fun rs r _ hr ih t m hm => ?_) h
  cases r with
  | drw t' m' =>
    have e1 : drs (rs ++ [.drw t' m']) = drs rs ++ [(t', m')] := by unfold drs; rw [fm_snoc]; rfl
    have e2 : drawn (rs ++ [.drw t' m']) t = drawn rs t ++ (if t' = t then some m' else none).toList := by unfold drawn; rw [fm_snoc]; rfl
    obtain ⟨k1, k2, k3, k4, k5, k6⟩ := hr
    rw [e1] at hm
    rw [e2]
    rcases List.mem_append.mp hm with z | z
    · obtain ⟨i1, i2⟩ := ih t m z
      by_cases e : t' = t
      · rw [← e, k5] at i1
        cases i1
      · rw [if_neg e, i1]
        exact ⟨rfl, i2⟩
    · cases List.mem_singleton.mp z
      rw [if_pos rfl, k5]
      exact ⟨rfl, k3, k4⟩
  | _ =>
    unfold drs at hm
    unfold drawn
    rw [fm_snoc] at hm ⊢
    simp only [fDrw, fDr, Option.toList_none, List.append_nil] at hm ⊢
    exact ih t m hm
theorem hasP_nonneg {rs : List Rw} (h : VR rs) (t : Int) : 0 ≤ (hasP rs t).sum := by
  refine VR.ind (P := fun rs => 0 ≤ (hasP rs t).sum) (by simp [hasP]) (fun rs r _ hr ih => ?_) h
  unfold hasP
  rw [fm_snoc, List.sum_append]
  cases r with
  | has t' l p =>
    obtain ⟨_, k1, _, _⟩ := hr
    by_cases e : t' = t
    · simp only [fHasP, e, if_true, Option.toList_some, List.sum_cons, List.sum_nil]
      unfold hasP at ih
      omega
    · simp only [fHasP, e, if_false, Option.toList_none, List.sum_nil]
      unfold hasP at ih
      omega
  | _ =>
    simp only [fHasP, Option.toList_none, List.sum_nil]
    unfold hasP at ih
    omega
theorem inside_put {rs : List Rw} {nm : Str} {m : Int} : inside (rs ++ [.put nm m]) = inside rs + m := by
  unfold inside puts drsM
  rw [fm_snoc, fm_snoc, List.sum_append, List.sum_append]
  simp [fPutM, fDrwM]
  omega
theorem inside_drw {rs : List Rw} {t m : Int} : inside (rs ++ [.drw t m]) = inside rs - m := by
  unfold inside puts drsM
  rw [fm_snoc, fm_snoc, List.sum_append, List.sum_append]
  simp [fPutM, fDrwM]
  omega
theorem inside_has {rs : List Rw} {t p : Int} {l : Str} : inside (rs ++ [.has t l p]) = inside rs := by
  unfold inside puts drsM
  rw [fm_snoc, fm_snoc]
  simp [fPutM, fDrwM]
theorem inside_non {rs : List Rw} {t : Int} {l : Str} : inside (rs ++ [.non t l]) = inside rs := by
  unfold inside puts drsM
  rw [fm_snoc, fm_snoc]
  simp [fPutM, fDrwM]
end P77
set_option Elab.async false
set_option linter.all false
set_option maxRecDepth 100000
set_option maxHeartbeats 0
/-! P77k: one turn keeps the state. -/
namespace P77
open PySem PySem.Spec PyProof.Rows L2 Mi G77
def dE (q : Int × Int) : D := enc (.drw q.1 q.2)
section
variable {n : Nat} {ns : List Int} {o : O} {tl : Mem}
theorem pk_str (h : RowO ns o) {xs : List Str} (h0 : xs ≠ []) (h1 : xs.length ≤ 40) : ∃ s o', callF T gl 100 (n + 2) "_law_pick" [.ref 0, .lst (xs.map D.str)] (o :: tl) = .ok (.str s) (o' :: tl) ∧ s ∈ xs ∧ RowO ns o' := by
  obtain ⟨x, o', e, hx, hr⟩ := pick_ok (T := T) (gl := gl) (W := 100) (n := n) (tl := tl) fn_taken fn_pick h (d := .lst (xs.map D.str)) (ds := xs.map D.str) (.inl ⟨_, rfl⟩) (fun _ => rfl) (by simpa using h0) (by rw [List.length_map]; omega) (fun x hx => by
    obtain ⟨s, _, rfl⟩ := List.mem_map.mp hx
    rfl)
  obtain ⟨s, hs, rfl⟩ := List.mem_map.mp hx
  exact ⟨s, o', e, hs, hr⟩
theorem pk_ref (h : RowO ns o) {ds : List (Int × Int)} {m : Nat} (hm : ∀ o' : O, (o' :: tl)[m]? = some (.lst (ds.map dE))) (h0 : ds ≠ []) (h1 : ds.length ≤ 40) : ∃ q o', callF T gl 100 (n + 2) "_law_pick" [.ref 0, .ref m] (o :: tl) = .ok (dE q) (o' :: tl) ∧ q ∈ ds ∧ RowO ns o' := by
  obtain ⟨x, o', e, hx, hr⟩ := pick_ok (T := T) (gl := gl) (W := 100) (n := n) (tl := tl) fn_taken fn_pick h (d := .ref m) (ds := ds.map dE) (.inr ⟨_, rfl⟩) (fun o' => by simp [view, hm]) (by simpa using h0) (by rw [List.length_map]; omega) (fun x hx => by
    obtain ⟨s, _, rfl⟩ := List.mem_map.mp hx
    rfl)
  obtain ⟨s, hs, rfl⟩ := List.mem_map.mp hx
  exact ⟨s, o', e, hs, hr⟩
theorem sh_row {rs : List Rw} (h : VR rs) : ∀ r ∈ rs, Sh 2 (enc r) = true := by
  refine VR.ind (P := fun rs => ∀ r ∈ rs, Sh 2 (enc r) = true) (fun r z => (List.not_mem_nil z).elim) (fun rs r _ hr ih q hq => ?_) h
  rcases List.mem_append.mp hq with z | z
  · exact ih q z
  · rw [List.mem_singleton.mp z]
    cases r with
    | put nm m => simp [enc, Sh, name_ok hr.1]; decide +kernel
    | drw t m => simp [enc, Sh]; decide +kernel
    | has t l p => simp [enc, Sh, name_ok hr.1.nm]; decide +kernel
    | non t l => simp [enc, Sh, name_ok hr.nm]; decide +kernel
theorem draw_rng {rs : List Rw} (h : VR rs) : ∀ t m, (t, m) ∈ drs rs → 1 ≤ t ∧ t ≤ 999 := by
  refine VR.ind (P := fun rs => ∀ t m, (t, m) ∈ drs rs → 1 ≤ t ∧ t ≤ 999) (fun t m z => (List.not_mem_nil z).elim) (fun rs r _ hr ih t m hm => ?_) h
  cases r with
  | drw t' m' =>
    have e1 : drs (rs ++ [.drw t' m']) = drs rs ++ [(t', m')] := by unfold drs; rw [fm_snoc]; rfl
    obtain ⟨k1, k2, _⟩ := hr
    rw [e1] at hm
    rcases List.mem_append.mp hm with z | z
    · exact ih t m z
    · cases List.mem_singleton.mp z
      exact ⟨k1, k2⟩
  | _ =>
    unfold drs at hm
    rw [fm_snoc] at hm
    simp only [fDrw, Option.toList_none, List.append_nil] at hm
    exact ih t m hm
theorem lots_name {rs : List Rw} (h : VR rs) : ∀ l ∈ lotsOf rs, NameOk l := by
  refine VR.ind (P := fun rs => ∀ l ∈ lotsOf rs, NameOk l) (fun l z => (List.not_mem_nil z).elim) (fun rs r _ hr ih l hm => ?_) h
  cases r with
  | put nm m =>
    have e1 : lotsOf (rs ++ [.put nm m]) = lotsOf rs ++ [nm] := by unfold lotsOf; rw [fm_snoc]; rfl
    rw [e1] at hm
    rcases List.mem_append.mp hm with z | z
    · exact ih l z
    · rw [List.mem_singleton.mp z]
      exact hr.1
  | _ =>
    unfold lotsOf at hm
    rw [fm_snoc] at hm
    simp only [fPut, Option.toList_none, List.append_nil] at hm
    exact ih l hm
theorem lots_take' {rs : List Rw} {k : Nat} {l : Str} (h : l ∈ lotsOf (rs.take k)) : l ∈ lotsOf rs := by
  obtain ⟨r, hr, e⟩ := List.mem_filterMap.mp h
  exact List.mem_filterMap.mpr ⟨r, List.mem_of_mem_take hr, e⟩
def GM (ns : List Int) (tl : Mem) (tickets : List Int) (lots : List Str) (i : Nat) (env : Mi.Env) (M : Mem) : Prop :=
  ∃ o rs tp kv a2 a9 a11 a12 a14 a15, M = S4 o tl rs (.lst ((drs rs).map dE)) (.lst (tp.map pTS)) (.dic kv) ∧ env = envR tl tickets lots (inside rs) a2 a9 a11 a12 a14 a15 ∧ Gs rs tp kv tickets i ∧ RowO ns o
theorem turn {tickets : List Int} {lots : List Str} (nd : tickets.Nodup) (hl : 4 ≤ tickets.length) (hr : ∀ t ∈ tickets, 1 ≤ t ∧ t ≤ 999) (hn : ∀ s ∈ lots, NameOk s) (hn0 : lots ≠ []) (hn1 : lots.length ≤ 3) {i : Nat} (hi : i < 30) {env : Mi.Env} {M : Mem} (g : GM ns tl tickets lots i env M) (v : Int) :
    ∃ env' M', forT (evSs ⟨callF T gl 100 (n + 2), gl, 100⟩ l__law_record_1) (.nm 2) (.int v) env M = .ok (.nx env') M' ∧ GM ns tl tickets lots (i + 1) env' M' := by
  obtain ⟨o, rs, tp, kv, a2, a9, a11, a12, a14, a15, rfl, rfl, g, hro⟩ := g
  have hlen : rs.length < 30 := by have := g.len; omega
  have hV : VR rs := g.row
  have f0 : forT (evSs ⟨callF T gl 100 (n + 2), gl, 100⟩ l__law_record_1) (.nm 2) (.int v) (envR tl tickets lots (inside rs) a2 a9 a11 a12 a14 a15) (S4 o tl rs (.lst ((drs rs).map dE)) (.lst (tp.map pTS)) (.dic kv)) =
    evSs ⟨callF T gl 100 (n + 2), gl, 100⟩ l__law_record_1 (envR tl tickets lots (inside rs) (some (.int v)) a9 a11 a12 a14 a15) (S4 o tl rs (.lst ((drs rs).map dE)) (.lst (tp.map pTS)) (.dic kv)) := by
    simp [forT, asgT, envR]
  rw [f0]
  obtain ⟨r0, o0, e0, p0, q0, h0⟩ := tk (n := n + 1) (tl := tl ++ [.lst (rs.map enc), .lst ((drs rs).map dE), .lst (tp.map pTS), .dic kv]) (many := 5) hro (by omega) (by omega)
  by_cases hc : r0 < 2 ∨ inside rs = 0
  · obtain ⟨nm, o1, e1, hm1, h1⟩ := pk_str (n := n) (tl := tl ++ [.lst (rs.map enc), .lst ((drs rs).map dE), .lst (tp.map pTS), .dic kv]) h0 hn0 (by omega)
    obtain ⟨m, o2, e2, p2, q2, h2⟩ := tk (n := n + 1) (tl := tl ++ [.lst (rs.map enc), .lst ((drs rs).map dE), .lst (tp.map pTS), .dic kv]) (many := 3) h1 (by omega) (by omega)
    have st := step_put (n := n) (tl := tl) (rs := rs) (b := .lst ((drs rs).map dE)) (c := .lst (tp.map pTS)) (d := .dic kv) (tickets := tickets) (lots := lots) (ins := inside rs) (a2 := some (.int v)) (a9 := a9) (a11 := a11) (a12 := a12) (a14 := a14) (a15 := a15) hlen e0 hc e1 e2
    refine ⟨_, _, st, o2, rs ++ [.put nm (1 + m)], tp, kv, some (.int v), some (.int r0), a11, a12, a14, a15, ?_, ?_, g.put (hn nm hm1) (by omega) (by omega), h2⟩
    · have : drs (rs ++ [.put nm (1 + m)]) = drs rs := by unfold drs; rw [fm_snoc]; simp [fDrw]
      rw [this]
    · rw [inside_put]
  · have hc1 : ¬ r0 < 2 := fun z => hc (.inl z)
    have hc2 : ¬ inside rs = 0 := fun z => hc (.inr z)
    have hin := g.ins
    have hkv : (kv.all fun p => (keyD p.1).isSome) = true := List.all_eq_true.mpr g.kvk
    have hkl : kv.length < SL := by have := g.kvl; unfold SL; omega
    by_cases hd : r0 < 4 ∧ (drs rs).length < 4
    · obtain ⟨m, o1, e1, p1, q1, h1⟩ := tk (n := n + 1) (tl := tl ++ [.lst (rs.map enc), .lst ((drs rs).map dE), .lst (tp.map pTS), .dic kv]) (many := if 3 < inside rs then 3 else inside rs) h0 (by split <;> omega) (by split <;> omega)
      have q1' : m < inside rs ∧ m < 3 := by split at q1 <;> omega
      have hlt : (drs rs).length < tickets.length := by omega
      have ht : op2 .item (.lst (tickets.map D.int)) (.int (((drs rs).map dE).length : Nat)) (S4 o0 tl rs (.lst ((drs rs).map dE)) (.lst (tp.map pTS)) (.dic kv)) = .ok (.int (tickets.getD (drs rs).length 0)) (S4 o0 tl rs (.lst ((drs rs).map dE)) (.lst (tp.map pTS)) (.dic kv)) := by
        rw [p_itemL (by omega), List.length_map]
        simp [hlt]
      have st := step_drw (n := n) (tl := tl) (rs := rs) (dr := (drs rs).map dE) (c := .lst (tp.map pTS)) (kv := kv) (tickets := tickets) (lots := lots) (ins := inside rs) (a2 := some (.int v)) (a9 := a9) (a11 := a11) (a12 := a12) (a14 := a14) (a15 := a15) hlen ⟨hkl, hkv⟩ e0 hc1 hc2 hd.1 (by rw [List.length_map]; exact hd.2) ht e1
      have gg := g.drw (m := 1 + m) nd hd.2 hl hr (by omega) (by omega) (by omega)
      generalize tickets.getD (drs rs).length 0 = t at st gg
      refine ⟨_, _, st, o1, rs ++ [.drw t (1 + m)], tp, _, some (.int v), some (.int r0), a11, a12, a14, a15, ?_, ?_, gg, h1⟩
      · have : drs (rs ++ [.drw t (1 + m)]) = drs rs ++ [(t, 1 + m)] := by unfold drs; rw [fm_snoc]; rfl
        rw [this, List.map_append]
        rfl
      · rw [inside_drw]
    · by_cases hne : drs rs = []
      · have h4 : ¬ r0 < 4 := fun z => hd ⟨z, by rw [hne]; decide⟩
        rw [hne] at e0 ⊢
        have st := step_idle (n := n) (tl := tl) (rs := rs) (c := .lst (tp.map pTS)) (d := .dic kv) (tickets := tickets) (lots := lots) (ins := inside rs) (a2 := some (.int v)) (a9 := a9) (a11 := a11) (a12 := a12) (a14 := a14) (a15 := a15) e0 hc1 hc2 h4
        exact ⟨_, _, st, o0, rs, tp, kv, some (.int v), some (.int r0), a11, a12, a14, a15, by rw [hne]; rfl, rfl, g.same _ (Nat.le_succ i), h0⟩
      · obtain ⟨⟨t, m⟩, o1, e1, hm1, h1⟩ := pk_ref (n := n) (tl := tl ++ [.lst (rs.map enc), .lst ((drs rs).map dE), .lst (tp.map pTS), .dic kv]) (ds := drs rs) (m := tl.length + 2) h0 (fun o' => by simp) hne (by have := g.dl; omega)
        obtain ⟨d1, d2, d3⟩ := draw_one hV t m hm1
        obtain ⟨d4, d5⟩ := draw_rng hV t m hm1
        have htk : t ∈ tks rs := List.mem_map.mpr ⟨_, hm1, rfl⟩
        obtain ⟨k1, k2⟩ := g.kva t htk
        have k3 : (lotsOf (rs.take (at_ rs t))).length ≤ 30 := Nat.le_trans (List.length_filterMap_le _ _) (by rw [List.length_take]; omega)
        obtain ⟨l, o2, e2, hl2, h2⟩ := pk_str (n := n) (tl := tl ++ [.lst (rs.map enc), .lst ((drs rs).map dE), .lst (tp.map pTS), .dic kv]) h1 k2 (by omega)
        have hname := lots_name hV l (lots_take' hl2)
        have hds : ((drs rs).map dE).all (Sh 2) = true := List.all_eq_true.mpr fun x hx => by
          obtain ⟨q, _, rfl⟩ := List.mem_map.mp hx
          simp [dE, enc, Sh]
          decide +kernel
        have hsq : ∀ q : Int × Str, NameOk q.2 → Sh 2 (pTS q) = true := fun q hq => by simp [pTS, Sh, name_ok hq]
        have htp : (tp.map pTS).all (Sh 2) = true := List.all_eq_true.mpr fun x hx => by
          obtain ⟨q, hq, rfl⟩ := List.mem_map.mp hx
          exact hsq q (g.nam q hq)
        have hnn := hasP_nonneg hV t
        have base := fun R => step_told (n := n) (tl := tl) (rs := rs) (dr := (drs rs).map dE) (tp := tp.map pTS) (kv := kv) (tickets := tickets) (lots := lots) (ins := inside rs) (l := l) (m := m) (t := t) (a2 := some (.int v)) (a9 := a9) (a11 := a11) (a12 := a12) (a14 := a14) (a15 := a15) hds (by simpa using hne) (sh_row hV) hlen (by rw [List.length_map]; have := g.tpl; omega) htp (hsq _ hname) hkv e0 hc1 hc2 (by rw [List.length_map]; intro z; exact hd ⟨z.1, by omega⟩) e1 k1 e2 R
        have told : (t, l) ∉ tp → ToldOk rs t l := fun z => ⟨d4, d5, hname, by rw [d1]; simp, tks_dix htk, hl2, fun w => z (g.told t l w)⟩
        have push : ∀ q, (tp.map pTS) ++ [pTS q] = (tp ++ [q]).map pTS := fun q => by simp
        have e3 : ∀ l p, drs (rs ++ [.has t l p]) = drs rs := fun l p => by unfold drs; rw [fm_snoc]; simp [fDrw]
        have e4 : ∀ l, drs (rs ++ [.non t l]) = drs rs := fun l => by unfold drs; rw [fm_snoc]; simp [fDrw]
        by_cases hin : pTS (t, l) ∈ tp.map pTS
        · exact ⟨_, _, base _ (fun _ => rfl) (fun z => absurd hin z) (fun z => absurd hin z), o2, rs, tp, kv, some (.int v), some (.int r0), some (.str l), some (.int (hasP rs t).sum), some (.int t), some (.int m), rfl, rfl, g.same _ (Nat.le_succ i), h2⟩
        · have hin' : (t, l) ∉ tp := fun z => hin (mem_pTS.mpr z)
          have T0 := told hin'
          by_cases hlt : (hasP rs t).sum < m
          · obtain ⟨q, o3, e5, p5, q5, h5⟩ := tk (n := n + 1) (tl := tl ++ [.lst (rs.map enc), .lst ((drs rs).map dE), .lst (tp.map pTS), .dic kv]) (many := 2) h2 (by omega) (by omega)
            by_cases hq : q = 0
            · obtain ⟨p, o4, e6, p6, q6, h6⟩ := tk (n := n + 1) (tl := tl ++ [.lst (rs.map enc), .lst ((drs rs).map dE), .lst (tp.map pTS), .dic kv]) (many := m - (hasP rs t).sum) h5 (by omega) (by omega)
              refine ⟨_, _, base _ (fun z => absurd z hin) (fun _ _ => ⟨q, o3, e5, fun _ => ⟨p, o4, e6, rfl⟩, fun z => absurd hq z⟩) (fun _ z => absurd hlt z), o4, rs ++ [.has t l (1 + p)], tp ++ [(t, l)], kv, some (.int v), some (.int r0), some (.str l), some (.int (hasP rs t).sum), some (.int t), some (.int m), ?_, ?_, g.has ⟨T0, by omega, by omega, by rw [d1]; show _ ≤ m; omega⟩, h6⟩
              · rw [e3, push]
              · rw [inside_has]; rfl
            · refine ⟨_, _, base _ (fun z => absurd z hin) (fun _ _ => ⟨q, o3, e5, fun z => absurd z hq, fun _ => rfl⟩) (fun _ z => absurd hlt z), o3, rs ++ [.non t l], tp ++ [(t, l)], kv, some (.int v), some (.int r0), some (.str l), some (.int (hasP rs t).sum), some (.int t), some (.int m), ?_, ?_, g.non T0, h5⟩
              · rw [e4, push]
              · rw [inside_non]; rfl
          · refine ⟨_, _, base _ (fun z => absurd z hin) (fun _ z => absurd z hlt) (fun _ _ => rfl), o2, rs ++ [.non t l], tp ++ [(t, l)], kv, some (.int v), some (.int r0), some (.str l), some (.int (hasP rs t).sum), some (.int t), some (.int m), ?_, ?_, g.non T0, h2⟩
            · rw [e4, push]
            · rw [inside_non]; rfl
end
end P77
set_option Elab.async false
set_option linter.all false
set_option maxRecDepth 100000
set_option maxHeartbeats 0
/-! P77l: a record is drawn. -/
namespace P77
open PySem PySem.Spec PyProof.Rows L2 Mi G77
inductive F2 {α β : Type} (P : α → β → Prop) : List α → List β → Prop
  | nil : F2 P [] []
  | cons {a b l m} : P a b → F2 P l m → F2 P (a :: l) (b :: m)
theorem compL_ex {f : D → Mem → Res (Option D)} {tl : Mem} {ok : Mem → Bool} {J : O → Prop} {P : Nat → Int → Prop} (hok : ∀ o, ok (o :: tl) = true) (hf : ∀ i o, J o → ∃ v o', f (.int (i : Nat)) (o :: tl) = .ok (some (.int v)) (o' :: tl) ∧ J o' ∧ P i v) :
    ∀ (l : List Nat) (o : O), J o → ∃ vs o', compL f ok (l.map fun k => .int (k : Nat)) (o :: tl) = .ok (vs.map D.int) (o' :: tl) ∧ J o' ∧ F2 P l vs
  | [], o, h => ⟨[], o, by simp [compL, hok], h, .nil⟩
  | i :: l, o, h => by
    obtain ⟨v, o1, e1, h1, p1⟩ := hf i o h
    obtain ⟨vs, o2, e2, h2, p2⟩ := compL_ex hok hf l o1 h1
    refine ⟨v :: vs, o2, ?_, h2, .cons p1 p2⟩
    rw [List.map_cons, compL, if_pos (hok o), e1, bindOk, e2, bindOk]
    rfl
section
variable {n : Nat} {ns : List Int} {o : O} {tl : Mem}
def ticketsE : ME := (.comp .range (.cons (.con (.int 5)) .nil) (.nm 10) [10] (.con (.bl true)) (.p2 .add (.p2 .add (.con (.int 1)) (.p1 .int (.call "_law_taken" (.cons (.var 0) (.cons (.con (.int 30)) .nil))))) (.p2 .mul (.con (.int 40)) (.var 10))))
theorem tickets_ok (h : RowO ns o) {env : Mi.Env} (h0 : env[0]? = some (some (.ref 0))) (hl : 10 < env.length) : ∃ ts o', evE ⟨callF T gl 100 (n + 1), gl, 100⟩ ticketsE env (o :: tl) = .ok (.lst (ts.map D.int)) (o' :: tl) ∧ RowO ns o' ∧ F2 (fun i v => ∃ r, 0 ≤ r ∧ r < 30 ∧ v = 1 + r + 40 * ((i : Nat) : Int)) (List.range 5) ts := by
  have hf : ∀ (i : Nat) (o : O), RowO ns o → ∃ v o', compT (evE ⟨callF T gl 100 (n + 1), gl, 100⟩ (.con (.bl true))) (evE ⟨callF T gl 100 (n + 1), gl, 100⟩ (.p2 .add (.p2 .add (.con (.int 1)) (.p1 .int (.call "_law_taken" (.cons (.var 0) (.cons (.con (.int 30)) .nil))))) (.p2 .mul (.con (.int 40)) (.var 10)))) (.nm 10) (wipeE env [10]) (.int (i : Nat)) (o :: tl) = .ok (some (.int v)) (o' :: tl) ∧ RowO ns o' ∧ ∃ r, 0 ≤ r ∧ r < 30 ∧ v = 1 + r + 40 * ((i : Nat) : Int) := by
    intro i o h
    obtain ⟨r, o1, e1, p1, q1, h1⟩ := tk (n := n) (tl := tl) (many := 30) h (by omega) (by omega)
    refine ⟨1 + r + 40 * ((i : Nat) : Int), o1, ?_, h1, r, p1, q1, rfl⟩
    have hw : wipeE env [10] = env.set 10 none := rfl
    have g10 : (((env.set 10 none).set 10 (some (.int (i : Nat))))[10]?) = some (some (.int (i : Nat))) := by simp [hl]
    have g0 : (((env.set 10 none).set 10 (some (.int (i : Nat))))[0]?) = some (some (.ref 0)) := by
      rw [List.getElem?_set_ne (by decide), List.getElem?_set_ne (by decide)]
      exact h0
    have hmul : op2 .mul (.int 40) (.int (i : Nat)) (o1 :: tl) = .ok (.int (40 * (i : Nat))) (o1 :: tl) := p_mulK (by simp [mulOk])
    simp only [compT, hw, asgT, List.length_set, hl, if_true, e_con, bindOk, noX_ok, e_p2, e_p1, e_call, e_cons, e_nil, e_var, g0, g10, e1, p_int, p_add, hmul]
  obtain ⟨vs, o', e, h', p⟩ := compL_ex (tl := tl) (ok := still ⟨[], (List.range 5).map fun k => .int (k : Nat)⟩) (J := RowO ns) (fun _ => rfl) hf (List.range 5) o h
  refine ⟨vs, o', ?_, h', p⟩
  unfold ticketsE
  show (itR _ _ _ env _).bind _ = _
  rw [it_rangeN (m := 5) rfl (by decide), bindOk]
  unfold compR
  rw [if_pos (by decide), e, bindOk]
structure TkOk (ts : List Int) : Prop where
  nd : ts.Nodup
  len : ts.length = 5
  rng : ∀ t ∈ ts, 1 ≤ t ∧ t ≤ 999
theorem tk_of {ts : List Int} (h : F2 (fun i v => ∃ r, 0 ≤ r ∧ r < 30 ∧ v = 1 + r + 40 * ((i : Nat) : Int)) (List.range 5) ts) : TkOk ts := by
  rw [show List.range 5 = [0, 1, 2, 3, 4] from rfl] at h
  cases h with | cons p0 h =>
  cases h with | cons p1 h =>
  cases h with | cons p2 h =>
  cases h with | cons p3 h =>
  cases h with | cons p4 h =>
  cases h
  obtain ⟨r0, a0, b0, rfl⟩ := p0
  obtain ⟨r1, a1, b1, rfl⟩ := p1
  obtain ⟨r2, a2, b2, rfl⟩ := p2
  obtain ⟨r3, a3, b3, rfl⟩ := p3
  obtain ⟨r4, a4, b4, rfl⟩ := p4
  refine ⟨?_, rfl, ?_⟩
  · simp only [List.nodup_cons, List.mem_cons, List.not_mem_nil, or_false, not_or, not_false_eq_true, List.nodup_nil, and_true]
    refine ⟨⟨?_, ?_, ?_, ?_⟩, ⟨?_, ?_, ?_⟩, ⟨?_, ?_⟩, ?_⟩ <;> omega
  · intro t ht
    simp only [List.mem_cons, List.not_mem_nil, or_false] at ht
    rcases ht with rfl | rfl | rfl | rfl | rfl <;> constructor <;> omega
theorem TkOk.rev {ts : List Int} (h : TkOk ts) : TkOk ts.reverse := ⟨(List.reverse_perm ts).nodup_iff.mpr h.nd, by rw [List.length_reverse, h.len], fun t ht => h.rng t (List.mem_reverse.mp ht)⟩
/-! ### the whole record -/
theorem it_rangeJ {G : Ce} {env : Mi.Env} {M M1 : Mem} {a : ME} {j : Int} (h : evE G a env M = .ok (.int j) M1) (hj : 0 ≤ j) (hk : j < 2 ^ 62) : itR G .range (.cons a .nil) env M = .ok ⟨[], (List.range j.toNat).map fun k => .int (k : Nat)⟩ M1 := by
  show (evEs G _ env M).bind _ = _
  rw [ev1, h, bindOk]
  show (if Mi.inR j then _ else _) = _
  rw [if_pos (by unfold Mi.inR; simp only [Bool.and_eq_true, decide_eq_true_eq]; omega)]
  unfold rangeD
  simp
theorem it_rangeM {G : Ce} {env : Mi.Env} {M M1 : Mem} {a : ME} {m : Nat} (h : evE G a env M = .ok (.int (m : Int)) M1) (hm : m ≤ SL) : itR G .range (.cons a .nil) env M = .ok ⟨[], (List.range m).map fun k => .int (k : Nat)⟩ M1 := by
  have := it_rangeJ h (by omega) (by unfold SL at hm; omega)
  simpa using this
theorem refs_enc (L : Nat) : ∀ r : Rw, D.refsLt L (enc r) = true := by
  intro r
  cases r <;> simp [enc, D.refsLt, D.refsLts]
theorem refs_rec (L : Nat) : ∀ rs : List Rw, D.refsLts L (rs.map enc) = true
  | [] => rfl
  | r :: rs => by rw [List.map_cons]; unfold D.refsLts; rw [refs_enc, refs_rec L rs]; rfl
theorem gs0 {tickets : List Int} : Gs [] [] [] tickets 0 :=
  ⟨fun j hj => absurd hj (Nat.not_lt_zero j), Nat.le_refl _, by simp [drs], by simp [tks, drs], by simp [inside, puts, drsM], fun t l h => by simp [P77.told] at h, fun q hq => (List.not_mem_nil hq).elim, Nat.le_refl _, fun p hp => (List.not_mem_nil hp).elim, Nat.le_refl _, fun t ht => by simp [tks, drs] at ht⟩
theorem pk_int (h : RowO ns o) {xs : List Int} (h0 : xs ≠ []) (h1 : xs.length ≤ 40) : ∃ s o', callF T gl 100 (n + 2) "_law_pick" [.ref 0, .lst (xs.map D.int)] (o :: tl) = .ok (.int s) (o' :: tl) ∧ s ∈ xs ∧ RowO ns o' := by
  obtain ⟨x, o', e, hx, hr⟩ := pick_ok (T := T) (gl := gl) (W := 100) (n := n) (tl := tl) fn_taken fn_pick h (d := .lst (xs.map D.int)) (ds := xs.map D.int) (.inl ⟨_, rfl⟩) (fun _ => rfl) (by simpa using h0) (by rw [List.length_map]; omega) (fun x hx => by
    obtain ⟨s, _, rfl⟩ := List.mem_map.mp hx
    rfl)
  obtain ⟨s, hs, rfl⟩ := List.mem_map.mp hx
  exact ⟨s, o', e, hs, hr⟩
theorem c_record (h : RowO ns o) : ∃ rs o', callF T gl 100 (n + 3) "_law_record" [.ref 0] (o :: tl) = .ok (Rec rs) (o' :: tl) ∧ Valid rs ∧ RowO ns o' := by
  obtain ⟨m1, o1, e1, p1, h1⟩ := pk_int (n := n) (tl := tl) h (xs := [2, 2, 3]) (by simp) (by simp)
  obtain ⟨m, hm, hm1, hm2⟩ : ∃ m : Nat, m1 = m ∧ 1 ≤ m ∧ m ≤ 3 := by
    simp only [List.mem_cons, List.not_mem_nil, or_false] at p1
    rcases p1 with z | z | z
    · exact ⟨2, by omega, by omega, by omega⟩
    · exact ⟨2, by omega, by omega, by omega⟩
    · exact ⟨3, by omega, by omega, by omega⟩
  subst hm
  obtain ⟨names, o2, e2, n1, n2, n3, h2⟩ := c_names (n := n) (tl := tl) h1 hm1 hm2
  obtain ⟨ts, o3, e3, h3, p3⟩ := tickets_ok (n := n + 1) (tl := tl ++ [.lst []]) h2 (env := [some (.ref 0), none, none, some (.lst (names.map D.str)), some (.ref (tl.length + 1)), some (.int 0), none, none, none, none, none, none, none, none, none, none]) rfl (by simp)
  obtain ⟨q, o4, e4, _, _, h4⟩ := tk (n := n + 1) (tl := tl ++ [.lst []]) (many := 3) h3 (by omega) (by omega)
  have tk0 := tk_of p3
  obtain ⟨tz, htz, tk1⟩ : ∃ tz : List Int, tz = (if q = 0 then ts.reverse else ts) ∧ TkOk tz := ⟨_, rfl, by split; exact tk0.rev; exact tk0⟩
  obtain ⟨t5, o5, e5, p5, h5⟩ := pk_int (n := n) (tl := tl ++ [.lst [], .lst [], .lst [], .dic []]) h4 (xs := [3, 5, 7, 9, 14]) (by simp) (by simp)
  obtain ⟨k, hk, hk2⟩ : ∃ k : Nat, t5 = k ∧ k ≤ 14 := by
    simp only [List.mem_cons, List.not_mem_nil, or_false] at p5
    refine ⟨t5.toNat, ?_, ?_⟩ <;> omega
  subst hk
  have loop := forL_inv (f := forT (evSs ⟨callF T gl 100 (n + 2), gl, 100⟩ l__law_record_1) (.nm 2)) (ok := stillS []) (ds := (List.range k).map fun k => .int (k : Nat)) (I := GM ns tl tz names) (fun _ _ _ _ => rfl) (fun i d env M hd hI => by
      have hi : i < k := by
        have := (List.getElem?_eq_some_iff.mp hd).1
        simpa using this
      rw [List.getElem?_map, List.getElem?_range hi] at hd
      cases hd
      exact turn (n := n) tk1.nd (by rw [tk1.len]; omega) tk1.rng n3 n1 n2 (by omega) hI _)
    (env := envR tl tz names 0 none none none none none none) (M := S4 o5 tl [] (.lst []) (.lst []) (.dic [])) ⟨o5, [], [], [], none, none, none, none, none, none, rfl, rfl, gs0, h5⟩
  obtain ⟨env', M', e6, o', rs, tp, kv, a2, a9, a11, a12, a14, a15, rfl, rfl, g, h6⟩ := loop
  refine ⟨rs, o', ?_, ⟨?_, g.row⟩, h6⟩
  · have body : evSs ⟨callF T gl 100 (n + 2), gl, 100⟩ b__law_record [some (.ref 0), none, none, none, none, none, none, none, none, none, none, none, none, none, none, none] (o :: tl) = .ok (.ret (Rec rs)) (S4 o' tl rs (.lst ((drs rs).map dE)) (.lst (tp.map pTS)) (.dic kv)) := by
      simp only [List.map_cons, List.map_nil] at e1 e5
      simp only [ticketsE] at e3
      simp only [b__law_record, z_cons, z_par, z_asg]
      simp [e1, e2, newD, setMany, SL]
      rw [e3]
      simp [asgT, e4]
      by_cases hq : q = 0
      · rw [if_pos hq] at htz
        simp [hq, revD, lv, view, newD, setMany]
        rw [← List.map_reverse, ← htz]
        rw [z_for (its := ⟨[], (List.range k).map fun k => .int (k : Nat)⟩) (M1 := o5 :: (tl ++ [.lst [], .lst [], .lst [], .dic []])) (it_rangeM (by simp [e5, SL]) (by unfold SL; omega))]
        show Res.bind (forL _ (stillS []) _ (envR tl tz names 0 none none none none none none) (S4 o5 tl [] (.lst []) (.lst []) (.dic []))) _ = _
        rw [e6]
        simp [envR, view, op1]
      · rw [if_neg hq] at htz
        simp [hq, newD, setMany]
        rw [← htz]
        rw [z_for (its := ⟨[], (List.range k).map fun k => .int (k : Nat)⟩) (M1 := o5 :: (tl ++ [.lst [], .lst [], .lst [], .dic []])) (it_rangeM (by simp [e5, SL]) (by unfold SL; omega))]
        show Res.bind (forL _ (stillS []) _ (envR tl tz names 0 none none none none none none) (S4 o5 tl [] (.lst []) (.lst []) (.dic []))) _ = _
        rw [e6]
        simp [envR, view, op1]
    rw [callF_gen fn_record rfl body]
    exact finish_grown (row_refs h6) (refs_rec _ _)
  · have := g.len
    rw [List.length_map, List.length_range] at this
    omega
end
end P77
set_option Elab.async false
set_option linter.all false
set_option maxRecDepth 100000
set_option maxHeartbeats 0
/-! P77m: what the law counts of a draw. -/
namespace P77
open PySem PySem.Spec PyProof.Rows L2 Mi G77
def pre2 : Rw → D
  | .put nm _ => .tup [.str "put", .str nm]
  | .drw t _ => .tup [.str "draw", .int t]
  | .has t _ _ => .tup [.str "has", .int t]
  | .non t _ => .tup [.str "none", .int t]
section
variable {n : Nat} {G : Ce} {M : Mem} {rs : List Rw} {r : Rw} {t : Int} {o : O} {tl : Mem} {env : Mi.Env} {lot : Str}
theorem sli_pre : sliD (enc r) (some none) (some (some 2)) M = .ok (pre2 r) M := by
  have e : ∀ xs : List D, Mi.cutD none (some 2) xs = xs.take 2 := fun xs => cut_take (k := 2)
  cases r <;> simp [enc, sliD, e, pre2]
theorem sh_pre (h : Sh 2 (enc r) = true) : Sh 1 (pre2 r) = true := by
  cases r with
  | put nm mm =>
    simp [enc, Sh] at h
    simp [pre2, Sh]
    exact h
  | drw t' mm => simp [pre2, Sh]; decide +kernel
  | has t' l p => simp [pre2, Sh]; decide +kernel
  | non t' l => simp [pre2, Sh]; decide +kernel
theorem ev_pre {X Y : ME} {w : Str} {d : D} (hX : evE G X env M = .ok (enc r) M) (hY : evE G Y env M = .ok d M) (hr : Sh 2 (enc r) = true) (hd : Sh 1 (.tup [.str w, d]) = true) :
    evE G (.p2 .eq (.sli X (.con .non) (.con (.int 2))) (.tup (.cons (.con (.str w)) (.cons Y .nil)))) env M = .ok (.bl (decide (pre2 r = .tup [.str w, d]))) M := by
  have q := p_eqSh (M := M) (k := 1) (by decide) (sh_pre hr) hd
  have i1 : (ME.con D.non).isNon = true := rfl
  have i2 : (ME.con (D.int 2)).isNon = false := rfl
  simp [hX, hY, i1, i2, bndOf, sli_pre, q, SL]
theorem comp_one {i : Nat} {c e : ME} {d v : D} {b : Bool} (hi : i < env.length) (hc : evE G c (env.set i (some d)) M = .ok (.bl b) M) (he : b = true → evE G e (env.set i (some d)) M = .ok v M) :
    compT (evE G c) (evE G e) (.nm i) (wipeE env [i]) d M = .ok (if b then some v else none) M := by
  have hw : wipeE env [i] = env.set i none := rfl
  simp only [compT, hw, asgT, List.length_set, hi, if_true, List.set_set, hc, noX_ok, bindOk]
  cases b
  · rfl
  · simp only [he rfl, noX_ok, bindOk]
    rfl
theorem gs {i j : Nat} {x : Option D} (h : i ≠ j) : (env.set i x)[j]? = env[j]? := List.getElem?_set_ne h
theorem gself {i : Nat} {x : Option D} (h : i < env.length) : (env.set i x)[i]? = some x := List.getElem?_set_self h
theorem ev_get {i : Nat} {d : D} (h : env[i]? = some (some d)) : evE G (.var i) env M = .ok d M := by rw [e_var, h]
theorem rec_item {k : Nat} (hk : k < rs.length) : op2 .item (Rec rs) (.int (k : Nat)) M = .ok (enc (rs.getD k default)) M := by
  rw [p_itemT (by omega), List.getD_eq_getElem?_getD]
  simp [hk]
theorem mem_getD {k : Nat} (hk : k < rs.length) : rs.getD k default ∈ rs := by
  rw [List.getD_eq_getElem?_getD, List.getElem?_eq_getElem hk]
  exact List.getElem_mem hk
theorem sh_wt {w : Str} (h : (PyData.str w).canLay0 = true) : Sh 1 (.tup [.str w, .int t]) = true := by simp [Sh, h]
theorem sh_wl {w : Str} (h : (PyData.str w).canLay0 = true) (hn : NameOk lot) : Sh 1 (.tup [.str w, .str lot]) = true := by simp [Sh, h, name_ok hn]
theorem c_at (h : Valid rs) (hd : dix rs t ≠ []) (h3 : env[3]? = some (some (Rec rs))) (h9 : env[9]? = some (some (.int t))) (hl : 19 < env.length) :
    evE G (.p2 .item (.comp .range (.cons (.p1 .len (.var 3)) .nil) (.nm 19) [19] (.p2 .eq (.sli (.p2 .item (.var 3) (.var 19)) (.con .non) (.con (.int 2))) (.tup (.cons (.con (.str "draw")) (.cons (.var 9) .nil)))) (.var 19)) (.con (.int 0))) env M = .ok (.int (at_ rs t : Nat)) M := by
  rw [e_p2, ev_comp (fIx rs t) natD (enc := fun k : Nat => .int (k : Nat)) (l := List.range rs.length) (xs := dix rs t) rfl (it_rangeN (by simp [h3]) h.sl) (by simpa using h.sl) (fun k hk => ?_)]
  · obtain ⟨r, hr⟩ := at_dix hd
    rw [hr]
    simp [natD]
  · have hk' := List.mem_range.mp hk
    rw [comp_one (b := isDr t (rs.getD k default)) (v := .int (k : Nat)) hl ?_ (fun _ => ev_get (gself hl))]
    · unfold fIx
      cases isDr t (rs.getD k default) <;> rfl
    · rw [ev_pre (r := rs.getD k default) (w := "draw") (d := .int t) (by rw [e_p2, ev_get (by rw [gs (by decide)]; exact h3), bindOk, ev_get (gself hl), bindOk, rec_item hk']) (ev_get (by rw [gs (by decide)]; exact h9)) (sh_row h.row _ (mem_getD hk')) (sh_wt (by decide +kernel))]
      generalize rs.getD k default = r
      cases r <;> simp [pre2, isDr]
theorem c_hasL (h : Valid rs) (h3 : env[3]? = some (some (Rec rs))) (h9 : env[9]? = some (some (.int t))) (hl : 17 < env.length) :
    evE G (.comp .seq (.cons (.var 3) .nil) (.nm 17) [17] (.p2 .eq (.sli (.var 17) (.con .non) (.con (.int 2))) (.tup (.cons (.con (.str "has")) (.cons (.var 9) .nil)))) (.tup (.cons (.p2 .item (.var 17) (.con (.int 2))) (.cons (.p2 .item (.var 17) (.con (.int 3))) .nil)))) env M = .ok (.lst ((hasL rs t).map pairS)) M := by
  refine ev_comp (fHas t) pairS (enc := enc) (l := rs) rfl (it_seq (ev_get h3) rfl) h.sl (fun r hr => ?_)
  have hc := ev_pre (G := G) (M := M) (env := env.set 17 (some (enc r))) (X := .var 17) (Y := .var 9) (w := "has") (d := .int t) (ev_get (gself hl)) (ev_get (by rw [gs (by decide)]; exact h9)) (sh_row h.row r hr) (sh_wt (by decide +kernel))
  cases r with
  | has t' l p =>
    rw [comp_one (v := pairS (l, p)) hl hc (fun _ => by simp [gself hl, enc, pairS, SL])]
    by_cases e : t' = t <;> simp [pre2, fHas, e]
  | _ =>
    rw [comp_one (v := .non) hl hc (fun z => by simp [pre2] at z)]
    simp [pre2, fHas]
theorem c_nonsL (h : Valid rs) (h3 : env[3]? = some (some (Rec rs))) (h9 : env[9]? = some (some (.int t))) (hl : 17 < env.length) :
    evE G (.comp .seq (.cons (.var 3) .nil) (.nm 17) [17] (.p2 .eq (.sli (.var 17) (.con .non) (.con (.int 2))) (.tup (.cons (.con (.str "none")) (.cons (.var 9) .nil)))) (.p2 .item (.var 17) (.con (.int 2)))) env M = .ok (.lst ((nons rs t).map D.str)) M := by
  refine ev_comp (fNon t) D.str (enc := enc) (l := rs) rfl (it_seq (ev_get h3) rfl) h.sl (fun r hr => ?_)
  have hc := ev_pre (G := G) (M := M) (env := env.set 17 (some (enc r))) (X := .var 17) (Y := .var 9) (w := "none") (d := .int t) (ev_get (gself hl)) (ev_get (by rw [gs (by decide)]; exact h9)) (sh_row h.row r hr) (sh_wt (by decide +kernel))
  cases r with
  | non t' l =>
    rw [comp_one (v := .str l) hl hc (fun _ => by simp [gself hl, enc])]
    by_cases e : t' = t <;> simp [pre2, fNon, e]
  | _ =>
    rw [comp_one (v := .non) hl hc (fun z => by simp [pre2] at z)]
    simp [pre2, fNon]
theorem name_ne (h : NameOk lot) : lot ≠ "" := fun z => by
  have := h.pos
  rw [z] at this
  exact absurd this (by decide)
theorem c_sup1 (h : Valid rs) (hd : dix rs t ≠ []) (hn : NameOk lot) {p : Int} (h3 : env[3]? = some (some (Rec rs))) (h6 : env[6]? = some (some (.str lot))) (h11 : env[11]? = some (some (.int (at_ rs t : Nat)))) (hl : 19 < env.length) :
    evE G (.comp .range (.cons (.var 11) .nil) (.nm 19) [19] (.p2 .eq (.sli (.p2 .item (.var 3) (.var 19)) (.con .non) (.con (.int 2))) (.tup (.cons (.con (.str "put")) (.cons (.var 6) .nil)))) (.var 19)) env M = .ok (.lst ((supOf rs (t, lot, p)).map natD)) M := by
  have ha := at_le hd
  have hz := h.sl
  refine ev_comp (fSup rs lot (nons rs t)) natD (enc := fun k : Nat => .int (k : Nat)) (l := List.range (at_ rs t)) rfl (it_rangeN (ev_get h11) (by omega)) (by rw [List.length_range]; omega) (fun k hk => ?_)
  have hk' : k < rs.length := Nat.lt_trans (List.mem_range.mp hk) ha
  have hc := ev_pre (G := G) (M := M) (env := env.set 19 (some (.int (k : Nat)))) (X := .p2 .item (.var 3) (.var 19)) (Y := .var 6) (r := rs.getD k default) (w := "put") (d := .str lot) (by rw [e_p2, ev_get (by rw [gs (by decide)]; exact h3), bindOk, ev_get (gself hl), bindOk, rec_item hk']) (ev_get (by rw [gs (by decide)]; exact h6)) (sh_row h.row _ (mem_getD hk')) (sh_wl (by decide +kernel) hn)
  rw [comp_one (v := .int (k : Nat)) hl hc (fun _ => ev_get (gself hl))]
  unfold fSup
  generalize rs.getD k default = r
  cases r with
  | put nm mm => by_cases e : nm = lot <;> simp [pre2, e, name_ne hn, natD]
  | _ => simp [pre2]
theorem c_sup2 (h : Valid rs) (hd : dix rs t ≠ []) {p : Int} (h3 : env[3]? = some (some (Rec rs))) (h13 : env[13]? = some (some (.lst ((nons rs t).map D.str)))) (h11 : env[11]? = some (some (.int (at_ rs t : Nat)))) (hl : 19 < env.length) :
    evE G (.comp .range (.cons (.var 11) .nil) (.nm 19) [19] (.and (.p2 .eq (.p2 .item (.p2 .item (.var 3) (.var 19)) (.con (.int 0))) (.con (.str "put"))) (.p2 .notin (.p2 .item (.p2 .item (.var 3) (.var 19)) (.con (.int 1))) (.var 13))) (.var 19)) env M = .ok (.lst ((supOf rs (t, "", p)).map natD)) M := by
  have ha := at_le hd
  have hz := h.sl
  refine ev_comp (fSup rs "" (nons rs t)) natD (enc := fun k : Nat => .int (k : Nat)) (l := List.range (at_ rs t)) rfl (it_rangeN (ev_get h11) (by omega)) (by rw [List.length_range]; omega) (fun k hk => ?_)
  have hk' : k < rs.length := Nat.lt_trans (List.mem_range.mp hk) ha
  have hi : evE G (.p2 .item (.var 3) (.var 19)) (env.set 19 (some (.int (k : Nat)))) M = .ok (enc (rs.getD k default)) M := by
    rw [e_p2, ev_get (by rw [gs (by decide)]; exact h3), bindOk, ev_get (gself hl), bindOk, rec_item hk']
  have hb : evE G (.var 13) (env.set 19 (some (.int (k : Nat)))) M = .ok (.lst ((nons rs t).map D.str)) M := ev_get (by rw [gs (by decide)]; exact h13)
  have hv : evE G (.var 19) (env.set 19 (some (.int (k : Nat)))) M = .ok (.int (k : Nat)) M := ev_get (gself hl)
  have key : ∀ b, evE G (.and (.p2 .eq (.p2 .item (.p2 .item (.var 3) (.var 19)) (.con (.int 0))) (.con (.str "put"))) (.p2 .notin (.p2 .item (.p2 .item (.var 3) (.var 19)) (.con (.int 1))) (.var 13))) (env.set 19 (some (.int (k : Nat)))) M = .ok (.bl b) M → (fSup rs "" (nons rs t) k) = (if b then some k else none) →
      compT (evE G (.and (.p2 .eq (.p2 .item (.p2 .item (.var 3) (.var 19)) (.con (.int 0))) (.con (.str "put"))) (.p2 .notin (.p2 .item (.p2 .item (.var 3) (.var 19)) (.con (.int 1))) (.var 13)))) (evE G (.var 19)) (.nm 19) (wipeE env [19]) (.int (k : Nat)) M = .ok ((fSup rs "" (nons rs t) k).map natD) M := by
    intro b hc he
    rw [comp_one (v := .int (k : Nat)) hl hc (fun _ => hv), he]
    cases b <;> rfl
  generalize hr : rs.getD k default = r at hi
  cases r with
  | put nm mm =>
    refine key (!decide (nm ∈ nons rs t)) ?_ ?_
    · rw [e_and, e_p2, e_p2, hi]
      simp only [bindOk, e_con, enc]
      rw [p_itemT (by decide)]
      simp only [Int.toNat_zero, List.getElem?_cons_zero, bindOk, p_eqS, decide_true]
      rw [e_p2, e_p2, hi]
      simp only [bindOk, e_con, enc]
      rw [p_itemT (by decide)]
      simp [h13]
    · unfold fSup
      rw [hr]
      by_cases e : nm ∈ nons rs t <;> simp [e]
  | _ =>
    refine key false ?_ ?_
    · rw [e_and, e_p2, e_p2, hi]
      simp only [bindOk, e_con, enc]
      rw [p_itemT (by decide)]
      simp
    · unfold fSup
      rw [hr]
      rfl
theorem c_ahead (h : Valid rs) (h3 : env[3]? = some (some (Rec rs))) (h11 : env[11]? = some (some (.int (at_ rs t : Nat)))) (hl : 17 < env.length) :
    evE G (.comp .seq (.cons (.sli (.var 3) (.con .non) (.var 11)) .nil) (.nm 17) [17] (.p2 .eq (.p2 .item (.var 17) (.con (.int 0))) (.con (.str "put"))) (.p2 .item (.var 17) (.con (.int 1)))) env M = .ok (.lst ((lotsOf (rs.take (at_ rs t))).map D.str)) M := by
  have i1 : (ME.con D.non).isNon = true := rfl
  have i2 : (ME.var 11).isNon = false := rfl
  refine ev_comp fPut D.str (enc := enc) (l := rs.take (at_ rs t)) rfl (it_seq (d := Rec (rs.take (at_ rs t))) (by simp [h3, h11, i1, i2, bndOf, sliD, cut_take]) rfl) (by rw [List.length_take]; have := h.sl; omega) (fun r hr => ?_)
  have hv : evE G (.var 17) (env.set 17 (some (enc r))) M = .ok (enc r) M := ev_get (gself hl)
  cases r with
  | put nm mm => 
    rw [comp_one (b := true) (v := .str nm) hl (by rw [e_p2, e_p2, hv]; simp [enc]) (fun _ => by rw [e_p2, hv]; simp [enc])]
    rfl
  | _ =>
    rw [comp_one (b := false) (v := .non) hl (by rw [e_p2, e_p2, hv]; simp [enc]) (fun z => by cases z)]
    rfl
/-! ### two lists behind the store -/
variable {a b x : O}
@[simp] theorem u0 : (o :: (tl ++ [a, b]))[tl.length + 1]? = some a := by simp
@[simp] theorem u1 : (o :: (tl ++ [a, b]))[tl.length + 2]? = some b := by
  rw [List.getElem?_cons_succ, List.getElem?_append_right (by omega)]
  simp
theorem u_app0 {xs : List D} {v : D} (h : xs.length < SL) : appD (.ref (tl.length + 1)) v (o :: (tl ++ [.lst xs, b])) = .ok () (o :: (tl ++ [.lst (xs ++ [v]), b])) := by
  simp [appD, h]
theorem u_app1 {xs : List D} {v : D} (h : xs.length < SL) : appD (.ref (tl.length + 2)) v (o :: (tl ++ [a, .lst xs])) = .ok () (o :: (tl ++ [a, .lst (xs ++ [v])])) := by
  have e : (o :: (tl ++ [a, .lst xs])).set (tl.length + 2) (.lst (xs ++ [v])) = o :: (tl ++ [a, .lst (xs ++ [v])]) := by
    rw [List.set_cons_succ, List.set_append_right _ _ (by omega), show tl.length + 1 - tl.length = 1 by omega]
    rfl
  simp only [appD, u1, h, if_true, e]
@[simp] theorem u_l0 {xs : List D} : lstAt (.ref (tl.length + 1)) (o :: (tl ++ [.lst xs, b])) = true := by simp [lstAt]
@[simp] theorem u_l1 {xs : List D} : lstAt (.ref (tl.length + 2)) (o :: (tl ++ [a, .lst xs])) = true := by simp [lstAt]
def envL (tl : Mem) (s0 s2 s4 s5 : Option D) (rs : List Rw) (a6 a9 a10 a11 a12 a13 a14 a15 a16 a18 : Option D) : Mi.Env :=
  [s0, some (.ref 0), s2, some (Rec rs), s4, s5, a6, some (.ref (tl.length + 1)), some (.ref (tl.length + 2)), a9, a10, a11, a12, a13, a14, a15, a16, none, a18, none]
abbrev S2 (o : O) (tl : Mem) (A B : List D) : Mem := o :: (tl ++ [.lst A, .lst B])
theorem step1 (h : Valid rs) (hd : dix rs t ≠ []) {A B : List D} (hA : A.length < 5000) (hB : B.length < 5000) {p : Str × Int} (hn : NameOk p.1) {s0 s2 s4 s5 a6 a10 a12 a13 a14 a15 a16 a18 : Option D} :
    forT (evSs G l_law_1) (.tp [6, 18]) (pairS p) (envL tl s0 s2 s4 s5 rs a6 (some (.int t)) a10 (some (.int (at_ rs t : Nat))) a12 a13 a14 a15 a16 a18) (S2 o tl A B) =
      .ok (.nx (envL tl s0 s2 s4 s5 rs (some (.str p.1)) (some (.int t)) a10 (some (.int (at_ rs t : Nat))) a12 a13 a14 a15 a16 (some (.int p.2)))) (S2 o tl (A ++ [tri (t, p.1, p.2)]) (B ++ [supD rs (t, p.1, p.2)])) := by
  have h1 := u_app0 (o := o) (tl := tl) (xs := A) (b := .lst B) (v := tri (t, p.1, p.2)) (by unfold SL; omega)
  have h2 := u_app1 (o := o) (tl := tl) (a := .lst (A ++ [tri (t, p.1, p.2)])) (xs := B) (v := supD rs (t, p.1, p.2)) (by unfold SL; omega)
  have hs := c_sup1 (G := G) (M := S2 o tl (A ++ [tri (t, p.1, p.2)]) B) (env := envL tl s0 s2 s4 s5 rs (some (.str p.1)) (some (.int t)) a10 (some (.int (at_ rs t : Nat))) a12 a13 a14 a15 a16 (some (.int p.2))) h hd hn (p := p.2) rfl rfl rfl (show 19 < 20 by decide)
  simp only [envL, tri] at hs h1
  simp [forT, asgT, setMany, pairS, envL, l_law_1, SL]
  rw [h1]
  simp
  rw [hs]
  simp only [tri, supD] at h2
  simp [tri, supD, h2]
end
end P77
set_option Elab.async false
set_option linter.all false
set_option maxRecDepth 100000
set_option maxHeartbeats 0
/-! P77n: a draw, a lot, a turn of the law. -/
namespace P77
open PySem PySem.Spec PyProof.Rows L2 Mi G77
section
variable {n : Nat} {G : Ce} {M : Mem} {rs : List Rw} {r : Rw} {t : Int} {o : O} {tl : Mem} {env : Mi.Env} {lot : Str}
/-! ### what is compared is plain -/
theorem sh_strs {xs : List Str} (h : ∀ x ∈ xs, NameOk x) : Sh 1 (.tup (xs.map D.str)) = true := by
  show (xs.map D.str).all (Sh 0) = true
  refine List.all_eq_true.mpr fun x hx => ?_
  obtain ⟨s, hs, rfl⟩ := List.mem_map.mp hx
  exact name_ok (h s hs)
theorem lz_map {α : Type} {f : α → D} {xs : List α} {k : Nat} (hl : xs.length ≤ SL) (h : ∀ a ∈ xs, Lz k (f a)) : Lz (k + 1) (.tup (xs.map f)) :=
  ⟨by rw [List.length_map]; exact hl, fun d hd => by
    obtain ⟨a, ha, rfl⟩ := List.mem_map.mp hd
    exact h a ha⟩
theorem lz0 {k : Nat} {x : Str} : Lz k (.str x) := by cases k <;> trivial
theorem lzi {k : Nat} {x : Int} : Lz k (.int x) := by cases k <;> trivial
theorem lotSet_mem {xs : List Str} {x : Str} : x ∈ lotSet xs ↔ x ∈ xs := by
  unfold lotSet
  rw [sortS_mem, setS_mem]
theorem uniq_len {xs : List Str} : (lotSet xs).length ≤ xs.length := by
  unfold lotSet
  rw [← sort_uniq, sortS_len]
  exact (uniq_ok xs).2.2
theorem alike {k : Nat} {d : D} (hk : k ≤ 64) (hs : Sh k d = true) (hz : Lz k d) : callF T gl 100 (n + k + 1) "_law_alike" [d, d] M = .ok (.bl true) M := alike_ok fn_alike k n hk hs hz
theorem sup_sum {q : Int × Int} (h : Valid rs) : (((drs rs).map pairI)).length ≤ SL := by rw [List.length_map]; have := drs_len h; unfold SL; omega
theorem step2 (h : Valid rs) {q : Int × Int} (hq : q ∈ drs rs) {A B : List D} (hA : A.length < 2000) (hB : B.length < 2000) {s0 s2 s4 s5 a6 a9 a10 a11 a12 a13 a14 a15 a16 a18 : Option D} :
    ∃ b6 b9 b10 b11 b12 b13 b14 b15 b16 b18, forT (evSs ⟨callF T gl 100 (n + 8), gl, 100⟩ l_law_2) (.tp [9, 10]) (pairI q) (envL tl s0 s2 s4 s5 rs a6 a9 a10 a11 a12 a13 a14 a15 a16 a18) (S2 o tl A B) =
      .ok (.nx (envL tl s0 s2 s4 s5 rs b6 b9 b10 b11 b12 b13 b14 b15 b16 b18)) (S2 o tl (A ++ (dueOf rs q).map tri) (B ++ (dueOf rs q).map (supD rs))) := by
  obtain ⟨t, m⟩ := q
  have hd := drs_dix hq
  have hn : ∀ p ∈ sortP (hasL rs t), NameOk p.1 := fun p hp => hasL_named h p ((sortP_perm _).mem_iff.mp hp)
  have hl : (hasL rs t).length ≤ 30 := Nat.le_trans (List.length_filterMap_le _ _) h.len
  have hl2 : (sortP (hasL rs t)).length ≤ 30 := by rw [(sortP_perm _).length_eq]; exact hl
  have htk : t ∈ (drs rs).map (·.1) := List.mem_map.mpr ⟨_, hq, rfl⟩
  obtain ⟨K, hK⟩ : ∃ K, K = sortP (hasL rs t) := ⟨_, rfl⟩
  have loop := forL_inv (f := forT (evSs ⟨callF T gl 100 (n + 8), gl, 100⟩ l_law_1) (.tp [6, 18])) (ok := stillS []) (ds := K.map pairS)
    (I := fun j env M => ∃ b6 b18, env = envL tl s0 s2 s4 s5 rs b6 (some (.int t)) (some (.int m)) (some (.int (at_ rs t : Nat))) (some (.lst (K.map pairS))) (some (.lst ((nons rs t).map D.str))) a14 a15 a16 b18 ∧
      M = S2 o tl (A ++ ((K.take j).map fun p => (t, p.1, p.2)).map tri) (B ++ ((K.take j).map fun p => (t, p.1, p.2)).map (supD rs)))
    (fun _ _ _ _ => rfl) (fun j d env M hd' hI => by
      obtain ⟨b6, b18, rfl, rfl⟩ := hI
      have hj := (List.getElem?_eq_some_iff.mp hd').1
      rw [List.length_map] at hj
      rw [List.getElem?_map] at hd'
      obtain ⟨p, hp, rfl⟩ := Option.map_eq_some_iff.mp hd'
      have hpm : p ∈ sortP (hasL rs t) := by rw [← hK]; exact List.mem_iff_getElem?.mpr ⟨j, hp⟩
      have hk2 : (K.take j).length ≤ 30 := by rw [List.length_take, hK]; omega
      refine ⟨_, _, step1 h hd (by simp only [List.length_append, List.length_map]; omega) (by simp only [List.length_append, List.length_map]; omega) (hn p hpm), _, _, rfl, ?_⟩
      have e : K.take (j + 1) = K.take j ++ [p] := by rw [List.take_add_one, hp]; rfl
      rw [e]
      simp)
    (env := envL tl s0 s2 s4 s5 rs a6 (some (.int t)) (some (.int m)) (some (.int (at_ rs t : Nat))) (some (.lst (K.map pairS))) (some (.lst ((nons rs t).map D.str))) a14 a15 a16 a18) (M := S2 o tl A B) ⟨a6, a18, rfl, by simp⟩
  obtain ⟨env', M', e1, b6, b18, rfl, rfl⟩ := loop
  rw [List.length_map, List.take_length] at e1
  obtain ⟨A1, hA1⟩ : ∃ A1, A1 = A ++ (K.map fun p => (t, p.1, p.2)).map tri := ⟨_, rfl⟩
  obtain ⟨B1, hB1⟩ : ∃ B1, B1 = B ++ (K.map fun p => (t, p.1, p.2)).map (supD rs) := ⟨_, rfl⟩
  have hKl : K.length ≤ 30 := by rw [hK]; exact hl2
  have hAl : A1.length < 3000 := by rw [hA1]; simp only [List.length_append, List.length_map]; omega
  have hBl : B1.length < 3000 := by rw [hB1]; simp only [List.length_append, List.length_map]; omega
  rw [← hA1, ← hB1] at e1
  have hrest : m - (K.map (·.2)).sum = restOf rs (t, m) := by rw [hK]; rfl
  -- the two lists behind the rest
  obtain ⟨A2, hA2⟩ : ∃ A2, A2 = A ++ (dueOf rs (t, m)).map tri := ⟨_, rfl⟩
  obtain ⟨B2, hB2⟩ : ∃ B2, B2 = B ++ (dueOf rs (t, m)).map (supD rs) := ⟨_, rfl⟩
  have hso := sorted_pairs (M := S2 o tl A B) (l := hasL rs t) (by unfold SL; omega) (hasL_named h)
  have hlots := c_lots_ahead_of (n := n) (M := S2 o tl A2 B2) h htk hd
  have hll := c_law_lots (n := n + 7) (M := S2 o tl A2 B2) h
  have hal := alike (n := n + 6) (M := S2 o tl A2 B2) (k := 1) (d := .tup ((lotSet (lotsOf (rs.take (at_ rs t)))).map D.str)) (by decide) (sh_strs fun x hx => lots_named h x (lots_take' (lotSet_mem.mp hx)))
    (lz_map (by have := uniq_len (xs := lotsOf (rs.take (at_ rs t))); have := lots_len (rs := rs.take (at_ rs t)); have := h.len; rw [List.length_take] at *; unfold SL; omega) fun _ _ => lz0)
  have tail : ∀ (b14 : Option D), (evSs ⟨callF T gl 100 (n + 8), gl, 100⟩ (.cons (.asg (.nm 15) (.comp .seq (.cons (.sli (.var 3) (.con .non) (.var 11)) .nil) (.nm 17) [17] (.p2 .eq (.p2 .item (.var 17) (.con (.int 0))) (.con (.str "put"))) (.p2 .item (.var 17) (.con (.int 1))))) (.cons (.ite (.not (.call "_law_alike" (.cons (.call "lots_ahead_of" (.cons (.var 3) (.cons (.var 9) .nil))) (.cons (.p1 .tuple (.comp .seq (.cons (.call "_law_lots" (.cons (.var 3) .nil)) .nil) (.nm 6) [6] (.p2 .isin (.var 6) (.var 15)) (.var 6))) .nil)))) (.cons (.ret (.con (.bl false))) .nil) .nil) .nil)) (envL tl s0 s2 s4 s5 rs b6 (some (.int t)) (some (.int m)) (some (.int (at_ rs t : Nat))) (some (.lst (K.map pairS))) (some (.lst ((nons rs t).map D.str))) b14 a15 a16 b18) (S2 o tl A2 B2)) =
      .ok (.nx (envL tl s0 s2 s4 s5 rs b6 (some (.int t)) (some (.int m)) (some (.int (at_ rs t : Nat))) (some (.lst (K.map pairS))) (some (.lst ((nons rs t).map D.str))) b14 (some (.lst ((lotsOf (rs.take (at_ rs t))).map D.str))) a16 b18)) (S2 o tl A2 B2) := by
    intro b14
    rw [z_cons, z_asg, c_ahead h (by rfl) (by rfl) (by simp [envL]), bindOk]
    simp [asgT, envL, hlots]
    rw [ev_comp (fun l => if l ∈ lotsOf (rs.take (at_ rs t)) then some l else none) D.str (enc := D.str) (l := lotSet (lotsOf rs)) (xs := (lotSet (lotsOf rs)).filter fun l => decide (l ∈ lotsOf (rs.take (at_ rs t)))) ?_ (it_seq (by simp [hll]; rfl) rfl) ?_ (fun l _ => ?_)]
    · rw [ahead_same]
      simp [hal]
    · rw [← List.filterMap_eq_filter]
      congr 1
      funext l
      simp [Option.guard]
    · have := uniq_len (xs := lotsOf rs)
      have := lots_len (rs := rs)
      have := h.len
      unfold SL
      omega
    · by_cases hb : l ∈ lotsOf (rs.take (at_ rs t)) <;> simp [compT, asgT, wipeE, hb]
  refine ⟨b6, some (.int t), some (.int m), some (.int (at_ rs t : Nat)), some (.lst (K.map pairS)), some (.lst ((nons rs t).map D.str)), some (.int (restOf rs (t, m))), some (.lst ((lotsOf (rs.take (at_ rs t))).map D.str)), a16, b18, ?_⟩
  have f0 : forT (evSs ⟨callF T gl 100 (n + 8), gl, 100⟩ l_law_2) (.tp [9, 10]) (pairI (t, m)) (envL tl s0 s2 s4 s5 rs a6 a9 a10 a11 a12 a13 a14 a15 a16 a18) (S2 o tl A B) =
      evSs ⟨callF T gl 100 (n + 8), gl, 100⟩ l_law_2 (envL tl s0 s2 s4 s5 rs a6 (some (.int t)) (some (.int m)) a11 a12 a13 a14 a15 a16 a18) (S2 o tl A B) := by
    simp [forT, asgT, setMany, pairI, envL]
  rw [f0, ← hA2, ← hB2]
  unfold l_law_2
  rw [z_cons, z_asg, c_at h hd (by rfl) (by rfl) (by simp [envL]), bindOk]
  show Res.bind (Res.ok (Fl.nx (envL tl s0 s2 s4 s5 rs a6 (some (.int t)) (some (.int m)) (some (.int (at_ rs t : Nat))) a12 a13 a14 a15 a16 a18)) _) _ = _
  rw [bindOk]
  dsimp only
  rw [z_cons, z_asg, e_p1, c_hasL (t := t) h (by rfl) (by rfl) (by simp [envL]), bindOk, hso, bindOk, ← hK]
  show Res.bind (Res.ok (Fl.nx (envL tl s0 s2 s4 s5 rs a6 (some (.int t)) (some (.int m)) (some (.int (at_ rs t : Nat))) (some (.lst (K.map pairS))) a13 a14 a15 a16 a18)) _) _ = _
  rw [bindOk]
  dsimp only
  rw [z_cons, z_asg, c_nonsL (t := t) h (by rfl) (by rfl) (by simp [envL]), bindOk]
  show Res.bind (Res.ok (Fl.nx (envL tl s0 s2 s4 s5 rs a6 (some (.int t)) (some (.int m)) (some (.int (at_ rs t : Nat))) (some (.lst (K.map pairS))) (some (.lst ((nons rs t).map D.str))) a14 a15 a16 a18)) _) _ = _
  rw [bindOk]
  dsimp only
  rw [z_cons, z_for (its := ⟨[], K.map pairS⟩) (M1 := S2 o tl A B) (it_seq (d := .lst (K.map pairS)) (ev_get rfl) rfl)]
  show Res.bind (forL _ (stillS []) _ _ _) _ = _
  rw [e1, bindOk]
  dsimp only
  rw [z_cons, z_asg, e_p2, ev_get (d := .int m) rfl, bindOk, e_p1, ev_comp (fun p => some p.2) D.int (enc := pairS) (l := K) (xs := K.map (·.2)) (by simp) (it_seq (d := .lst (K.map pairS)) (ev_get rfl) rfl) (by unfold SL; omega) (fun p _ => ?_)]
  · rw [bindOk, sum_ok, bindOk, p_sub, bindOk, hrest]
    show Res.bind (Res.ok (Fl.nx (envL tl s0 s2 s4 s5 rs b6 (some (.int t)) (some (.int m)) (some (.int (at_ rs t : Nat))) (some (.lst (K.map pairS))) (some (.lst ((nons rs t).map D.str))) (some (.int (restOf rs (t, m)))) a15 a16 b18)) _) _ = _
    rw [bindOk]
    dsimp only
    rw [z_cons, z_ite, e_p2, ev_get (d := .int (restOf rs (t, m))) rfl, bindOk, e_con, bindOk, p_gt, bindOk]
    by_cases hp : 0 < restOf rs (t, m)
    · have ed : dueOf rs (t, m) = (K.map fun p => (t, p.1, p.2)) ++ [(t, ("" : Str), restOf rs (t, m))] := by unfold dueOf; rw [if_pos hp, hK]
      have k1 := u_app0 (o := o) (tl := tl) (xs := A1) (b := .lst B1) (v := tri (t, "", restOf rs (t, m))) (by unfold SL; omega)
      have eA : A1 ++ [tri (t, "", restOf rs (t, m))] = A2 := by rw [hA1, hA2, ed]; simp
      have k2 := u_app1 (o := o) (tl := tl) (a := .lst A2) (xs := B1) (v := supD rs (t, "", restOf rs (t, m))) (by unfold SL; omega)
      have eB : B1 ++ [supD rs (t, "", restOf rs (t, m))] = B2 := by rw [hB1, hB2, ed]; simp
      rw [eA] at k1
      rw [eB] at k2
      have hs := c_sup2 (G := ⟨callF T gl 100 (n + 8), gl, 100⟩) (M := S2 o tl A2 B1) (env := envL tl s0 s2 s4 s5 rs b6 (some (.int t)) (some (.int m)) (some (.int (at_ rs t : Nat))) (some (.lst (K.map pairS))) (some (.lst ((nons rs t).map D.str))) (some (.int (restOf rs (t, m)))) a15 a16 b18) h hd (p := restOf rs (t, m)) rfl rfl rfl (show 19 < 20 by decide)
      simp only [hp, decide_true]
      have br : evSs ⟨callF T gl 100 (n + 8), gl, 100⟩ (.cons (.app (.var 7) (.tup (.cons (.var 9) (.cons (.con (.str "")) (.cons (.var 14) .nil))))) (.cons (.app (.var 8) (.p1 .tuple (.comp .range (.cons (.var 11) .nil) (.nm 19) [19] (.and (.p2 .eq (.p2 .item (.p2 .item (.var 3) (.var 19)) (.con (.int 0))) (.con (.str "put"))) (.p2 .notin (.p2 .item (.p2 .item (.var 3) (.var 19)) (.con (.int 1))) (.var 13))) (.var 19)))) .nil)) (envL tl s0 s2 s4 s5 rs b6 (some (.int t)) (some (.int m)) (some (.int (at_ rs t : Nat))) (some (.lst (K.map pairS))) (some (.lst ((nons rs t).map D.str))) (some (.int (restOf rs (t, m)))) a15 a16 b18) (S2 o tl A1 B1) =
          .ok (.nx (envL tl s0 s2 s4 s5 rs b6 (some (.int t)) (some (.int m)) (some (.int (at_ rs t : Nat))) (some (.lst (K.map pairS))) (some (.lst ((nons rs t).map D.str))) (some (.int (restOf rs (t, m)))) a15 a16 b18)) (S2 o tl A2 B2) := by
        rw [z_cons, z_app, ev_get (d := .ref (tl.length + 1)) rfl, bindOk, u_l0]
        simp only [if_true, e_tup, e_cons, e_nil, ev_get (d := .int t) (env := envL tl s0 s2 s4 s5 rs b6 (some (.int t)) (some (.int m)) (some (.int (at_ rs t : Nat))) (some (.lst (K.map pairS))) (some (.lst ((nons rs t).map D.str))) (some (.int (restOf rs (t, m)))) a15 a16 b18) (i := 9) rfl, ev_get (d := .int (restOf rs (t, m))) (env := envL tl s0 s2 s4 s5 rs b6 (some (.int t)) (some (.int m)) (some (.int (at_ rs t : Nat))) (some (.lst (K.map pairS))) (some (.lst ((nons rs t).map D.str))) (some (.int (restOf rs (t, m)))) a15 a16 b18) (i := 14) rfl, e_con, bindOk]
        rw [if_pos (by simp [SL]), bindOk]
        rw [show appD (.ref (tl.length + 1)) (.tup [.int t, .str "", .int (restOf rs (t, m))]) (o :: (tl ++ [.lst A1, .lst B1])) = .ok () (o :: (tl ++ [.lst A2, .lst B1])) from k1]
        rw [toFl_ok, bindOk]
        dsimp only
        rw [z_cons, z_app, ev_get (d := .ref (tl.length + 2)) rfl, bindOk, u_l1]
        simp only [if_true]
        rw [e_p1, hs, bindOk, tup_lst, bindOk]
        rw [show appD (.ref (tl.length + 2)) (.tup ((supOf rs (t, "", restOf rs (t, m))).map natD)) (o :: (tl ++ [.lst A2, .lst B1])) = .ok () (o :: (tl ++ [.lst A2, .lst B2])) from k2]
        rw [toFl_ok, bindOk]
        exact z_nil
      rw [br, bindOk]
      exact tail _
    · have ed : dueOf rs (t, m) = (K.map fun p => (t, p.1, p.2)) := by unfold dueOf; rw [if_neg hp, hK]; simp
      have eA : A1 = A2 := by rw [hA1, hA2, ed]
      have eB : B1 = B2 := by rw [hB1, hB2, ed]
      simp only [hp, decide_false]
      rw [z_nil, bindOk, eA, eB]
      exact tail _
  · rw [comp_one (b := true) (v := .int p.2) (show 17 < 20 by decide) e_con (fun _ => by rw [e_p2, ev_get (gself (show 17 < 20 by decide))]; simp [pairS])]
    rfl
end
end P77
set_option Elab.async false
set_option linter.all false
set_option maxRecDepth 100000
set_option maxHeartbeats 0
/-! P77o: a turn of the law, the law. -/
namespace P77
open PySem PySem.Spec PyProof.Rows L2 Mi G77
theorem fn_law : findFn "law" T = some f_law := by kernel_rfl
section
variable {n : Nat} {G : Ce} {M : Mem} {rs : List Rw} {r : Rw} {t : Int} {o : O} {tl : Mem} {env : Mi.Env} {lot : Str} {ns : List Int}
theorem nonT_len (h : Valid rs) : (nonT rs lot).length ≤ 30 := Nat.le_trans (List.length_filterMap_le _ _) h.len
theorem step3 (h : Valid rs) (hn : lot ∈ lotsOf rs) {s0 s2 s4 s5 a6 a9 a10 a11 a12 a13 a14 a15 a16 a18 : Option D} :
    forT (evSs ⟨callF T gl 100 (n + 8), gl, 100⟩ l_law_3) (.nm 6) (.str lot) (envL tl s0 s2 s4 s5 rs a6 a9 a10 a11 a12 a13 a14 a15 a16 a18) M =
      .ok (.nx (envL tl s0 s2 s4 s5 rs (some (.str lot)) a9 a10 a11 a12 a13 a14 a15 (some (.lst ((sortI (nonT rs lot)).map D.int))) a18)) M := by
  have f0 : forT (evSs ⟨callF T gl 100 (n + 8), gl, 100⟩ l_law_3) (.nm 6) (.str lot) (envL tl s0 s2 s4 s5 rs a6 a9 a10 a11 a12 a13 a14 a15 a16 a18) M =
      evSs ⟨callF T gl 100 (n + 8), gl, 100⟩ l_law_3 (envL tl s0 s2 s4 s5 rs (some (.str lot)) a9 a10 a11 a12 a13 a14 a15 a16 a18) M := by
    simp [forT, asgT, envL]
  rw [f0]
  have hb := c_barred (n := n + 1) (M := M) h hn
  rw [barred_same h] at hb
  have hl := nonT_len (lot := lot) h
  have hso := sorted_ints (M := M) (d := .lst ((nonT rs lot).map D.int)) (xs := nonT rs lot) rfl (by unfold SL; omega)
  have hal := alike (n := n + 6) (M := M) (k := 1) (d := .tup ((sortI (nonT rs lot)).map D.int)) (by decide) (sh_ints 0 _) (lz_map (by rw [sortI_len]; unfold SL; omega) fun _ _ => lzi)
  unfold l_law_3
  rw [z_cons, z_asg, e_p1, ev_comp (fNonT lot) D.int (enc := enc) (l := rs) (xs := nonT rs lot) rfl (it_seq (d := Rec rs) (ev_get rfl) rfl) h.sl (fun r hr => ?_)]
  · rw [bindOk, hso, bindOk]
    simp [asgT, envL, hb, hal]
  · have hv : evE ⟨callF T gl 100 (n + 8), gl, 100⟩ (.var 17) ((envL tl s0 s2 s4 s5 rs (some (.str lot)) a9 a10 a11 a12 a13 a14 a15 a16 a18).set 17 (some (enc r))) M = .ok (enc r) M := ev_get (gself (show 17 < 20 by decide))
    have h6 : evE ⟨callF T gl 100 (n + 8), gl, 100⟩ (.var 6) ((envL tl s0 s2 s4 s5 rs (some (.str lot)) a9 a10 a11 a12 a13 a14 a15 a16 a18).set 17 (some (enc r))) M = .ok (.str lot) M := ev_get (by rw [gs (by decide)]; rfl)
    cases r with
    | non t' l =>
      have y1 : evE ⟨callF T gl 100 (n + 8), gl, 100⟩ (.p2 .eq (.p2 .item (.var 17) (.con (.int 0))) (.con (.str "none"))) ((envL tl s0 s2 s4 s5 rs (some (.str lot)) a9 a10 a11 a12 a13 a14 a15 a16 a18).set 17 (some (enc (.non t' l)))) M = .ok (.bl true) M := by
        rw [e_p2, e_p2, hv]
        simp [enc]
      have y2 : evE ⟨callF T gl 100 (n + 8), gl, 100⟩ (.p2 .eq (.p2 .item (.var 17) (.con (.int 2))) (.var 6)) ((envL tl s0 s2 s4 s5 rs (some (.str lot)) a9 a10 a11 a12 a13 a14 a15 a16 a18).set 17 (some (enc (.non t' l)))) M = .ok (.bl (decide (l = lot))) M := by
        rw [e_p2, e_p2, hv, bindOk, e_con, bindOk, show op2 .item (enc (.non t' l)) (.int 2) M = .ok (.str l) M from by simp [enc], bindOk, h6, bindOk, p_eqS]
      rw [comp_one (b := decide (l = lot)) (v := .int t') (show 17 < 20 by decide) (by rw [e_and, y1, bindOk]; exact y2) (fun _ => by rw [e_p2, hv]; simp [enc])]
      by_cases e : l = lot <;> simp [fNonT, e]
    | _ =>
      rw [comp_one (b := false) (v := .non) (show 17 < 20 by decide) (by rw [e_and, e_p2, e_p2, hv]; simp [enc]) (fun z => by cases z)]
      rfl
theorem drsM_map : drsM rs = (drs rs).map (·.2) := by
  unfold drsM drs
  rw [List.map_filterMap]
  congr 1
  funext r
  cases r <;> rfl
def envG (s0 s2 a3 a4 a5 a6 a7 a8 a9 a10 a11 a12 a13 a14 a15 a16 a18 : Option D) : Mi.Env :=
  [s0, some (.ref 0), s2, a3, a4, a5, a6, a7, a8, a9, a10, a11, a12, a13, a14, a15, a16, none, a18, none]
def GL (ns : List Int) (s0 : Option D) (env : Mi.Env) (M : Mem) : Prop :=
  ∃ o tl s2 a3 a4 a5 a6 a7 a8 a9 a10 a11 a12 a13 a14 a15 a16 a18, M = o :: tl ∧ RowO ns o ∧ env = envG s0 s2 a3 a4 a5 a6 a7 a8 a9 a10 a11 a12 a13 a14 a15 a16 a18
theorem sh_pairs {xs : List (Int × Int)} : (xs.map pairI).all (Sh 1) = true := List.all_eq_true.mpr fun x hx => by
  obtain ⟨p, _, rfl⟩ := List.mem_map.mp hx
  rfl
theorem due_named (h : Valid rs) : ∀ p ∈ dueAll rs, (PyData.str p.2.1).canLay0 = true := by
  intro p hp
  obtain ⟨q, hq, hp⟩ := List.mem_flatMap.mp hp
  unfold dueOf at hp
  rcases List.mem_append.mp hp with z | z
  · obtain ⟨w, hw, rfl⟩ := List.mem_map.mp z
    exact name_ok (hasL_named h w ((sortP_perm _).mem_iff.mp hw))
  · split at z
    · rw [List.mem_singleton.mp z]
      show (PyData.str "").canLay0 = true
      decide +kernel
    · cases z
theorem sh_up : ∀ {k : Nat} {d : D}, Sh k d = true → Sh (k + 1) d = true := by
  intro k
  induction k with
  | zero =>
    intro d h
    cases d <;> first | exact h | (cases h)
  | succ k ih =>
    intro d h
    cases d <;> first
      | exact h
      | (cases h; done)
      | exact List.all_eq_true.mpr fun x hx => ih (List.all_eq_true.mp h x hx)
theorem law_turn {s0 : Option D} {env : Mi.Env} {M : Mem} (g : GL ns s0 env M) (v : Int) :
    ∃ env' M', forT (evSs ⟨callF T gl 100 (n + 8), gl, 100⟩ l_law_4) (.nm 2) (.int v) env M = .ok (.nx env') M' ∧ GL ns s0 env' M' := by
  obtain ⟨o, tl, s2, a3, a4, a5, a6, a7, a8, a9, a10, a11, a12, a13, a14, a15, a16, a18, rfl, h0, rfl⟩ := g
  obtain ⟨rs, o1, e1, h, h1⟩ := c_record (n := n + 5) (tl := tl) h0
  have hlots := uniq_len (xs := lotsOf rs)
  have hlots2 := lots_len (rs := rs)
  have hlen := h.len
  have hdl := drs_len h
  have hdue := due_all_len h
  -- the loop over the draws
  have loop2 := forL_inv (f := forT (evSs ⟨callF T gl 100 (n + 8), gl, 100⟩ l_law_2) (.tp [9, 10])) (ok := stillS []) (ds := (drs rs).map pairI)
    (I := fun i env M => ∃ b6 b9 b10 b11 b12 b13 b14 b15 b16 b18, env = envL tl s0 (some (.int v)) (some (.lst ((drs rs).map pairI))) (some (.int (inside rs))) rs b6 b9 b10 b11 b12 b13 b14 b15 b16 b18 ∧
      M = S2 o1 tl ((((drs rs).take i).flatMap (dueOf rs)).map tri) ((((drs rs).take i).flatMap (dueOf rs)).map (supD rs)))
    (fun _ _ _ _ => rfl) (fun i d env M hd hI => by
      obtain ⟨b6, b9, b10, b11, b12, b13, b14, b15, b16, b18, rfl, rfl⟩ := hI
      rw [List.getElem?_map] at hd
      obtain ⟨q, hq, rfl⟩ := Option.map_eq_some_iff.mp hd
      have hqm : q ∈ drs rs := List.mem_iff_getElem?.mpr ⟨i, hq⟩
      have hs := due_take h i
      obtain ⟨c6, c9, c10, c11, c12, c13, c14, c15, c16, c18, e⟩ := step2 (n := n) (o := o1) (tl := tl) h hqm (A := (((drs rs).take i).flatMap (dueOf rs)).map tri) (B := (((drs rs).take i).flatMap (dueOf rs)).map (supD rs)) (by rw [List.length_map]; omega) (by rw [List.length_map]; omega)
        (s0 := s0) (s2 := some (.int v)) (s4 := some (.lst ((drs rs).map pairI))) (s5 := some (.int (inside rs))) (a6 := b6) (a9 := b9) (a10 := b10) (a11 := b11) (a12 := b12) (a13 := b13) (a14 := b14) (a15 := b15) (a16 := b16) (a18 := b18)
      refine ⟨_, _, e, c6, c9, c10, c11, c12, c13, c14, c15, c16, c18, rfl, ?_⟩
      rw [flatMap_take hq, List.map_append, List.map_append])
    (env := envL tl s0 (some (.int v)) (some (.lst ((drs rs).map pairI))) (some (.int (inside rs))) rs a6 a9 a10 a11 a12 a13 a14 a15 a16 a18) (M := S2 o1 tl [] []) ⟨a6, a9, a10, a11, a12, a13, a14, a15, a16, a18, rfl, by simp⟩
  obtain ⟨env2, M2, l2, b6, b9, b10, b11, b12, b13, b14, b15, b16, b18, rfl, rfl⟩ := loop2
  rw [List.length_map, List.take_length] at l2
  -- the loop over the lots
  have loop3 := forL_inv (f := forT (evSs ⟨callF T gl 100 (n + 8), gl, 100⟩ l_law_3) (.nm 6)) (ok := stillS []) (ds := (lotSet (lotsOf rs)).map D.str)
    (I := fun i env M => ∃ c6 c16, env = envL tl s0 (some (.int v)) (some (.lst ((drs rs).map pairI))) (some (.int (inside rs))) rs c6 b9 b10 b11 b12 b13 b14 b15 c16 b18 ∧ M = S2 o1 tl ((dueAll rs).map tri) ((dueAll rs).map (supD rs)))
    (fun _ _ _ _ => rfl) (fun i d env M hd hI => by
      obtain ⟨c6, c16, rfl, rfl⟩ := hI
      rw [List.getElem?_map] at hd
      obtain ⟨q, hq, rfl⟩ := Option.map_eq_some_iff.mp hd
      have hqm : q ∈ lotsOf rs := lotSet_mem.mp (List.mem_iff_getElem?.mpr ⟨i, hq⟩)
      exact ⟨_, _, step3 h hqm, _, _, rfl, rfl⟩)
    (env := envL tl s0 (some (.int v)) (some (.lst ((drs rs).map pairI))) (some (.int (inside rs))) rs b6 b9 b10 b11 b12 b13 b14 b15 b16 b18) (M := S2 o1 tl ((dueAll rs).map tri) ((dueAll rs).map (supD rs))) ⟨b6, b16, rfl, rfl⟩
  obtain ⟨env3, M3, l3, c6, c16, rfl, rfl⟩ := loop3
  refine ⟨envL tl s0 (some (.int v)) (some (.lst ((drs rs).map pairI))) (some (.int (inside rs))) rs c6 b9 b10 b11 b12 b13 b14 b15 c16 b18, S2 o1 tl ((dueAll rs).map tri) ((dueAll rs).map (supD rs)), ?_, ?_⟩
  · have f0 : forT (evSs ⟨callF T gl 100 (n + 8), gl, 100⟩ l_law_4) (.nm 2) (.int v) (envG s0 s2 a3 a4 a5 a6 a7 a8 a9 a10 a11 a12 a13 a14 a15 a16 a18) (o :: tl) =
        evSs ⟨callF T gl 100 (n + 8), gl, 100⟩ l_law_4 (envG s0 (some (.int v)) a3 a4 a5 a6 a7 a8 a9 a10 a11 a12 a13 a14 a15 a16 a18) (o :: tl) := by
      simp [forT, asgT, envG]
    rw [f0]
    unfold l_law_4
    rw [z_cons, z_asg, e_call, e_cons, ev_get (d := .ref 0) rfl, bindOk, e_nil, bindOk, bindOk]
    have e1' : callF T gl 100 (n + 8) "_law_record" [.ref 0] (o :: tl) = .ok (Rec rs) (o1 :: tl) := e1
    show Res.bind (Res.bind (callF T gl 100 (n + 8) "_law_record" [.ref 0] (o :: tl)) _) _ = _
    rw [e1', bindOk]
    show Res.bind (Res.ok (Fl.nx (envG s0 (some (.int v)) (some (Rec rs)) a4 a5 a6 a7 a8 a9 a10 a11 a12 a13 a14 a15 a16 a18)) _) _ = _
    rw [bindOk]
    dsimp only
    rw [z_cons, z_asg, ev_comp fDrw pairI (enc := enc) (l := rs) (xs := drs rs) rfl (it_seq (d := Rec rs) (ev_get rfl) rfl) h.sl (fun r hr => ?_)]
    · rw [bindOk]
      show Res.bind (Res.ok (Fl.nx (envG s0 (some (.int v)) (some (Rec rs)) (some (.lst ((drs rs).map pairI))) a5 a6 a7 a8 a9 a10 a11 a12 a13 a14 a15 a16 a18)) _) _ = _
      rw [bindOk]
      dsimp only
      rw [z_cons, z_asg, e_p2, e_p1, ev_comp fPutM D.int (enc := enc) (l := rs) (xs := puts rs) rfl (it_seq (d := Rec rs) (ev_get rfl) rfl) h.sl (fun r hr => ?_)]
      · rw [bindOk, sum_ok, bindOk, e_p1, ev_comp (fun q => some q.2) D.int (enc := pairI) (l := drs rs) (xs := drsM rs) (by rw [drsM_map]; simp) (it_seq (d := .lst ((drs rs).map pairI)) (ev_get rfl) rfl) (by unfold SL; omega) (fun q hq => ?_)]
        · rw [bindOk, sum_ok, bindOk, p_sub, bindOk]
          show Res.bind (Res.ok (Fl.nx (envG s0 (some (.int v)) (some (Rec rs)) (some (.lst ((drs rs).map pairI))) (some (.int (inside rs))) a6 a7 a8 a9 a10 a11 a12 a13 a14 a15 a16 a18)) _) _ = _
          have x1 := c_lots_in (n := n + 2) (M := o1 :: tl) h
          have x2 := c_draws_in (n := n + 2) (M := o1 :: tl) h
          have x3 := c_left_in (n := n + 2) (M := o1 :: tl) h
          have x4 := c_law_lots (n := n + 7) (M := o1 :: tl) h
          have x5 := alike (n := n + 4) (M := o1 :: tl) (k := 3) (d := .tup [.tup ((lotSet (lotsOf rs)).map D.str), .tup ((drs rs).map pairI), .int (inside rs)]) (by decide)
            (by
              have y1 := sh_up (sh_strs (xs := lotSet (lotsOf rs)) fun x hx => lots_named h x (lotSet_mem.mp hx))
              have y2 : Sh 2 (.tup ((drs rs).map pairI)) = true := sh_pairs
              show (List.all _ _) = true
              rw [List.all_cons, y1, List.all_cons, y2]
              rfl)
            (by
              refine ⟨by simp [SL], fun d hd => ?_⟩
              simp only [List.mem_cons, List.not_mem_nil, or_false] at hd
              rcases hd with rfl | rfl | rfl
              · exact lz_map (by unfold SL; omega) fun _ _ => lz0
              · exact lz_map (by unfold SL; omega) fun q _ => ⟨by simp [SL], fun d hd => by
                  simp only [List.mem_cons, List.not_mem_nil, or_false] at hd
                  rcases hd with rfl | rfl <;> trivial⟩
              · trivial)
          have c1 : evE ⟨callF T gl 100 (n + 8), gl, 100⟩ (.not (.call "_law_alike" (.cons (.tup (.cons (.call "lots_in" (.cons (.var 3) .nil)) (.cons (.call "draws_in" (.cons (.var 3) .nil)) (.cons (.call "left_in" (.cons (.var 3) .nil)) .nil)))) (.cons (.tup (.cons (.p1 .tuple (.call "_law_lots" (.cons (.var 3) .nil))) (.cons (.p1 .tuple (.var 4)) (.cons (.var 5) .nil)))) .nil)))) (envG s0 (some (.int v)) (some (Rec rs)) (some (.lst ((drs rs).map pairI))) (some (.int (inside rs))) a6 a7 a8 a9 a10 a11 a12 a13 a14 a15 a16 a18) (o1 :: tl) = .ok (.bl false) (o1 :: tl) := by
            simp [envG, x1, x2, x3, x4, SL, x5]
          rw [bindOk]
          dsimp only
          rw [z_cons, z_ite, c1, bindOk]
          dsimp only
          rw [z_nil, bindOk]
          dsimp only
          rw [z_cons, z_par]
          have c2 : evEs ⟨callF T gl 100 (n + 8), gl, 100⟩ (.cons (.new (.lst .nil)) (.cons (.new (.lst .nil)) .nil)) (envG s0 (some (.int v)) (some (Rec rs)) (some (.lst ((drs rs).map pairI))) (some (.int (inside rs))) a6 a7 a8 a9 a10 a11 a12 a13 a14 a15 a16 a18) (o1 :: tl) = .ok [.ref (tl.length + 1), .ref (tl.length + 2)] (S2 o1 tl [] []) := by
            simp [newD, SL]
          rw [c2, bindOk]
          show Res.bind (Res.ok (Fl.nx (envL tl s0 (some (.int v)) (some (.lst ((drs rs).map pairI))) (some (.int (inside rs))) rs a6 a9 a10 a11 a12 a13 a14 a15 a16 a18)) _) _ = _
          rw [bindOk]
          dsimp only
          rw [z_cons, z_for (its := ⟨[], (drs rs).map pairI⟩) (M1 := S2 o1 tl [] []) (it_seq (d := .lst ((drs rs).map pairI)) (ev_get rfl) rfl)]
          show Res.bind (forL _ (stillS []) _ _ _) _ = _
          rw [l2, bindOk]
          dsimp only
          have z1 := c_demands (n := n + 2) (M := S2 o1 tl ((dueAll rs).map tri) ((dueAll rs).map (supD rs))) h
          have z2 := c_takes (n := n + 1) (M := S2 o1 tl ((dueAll rs).map tri) ((dueAll rs).map (supD rs))) h
          have z3 := alike (n := n + 5) (M := S2 o1 tl ((dueAll rs).map tri) ((dueAll rs).map (supD rs))) (k := 2) (d := .tup ((dueAll rs).map tri)) (by decide)
            (List.all_eq_true.mpr fun x hx => by
              obtain ⟨p, hp, rfl⟩ := List.mem_map.mp hx
              simp [tri, Sh, due_named h p hp])
            (lz_map (by unfold SL; omega) fun p _ => ⟨by simp [SL], fun d hd => by
              simp only [List.mem_cons, List.not_mem_nil, or_false] at hd
              rcases hd with rfl | rfl | rfl <;> trivial⟩)
          have z4 := alike (n := n + 5) (M := S2 o1 tl ((dueAll rs).map tri) ((dueAll rs).map (supD rs))) (k := 2) (d := .tup ((dueAll rs).map (supD rs))) (by decide)
            (List.all_eq_true.mpr fun x hx => by
              obtain ⟨p, hp, rfl⟩ := List.mem_map.mp hx
              show List.all _ _ = true
              refine List.all_eq_true.mpr fun y hy => ?_
              obtain ⟨k, _, rfl⟩ := List.mem_map.mp hy
              rfl)
            (lz_map (by unfold SL; omega) fun p hp => ⟨by
                rw [List.length_map]
                obtain ⟨m, hm⟩ := due_tickets hp
                have := at_le (drs_dix hm)
                have h2 : (supOf rs p).length ≤ (List.range (at_ rs p.1)).length := List.length_filterMap_le _ _
                rw [List.length_range] at h2
                unfold SL
                omega, fun d hd => by
              obtain ⟨k, _, rfl⟩ := List.mem_map.mp hd
              trivial⟩)
          have c3 : evE ⟨callF T gl 100 (n + 8), gl, 100⟩ (.or (.not (.call "_law_alike" (.cons (.call "demands" (.cons (.var 3) .nil)) (.cons (.p1 .tuple (.var 7)) .nil)))) (.not (.call "_law_alike" (.cons (.call "takes" (.cons (.var 3) .nil)) (.cons (.p1 .tuple (.var 8)) .nil))))) (envL tl s0 (some (.int v)) (some (.lst ((drs rs).map pairI))) (some (.int (inside rs))) rs b6 b9 b10 b11 b12 b13 b14 b15 b16 b18) (S2 o1 tl ((dueAll rs).map tri) ((dueAll rs).map (supD rs))) = .ok (.bl false) (S2 o1 tl ((dueAll rs).map tri) ((dueAll rs).map (supD rs))) := by
            simp [envL, z1, z2, z3, z4, op1, view]
          rw [z_cons, z_ite, show evE _ _ _ (S2 o1 tl (((drs rs).flatMap (dueOf rs)).map tri) (((drs rs).flatMap (dueOf rs)).map (supD rs))) = _ from c3, bindOk]
          dsimp only
          rw [z_nil, bindOk]
          dsimp only
          have z5 := c_law_lots (n := n + 7) (M := S2 o1 tl ((dueAll rs).map tri) ((dueAll rs).map (supD rs))) h
          rw [z_cons, z_for (its := ⟨[], (lotSet (lotsOf rs)).map D.str⟩) (M1 := S2 o1 tl ((dueAll rs).map tri) ((dueAll rs).map (supD rs))) (it_seq (d := .lst ((lotSet (lotsOf rs)).map D.str)) (by
            show evE _ _ _ (S2 o1 tl ((dueAll rs).map tri) ((dueAll rs).map (supD rs))) = _
            simp [envL, z5]) rfl)]
          show Res.bind (forL _ (stillS []) _ _ _) _ = _
          rw [l3, bindOk]
          dsimp only
          rw [z_nil]
        · rw [comp_one (b := true) (v := .int q.2) (show 17 < 20 by decide) e_con (fun _ => by rw [e_p2, ev_get (gself (show 17 < 20 by decide))]; simp [pairI])]
          rfl
      · have hv : evE ⟨callF T gl 100 (n + 8), gl, 100⟩ (.var 17) ((envG s0 (some (.int v)) (some (Rec rs)) (some (.lst ((drs rs).map pairI))) a5 a6 a7 a8 a9 a10 a11 a12 a13 a14 a15 a16 a18).set 17 (some (enc r))) (o1 :: tl) = .ok (enc r) (o1 :: tl) := ev_get (gself (show 17 < 20 by decide))
        cases r with
        | put nm mm =>
          rw [comp_one (b := true) (v := .int mm) (show 17 < 20 by decide) (by rw [e_p2, e_p2, hv]; simp [enc]) (fun _ => by rw [e_p2, hv]; simp [enc])]
          rfl
        | _ =>
          rw [comp_one (b := false) (v := .non) (show 17 < 20 by decide) (by rw [e_p2, e_p2, hv]; simp [enc]) (fun z => by cases z)]
          rfl
    · have hv : evE ⟨callF T gl 100 (n + 8), gl, 100⟩ (.var 17) ((envG s0 (some (.int v)) (some (Rec rs)) a4 a5 a6 a7 a8 a9 a10 a11 a12 a13 a14 a15 a16 a18).set 17 (some (enc r))) (o1 :: tl) = .ok (enc r) (o1 :: tl) := ev_get (gself (show 17 < 20 by decide))
      cases r with
      | drw t' mm =>
        rw [comp_one (b := true) (v := pairI (t', mm)) (show 17 < 20 by decide) (by rw [e_p2, e_p2, hv]; simp [enc]) (fun _ => by
          simp only [e_tup, e_cons, e_p2, hv, e_con, e_nil, bindOk, show ∀ M, op2 .item (enc (.drw t' mm)) (.int 1) M = .ok (.int t') M from fun M => by simp [enc], show ∀ M, op2 .item (enc (.drw t' mm)) (.int 2) M = .ok (.int mm) M from fun M => by simp [enc]]
          simp [pairI, SL])]
        rfl
      | _ =>
        rw [comp_one (b := false) (v := .non) (show 17 < 20 by decide) (by rw [e_p2, e_p2, hv]; simp [enc]) (fun z => by cases z)]
        rfl
  · exact ⟨o1, _, _, _, _, _, _, _, _, _, _, _, _, _, _, _, _, _, rfl, h1, rfl⟩
theorem law_run (ns : List Int) : ∃ M, callF T gl 100 (n + 9) "law" [.scr (ns.map D.int)] [] = .ok (.bl true) M := by
  have loop := forL_inv (f := forT (evSs ⟨callF T gl 100 (n + 8), gl, 100⟩ l_law_4) (.nm 2)) (ok := stillS []) (ds := (List.range 5).map fun k => .int (k : Nat)) (I := fun _ env M => GL ns (some (.scr (ns.map D.int))) env M)
    (fun _ _ _ _ => rfl) (fun i d env M hd hI => by
      rw [List.getElem?_map] at hd
      obtain ⟨k, _, rfl⟩ := Option.map_eq_some_iff.mp hd
      exact law_turn hI _)
    (env := envG (some (.scr (ns.map D.int))) none none none none none none none none none none none none none none none none) (M := [rowO ns 0 7771 0]) ⟨_, [], _, _, _, _, _, _, _, _, _, _, _, _, _, _, _, _, rfl, ⟨0, 7771, 0, rfl, by decide⟩, rfl⟩
  obtain ⟨env', M', e, o, tl, s2, a3, a4, a5, a6, a7, a8, a9, a10, a11, a12, a13, a14, a15, a16, a18, rfl, h, rfl⟩ := loop
  refine ⟨[], ?_⟩
  have body : evSs ⟨callF T gl 100 (n + 8), gl, 100⟩ f_law.body [some (.scr (ns.map D.int)), none, none, none, none, none, none, none, none, none, none, none, none, none, none, none, none, none, none, none] [] = .ok (.ret (.bl true)) (o :: tl) := by
    show evSs _ b_law _ _ = _
    unfold b_law
    rw [z_cons, z_asg]
    have c1 : evE ⟨callF T gl 100 (n + 8), gl, 100⟩ (.new (.lst (.cons (.var 0) (.cons (.con (.int 0)) (.cons (.con (.int 7771)) (.cons (.con (.int 0)) .nil)))))) [some (.scr (ns.map D.int)), none, none, none, none, none, none, none, none, none, none, none, none, none, none, none, none, none, none, none] [] = .ok (.ref 0) [rowO ns 0 7771 0] := by
      simp [newD, SL, rowO]
    rw [c1, bindOk]
    show Res.bind (Res.ok (Fl.nx (envG (some (.scr (ns.map D.int))) none none none none none none none none none none none none none none none none)) _) _ = _
    rw [bindOk]
    dsimp only
    rw [z_cons, z_for (its := ⟨[], (List.range 5).map fun k => .int (k : Nat)⟩) (M1 := [rowO ns 0 7771 0]) (it_rangeJ (j := 5) e_con (by decide) (by decide))]
    show Res.bind (forL _ (stillS []) _ _ _) _ = _
    rw [e, bindOk]
    dsimp only
    rw [z_cons, z_ret, e_con, bindOk, bindOk]
  rw [callF_gen fn_law rfl body]
  rfl
end
end P77
set_option Elab.async false
set_option linter.all false
set_option maxRecDepth 100000
set_option maxHeartbeats 0
/-! F77: the end (printed by gen_end.py). -/
namespace F77
open PySem PySem.Spec PyProof.Rows L2 Mi G77
theorem df_is_whole : DfOk (tbl.map (·.fn)) x_is_whole := ⟨rfl, rfl, scB_ok (by decide +kernel), rfl, rfl, by decide +kernel, by kernel_rfl, fun _ _ _ _ _ _ us hl => match us, hl with | [_], _ => rfl⟩
theorem df_is_within : DfOk (tbl.map (·.fn)) x_is_within := ⟨rfl, rfl, scB_ok (by decide +kernel), rfl, rfl, by decide +kernel, by kernel_rfl, fun _ _ _ _ _ _ us hl => match us, hl with | [_, _, _], _ => rfl⟩
theorem df_is_name : DfOk (tbl.map (·.fn)) x_is_name := ⟨rfl, rfl, scB_ok (by decide +kernel), rfl, rfl, by decide +kernel, by kernel_rfl, fun _ _ _ _ _ _ us hl => match us, hl with | [_], _ => rfl⟩
theorem df_lots_ahead : DfOk (tbl.map (·.fn)) x_lots_ahead := ⟨rfl, rfl, scB_ok (by decide +kernel), rfl, rfl, by decide +kernel, by kernel_rfl, fun _ _ _ _ _ _ us hl => match us, hl with | [_], _ => rfl⟩
theorem df_drawn_by : DfOk (tbl.map (·.fn)) x_drawn_by := ⟨rfl, rfl, scB_ok (by decide +kernel), rfl, rfl, by decide +kernel, by kernel_rfl, fun _ _ _ _ _ _ us hl => match us, hl with | [_, _], _ => rfl⟩
theorem df_many_inside : DfOk (tbl.map (·.fn)) x_many_inside := ⟨rfl, rfl, scB_ok (by decide +kernel), rfl, rfl, by decide +kernel, by kernel_rfl, fun _ _ _ _ _ _ us hl => match us, hl with | [_], _ => rfl⟩
theorem df_told_of : DfOk (tbl.map (·.fn)) x_told_of := ⟨rfl, rfl, scB_ok (by decide +kernel), rfl, rfl, by decide +kernel, by kernel_rfl, fun _ _ _ _ _ _ us hl => match us, hl with | [_, _], _ => rfl⟩
theorem df_lots_before : DfOk (tbl.map (·.fn)) x_lots_before := ⟨rfl, rfl, scB_ok (by decide +kernel), rfl, rfl, by decide +kernel, by kernel_rfl, fun _ _ _ _ _ _ us hl => match us, hl with | [_, _], _ => rfl⟩
theorem df_is_told : DfOk (tbl.map (·.fn)) x_is_told := ⟨rfl, rfl, scB_ok (by decide +kernel), rfl, rfl, by decide +kernel, by kernel_rfl, fun _ _ _ _ _ _ us hl => match us, hl with | [_, _], _ => rfl⟩
theorem df_is_record_row : DfOk (tbl.map (·.fn)) x_is_record_row := ⟨rfl, rfl, scB_ok (by decide +kernel), rfl, rfl, by decide +kernel, by kernel_rfl, fun _ _ _ _ _ _ us hl => match us, hl with | [_, _], _ => rfl⟩
theorem df_require_record : DfOk (tbl.map (·.fn)) x_require_record := ⟨rfl, rfl, scB_ok (by decide +kernel), rfl, rfl, by decide +kernel, by kernel_rfl, fun _ _ _ _ _ _ us hl => match us, hl with | [_], _ => rfl⟩
theorem df_lots_in : DfOk (tbl.map (·.fn)) x_lots_in := ⟨rfl, rfl, scB_ok (by decide +kernel), rfl, rfl, by decide +kernel, by kernel_rfl, fun _ _ _ _ _ _ us hl => match us, hl with | [_], _ => rfl⟩
theorem df_draws_in : DfOk (tbl.map (·.fn)) x_draws_in := ⟨rfl, rfl, scB_ok (by decide +kernel), rfl, rfl, by decide +kernel, by kernel_rfl, fun _ _ _ _ _ _ us hl => match us, hl with | [_], _ => rfl⟩
theorem df_left_in : DfOk (tbl.map (·.fn)) x_left_in := ⟨rfl, rfl, scB_ok (by decide +kernel), rfl, rfl, by decide +kernel, by kernel_rfl, fun _ _ _ _ _ _ us hl => match us, hl with | [_], _ => rfl⟩
theorem df_require_drawn : DfOk (tbl.map (·.fn)) x_require_drawn := ⟨rfl, rfl, scB_ok (by decide +kernel), rfl, rfl, by decide +kernel, by kernel_rfl, fun _ _ _ _ _ _ us hl => match us, hl with | [_, _], _ => rfl⟩
theorem df_require_lot : DfOk (tbl.map (·.fn)) x_require_lot := ⟨rfl, rfl, scB_ok (by decide +kernel), rfl, rfl, by decide +kernel, by kernel_rfl, fun _ _ _ _ _ _ us hl => match us, hl with | [_, _], _ => rfl⟩
theorem df_demands_of : DfOk (tbl.map (·.fn)) x_demands_of := ⟨rfl, rfl, scB_ok (by decide +kernel), rfl, rfl, by decide +kernel, by kernel_rfl, fun _ _ _ _ _ _ us hl => match us, hl with | [_], _ => rfl⟩
theorem df_demands : DfOk (tbl.map (·.fn)) x_demands := ⟨rfl, rfl, scB_ok (by decide +kernel), rfl, rfl, by decide +kernel, by kernel_rfl, fun _ _ _ _ _ _ us hl => match us, hl with | [_], _ => rfl⟩
theorem df_row_of_draw : DfOk (tbl.map (·.fn)) x_row_of_draw := ⟨rfl, rfl, scB_ok (by decide +kernel), rfl, rfl, by decide +kernel, by kernel_rfl, fun _ _ _ _ _ _ us hl => match us, hl with | [_, _], _ => rfl⟩
theorem df_barred_lots : DfOk (tbl.map (·.fn)) x_barred_lots := ⟨rfl, rfl, scB_ok (by decide +kernel), rfl, rfl, by decide +kernel, by kernel_rfl, fun _ _ _ _ _ _ us hl => match us, hl with | [_, _], _ => rfl⟩
theorem df_supplies_for : DfOk (tbl.map (·.fn)) x_supplies_for := ⟨rfl, rfl, scB_ok (by decide +kernel), rfl, rfl, by decide +kernel, by kernel_rfl, fun _ _ _ _ _ _ us hl => match us, hl with | [_, _, _], _ => rfl⟩
theorem df_takes : DfOk (tbl.map (·.fn)) x_takes := ⟨rfl, rfl, scB_ok (by decide +kernel), rfl, rfl, by decide +kernel, by kernel_rfl, fun _ _ _ _ _ _ us hl => match us, hl with | [_], _ => rfl⟩
theorem df_require_lots : DfOk (tbl.map (·.fn)) x_require_lots := ⟨rfl, rfl, scB_ok (by decide +kernel), rfl, rfl, by decide +kernel, by kernel_rfl, fun _ _ _ _ _ _ us hl => match us, hl with | [_, _], _ => rfl⟩
theorem df_barred_tickets : DfOk (tbl.map (·.fn)) x_barred_tickets := ⟨rfl, rfl, scB_ok (by decide +kernel), rfl, rfl, by decide +kernel, by kernel_rfl, fun _ _ _ _ _ _ us hl => match us, hl with | [_, _], _ => rfl⟩
theorem df_lots_ahead_of : DfOk (tbl.map (·.fn)) x_lots_ahead_of := ⟨rfl, rfl, scB_ok (by decide +kernel), rfl, rfl, by decide +kernel, by kernel_rfl, fun _ _ _ _ _ _ us hl => match us, hl with | [_, _], _ => rfl⟩
theorem df__law_taken : DfOk (tbl.map (·.fn)) x__law_taken := ⟨rfl, rfl, scB_ok (by decide +kernel), rfl, rfl, by decide +kernel, by kernel_rfl, fun _ _ _ _ _ _ us hl => match us, hl with | [_, _], _ => rfl⟩
theorem df__law_pick : DfOk (tbl.map (·.fn)) x__law_pick := ⟨rfl, rfl, scB_ok (by decide +kernel), rfl, rfl, by decide +kernel, by kernel_rfl, fun _ _ _ _ _ _ us hl => match us, hl with | [_, _], _ => rfl⟩
theorem df__law_alike : DfOk (tbl.map (·.fn)) x__law_alike := ⟨rfl, rfl, scB_ok (by decide +kernel), rfl, rfl, by decide +kernel, by kernel_rfl, fun _ _ _ _ _ _ us hl => match us, hl with | [_, _], _ => rfl⟩
theorem df__law_names : DfOk (tbl.map (·.fn)) x__law_names := ⟨rfl, rfl, scB_ok (by decide +kernel), rfl, rfl, by decide +kernel, by kernel_rfl, fun _ _ _ _ _ _ us hl => match us, hl with | [_, _], _ => rfl⟩
theorem df__law_record : DfOk (tbl.map (·.fn)) x__law_record := ⟨rfl, rfl, scB_ok (by decide +kernel), rfl, rfl, by decide +kernel, by kernel_rfl, fun _ _ _ _ _ _ us hl => match us, hl with | [_], _ => rfl⟩
theorem df__law_lots : DfOk (tbl.map (·.fn)) x__law_lots := ⟨rfl, rfl, scB_ok (by decide +kernel), rfl, rfl, by decide +kernel, by kernel_rfl, fun _ _ _ _ _ _ us hl => match us, hl with | [_], _ => rfl⟩
theorem df_law : DfOk (tbl.map (·.fn)) x_law := ⟨rfl, rfl, scB_ok (by decide +kernel), rfl, rfl, by decide +kernel, by kernel_rfl, fun _ _ _ _ _ _ us hl => match us, hl with | [_], _ => rfl⟩
theorem dfs : ∀ x ∈ tbl, DfOk (tbl.map (·.fn)) x := List.forall_mem_cons.mpr ⟨df_is_whole, List.forall_mem_cons.mpr ⟨df_is_within, List.forall_mem_cons.mpr ⟨df_is_name, List.forall_mem_cons.mpr ⟨df_lots_ahead, List.forall_mem_cons.mpr ⟨df_drawn_by, List.forall_mem_cons.mpr ⟨df_many_inside, List.forall_mem_cons.mpr ⟨df_told_of, List.forall_mem_cons.mpr ⟨df_lots_before, List.forall_mem_cons.mpr ⟨df_is_told, List.forall_mem_cons.mpr ⟨df_is_record_row, List.forall_mem_cons.mpr ⟨df_require_record, List.forall_mem_cons.mpr ⟨df_lots_in, List.forall_mem_cons.mpr ⟨df_draws_in, List.forall_mem_cons.mpr ⟨df_left_in, List.forall_mem_cons.mpr ⟨df_require_drawn, List.forall_mem_cons.mpr ⟨df_require_lot, List.forall_mem_cons.mpr ⟨df_demands_of, List.forall_mem_cons.mpr ⟨df_demands, List.forall_mem_cons.mpr ⟨df_row_of_draw, List.forall_mem_cons.mpr ⟨df_barred_lots, List.forall_mem_cons.mpr ⟨df_supplies_for, List.forall_mem_cons.mpr ⟨df_takes, List.forall_mem_cons.mpr ⟨df_require_lots, List.forall_mem_cons.mpr ⟨df_barred_tickets, List.forall_mem_cons.mpr ⟨df_lots_ahead_of, List.forall_mem_cons.mpr ⟨df__law_taken, List.forall_mem_cons.mpr ⟨df__law_pick, List.forall_mem_cons.mpr ⟨df__law_alike, List.forall_mem_cons.mpr ⟨df__law_names, List.forall_mem_cons.mpr ⟨df__law_record, List.forall_mem_cons.mpr ⟨df__law_lots, List.forall_mem_cons.mpr ⟨df_law, fun _ h => (List.not_mem_nil h).elim⟩⟩⟩⟩⟩⟩⟩⟩⟩⟩⟩⟩⟩⟩⟩⟩⟩⟩⟩⟩⟩⟩⟩⟩⟩⟩⟩⟩⟩⟩⟩⟩
theorem law_in : x_law ∈ tbl := List.mem_cons_of_mem _ (List.mem_cons_of_mem _ (List.mem_cons_of_mem _ (List.mem_cons_of_mem _ (List.mem_cons_of_mem _ (List.mem_cons_of_mem _ (List.mem_cons_of_mem _ (List.mem_cons_of_mem _ (List.mem_cons_of_mem _ (List.mem_cons_of_mem _ (List.mem_cons_of_mem _ (List.mem_cons_of_mem _ (List.mem_cons_of_mem _ (List.mem_cons_of_mem _ (List.mem_cons_of_mem _ (List.mem_cons_of_mem _ (List.mem_cons_of_mem _ (List.mem_cons_of_mem _ (List.mem_cons_of_mem _ (List.mem_cons_of_mem _ (List.mem_cons_of_mem _ (List.mem_cons_of_mem _ (List.mem_cons_of_mem _ (List.mem_cons_of_mem _ (List.mem_cons_of_mem _ (List.mem_cons_of_mem _ (List.mem_cons_of_mem _ (List.mem_cons_of_mem _ (List.mem_cons_of_mem _ (List.mem_cons_of_mem _ (List.mem_cons_of_mem _ (List.mem_cons_self)))))))))))))))))))))))))))))))
theorem run (ns : List Int) : ∃ M, callF (tbl.map (·.fn)) (fun x => glT.lookup x) 100 60 "law" [.scr (ns.map D.int)] [] = .ok (.bl true) M := P77.law_run (n := 51) ns
end F77
open PySem PySem.W PyProof.Rows
theorem PySem.Challenge.cw_linesure_k77_what_records_tell_holds : PySem.Challenge.rw_linesure_k77_what_records_tell.Holds := by
  w_on; o_law; k_head; (case hw => w_witness2)
  k_fill
  refine Mi.law_walk G77.tbl G77.glT 100 60 rfl rfl (fun w h Y => PySem.W.kIn_of Y) ⟨rfl, by decide, by decide⟩ (by kernel_rfl) ?c F77.dfs (by kernel_rfl) G77.x_law F77.law_in (by kernel_rfl) (by kernel_rfl) (fun ns _ => F77.run ns)
  case c =>
    intro p
    refine ⟨?_, ?_, ?_⟩ <;> kernel_rfl
