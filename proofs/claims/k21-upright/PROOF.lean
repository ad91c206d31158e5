import PyProof.Rows.All
import HandS.ForMost
import HandS.ForExc
import HandS.Zip
import HandS.SortInts
import HandS.Style
import HandS.TupAny
import HandS.Flow
import HandS.TupMul
import HandS.Wide
import HandS.NoneIn
import HandS.Conv
import HandS.Rev
import HandS.IsInst
import HandS.More
import HandS.HotCalls
import HandS.ExcIs
import HandS.Defaults
import HandS.Head0
import HandS.Head1
import HandS.Head2
import HandS.HeadEnd
import HandS.HeadHook1
import HandS.HeadHook2
import HandS.HeadHook3
import HandS.HeadHook4
import HandS.Small
import HandS.Dict
import HandS.WordsDict
import HandS.Deep
import HandS.Iter
import PySem.Challenge.RW_swapnets_k21_whole_upright_nets_joints_a
section
set_option Elab.async false
set_option linter.all false
set_option maxRecDepth 100000
namespace Y
open PySem PySem.Spec PyProof.Rows L2

/-! ## values, objects, states -/
inductive Val where
  | non | bl (b : Bool) | int (i : Int) | str (x : Str) | tup (xs : List Val) | lst (xs : List Val)
  | dk (ks : List Key) (vs : List Val) | dt (ks : List (List Key)) (vs : List Val)
  | scr (ns : List Int) | fn (x : Str) | ty (n : String)
/-- an owned object -/
inductive Ob where
  | none | lst (xs : List Val) | dk (ks : List Key) (vs : List Val) | dt (ks : List (List Key)) (vs : List Val)
def Ob.val : Ob → Option Val
  | .none => .none
  | .lst xs => some (.lst xs)
  | .dk ks vs => some (.dk ks vs)
  | .dt ks vs => some (.dt ks vs)
/-- what a slot holds: a value, an own object, one that a loop walks, the shared object, nothing -/
inductive SV where
  | p (v : Val) | o (b : Ob) | l (b : Ob) | r | u | x
/-- what an expression gives: a value, a new object, the object of a slot, the shared object -/
inductive EV where
  | p (v : Val) | f (b : Ob) | s (i : Nat) | r
structure S where
  sl : List SV
  rf : Ob
structure Exc where
  nm : Str
  at_ : Option Int
inductive R (α : Type) where
  | ok (a : α) (st : S) | ex (e : Exc) (st : S) | bad
inductive SR where
  | nx (st : S) | rt (v : EV) (st : S) | bk (st : S) | ct (st : S) | ex (e : Exc) (st : S) | bad
def R.bind {α β : Type} (r : R α) (f : α → S → R β) : R β := match r with
  | .ok a st => f a st
  | .ex e st => .ex e st
  | .bad => .bad
def S.get (st : S) (i : Nat) : SV := match st.sl[i]? with
  | some v => v
  | none => .u
def S.set (st : S) (i : Nat) (v : SV) : S := ⟨st.sl.set i v, st.rf⟩
def Ob.toEV (b : Ob) : R EV → R EV := fun r => r

/-- the value that is looked at -/
def peek (st : S) : EV → Option Val
  | .p v => some v
  | .f b => b.val
  | .r => st.rf.val
  | .s i => match st.get i with
    | .p v => some v
    | .o b => b.val
    | .l b => b.val
    | .r => st.rf.val
    | _ => none
/-- the value that is kept: a new object or a slot's stands still from then on -/
def take (st : S) : EV → Option (Val × S)
  | .p v => some (v, st)
  | .f b => b.val.map fun v => (v, st)
  | .r => none
  | .s i => match st.get i with
    | .p v => some (v, st)
    | .o b => b.val.map fun v => (v, st.set i (.p v))
    | _ => none

/-! ## what they stand for -/
abbrev Sig := List (Option V)
inductive Tag where
  | none | frz | tmp | oth | own (i : Nat) | lk (i : Nat) | rf
  deriving DecidableEq
abbrev Gh := Addr → Tag
/-- what is fixed in a def's body: the written part, the module's names, the heap at the entry -/
structure Ct where
  P : Program
  w : World
  base : Heap
  K : PySem.W.Frag
  mg : Str → Option Value
  B : Hp
  exc : Option Addr := none
mutual
inductive Rep (c : Ct) (g : Gh) (H : Hp) : Val → V → Prop
  | non : Rep c g H .non .non
  | bl (b : Bool) : Rep c g H (.bl b) (.bl b)
  | int (i : Int) : Rep c g H (.int i) (.int i)
  | str (x : Str) : Rep c g H (.str x) (.str x)
  | ty (n : String) : Rep c g H (.ty n) (.ty n)
  | fn {x : Str} {f : Addr} : c.mg x = some (.ref f) → Rep c g H (.fn x) (.ref f)
  | tup {a : Addr} {us : List V} {vs : List Val} : H a = some (.tup us) → Reps c g H vs us → Rep c g H (.tup vs) (.ref a)
  | lst {a : Addr} {us : List V} {vs : List Val} : g a = .frz → H a = some (.lst us) → Reps c g H vs us → Rep c g H (.lst vs) (.ref a)
  | scr {a : Addr} {ns : List Int} : (g a = .frz ∨ ∀ H', SqL c.K H' a (ns.map V.int)) → SqL c.K H a (ns.map V.int) → Rep c g H (.scr ns) (.ref a)
  | dk {a : Addr} {us : List V} {ks : List Key} {vs : List Val} : g a = .frz → Rd H a (.dK (ks.zip us)) → ks.length = us.length → Reps c g H vs us → Rep c g H (.dk ks vs) (.ref a)
  | dt {a : Addr} {us : List V} {ks : List (List Key)} {vs : List Val} : g a = .frz → H a = some (.dT (ks.zip us)) → ks.length = us.length → Reps c g H vs us → Rep c g H (.dt ks vs) (.ref a)
inductive Reps (c : Ct) (g : Gh) (H : Hp) : List Val → List V → Prop
  | nil : Reps c g H [] []
  | cons {v : Val} {x : V} {vs : List Val} {xs : List V} : Rep c g H v x → Reps c g H vs xs → Reps c g H (v :: vs) (x :: xs)
end
def RepO (c : Ct) (g : Gh) (H : Hp) : Ob → Addr → Prop
  | .none, _ => False
  | .lst vs, a => ∃ us, H a = some (.lst us) ∧ Reps c g H vs us
  | .dk ks vs, a => ∃ us, H a = some (.dK (ks.zip us)) ∧ ks.length = us.length ∧ Reps c g H vs us
  | .dt ks vs, a => ∃ us, H a = some (.dT (ks.zip us)) ∧ ks.length = us.length ∧ Reps c g H vs us
/-- .. of what is only looked at: the top object may be one that changes later -/
def RepP (c : Ct) (g : Gh) (H : Hp) (v : Val) (x : V) : Prop := match v with
  | .lst vs => ∃ a, x = .ref a ∧ RepO c g H (.lst vs) a
  | .dk ks vs => ∃ a, x = .ref a ∧ ∃ us, Rd H a (.dK (ks.zip us)) ∧ ks.length = us.length ∧ Reps c g H vs us
  | .dt ks vs => ∃ a, x = .ref a ∧ RepO c g H (.dt ks vs) a
  | v => Rep c g H v x
def RepS (c : Ct) (g : Gh) (H : Hp) (i : Nat) : SV → Option V → Prop
  | .p v, some x => Rep c g H v x
  | .o b, some x => ∃ a, x = .ref a ∧ g a = .own i ∧ RepO c g H b a
  | .l b, some x => ∃ a, x = .ref a ∧ g a = .lk i ∧ RepO c g H b a
  | .r, some x => ∃ a, x = .ref a ∧ g a = .rf
  | .x, some x => ∃ a, x = .ref a ∧ c.exc = some a
  | .u, _ => True
  | _, none => False
structure Rel (c : Ct) (g : Gh) (st : S) (σ : Sig) (H : Hp) : Prop where
  len : st.sl.length = σ.length
  sl : ∀ i sv x, st.sl[i]? = some sv → σ[i]? = some x → RepS c g H i sv x
  rf : st.rf = .none ∨ ∃ a, g a = .rf ∧ RepO c g H st.rf a
  rfu : ∀ a b, g a = .rf → g b = .rf → a = b
  dom : ∀ a, g a ≠ .none → H a ≠ none
  young : ∀ a, g a = .tmp ∨ (∃ i, g a = .own i) ∨ (∃ i, g a = .lk i) → c.B a = none
  lkd : ∀ a i, g a = .lk i → ∃ b, st.sl[i]? = some (.l b) ∧ σ[i]? = some (some (.ref a))
  grow : ∀ a, c.B a ≠ none → H a ≠ none
def RepE (c : Ct) (g0 g : Gh) (H : Hp) (σ : Sig) : EV → V → Prop
  | .p v, x => Rep c g H v x
  | .f b, x => ∃ a, x = .ref a ∧ g a = .tmp ∧ g0 a = .none ∧ RepO c g H b a
  | .s i, x => σ[i]? = some (some x)
  | .r, x => ∃ a, x = .ref a ∧ g a = .rf
structure Ext (c : Ct) (g : Gh) (H : Hp) (g' : Gh) (H' : Hp) : Prop where
  keep : ∀ a, g a = .frz ∨ g a = .tmp ∨ g a = .oth ∨ (∃ i, g a = .lk i) → g' a = g a ∧ H' a = H a
  rft : ∀ a, g a = .rf → g' a = .rf
  some : ∀ a, g a ≠ .none → g' a ≠ .none
  tups : ∀ (a : Addr) (us : List V), H a = Option.some (.tup us) → H' a = Option.some (.tup us)
  grow : ∀ a, H a ≠ none → H' a ≠ none
def RepX (c : Ct) (H : Hp) (e : Exc) (cls : Value) (dx : Option Addr) : Prop :=
  (∃ C, c.mg e.nm = some (.ref C) ∧ cls = .ref C) ∧ match e.at_ with
    | none => dx = none
    | some i => ∃ d, dx = some d ∧ H d = some (.xd [("at", .int i)])

section
variable {c : Ct} {g g' g'' g0 : Gh} {H H' H'' : Hp} {st st' : S} {σ σ' : Sig}
theorem Ext.refl : Ext c g H g H := ⟨fun _ _ => ⟨rfl, rfl⟩, fun _ h => h, fun _ h => h, fun _ _ h => h, fun _ h => h⟩
theorem Ext.trans (a : Ext c g H g' H') (b : Ext c g' H' g'' H'') : Ext c g H g'' H'' where
  keep := fun x h => by
    obtain ⟨e1, e2⟩ := a.keep x h
    obtain ⟨f1, f2⟩ := b.keep x (by rw [e1]; exact h)
    exact ⟨f1.trans e1, f2.trans e2⟩
  rft := fun x h => b.rft x (a.rft x h)
  some := fun x h => b.some x (a.some x h)
  tups := fun x us h => b.tups x us (a.tups x us h)
  grow := fun x h => b.grow x (a.grow x h)
theorem Ext.frz (e : Ext c g H g' H') {a : Addr} (h : g a = .frz) : g' a = .frz ∧ H' a = H a := by
  obtain ⟨h1, h2⟩ := e.keep a (.inl h)
  exact ⟨h1.trans h, h2⟩
theorem Ext.tmp (e : Ext c g H g' H') {a : Addr} (h : g a = .tmp) : g' a = .tmp ∧ H' a = H a := by
  obtain ⟨h1, h2⟩ := e.keep a (.inr (.inl h))
  exact ⟨h1.trans h, h2⟩
theorem Ext.none (e : Ext c g H g' H') {a : Addr} (h : g' a = .none) : g a = .none := by
  by_cases q : g a = .none
  · exact q
  · exact absurd h (e.some a q)
theorem SqL.frz {K : PySem.W.Frag} {a : Addr} {us : List V} (e : H' a = H a) (h : SqL K H a us) : SqL K H' a us := by
  rcases h with h | h
  · exact .inl (by unfold Rd at h ⊢; rw [e]; exact h)
  · exact .inr h
mutual
theorem Rep.ext (e : Ext c g H g' H') : ∀ {v : Val} {x : V}, Rep c g H v x → Rep c g' H' v x
  | _, _, .non => .non
  | _, _, .bl b => .bl b
  | _, _, .int i => .int i
  | _, _, .str x => .str x
  | _, _, .ty n => .ty n
  | _, _, .fn h => .fn h
  | _, _, .tup h r => .tup (e.tups _ _ h) (Reps.ext e r)
  | _, _, .lst h1 h2 r => .lst (e.frz h1).1 ((e.frz h1).2.trans h2) (Reps.ext e r)
  | _, _, .scr h1 h2 => match h1 with
    | .inl h1 => .scr (.inl (e.frz h1).1) (SqL.frz (e.frz h1).2 h2)
    | .inr h1 => .scr (.inr h1) (h1 _)
  | _, _, .dk h1 h2 h3 r => .dk (e.frz h1).1 (by unfold Rd at h2 ⊢; rw [(e.frz h1).2]; exact h2) h3 (Reps.ext e r)
  | _, _, .dt h1 h2 h3 r => .dt (e.frz h1).1 ((e.frz h1).2.trans h2) h3 (Reps.ext e r)
theorem Reps.ext (e : Ext c g H g' H') : ∀ {vs : List Val} {xs : List V}, Reps c g H vs xs → Reps c g' H' vs xs
  | _, _, .nil => .nil
  | _, _, .cons h t => .cons (Rep.ext e h) (Reps.ext e t)
end
theorem RepO.ext (e : Ext c g H g' H') {b : Ob} {a : Addr} (hq : H' a = H a) (h : RepO c g H b a) : RepO c g' H' b a := by
  cases b with
  | none => exact h
  | lst vs => obtain ⟨us, h1, h2⟩ := h; exact ⟨us, hq.trans h1, h2.ext e⟩
  | dk ks vs => obtain ⟨us, h1, h2, h3⟩ := h; exact ⟨us, hq.trans h1, h2, h3.ext e⟩
  | dt ks vs => obtain ⟨us, h1, h2, h3⟩ := h; exact ⟨us, hq.trans h1, h2, h3.ext e⟩
theorem RepO.some {b : Ob} {a : Addr} (h : RepO c g H b a) : H a ≠ Option.none := by
  cases b with
  | none => exact h.elim
  | lst vs => obtain ⟨us, h1, _⟩ := h; rw [h1]; exact fun z => nomatch z
  | dk ks vs => obtain ⟨us, h1, _⟩ := h; rw [h1]; exact fun z => nomatch z
  | dt ks vs => obtain ⟨us, h1, _⟩ := h; rw [h1]; exact fun z => nomatch z
theorem RepE.ext (e : Ext c g H g' H') {v : EV} {x : V} (h : RepE c g0 g H σ v x) : RepE c g0 g' H' σ v x := by
  cases v with
  | p v => exact Rep.ext e h
  | f b => obtain ⟨a, e1, e2, e3, e4⟩ := h; exact ⟨a, e1, (e.tmp e2).1, e3, e4.ext e (e.tmp e2).2⟩
  | s i => exact h
  | r => obtain ⟨a, e1, e2⟩ := h; exact ⟨a, e1, e.rft a e2⟩
/-- an earlier start -/
theorem RepE.start (e : Ext c g H g' H') {v : EV} {x : V} {g1 : Gh} {H1 : Hp} (h : RepE c g' g1 H1 σ v x) : RepE c g g1 H1 σ v x := by
  cases v with
  | p v => exact h
  | f b => obtain ⟨a, e1, e2, e3, e4⟩ := h; exact ⟨a, e1, e2, e.none e3, e4⟩
  | s i => exact h
  | r => exact h
theorem Reps.length : ∀ {vs : List Val} {xs : List V}, Reps c g H vs xs → vs.length = xs.length
  | _, _, .nil => rfl
  | _, _, .cons _ t => congrArg (· + 1) (Reps.length t)
theorem Reps.get : ∀ {vs : List Val} {xs : List V} {i : Nat} {v : Val}, Reps c g H vs xs → vs[i]? = some v → ∃ x, xs[i]? = some x ∧ Rep c g H v x
  | _, _, _, _, .nil, h => by simp at h
  | _, _, 0, _, .cons r _, h => by simp at h; subst h; exact ⟨_, rfl, r⟩
  | _, _, i + 1, v, .cons _ t, h => by
    obtain ⟨x, h1, h2⟩ := Reps.get (i := i) (v := v) t (by simpa using h)
    exact ⟨x, by simpa using h1, h2⟩
theorem Reps.get' : ∀ {vs : List Val} {xs : List V} {i : Nat} {x : V}, Reps c g H vs xs → xs[i]? = some x → ∃ v, vs[i]? = some v ∧ Rep c g H v x
  | _, _, _, _, .nil, h => by simp at h
  | _, _, 0, _, .cons r _, h => by simp at h; subst h; exact ⟨_, rfl, r⟩
  | _, _, i + 1, x, .cons _ t, h => by
    obtain ⟨v, h1, h2⟩ := Reps.get' (i := i) (x := x) t (by simpa using h)
    exact ⟨v, by simpa using h1, h2⟩
theorem Reps.append : ∀ {vs ws : List Val} {xs ys : List V}, Reps c g H vs xs → Reps c g H ws ys → Reps c g H (vs ++ ws) (xs ++ ys)
  | _, _, _, _, .nil, s => s
  | _, _, _, _, .cons r t, s => .cons r (Reps.append t s)
theorem Reps.take : ∀ {vs : List Val} {xs : List V} (n : Nat), Reps c g H vs xs → Reps c g H (vs.take n) (xs.take n)
  | _, _, 0, _ => .nil
  | _, _, _ + 1, .nil => .nil
  | _, _, n + 1, .cons r t => .cons r (Reps.take n t)
theorem Reps.drop : ∀ {vs : List Val} {xs : List V} (n : Nat), Reps c g H vs xs → Reps c g H (vs.drop n) (xs.drop n)
  | _, _, 0, r => r
  | _, _, _ + 1, .nil => .nil
  | _, _, n + 1, .cons _ t => Reps.drop n t
theorem Reps.set {v : Val} {x : V} (r : Rep c g H v x) : ∀ {vs : List Val} {xs : List V} (i : Nat), Reps c g H vs xs → Reps c g H (vs.set i v) (xs.set i x)
  | _, _, _, .nil => .nil
  | _, _, 0, .cons _ t => .cons r t
  | _, _, i + 1, .cons q t => .cons q (Reps.set r i t)
theorem Reps.dropLast {vs : List Val} {xs : List V} (h : Reps c g H vs xs) : Reps c g H vs.dropLast xs.dropLast := by
  rw [List.dropLast_eq_take, List.dropLast_eq_take, h.length]; exact h.take _
theorem Reps.eraseIdx : ∀ {vs : List Val} {xs : List V} (i : Nat), Reps c g H vs xs → Reps c g H (vs.eraseIdx i) (xs.eraseIdx i)
  | _, _, _, .nil => .nil
  | _, _, 0, .cons _ t => t
  | _, _, i + 1, .cons r t => .cons r (Reps.eraseIdx i t)
theorem Reps.reverse {vs : List Val} {xs : List V} (h : Reps c g H vs xs) : Reps c g H vs.reverse xs.reverse := by
  have go : ∀ {vs : List Val} {xs : List V} {ws : List Val} {ys : List V}, Reps c g H vs xs → Reps c g H ws ys → Reps c g H (vs.reverse ++ ws) (xs.reverse ++ ys) := by
    intro vs
    induction vs with
    | nil => intro xs ws ys h1 h2; cases h1; exact h2
    | cons v vs ih =>
      intro xs ws ys h1 h2
      cases h1 with
      | cons r t =>
        rw [List.reverse_cons, List.reverse_cons, List.append_assoc, List.append_assoc]
        exact ih t (.cons r h2)
  have := go h Reps.nil
  simpa using this
/-- a value is looked at -/
theorem Rep.peek {v : Val} {x : V} (h : Rep c g H v x) : RepP c g H v x := by
  cases h with
  | lst h1 h2 r => exact ⟨_, rfl, _, h2, r⟩
  | dk h1 h2 h3 r => exact ⟨_, rfl, _, h2, h3, r⟩
  | dt h1 h2 h3 r => exact ⟨_, rfl, _, h2, h3, r⟩
  | non => exact .non
  | bl b => exact .bl b
  | int b => exact .int b
  | str b => exact .str b
  | ty b => exact .ty b
  | fn b => exact .fn b
  | tup h r => exact .tup h r
  | scr h r => exact .scr h r
theorem RepO.peek {b : Ob} {v : Val} {a : Addr} (h : RepO c g H b a) (e : b.val = Option.some v) : RepP c g H v (.ref a) := by
  cases b with
  | none => cases e
  | lst vs => cases e; exact ⟨a, rfl, h⟩
  | dk ks vs => cases e; obtain ⟨us, h1, h2⟩ := h; exact ⟨a, rfl, us, .inl h1, h2⟩
  | dt ks vs => cases e; exact ⟨a, rfl, h⟩
theorem S.get_some {i : Nat} {sv : SV} (h : st.get i = sv) (hn : sv ≠ .u) : st.sl[i]? = some sv := by
  unfold S.get at h
  cases e : st.sl[i]? with
  | none => rw [e] at h; exact absurd h.symm hn
  | some w => rw [e] at h; exact congrArg Option.some h
theorem Rel.at (R : Rel c g st σ H) {i : Nat} {sv : SV} (h : st.get i = sv) (hn : sv ≠ .u) : ∃ x, σ[i]? = some x ∧ RepS c g H i sv x := by
  have h1 := S.get_some h hn
  have hi : i < σ.length := by rw [← R.len]; exact (List.getElem?_eq_some_iff.mp h1).1
  exact ⟨σ[i], List.getElem?_eq_getElem hi, R.sl i sv _ h1 (List.getElem?_eq_getElem hi)⟩
theorem Rel.shared (R : Rel c g st σ H) {a : Addr} (h : g a = .rf) {v : Val} (hv : st.rf.val = some v) : RepO c g H st.rf a := by
  rcases R.rf with e | ⟨b, e1, e2⟩
  · rw [e] at hv; cases hv
  · rw [R.rfu a b h e1]; exact e2
theorem peek_ok (R : Rel c g st σ H) {v : EV} {x : V} (h : RepE c g0 g H σ v x) {w : Val} (hp : peek st v = some w) : RepP c g H w x := by
  cases v with
  | p v => cases hp; exact h.peek
  | f b => obtain ⟨a, rfl, _, _, h⟩ := h; exact h.peek hp
  | r =>
    obtain ⟨a, rfl, ha⟩ := h
    exact (R.shared ha hp).peek hp
  | s i =>
    unfold peek at hp
    dsimp only at hp
    have hx : σ[i]? = some (some x) := h
    cases e : st.get i with
    | p v =>
      rw [e] at hp
      obtain ⟨y, hy, r⟩ := R.at e (fun z => nomatch z)
      rw [hx] at hy; cases hy
      cases hp
      exact Rep.peek r
    | o b =>
      rw [e] at hp
      obtain ⟨y, hy, r⟩ := R.at e (fun z => nomatch z)
      rw [hx] at hy; cases hy
      obtain ⟨a, rfl, _, r⟩ := r
      exact r.peek hp
    | l b =>
      rw [e] at hp
      obtain ⟨y, hy, r⟩ := R.at e (fun z => nomatch z)
      rw [hx] at hy; cases hy
      obtain ⟨a, rfl, _, r⟩ := r
      exact r.peek hp
    | r =>
      rw [e] at hp
      obtain ⟨y, hy, r⟩ := R.at e (fun z => nomatch z)
      rw [hx] at hy; cases hy
      obtain ⟨a, rfl, ha⟩ := r
      exact (R.shared ha hp).peek hp
    | u => rw [e] at hp; cases hp
    | x => rw [e] at hp; cases hp

/-- the ghost with one address marked anew -/
def mark (g : Gh) (a : Addr) (t : Tag) : Gh := fun b => if b = a then t else g b
theorem mark_same {a : Addr} {t : Tag} : mark g a t a = t := if_pos rfl
theorem mark_ne {a b : Addr} {t : Tag} (h : b ≠ a) : mark g a t b = g b := if_neg h

/-- what one mark keeps: the new mark is no loss for what leans on still objects -/
theorem Rep.mk {a : Addr} {t : Tag} (ht : g a = .frz → t = .frz) : ∀ {v : Val} {x : V}, Rep c g H v x → Rep c (mark g a t) H v x := by
  have e : ∀ b, g b = .frz → mark g a t b = .frz := fun b h => by
    by_cases q : b = a
    · subst q; rw [mark_same]; exact ht h
    · rw [mark_ne q]; exact h
  have m : ∀ {v : Val} {x : V}, Rep c g H v x → Rep c (mark g a t) H v x := by
    intro v x h
    refine Rep.rec (motive_1 := fun v x _ => Rep c (mark g a t) H v x) (motive_2 := fun vs xs _ => Reps c (mark g a t) H vs xs) ?_ ?_ ?_ ?_ ?_ ?_ ?_ ?_ ?_ ?_ ?_ ?_ ?_ h
    · exact .non
    · intro b; exact .bl b
    · intro b; exact .int b
    · intro b; exact .str b
    · intro b; exact .ty b
    · intro _ _ h; exact .fn h
    · intro _ _ _ h _ r; exact .tup h r
    · intro _ _ _ h1 h2 _ r; exact .lst (e _ h1) h2 r
    · intro _ _ h1 h2; exact .scr (h1.imp_left (e _)) h2
    · intro _ _ _ _ h1 h2 h3 _ r; exact .dk (e _ h1) h2 h3 r
    · intro _ _ _ _ h1 h2 h3 _ r; exact .dt (e _ h1) h2 h3 r
    · exact .nil
    · intro _ _ _ _ _ _ h t; exact .cons h t
  intro v x h
  exact m h
theorem Reps.mk {a : Addr} {t : Tag} (ht : g a = .frz → t = .frz) : ∀ {vs : List Val} {xs : List V}, Reps c g H vs xs → Reps c (mark g a t) H vs xs
  | _, _, .nil => .nil
  | _, _, .cons h r => .cons (h.mk ht) (Reps.mk ht r)
theorem RepO.mk {a : Addr} {t : Tag} (ht : g a = .frz → t = .frz) {b : Ob} {d : Addr} (h : RepO c g H b d) : RepO c (mark g a t) H b d := by
  cases b with
  | none => exact h
  | lst vs => obtain ⟨us, h1, h2⟩ := h; exact ⟨us, h1, h2.mk ht⟩
  | dk ks vs => obtain ⟨us, h1, h2, h3⟩ := h; exact ⟨us, h1, h2, h3.mk ht⟩
  | dt ks vs => obtain ⟨us, h1, h2, h3⟩ := h; exact ⟨us, h1, h2, h3.mk ht⟩
/-- a new object, tracked: the marks and the objects that stood are as they were -/
theorem Rel.new (R : Rel c g st σ H) {p : Addr} (hp : H p = none) (o : HO) (t : Tag) (ht : t ≠ .rf) (hty : t = .tmp ∨ t = .frz) : Rel c (mark g p t) st σ (upd H p o) ∧ Ext c g H (mark g p t) (upd H p o) := by
  have gp : g p = .none := by
    by_cases q : g p = .none
    · exact q
    · exact absurd hp (R.dom p q)
  have ne : ∀ a, g a ≠ .none → a ≠ p := fun a h z => h (by rw [z]; exact gp)
  have E : Ext c g H (mark g p t) (upd H p o) := by
    refine ⟨fun a h => ?_, fun a h => ?_, fun a h => ?_, fun a us h => ?_, fun a h => ?_⟩
    · have : a ≠ p := ne a (by rcases h with h | h | h | ⟨i, h⟩ <;> rw [h] <;> exact fun z => nomatch z)
      exact ⟨mark_ne this, upd_ne this⟩
    · rw [mark_ne (ne a (by rw [h]; exact fun z => nomatch z))]; exact h
    · rw [mark_ne (ne a h)]; exact h
    · rw [upd_ne (ne_of_none h hp)]; exact h
    · by_cases q : a = p
      · rw [q, upd_same]; exact fun z => nomatch z
      · rw [upd_ne q]; exact h
  have RO : ∀ b a, g a ≠ .none → RepO c g H b a → RepO c (mark g p t) (upd H p o) b a := fun b a ha h => h.ext E (upd_ne (ne a ha))
  refine ⟨⟨R.len, fun i sv x h1 h2 => ?_, ?_, fun a b h1 h2 => ?_, fun a h => ?_, fun a h => ?_, fun a i h => ?_, fun a h => E.grow a (R.grow a h)⟩, E⟩
  · have q := R.sl i sv x h1 h2
    cases sv with
    | p v => cases x with | none => exact q | some x => exact Rep.ext E q
    | o b => cases x with | none => exact q | some x => obtain ⟨a, e1, e2, e3⟩ := q; exact ⟨a, e1, by rw [mark_ne (ne a (by rw [e2]; exact fun z => nomatch z))]; exact e2, RO b a (by rw [e2]; exact fun z => nomatch z) e3⟩
    | l b => cases x with | none => exact q | some x => obtain ⟨a, e1, e2, e3⟩ := q; exact ⟨a, e1, by rw [mark_ne (ne a (by rw [e2]; exact fun z => nomatch z))]; exact e2, RO b a (by rw [e2]; exact fun z => nomatch z) e3⟩
    | r => cases x with | none => exact q | some x => obtain ⟨a, e1, e2⟩ := q; exact ⟨a, e1, E.rft a e2⟩
    | u => cases x <;> exact trivial
    | x => cases x with | none => exact q | some x => exact q
  · rcases R.rf with e | ⟨a, e1, e2⟩
    · exact .inl e
    · exact .inr ⟨a, E.rft a e1, RO _ a (by rw [e1]; exact fun z => nomatch z) e2⟩
  · have h1' : g a = .rf := by
      by_cases q : a = p
      · rw [q, mark_same] at h1; exact absurd h1 ht
      · rw [mark_ne q] at h1; exact h1
    have h2' : g b = .rf := by
      by_cases q : b = p
      · rw [q, mark_same] at h2; exact absurd h2 ht
      · rw [mark_ne q] at h2; exact h2
    exact R.rfu a b h1' h2'
  · by_cases q : a = p
    · rw [q, upd_same]; exact fun z => nomatch z
    · rw [mark_ne q] at h; rw [upd_ne q]; exact R.dom a h
  · by_cases q : a = p
    · rw [q]
      by_cases z : c.B p = none
      · exact z
      · exact absurd hp (R.grow p z)
    · rw [mark_ne q] at h; exact R.young a h
  · by_cases q : a = p
    · rw [q, mark_same] at h
      rcases hty with z | z <;> rw [z] at h <;> cases h
    · rw [mark_ne q] at h; exact R.lkd a i h
/-- a mark is set anew at an object that the slots but i do not lean on -/
theorem Rel.remark (R : Rel c g st σ H) {a : Addr} (h : g a = .tmp ∨ ∃ i, g a = .own i) (t : Tag) (ht : t = .frz ∨ ∃ i, t = .own i)
    {sl' : List SV} {σ' : Sig} (hlen : sl'.length = σ'.length) (hl : ∀ b i, g b = .lk i → ∃ ob, sl'[i]? = some (.l ob) ∧ σ'[i]? = some (some (.ref b)))
    (hs : ∀ i sv x, sl'[i]? = some sv → σ'[i]? = some x → RepS c (mark g a t) H i sv x) : Rel c (mark g a t) ⟨sl', st.rf⟩ σ' H := by
  have hf : g a = .frz → t = .frz := fun q => by rcases h with h | ⟨i, h⟩ <;> rw [h] at q <;> cases q
  have hr : t ≠ .rf := by rcases ht with e | ⟨i, e⟩ <;> rw [e] <;> exact fun z => nomatch z
  have gr : g a ≠ .rf := by rcases h with h | ⟨i, h⟩ <;> rw [h] <;> exact fun z => nomatch z
  have rn : ∀ b, mark g a t b = .rf → g b = .rf := fun b q => by
    by_cases z : b = a
    · rw [z, mark_same] at q; exact absurd q hr
    · rw [mark_ne z] at q; exact q
  refine ⟨hlen, hs, ?_, fun b d h1 h2 => R.rfu b d (rn b h1) (rn d h2), fun b q => ?_, fun b q => ?_, fun b i q => ?_, R.grow⟩
  · rcases R.rf with e | ⟨b, e1, e2⟩
    · exact .inl e
    · refine .inr ⟨b, ?_, e2.mk hf⟩
      rw [mark_ne (fun z : b = a => gr (by rw [← z]; exact e1))]; exact e1
  · by_cases z : b = a
    · rw [z]; exact R.dom a (by rcases h with h | ⟨i, h⟩ <;> rw [h] <;> exact fun z => nomatch z)
    · rw [mark_ne z] at q; exact R.dom b q
  · by_cases z : b = a
    · rw [z]; exact R.young a (h.imp_right .inl)
    · rw [mark_ne z] at q; exact R.young b q
  · by_cases z : b = a
    · rw [z, mark_same] at q
      rcases ht with e | ⟨j, e⟩ <;> rw [e] at q <;> cases q
    · rw [mark_ne z] at q; exact hl b i q
/-- the locked slots are as they were where a slot that is not locked is set -/
theorem lkd_set (R : Rel c g st σ H) {i : Nat} {v : SV} (h : ∀ b, st.get i ≠ .l b) : ∀ b j, g b = .lk j → ∃ ob, (st.sl.set i v)[j]? = some (.l ob) ∧ σ[j]? = some (some (.ref b)) := fun b j q => by
  obtain ⟨ob, h1, h2⟩ := R.lkd b j q
  by_cases hj : i = j
  · subst hj
    exact absurd (by unfold S.get; rw [h1]) (h ob)
  · exact ⟨ob, by rw [List.getElem?_set_ne hj]; exact h1, h2⟩
theorem lkd_set2 (R : Rel c g st σ H) {i : Nat} {v : SV} {x : Option V} (h : ∀ b, st.get i ≠ .l b) : ∀ b j, g b = .lk j → ∃ ob, (st.sl.set i v)[j]? = some (.l ob) ∧ (σ.set i x)[j]? = some (some (.ref b)) := fun b j q => by
  obtain ⟨ob, h1, h2⟩ := R.lkd b j q
  by_cases hj : i = j
  · subst hj
    exact absurd (by unfold S.get; rw [h1]) (h ob)
  · exact ⟨ob, by rw [List.getElem?_set_ne hj]; exact h1, by rw [List.getElem?_set_ne hj]; exact h2⟩
theorem RepS.mk {a : Addr} {t : Tag} (hf : g a = .frz → t = .frz) {i : Nat} (ho : g a ≠ .own i) (hr : g a ≠ .rf) (hl : g a ≠ .lk i) {sv : SV} {x : Option V} (h : RepS c g H i sv x) : RepS c (mark g a t) H i sv x := by
  have ne : ∀ b, g b = .own i → b ≠ a := fun b q z => ho (z ▸ q)
  have nr : ∀ b, g b = .rf → b ≠ a := fun b q z => hr (z ▸ q)
  cases sv with
  | p v => cases x with | none => exact h | some x => exact Rep.mk hf h
  | o b => cases x with | none => exact h | some x => obtain ⟨d, e1, e2, e3⟩ := h; exact ⟨d, e1, by rw [mark_ne (ne d e2)]; exact e2, e3.mk hf⟩
  | l b => cases x with | none => exact h | some x => obtain ⟨d, e1, e2, e3⟩ := h; exact ⟨d, e1, by rw [mark_ne (fun z => hl (by rw [← z]; exact e2))]; exact e2, e3.mk hf⟩
  | r => cases x with | none => exact h | some x => obtain ⟨d, e1, e2⟩ := h; exact ⟨d, e1, by rw [mark_ne (nr d e2)]; exact e2⟩
  | u => cases x <;> exact trivial
  | x => cases x with | none => exact h | some x => exact h
/-- from an earlier start, over a mark at an object that is younger than the start -/
theorem Ext.remark {a : Addr} {t : Tag} (e : Ext c g H g' H') (h0 : g a = .none) (ht : t ≠ .none) : Ext c g H (mark g' a t) H' := by
  have ne : ∀ b, g b ≠ .none → b ≠ a := fun b q z => q (z ▸ h0)
  refine ⟨fun b q => ?_, fun b q => ?_, fun b q => ?_, e.tups, e.grow⟩
  · have : b ≠ a := ne b (by rcases q with q | q | q | ⟨i, q⟩ <;> rw [q] <;> exact fun z => nomatch z)
    rw [mark_ne this]; exact e.keep b q
  · rw [mark_ne (ne b (by rw [q]; exact fun z => nomatch z))]; exact e.rft b q
  · rw [mark_ne (ne b q)]; exact e.some b q
/-- .. or at an own object -/
theorem Ext.remarkOwn {a : Addr} {t : Tag} {i : Nat} (e : Ext c g H g' H') (h0 : g' a = .own i) (ht : t ≠ .none) : Ext c g H (mark g' a t) H' := by
  have ne : ∀ b, g' b ≠ .own i → b ≠ a := fun b q z => q (z ▸ h0)
  refine ⟨fun b q => ?_, fun b q => ?_, fun b q => ?_, e.tups, e.grow⟩
  · obtain ⟨k1, k2⟩ := e.keep b q
    have : b ≠ a := ne b (by rw [k1]; rcases q with q | q | q | ⟨j, q⟩ <;> rw [q] <;> exact fun z => nomatch z)
    rw [mark_ne this]; exact ⟨k1, k2⟩
  · have k := e.rft b q
    rw [mark_ne (ne b (by rw [k]; exact fun z => nomatch z))]; exact k
  · by_cases z : b = a
    · rw [z, mark_same]; exact ht
    · rw [mark_ne z]; exact e.some b q
theorem RepO.toRep {b : Ob} {v : Val} {a : Addr} (h : RepO c g H b a) (e : b.val = Option.some v) (hg : g a = .frz) : Rep c g H v (.ref a) := by
  cases b with
  | none => cases e
  | lst vs => cases e; obtain ⟨us, h1, h2⟩ := h; exact .lst hg h1 h2
  | dk ks vs => cases e; obtain ⟨us, h1, h2, h3⟩ := h; exact .dk hg (.inl h1) h2 h3
  | dt ks vs => cases e; obtain ⟨us, h1, h2, h3⟩ := h; exact .dt hg h1 h2 h3
/-- THE TAKING -/
theorem take_ok (E : Ext c g0 H' g H) (R : Rel c g st σ H) {v : EV} {x : V} (h : RepE c g0 g H σ v x) {w : Val} (hp : take st v = some (w, st')) :
    ∃ g', Ext c g0 H' g' H ∧ Rel c g' st' σ H ∧ Rep c g' H w x := by
  have own : ∀ (a : Addr) (b : Ob) (w : Val), (g a = .tmp ∨ ∃ i, g a = .own i) → RepO c g H b a → b.val = some w → Rep c (mark g a .frz) H w (.ref a) := fun a b w ha hb he =>
    (hb.mk fun _ => rfl).toRep he mark_same
  cases v with
  | p v => cases hp; exact ⟨g, E, R, h⟩
  | f b =>
    obtain ⟨a, rfl, h1, h2, h3⟩ := h
    unfold take at hp
    dsimp only at hp
    cases e : b.val with
    | none => rw [e] at hp; cases hp
    | some w' =>
      rw [e] at hp
      cases hp
      refine ⟨mark g a .frz, E.remark h2 (fun z => nomatch z), ?_, own a b w (.inl h1) h3 e⟩
      exact R.remark (.inl h1) .frz (.inl rfl) R.len R.lkd fun i sv x q1 q2 => (R.sl i sv x q1 q2).mk (fun q => rfl) (by rw [h1]; exact fun z => nomatch z) (by rw [h1]; exact fun z => nomatch z) (by rw [h1]; exact fun z => nomatch z)
  | r => cases hp
  | s i =>
    unfold take at hp
    dsimp only at hp
    have hx : σ[i]? = some (some x) := h
    cases e : st.get i with
    | p v =>
      simp only [e] at hp
      cases hp
      obtain ⟨y, hy, r⟩ := R.at e (fun z => nomatch z)
      rw [hx] at hy; cases hy
      exact ⟨g, E, R, r⟩
    | o b =>
      simp only [e] at hp
      obtain ⟨y, hy, r⟩ := R.at e (fun z => nomatch z)
      rw [hx] at hy; cases hy
      obtain ⟨a, rfl, r1, r2⟩ := r
      cases e2 : b.val with
      | none => rw [e2] at hp; cases hp
      | some w' =>
        rw [e2] at hp
        cases hp
        have rw' := own a b w (.inr ⟨i, r1⟩) r2 e2
        refine ⟨mark g a .frz, E.remarkOwn r1 (fun z => nomatch z), ?_, rw'⟩
        refine R.remark (.inr ⟨i, r1⟩) .frz (.inl rfl) (by rw [List.length_set]; exact R.len) (lkd_set R (by rw [e]; exact fun _ z => nomatch z)) fun j sv y q1 q2 => ?_
        by_cases hj : j = i
        · subst hj
          rw [List.getElem?_set_self (by have := (List.getElem?_eq_some_iff.mp (S.get_some e (fun z => nomatch z))).1; exact this)] at q1
          cases q1
          rw [hx] at q2; cases q2
          exact rw'
        · rw [List.getElem?_set_ne (Ne.symm hj)] at q1
          refine (R.sl j sv y q1 q2).mk (fun q => rfl) ?_ (by rw [r1]; exact fun z => nomatch z) (by rw [r1]; exact fun z => nomatch z)
          rw [r1]; intro z; exact hj (Tag.own.inj z).symm
    | l b => simp only [e] at hp; cases hp
    | r => simp only [e] at hp; cases hp
    | u => simp only [e] at hp; cases hp
    | x => simp only [e] at hp; cases hp
end
end Y
end

section
set_option Elab.async false
set_option linter.all false
set_option maxRecDepth 100000
namespace Y
open PySem PySem.Spec PyProof.Rows L2

/-! ## readings -/
abbrev WXs := Value → Option Addr → Sig → Hp → Prop
def Post {α : Type} (c : Ct) (W : WXs) (g : Gh) (H : Hp) (σ : Sig) (r : R α) (k : α → S → Gh → Hp → Prop) : Prop := match r with
  | .ok a st' => ∀ g' H', Ext c g H g' H' → Rel c g' st' σ H' → k a st' g' H'
  | .ex e st' => ∀ g' H' cls dx, Ext c g H g' H' → Rel c g' st' σ H' → RepX c H' e cls dx → W cls dx σ H'
  | .bad => False
section
variable {α β : Type} {c : Ct} {W : WXs} {g g1 : Gh} {H H1 : Hp} {σ : Sig} {r : R α}
theorem Post.mono {k k' : α → S → Gh → Hp → Prop} (h : Post c W g H σ r k) (m : ∀ a st' g' H', Ext c g H g' H' → Rel c g' st' σ H' → k a st' g' H' → k' a st' g' H') : Post c W g H σ r k' := by
  cases r with
  | ok a st => exact fun g' H' e q => m _ _ _ _ e q (h g' H' e q)
  | ex e st => exact h
  | bad => exact h
theorem Post.start {k : α → S → Gh → Hp → Prop} (e : Ext c g H g1 H1) (h : Post c W g H σ r k) : Post c W g1 H1 σ r k := by
  cases r with
  | ok a st => exact fun g' H' e' q => h g' H' (e.trans e') q
  | ex x st => exact fun g' H' cls dx e' q => h g' H' cls dx (e.trans e') q
  | bad => exact h
theorem Post.bind {f : α → S → R β} {k : β → S → Gh → Hp → Prop} (h : Post c W g H σ (r.bind f) k) : Post c W g H σ r fun a st' g' H' => Post c W g' H' σ (f a st') k := by
  cases r with
  | ok a st => exact fun g' H' e q => Post.start e h
  | ex x st => exact h
  | bad => exact h
end
def kE (c : Ct) (g : Gh) (σ : Sig) (Q : VK) : EV → S → Gh → Hp → Prop := fun v _ g' H' => ∀ x, RepE c g g' H' σ v x → Q x H'
def tE (c : Ct) (W : WXs) (d : S → R EV) : TE := fun σ H Q => ∃ g st, Rel c g st σ H ∧ Post c W g H σ (d st) (kE c g σ Q)
def tT (c : Ct) (W : WXs) (d : S → R Bool) : TT := fun σ H Q => ∃ g st, Rel c g st σ H ∧ Post c W g H σ (d st) fun b _ _ H' => Q b H'
def tA (c : Ct) (W : WXs) (d : S → R (List Val)) : TA := fun σ H Q => ∃ g st, Rel c g st σ H ∧ Post c W g H σ (d st) fun vs _ g' H' => ∀ xs, Reps c g' H' vs xs → Q xs H'
def SE (X : Cx) (c : Ct) (W : WXs) (e : Expr) (d : S → R EV) : Prop := PE X e (tE c W d)
def ST (X : Cx) (c : Ct) (W : WXs) (e : Expr) (d : S → R Bool) : Prop := PT X e (tT c W d)
def SW (X : Cx) (c : Ct) (W : WXs) (e : Expr) (d : S → R Bool) : Prop := PW X e (tT c W d)
/-- arguments that are kept -/
def SA (X : Cx) (c : Ct) (W : WXs) (es : List Expr) (d : S → R (List Val)) : Prop := PA X es (tA c W d)
/-- what every context of a def's body has -/
structure Good (X : Cx) (c : Ct) (k : Nat) : Prop where
  P : X.prog = c.P
  w : X.w = c.w
  base : X.base = c.base
  K : X.K = c.K
  mg : X.mg = c.mg
  calm : X.calm = true
  nd : X.N.Nodup
  hr : Room k X.A
structure Soft (X : Cx) (c : Ct) : Prop where
  K : X.K = c.K
  mg : X.mg = c.mg
theorem Good.soft {X : Cx} {c : Ct} {k : Nat} (G : Good X c k) : Soft X c := ⟨G.K, G.mg⟩
theorem impE {X : Cx} {e : Expr} {t t' : TE} (h : PE X e t) (m : ∀ σ H Q, t' σ H Q → t σ H Q) : PE X e t' := ⟨fun pins s σ H Q I q => h.run pins s σ H Q I (m _ _ _ q)⟩
theorem impT {X : Cx} {e : Expr} {t t' : TT} (h : PT X e t) (m : ∀ σ H Q, t' σ H Q → t σ H Q) : PT X e t' := ⟨fun pins s σ H Q I q => h.run pins s σ H Q I (m _ _ _ q)⟩
theorem impW {X : Cx} {e : Expr} {t t' : TT} (h : PW X e t) (m : ∀ σ H Q, t' σ H Q → t σ H Q) : PW X e t' := ⟨fun wh pins s σ H Q I q => h.run wh pins s σ H Q I (m _ _ _ q)⟩
theorem impA {X : Cx} {e : List Expr} {t t' : TA} (h : PA X e t) (m : ∀ σ H Q, t' σ H Q → t σ H Q) : PA X e t' := ⟨fun pos pins s σ H Q I q => h.run pos pins s σ H Q I (m _ _ _ q)⟩
theorem impS {X : Cx} {e : Stmt} {t t' : TS} (h : PS X e t) (m : ∀ D σ H, t' D σ H → t D σ H) : PS X e t' := ⟨fun pins s σ H D I q => h.run pins s σ H D I (m _ _ _ q)⟩
theorem impSs {X : Cx} {e : List Stmt} {t t' : TS} (h : PSs X e t) (m : ∀ D σ H, t' D σ H → t D σ H) : PSs X e t' := ⟨fun pins s σ H D I q => h.run pins s σ H D I (m _ _ _ q)⟩

/-! ## constants, names -/
def eC (v : Val) : S → R EV := fun st => .ok (.p v) st
section
variable {X : Cx} {c : Ct} {W : WXs} {k : Nat} {pos : Pos}
theorem se_const {e : Expr} {v : V} {w : Val} (h : PE X e (tC v)) (r : ∀ g H, Rep c g H w v) : SE X c W e (eC w) :=
  impE h fun σ H Q ⟨g, st, R, q⟩ => q g H Ext.refl R v (r g H)
theorem se_int {i j} : SE X c W (.Constant (.int i) j pos) (eC (.int i)) := se_const pe_int fun _ _ => .int i
theorem se_bl {i j} : SE X c W (.Constant (.bool i) j pos) (eC (.bl i)) := se_const pe_bl fun _ _ => .bl i
theorem se_non {j} : SE X c W (.Constant .none j pos) (eC .non) := se_const pe_non fun _ _ => .non
theorem se_str {i j} : SE X c W (.Constant (.str i) j pos) (eC (.str i)) := se_const pe_str fun _ _ => .str i
/-- a def of the module as a value -/
theorem se_fn (G : Good X c k) {x : Str} {f : Addr} (hg : Gl X x) (hm : c.mg x = some (.ref f)) (hd : (x == ("__debug__" : Str)) = false := by decide) : SE X c W (.Name x pos) (eC (.fn x)) :=
  se_const (pe_glob (v := .ref f) hg (by rw [G.mg]; exact hm) rfl hd) fun _ _ => .fn hm
/-- an int or a text of the module -/
theorem se_gint (G : Good X c k) {x : Str} {i : Int} {t : Tok} (hg : Gl X x) (hm : c.mg x = some (.int i t)) (hd : (x == ("__debug__" : Str)) = false := by decide) : SE X c W (.Name x pos) (eC (.int i)) :=
  se_const (pe_glob (v := .int i) hg (by rw [G.mg]; exact hm) ⟨_, rfl⟩ hd) fun _ _ => .int i
theorem se_gstr (G : Good X c k) {x : Str} {i : Str} {t : Tok} (hg : Gl X x) (hm : c.mg x = some (.str i t)) (hd : (x == ("__debug__" : Str)) = false := by decide) : SE X c W (.Name x pos) (eC (.str i)) :=
  se_const (pe_glob (v := .str i) hg (by rw [G.mg]; exact hm) ⟨_, rfl⟩ hd) fun _ _ => .str i
/-- a built-in type as a value -/
theorem se_bty (G : Good X c k) {x : Str} {n : String} (hg : Gl X x) (hm : c.mg x = none) (hv : bootBuiltins x = some (.type n)) (hn : x ≠ "__name__" := by decide) (hd : (x == ("__debug__" : Str)) = false := by decide) : SE X c W (.Name x pos) (eC (.ty n)) :=
  se_const (pe_bltn (v := .ty n) hg (by rw [G.mg]; exact hm) hv rfl hn hd) fun _ _ => .ty n
def eVar (i : Nat) : S → R EV := fun st => match st.get i with
  | .p v => .ok (.p v) st
  | .o _ => .ok (.s i) st
  | .l _ => .ok (.s i) st
  | .r => .ok .r st
  | _ => .bad
theorem se_var (i : Nat) {x : Str} (hN : X.N[i]? = some x := by rfl) (hv : Vis X.env.scope x := by first | exact Or.inl rfl | exact Or.inr (Or.inl rfl) | exact Or.inr (Or.inr rfl)) (hd : (x == ("__debug__" : Str)) = false := by decide)
    (hcd : (x == ("__classdict__" : Str)) = false := by decide) : SE X c W (.Name x pos) (eVar i) := by
  refine impE (pe_var hN hv hd hcd) fun σ H Q ⟨g, st, R, q⟩ => ?_
  unfold eVar at q
  cases e : st.get i with
  | u => rw [e] at q; exact q.elim
  | x => rw [e] at q; exact q.elim
  | p v =>
    rw [e] at q
    obtain ⟨x, h1, h2⟩ := R.at e (fun z => nomatch z)
    cases x with
    | none => exact h2.elim
    | some x => exact ⟨x, h1, q g H Ext.refl R x h2⟩
  | o b =>
    rw [e] at q
    obtain ⟨x, h1, h2⟩ := R.at e (fun z => nomatch z)
    cases x with
    | none => exact h2.elim
    | some x => exact ⟨x, h1, q g H Ext.refl R x h1⟩
  | l b =>
    rw [e] at q
    obtain ⟨x, h1, h2⟩ := R.at e (fun z => nomatch z)
    cases x with
    | none => exact h2.elim
    | some x => exact ⟨x, h1, q g H Ext.refl R x h1⟩
  | r =>
    rw [e] at q
    obtain ⟨x, h1, h2⟩ := R.at e (fun z => nomatch z)
    cases x with
    | none => exact h2.elim
    | some x => exact ⟨x, h1, q g H Ext.refl R x h2⟩
end

/-! ## operators of two values -/
def eB2 (op : Val → Val → Option EV) (a b : S → R EV) : S → R EV := fun st => (a st).bind fun x st1 => (b st1).bind fun y st2 =>
  match peek st2 x, peek st2 y with
  | some v, some w => match op v w with
    | some r => .ok r st2
    | none => .bad
  | _, _ => .bad
def rB (c : Ct) (op : Val → Val → Option EV) : R2 := fun x y H Q => ∃ g st σ v w res, Rel c g st σ H ∧ RepP c g H v x ∧ RepP c g H w y ∧ op v w = some res ∧
  ∀ g' H' z, Ext c g H g' H' → Rel c g' st σ H' → RepE c g g' H' σ res z → Q z H'
section
variable {X : Cx} {c : Ct} {W : WXs} {k : Nat} {pos : Pos} {a b : Expr} {da db : S → R EV} {op : Val → Val → Option EV}
theorem b2_step {g : Gh} {H : Hp} {σ : Sig} {st : S} {Q : VK} (R : Rel c g st σ H) (q : Post c W g H σ (eB2 op da db st) (kE c g σ Q)) :
    tE c W da σ H fun x H1 => tE c W db σ H1 fun y H2 => rB c op x y H2 Q := by
  refine ⟨g, st, R, Post.mono q.bind fun v st1 g1 H1 e1 R1 q1 => fun x rx => ⟨g1, st1, R1, Post.mono q1.bind fun w st2 g2 H2 e2 R2 q2 => fun y ry => ?_⟩⟩
  revert q2
  cases pv : peek st2 v with
  | none => exact fun z => z.elim
  | some v' =>
    cases pw : peek st2 w with
    | none => exact fun z => z.elim
    | some w' =>
      dsimp only
      cases po : op v' w' with
      | none => exact fun z => z.elim
      | some res =>
        intro q2
        refine ⟨g2, st2, σ, v', w', res, R2, peek_ok R2 (RepE.ext e2 rx) pv, peek_ok R2 ry pw, po, fun g' H' z e3 R3 rz => q2 g' H' e3 R3 z (RepE.start (e1.trans e2) rz)⟩
theorem se_bin {o : Operator} (ho : OpR X (binaryOp o) (rB c op)) (ha : SE X c W a da) (hb : SE X c W b db) : SE X c W (.BinOp a o b pos) (eB2 op da db) :=
  impE (pe_op ho ha hb) fun σ H Q ⟨g, st, R, q⟩ => b2_step R q
theorem se_cmp {o : CmpOp} (ho : OpR X (compareOp o) (rB c op)) (ha : SE X c W a da) (hb : SE X c W b db) (hm : behindInMarks o b = false) : SE X c W (.Compare a [o] [b] pos) (eB2 op da db) :=
  impE (pe_cmpR ho ha hb hm) fun σ H Q ⟨g, st, R, q⟩ => b2_step R q
theorem se_ix (ho : IxR X (rB c op)) (ha : SE X c W a da) (hb : SE X c W b db) (hs : PlainIx b) : SE X c W (.Subscript a b pos) (eB2 op da db) :=
  impE (pe_ix ho ha hb hs) fun σ H Q ⟨g, st, R, q⟩ => b2_step R q
/-- .. as a test -/
def asB (d : S → R EV) : S → R Bool := fun st => (d st).bind fun v st' => match v with
  | .p (.bl b) => .ok b st'
  | _ => .bad
theorem asB_post {g : Gh} {H : Hp} {σ : Sig} {st : S} {d : S → R EV} {Q : Bool → Hp → Prop} (q : Post c W g H σ (asB d st) fun b _ _ H' => Q b H') :
    Post c W g H σ (d st) (kE c g σ fun x H' => ∃ k, x = .bl k ∧ Q k H') := by
  refine Post.mono q.bind fun v st1 g1 H1 e1 R1 q1 x rx => ?_
  match v, q1 with
  | .p (.bl b), q1 => cases rx; exact ⟨b, rfl, q1 g1 H1 Ext.refl R1⟩
theorem st_cmp {o : CmpOp} (ho : OpR X (compareOp o) (rB c op)) (ha : SE X c W a da) (hb : SE X c W b db) (hm : behindInMarks o b = false) : ST X c W (.Compare a [o] [b] pos) (asB (eB2 op da db)) :=
  impT (pt_cmpR ho ha hb hm) fun σ H Q ⟨g, st, R, q⟩ => b2_step R (asB_post q)
/-- a < b < c -/
def eChain (op op' : Val → Val → Option EV) (a b d : S → R EV) : S → R EV := fun st => (a st).bind fun x st1 => (b st1).bind fun y st2 =>
  match peek st2 x, peek st2 y with
  | some v, some w => match op v w with
    | some (.p (.bl true)) => (d st2).bind fun z st3 => match peek st3 y, peek st3 z with
      | some w, some u => match op' w u with
        | some r => .ok r st3
        | none => .bad
      | _, _ => .bad
    | some (.p (.bl false)) => .ok (.p (.bl false)) st2
    | _ => .bad
  | _, _ => .bad
theorem chain_step {op' : Val → Val → Option EV} {d : S → R EV} {g : Gh} {H : Hp} {σ : Sig} {st : S} {Q : VK} (R : Rel c g st σ H) (q : Post c W g H σ (eChain op op' da db d st) (kE c g σ Q)) :
    tE c W da σ H fun x H1 => tE c W db σ H1 fun y H2 => rB c op x y H2 fun z H3 => ∃ k, z = .bl k ∧ (if k = true then tE c W d σ H3 fun w' H4 => rB c op' y w' H4 Q else Q (.bl false) H3) := by
  refine ⟨g, st, R, Post.mono q.bind fun v st1 g1 H1 e1 R1 q1 => fun x rx => ⟨g1, st1, R1, Post.mono q1.bind fun w st2 g2 H2 e2 R2 q2 => fun y ry => ?_⟩⟩
  revert q2
  cases pv : peek st2 v with
  | none => exact fun z => z.elim
  | some v' =>
    cases pw : peek st2 w with
    | none => exact fun z => z.elim
    | some w' =>
      dsimp only
      cases po : op v' w' with
      | none => exact fun z => z.elim
      | some res =>
        match res with
        | .f _ => exact fun z => z.elim
        | .s _ => exact fun z => z.elim
        | .r => exact fun z => z.elim
        | .p .non => exact fun z => z.elim
        | .p (.int _) => exact fun z => z.elim
        | .p (.str _) => exact fun z => z.elim
        | .p (.tup _) => exact fun z => z.elim
        | .p (.lst _) => exact fun z => z.elim
        | .p (.dk _ _) => exact fun z => z.elim
        | .p (.dt _ _) => exact fun z => z.elim
        | .p (.scr _) => exact fun z => z.elim
        | .p (.fn _) => exact fun z => z.elim
        | .p (.ty _) => exact fun z => z.elim
        | .p (.bl false) =>
          intro q2
          refine ⟨g2, st2, σ, v', w', _, R2, peek_ok R2 (RepE.ext e2 rx) pv, peek_ok R2 ry pw, po, fun g3 H3 z e3 R3 rz => ?_⟩
          cases rz
          exact ⟨false, rfl, q2 g3 H3 e3 R3 _ (.bl false)⟩
        | .p (.bl true) =>
          intro q2
          refine ⟨g2, st2, σ, v', w', _, R2, peek_ok R2 (RepE.ext e2 rx) pv, peek_ok R2 ry pw, po, fun g3 H3 z e3 R3 rz => ?_⟩
          cases rz
          refine ⟨true, rfl, g3, st2, R3, Post.mono (Post.start e3 (Post.bind q2)) fun u st4 g4 H4 e4 R4 q4 => fun z rz => ?_⟩
          revert q4
          cases pv : peek st4 w with
          | none => exact fun z => z.elim
          | some v2 =>
            cases pw : peek st4 u with
            | none => exact fun z => z.elim
            | some w2 =>
              dsimp only
              cases po : op' v2 w2 with
              | none => exact fun z => z.elim
              | some res =>
                intro q4
                exact ⟨g4, st4, σ, v2, w2, res, R4, peek_ok R4 (RepE.ext (e3.trans e4) ry) pv, peek_ok R4 rz pw, po, fun g' H' z e5 R5 rz => q4 g' H' e5 R5 z (RepE.start (e1.trans (e2.trans (e3.trans e4))) rz)⟩
theorem se_chain {op' : Val → Val → Option EV} {o o' : CmpOp} {d : Expr} {dd : S → R EV} (ho : OpR X (compareOp o) (rB c op)) (ho' : OpR X (compareOp o') (rB c op')) (ha : SE X c W a da) (hb : SE X c W b db) (hd : SE X c W d dd)
    (hm : lastMarks [o, o'] [b, d] = false := by with_unfolding_all rfl) : SE X c W (.Compare a [o, o'] [b, d] pos) (eChain op op' da db dd) :=
  impE (pe_chain ho ho' ha hb hd hm) fun σ H Q ⟨g, st, R, q⟩ => chain_step R q
theorem st_chain {op' : Val → Val → Option EV} {o o' : CmpOp} {d : Expr} {dd : S → R EV} (ho : OpR X (compareOp o) (rB c op)) (ho' : OpR X (compareOp o') (rB c op')) (ha : SE X c W a da) (hb : SE X c W b db) (hd : SE X c W d dd)
    (hm : lastMarks [o, o'] [b, d] = false := by with_unfolding_all rfl) : ST X c W (.Compare a [o, o'] [b, d] pos) (asB (eChain op op' da db dd)) :=
  impT (pt_chain ho ho' ha hb hd hm) fun σ H Q ⟨g, st, R, q⟩ => chain_step R (asB_post q)
/-- a bool as a test -/
theorem st_val {e : Expr} {d : S → R EV} (h : SE X c W e d) (he : ∀ whole, isTrue e X.env whole = (do let v ← whole; standAt e.pos; holding [v] (truthy v)) := by intro _; rfl) : ST X c W e (asB d) :=
  impT (pt_val h he) fun σ H Q ⟨g, st, R, q⟩ => ⟨g, st, R, asB_post q⟩
/-- any value as a test -/
def truth : Val → Option Bool
  | .non => some false
  | .bl b => some b
  | .int i => some (i != 0)
  | .str x => if x.length ≤ 16777216 then some ((x.length : Int) != 0) else none
  | .tup xs => some (!xs.isEmpty)
  | .lst xs => some (!xs.isEmpty)
  | .scr xs => some (!xs.isEmpty)
  | _ => none
def asT (d : S → R EV) : S → R Bool := fun st => (d st).bind fun v st' => match peek st' v with
  | some w => match truth w with
    | some b => .ok b st'
    | none => .bad
  | none => .bad
theorem reps_empty {g : Gh} {H : Hp} {vs : List Val} {us : List V} (r : Reps c g H vs us) : (!vs.isEmpty) = !us.isEmpty := by cases r <;> rfl
theorem zip_empty {α β : Type} {ks : List α} {us : List β} (h : ks.length = us.length) : (!ks.isEmpty) = !(ks.zip us).isEmpty := by
  cases ks with
  | nil => rfl
  | cons k ks => cases us with
    | nil => cases h
    | cons u us => rfl
theorem tru_of {g : Gh} {H : Hp} {w : Val} {x : V} {b : Bool} (r : RepP c g H w x) (h : truth w = some b) : TruV c.K x H b := by
  cases w with
  | non => cases r; cases h; rfl
  | bl k => cases r; cases h; rfl
  | int i => cases r; cases h; rfl
  | str y =>
    cases r
    dsimp only [truth] at h
    split at h
    · rename_i hl
      cases h
      exact ⟨by rw [sizeLine_eq]; exact hl, rfl⟩
    · cases h
  | tup xs => cases r with
    | tup h1 h2 => cases h; exact .inr (.inl ⟨_, SqT.of h1, reps_empty h2⟩)
  | lst xs => obtain ⟨a, rfl, us, h1, h2⟩ := r; cases h; exact .inl ⟨_, SqL.of h1, reps_empty h2⟩
  | scr xs => cases r with
    | scr h1 h2 => cases h; exact .inl ⟨_, h2, by cases xs <;> rfl⟩
  | dk ks vs => cases h
  | dt ks vs => cases h
  | fn x => cases h
  | ty n => cases h
theorem st_truth (G : Good X c k) {e : Expr} {d : S → R EV} (h : SE X c W e d) (he : ∀ whole, isTrue e X.env whole = (do let v ← whole; standAt e.pos; holding [v] (truthy v)) := by intro _; rfl) : ST X c W e (asT d) :=
  impT (pt_truth h he) fun σ H Q ⟨g, st, R, q⟩ => by
    refine ⟨g, st, R, Post.mono q.bind fun v st1 g1 H1 e1 R1 q1 x rx => ?_⟩
    revert q1
    cases pv : peek st1 v with
    | none => exact fun z => z.elim
    | some w =>
      dsimp only
      cases pt : truth w with
      | none => exact fun z => z.elim
      | some b => exact fun q1 => ⟨b, by rw [G.K]; exact tru_of (peek_ok R1 rx pv) pt, q1 g1 H1 Ext.refl R1⟩
end

/-! ## and, or, not, if -/
def tyes : S → R Bool := fun st => .ok true st
def bAnd (a b : S → R Bool) : S → R Bool := fun st => (a st).bind fun k st1 => if k then b st1 else .ok false st1
def bOr (a b : S → R Bool) : S → R Bool := fun st => (a st).bind fun k st1 => if k then .ok true st1 else b st1
def bNot (a : S → R Bool) : S → R Bool := fun st => (a st).bind fun k st1 => .ok (!k) st1
def eB (a : S → R Bool) : S → R EV := fun st => (a st).bind fun k st1 => .ok (.p (.bl k)) st1
def eIf (t : S → R Bool) (a b : S → R EV) : S → R EV := fun st => (t st).bind fun k st1 => if k then a st1 else b st1
section
variable {X : Cx} {c : Ct} {W : WXs} {k : Nat} {pos : Pos} {a b : Expr} {rest : List Expr} {ta tb : S → R Bool} {da db : S → R EV}
theorem SW.t (h : SW X c W a ta) : ST X c W a ta := PW.pt h
theorem sw_and1 (h : ST X c W a ta) : SW X c W (.BoolOp .And [a] pos) ta := pw_and1 h
theorem sw_or1 (h : ST X c W a ta) : SW X c W (.BoolOp .Or [a] pos) ta := pw_or1 h
theorem sw_and (ha : ST X c W a ta) (hb : SW X c W (.BoolOp .And (b :: rest) pos) tb) : SW X c W (.BoolOp .And (a :: b :: rest) pos) (bAnd ta tb) :=
  impW (pw_and ha hb) fun σ H Q ⟨g, st, R, q⟩ => by
    refine ⟨g, st, R, Post.mono q.bind fun k st1 g1 H1 e1 R1 q1 => ?_⟩
    cases k with
    | true => exact iteT ⟨g1, st1, R1, q1⟩
    | false => exact iteF (q1 g1 H1 Ext.refl R1)
theorem sw_or (ha : ST X c W a ta) (hb : SW X c W (.BoolOp .Or (b :: rest) pos) tb) : SW X c W (.BoolOp .Or (a :: b :: rest) pos) (bOr ta tb) :=
  impW (pw_or ha hb) fun σ H Q ⟨g, st, R, q⟩ => by
    refine ⟨g, st, R, Post.mono q.bind fun k st1 g1 H1 e1 R1 q1 => ?_⟩
    cases k with
    | false => exact iteF ⟨g1, st1, R1, q1⟩
    | true => exact iteT (q1 g1 H1 Ext.refl R1)
theorem st_not (ha : ST X c W a ta) : ST X c W (.UnaryOp .Not a pos) (bNot ta) :=
  impT (pt_not ha) fun σ H Q ⟨g, st, R, q⟩ => ⟨g, st, R, Post.mono q.bind fun k st1 g1 H1 e1 R1 q1 => q1 g1 H1 Ext.refl R1⟩
/-- .. as values -/
theorem se_one {op} (h : SE X c W a da) : SE X c W (.BoolOp op [a] pos) da := pe_one h
def eAnd (a b : S → R EV) : S → R EV := fun st => (asB a st).bind fun k st1 => if k then b st1 else .ok (.p (.bl false)) st1
def eOr (a b : S → R EV) : S → R EV := fun st => (asB a st).bind fun k st1 => if k then .ok (.p (.bl true)) st1 else b st1
def eNot (a : S → R EV) : S → R EV := fun st => (asB a st).bind fun k st1 => .ok (.p (.bl (!k))) st1
theorem asB_ex {g : Gh} {H : Hp} {σ : Sig} {st : S} {d : S → R EV} {k : Bool → S → Gh → Hp → Prop} (q : Post c W g H σ (asB d st) k) :
    Post c W g H σ (d st) fun v st' g' H' => ∀ x, RepE c g g' H' σ v x → ∃ b, x = .bl b ∧ k b st' g' H' := by
  refine Post.mono q.bind fun v st1 g1 H1 e1 R1 q1 x rx => ?_
  match v, q1 with
  | .p (.bl b), q1 => cases rx; exact ⟨b, rfl, q1 g1 H1 Ext.refl R1⟩
theorem Post.rel {α : Type} {g : Gh} {H : Hp} {σ : Sig} {r : R α} {k : α → S → Gh → Hp → Prop} (h : Post c W g H σ r k) : Post c W g H σ r fun a st' g' H' => (Ext c g H g' H' ∧ Rel c g' st' σ H') ∧ k a st' g' H' :=
  h.mono fun _ _ _ _ e q h => ⟨⟨e, q⟩, h⟩
theorem kE_start {g g1 : Gh} {H H1 : Hp} {σ : Sig} {Q : VK} {r : R EV} (e : Ext c g H g1 H1) (h : Post c W g1 H1 σ r (kE c g σ Q)) : Post c W g1 H1 σ r (kE c g1 σ Q) :=
  h.mono fun v st' g' H' _ _ q x rx => q x (RepE.start e rx)
theorem se_and (ha : SE X c W a da) (hb : SE X c W (.BoolOp .And (b :: rest) pos) db) : SE X c W (.BoolOp .And (a :: b :: rest) pos) (eAnd da db) :=
  impE (pe_and ha hb) fun σ H Q ⟨g, st, R, q⟩ => by
    refine ⟨g, st, R, (asB_ex q.bind.rel).mono fun v st1 g1 H1 _ _ h x rx => ?_⟩
    obtain ⟨k, rfl, ⟨e1, R1⟩, q1⟩ := h x rx
    refine ⟨k, rfl, ?_⟩
    cases k with
    | true => exact iteT ⟨g1, st1, R1, kE_start e1 q1⟩
    | false => exact iteF (q1 g1 H1 Ext.refl R1 _ (.bl false))
theorem se_or (ha : SE X c W a da) (hb : SE X c W (.BoolOp .Or (b :: rest) pos) db) : SE X c W (.BoolOp .Or (a :: b :: rest) pos) (eOr da db) :=
  impE (pe_or ha hb) fun σ H Q ⟨g, st, R, q⟩ => by
    refine ⟨g, st, R, (asB_ex q.bind.rel).mono fun v st1 g1 H1 _ _ h x rx => ?_⟩
    obtain ⟨k, rfl, ⟨e1, R1⟩, q1⟩ := h x rx
    refine ⟨k, rfl, ?_⟩
    cases k with
    | false => exact iteF ⟨g1, st1, R1, kE_start e1 q1⟩
    | true => exact iteT (q1 g1 H1 Ext.refl R1 _ (.bl true))
theorem se_not (ha : SE X c W a da) : SE X c W (.UnaryOp .Not a pos) (eNot da) :=
  impE (pe_not ha) fun σ H Q ⟨g, st, R, q⟩ => by
    refine ⟨g, st, R, (asB_ex q.bind.rel).mono fun v st1 g1 H1 _ _ h x rx => ?_⟩
    obtain ⟨k, rfl, ⟨e1, R1⟩, q1⟩ := h x rx
    exact ⟨k, rfl, q1 g1 H1 Ext.refl R1 _ (.bl _)⟩
theorem se_if {t : Expr} (ht : ST X c W t ta) (ha : SE X c W a da) (hb : SE X c W b db) : SE X c W (.IfExp t a b pos) (eIf ta da db) :=
  impE (pe_ifExp ht ha hb) fun σ H Q ⟨g, st, R, q⟩ => by
    refine ⟨g, st, R, q.bind.mono fun k st1 g1 H1 e1 R1 q1 => ?_⟩
    cases k with
    | true => exact iteT ⟨g1, st1, R1, kE_start e1 q1⟩
    | false => exact iteF ⟨g1, st1, R1, kE_start e1 q1⟩
end

/-! ## kept values: arguments, displays -/
def keep1 (d : S → R EV) : S → R Val := fun st => (d st).bind fun v st1 => match take st1 v with
  | some (w, st2) => .ok w st2
  | none => .bad
def aNil : S → R (List Val) := fun st => .ok [] st
def aCons (d : S → R EV) (r : S → R (List Val)) : S → R (List Val) := fun st => (keep1 d st).bind fun v st1 => (r st1).bind fun vs st2 => .ok (v :: vs) st2
section
variable {X : Cx} {c : Ct} {W : WXs} {k : Nat} {pos : Pos} {e : Expr} {es : List Expr} {d : S → R EV} {da : S → R (List Val)}
theorem keep_step {g : Gh} {H : Hp} {σ : Sig} {st : S} {k : Val → S → Gh → Hp → Prop} (q : Post c W g H σ (keep1 d st) k) :
    Post c W g H σ (d st) fun v st1 g1 H1 => ∀ x, RepE c g g1 H1 σ v x → ∃ w st2 g2, Ext c g H g2 H1 ∧ Rel c g2 st2 σ H1 ∧ Rep c g2 H1 w x ∧ k w st2 g2 H1 := by
  revert q
  unfold keep1
  cases hd : d st with
  | bad => exact fun z => z
  | ex x st' => exact fun z => z
  | ok v st1 =>
    intro q g1 H1 e1 R1 x rx
    revert q
    show Post c W g H σ (match Y.take st1 v with | some (w, st2) => R.ok w st2 | none => R.bad) k → _
    cases ht : Y.take st1 v with
    | none => exact fun z => z.elim
    | some p =>
      obtain ⟨w, st2⟩ := p
      intro q
      obtain ⟨g2, e2, R2, r2⟩ := take_ok e1 R1 rx ht
      exact ⟨w, st2, g2, e2, R2, r2, q g2 H1 e2 R2⟩
theorem sa_nil : SA X c W [] aNil := impA pa_nil fun σ H Q ⟨g, st, R, q⟩ => q g H Ext.refl R [] .nil
theorem sa_cons (h : SE X c W e d) (hr : SA X c W es da) (hs : starEach (e :: es) X.env = (false, eval e X.env) :: starEach es X.env := by rfl) : SA X c W (e :: es) (aCons d da) :=
  impA (pa_cons h hr hs) fun σ H Q ⟨g, st, R, q⟩ => by
    refine ⟨g, st, R, (keep_step q.bind).mono fun v st1 g1 H1 _ _ h x rx => ?_⟩
    obtain ⟨w, st2, g2, e2, R2, r2, q2⟩ := h x rx
    refine ⟨g2, st2, R2, q2.bind.mono fun vs st3 g3 H3 e3 R3 q3 xs rs => q3 g3 H3 Ext.refl R3 _ (.cons (Rep.ext e3 r2) rs)⟩
/-- a new list, tracked; a new tuple -/
theorem new_lst {g : Gh} {H : Hp} {σ : Sig} {st : S} {vs : List Val} {us : List V} {Q : VK} (R : Rel c g st σ H) (r : Reps c g H vs us)
    (q : ∀ g' H' z, Ext c g H g' H' → Rel c g' st σ H' → RepE c g g' H' σ (.f (.lst vs)) z → Q z H') : ∀ p, H p = none → Q (.ref p) (upd H p (.lst us)) := fun p hp => by
  obtain ⟨R', e⟩ := R.new hp (.lst us) .tmp (fun z => nomatch z) (.inl rfl)
  refine q _ _ _ e R' ⟨p, rfl, mark_same, ?_, us, upd_same, r.ext e⟩
  by_cases z : g p = .none
  · exact z
  · exact absurd hp (R.dom p z)
theorem new_tup {g : Gh} {H : Hp} {σ : Sig} {st : S} {vs : List Val} {us : List V} {Q : VK} (R : Rel c g st σ H) (r : Reps c g H vs us)
    (q : ∀ g' H' z, Ext c g H g' H' → Rel c g' st σ H' → RepE c g g' H' σ (.p (.tup vs)) z → Q z H') : ∀ p, H p = none → Q (.ref p) (upd H p (.tup us)) := fun p hp => by
  obtain ⟨R', e⟩ := R.new hp (.tup us) .frz (fun z => nomatch z) (.inr rfl)
  exact q _ _ _ e R' (.tup upd_same (r.ext e))
def eTup (da : S → R (List Val)) : S → R EV := fun st => (da st).bind fun vs st1 => if vs.length ≤ 16777216 then .ok (.p (.tup vs)) st1 else .bad
def eLst (da : S → R (List Val)) : S → R EV := fun st => (da st).bind fun vs st1 => if vs.length ≤ 16777216 then .ok (.f (.lst vs)) st1 else .bad
theorem se_tup {x1} (h : SA X c W es da) : SE X c W (.Tuple es x1 pos) (eTup da) :=
  impE (pe_tup h) fun σ H Q ⟨g, st, R, q⟩ => by
    refine ⟨g, st, R, q.bind.mono fun vs st1 g1 H1 e1 R1 q1 xs rs => ?_⟩
    revert q1
    by_cases hl : vs.length ≤ 16777216
    · rw [if_pos hl]
      intro q1
      refine ⟨by rw [sizeLine_eq, ← rs.length]; exact hl, new_tup R1 rs fun g' H' z e2 R2 rz => q1 g' H' e2 R2 z (RepE.start e1 rz)⟩
    · rw [if_neg hl]; exact fun z => z.elim
theorem se_lst (h : SA X c W es da) : SE X c W (.List es pos) (eLst da) :=
  impE (pe_lst h) fun σ H Q ⟨g, st, R, q⟩ => by
    refine ⟨g, st, R, q.bind.mono fun vs st1 g1 H1 e1 R1 q1 xs rs => ?_⟩
    revert q1
    by_cases hl : vs.length ≤ 16777216
    · rw [if_pos hl]
      intro q1
      refine ⟨by rw [sizeLine_eq, ← rs.length]; exact hl, new_lst R1 rs fun g' H' z e2 R2 rz => q1 g' H' e2 R2 z (RepE.start e1 rz)⟩
    · rw [if_neg hl]; exact fun z => z.elim
end
end Y
end

section
set_option Elab.async false
set_option linter.all false
set_option maxRecDepth 100000
set_option maxHeartbeats 1000000
namespace Y
open PySem PySem.Spec PyProof.Rows L2
abbrev LINE : Nat := 16777216
theorem line_le {n : Nat} (h : n ≤ LINE) : n ≤ sizeLine := by rw [sizeLine_eq]; exact h
def bint (b : Bool) : Int := if b then 1 else 0
/-! ## arithmetic -/
def addV : Val → Val → Option EV
  | .int i, .int j => some (.p (.int (i + j)))
  | .int i, .bl k => some (.p (.int (i + b2i k)))
  | .str x, .str y => if x.length + y.length ≤ LINE then some (.p (.str (x ++ y))) else none
  | .lst xs, .lst ys => if xs.length + ys.length ≤ LINE then some (.f (.lst (xs ++ ys))) else none
  | .tup xs, .tup ys => if xs.length + ys.length ≤ LINE then some (.p (.tup (xs ++ ys))) else none
  | _, _ => none
def subV : Val → Val → Option EV
  | .int i, .int j => some (.p (.int (i - j)))
  | _, _ => none
def small64 (i : Int) : Bool := decide (-(18446744073709551616) < i) && decide (i < 18446744073709551616)
def mulV : Val → Val → Option EV
  | .int i, .int j => if small64 i || small64 j then some (.p (.int (i * j))) else none
  | .lst xs, .int k => if decide (-(9223372036854775808) ≤ k) && decide (k < 9223372036854775808) && decide (xs.length * k.toNat ≤ LINE) then some (.f (.lst (List.replicate k.toNat xs).flatten)) else none
  | _, _ => none
def fdivV : Val → Val → Option EV
  | .int i, .int j => if decide (j ≠ 0) && decide (j.natAbs < 1073741824) then some (.p (.int (i.fdiv j))) else none
  | _, _ => none
def modV : Val → Val → Option EV
  | .int i, .int j => if j ≠ 0 then some (.p (.int (i.fmod j))) else none
  | _, _ => none
def powV : Val → Val → Option EV
  | .int i, .int j => if decide (0 ≤ j) && decide (j ≤ 1000000) && decide (i.natAbs < 18446744073709551616) then some (.p (.int (i ^ j.toNat))) else none
  | _, _ => none
def shlV : Val → Val → Option EV
  | .int i, .int j => if decide (0 ≤ j) && decide (j ≤ 1000000) && decide (i.natAbs < 18446744073709551616) then some (.p (.int (i * 2 ^ j.toNat))) else none
  | _, _ => none
def shrV : Val → Val → Option EV
  | .int i, .int j => if 0 ≤ j then some (.p (.int (i / 2 ^ j.toNat))) else none
  | _, _ => none
def bandV : Val → Val → Option EV
  | .int i, .int j => some (.p (.int (Builtin.bitAnd i j)))
  | _, _ => none
def borV : Val → Val → Option EV
  | .int i, .int j => some (.p (.int (Builtin.bitOr i j)))
  | _, _ => none
def bxorV : Val → Val → Option EV
  | .int i, .int j => some (.p (.int (Builtin.bitXor i j)))
  | _, _ => none
section
variable {X : Cx} {c : Ct} {W : WXs} {k : Nat} {pos : Pos} {g : Gh} {H : Hp} {x y : V}
theorem int_of {i : Int} (h : RepP c g H (.int i) x) : x = .int i := by cases h; rfl
theorem bl_of {i : Bool} (h : RepP c g H (.bl i) x) : x = .bl i := by cases h; rfl
theorem str_of {i : Str} (h : RepP c g H (.str i) x) : x = .str i := by cases h; rfl
theorem lst_of {vs : List Val} (h : RepP c g H (.lst vs) x) : ∃ a us, x = .ref a ∧ H a = some (.lst us) ∧ Reps c g H vs us := by
  obtain ⟨a, e, us, h1, h2⟩ := h; exact ⟨a, us, e, h1, h2⟩
theorem tup_of {vs : List Val} (h : RepP c g H (.tup vs) x) : ∃ a us, x = .ref a ∧ SqT c.K H a us ∧ Reps c g H vs us := by
  cases h with
  | tup h1 h2 => exact ⟨_, _, rfl, .inl (.inl h1), h2⟩
theorem tup_at {vs : List Val} (h : RepP c g H (.tup vs) x) : ∃ a us, x = .ref a ∧ H a = some (.tup us) ∧ Reps c g H vs us := by
  cases h with
  | tup h1 h2 => exact ⟨_, _, rfl, h1, h2⟩
theorem scr_of {vs : List Int} (h : RepP c g H (.scr vs) x) : ∃ a, x = .ref a ∧ SqL c.K H a (vs.map V.int) := by
  cases h with
  | scr h1 h2 => exact ⟨_, rfl, h2⟩
/-- two ints -/
theorem ii_op {op : Val → Val → Option EV} {f : Value → Value → Sem Value} {r : R2} (hr : OpR X f r)
    (h : ∀ v w res x y H (Q : VK), op v w = some res → (∀ (z : V), (∀ g g' σ, RepE c g g' H σ res z) → Q z H) → (∀ i, v = .int i → x = .int i) → (∀ i, w = .int i → y = .int i) → (∀ i, w = .bl i → y = .bl i) → r x y H Q) : OpR X f (rB c op) := by
  intro pins s σ H x y v u Q I rx ry hq
  obtain ⟨g, st, σ0, v', w', res, R, hx, hy, e, q⟩ := hq
  refine hr pins s σ H x y v u Q I rx ry (h v' w' res x y H Q e (fun z rz => q g H z Ext.refl R (rz g g σ0)) ?_ ?_ ?_)
  · rintro i rfl; exact int_of hx
  · rintro i rfl; exact int_of hy
  · rintro i rfl; exact bl_of hy
theorem d_sub : OpR X (binaryOp .Sub) (rB c subV) := ii_op op_sub fun v w res x y H Q e q hx hy _ => by
  unfold subV at e
  split at e
  · cases e
    exact ⟨_, _, hx _ rfl, hy _ rfl, q _ fun _ _ _ => .int _⟩
  · cases e
theorem d_fdiv : OpR X (binaryOp .FloorDiv) (rB c fdivV) := ii_op op_fdivN fun v w res x y H Q e q hx hy _ => by
  unfold fdivV at e
  split at e
  · split at e
    · rename_i hh
      cases e
      rw [Bool.and_eq_true, decide_eq_true_eq, decide_eq_true_eq] at hh
      exact ⟨_, _, hx _ rfl, hy _ rfl, hh, q _ fun _ _ _ => .int _⟩
    · cases e
  · cases e
theorem d_mod : OpR X (binaryOp .Mod) (rB c modV) := ii_op op_modN fun v w res x y H Q e q hx hy _ => by
  unfold modV at e
  split at e
  · split at e
    · rename_i hh
      cases e
      exact ⟨_, _, hx _ rfl, hy _ rfl, hh, q _ fun _ _ _ => .int _⟩
    · cases e
  · cases e
theorem d_pow : OpR X (binaryOp .Pow) (rB c powV) := ii_op op_pow fun v w res x y H Q e q hx hy _ => by
  unfold powV at e
  split at e
  · split at e
    · rename_i hh
      cases e
      simp only [Bool.and_eq_true, decide_eq_true_eq] at hh
      exact ⟨_, _, hx _ rfl, hy _ rfl, ⟨hh.1.1, hh.1.2, hh.2⟩, q _ fun _ _ _ => .int _⟩
    · cases e
  · cases e
theorem d_shl : OpR X (binaryOp .LShift) (rB c shlV) := ii_op op_shl fun v w res x y H Q e q hx hy _ => by
  unfold shlV at e
  split at e
  · split at e
    · rename_i hh
      cases e
      simp only [Bool.and_eq_true, decide_eq_true_eq] at hh
      exact ⟨_, _, hx _ rfl, hy _ rfl, ⟨hh.1.1, hh.1.2, hh.2⟩, q _ fun _ _ _ => .int _⟩
    · cases e
  · cases e
theorem d_shr : OpR X (binaryOp .RShift) (rB c shrV) := ii_op op_shr fun v w res x y H Q e q hx hy _ => by
  unfold shrV at e
  split at e
  · split at e
    · rename_i hh
      cases e
      exact ⟨_, _, hx _ rfl, hy _ rfl, hh, q _ fun _ _ _ => .int _⟩
    · cases e
  · cases e
theorem d_band : OpR X (binaryOp .BitAnd) (rB c bandV) := ii_op op_and fun v w res x y H Q e q hx hy _ => by
  unfold bandV at e
  split at e
  · cases e
    exact ⟨_, _, hx _ rfl, hy _ rfl, q _ fun _ _ _ => .int _⟩
  · cases e
theorem d_bor : OpR X (binaryOp .BitOr) (rB c borV) := ii_op op_or fun v w res x y H Q e q hx hy _ => by
  unfold borV at e
  split at e
  · cases e
    exact ⟨_, _, hx _ rfl, hy _ rfl, q _ fun _ _ _ => .int _⟩
  · cases e
theorem d_bxor : OpR X (binaryOp .BitXor) (rB c bxorV) := ii_op op_xor fun v w res x y H Q e q hx hy _ => by
  unfold bxorV at e
  split at e
  · cases e
    exact ⟨_, _, hx _ rfl, hy _ rfl, q _ fun _ _ _ => .int _⟩
  · cases e
theorem d_add (G : Soft X c) : OpR X (binaryOp .Add) (rB c addV) := by
  intro pins s σ H x y v u Q I rx ry hq
  obtain ⟨g, st, σ0, v', w', res, R, hx, hy, e, q⟩ := hq
  unfold addV at e
  split at e
  · cases e
    exact op_add pins s σ H x y v u Q I rx ry ⟨_, _, int_of hx, int_of hy, q g H _ Ext.refl R (.int _)⟩
  · cases e
    exact op_add_ib pins s σ H x y v u Q I rx ry ⟨_, _, int_of hx, bl_of hy, q g H _ Ext.refl R (.int _)⟩
  · split at e
    · rename_i hl
      cases e
      exact op_add_str pins s σ H x y v u Q I rx ry ⟨_, _, str_of hx, str_of hy, line_le hl, q g H _ Ext.refl R (.str _)⟩
    · cases e
  · split at e
    · rename_i hl
      cases e
      obtain ⟨a, us, rfl, h1, r1⟩ := lst_of hx
      obtain ⟨b, ws, rfl, h2, r2⟩ := lst_of hy
      exact op_cat pins s σ H _ _ v u Q I rx ry ⟨a, b, us, ws, rfl, rfl, h1, h2, by rw [← r1.length, ← r2.length]; exact line_le hl, new_lst R (r1.append r2) q⟩
    · cases e
  · split at e
    · rename_i hl
      cases e
      obtain ⟨a, us, rfl, h1, r1⟩ := tup_at hx
      obtain ⟨b, ws, rfl, h2, r2⟩ := tup_at hy
      refine op_catA pins s σ H _ _ v u Q I rx ry ⟨a, b, us, ws, rfl, rfl, SqT.of h1, SqT.of h2, by rw [← r1.length, ← r2.length]; exact line_le hl, fun z => ?_, fun z1 z => ?_, fun _ _ => new_tup R (r1.append r2) q⟩
      · subst z
        cases r1
        exact q g H _ Ext.refl R (.tup h2 r2)
      · subst z
        cases r2
        exact q g H _ Ext.refl R (by rw [List.append_nil]; exact .tup h1 r1)
    · cases e
  · cases e
theorem small64_iff {i : Int} (h : small64 i = true) : -(2 ^ 64) < i ∧ i < 2 ^ 64 := by
  unfold small64 at h
  simp only [Bool.and_eq_true, decide_eq_true_eq] at h
  omega
theorem Reps.rep {vs : List Val} {us : List V} (h : Reps c g H vs us) : ∀ n : Nat, Reps c g H (List.replicate n vs).flatten (List.replicate n us).flatten
  | 0 => .nil
  | n + 1 => by
    rw [List.replicate_succ, List.replicate_succ, List.flatten_cons, List.flatten_cons]
    exact h.append (Reps.rep h n)
theorem d_mul : OpR X (binaryOp .Mult) (rB c mulV) := by
  intro pins s σ H x y v u Q I rx ry hq
  obtain ⟨g, st, σ0, v', w', res, R, hx, hy, e, q⟩ := hq
  unfold mulV at e
  split at e
  · split at e
    · rename_i hh
      cases e
      refine op_mul pins s σ H x y v u Q I rx ry ⟨_, _, int_of hx, int_of hy, ?_, q g H _ Ext.refl R (.int _)⟩
      rw [Bool.or_eq_true] at hh
      exact hh.imp small64_iff small64_iff
    · cases e
  · split at e
    · rename_i hh
      cases e
      simp only [Bool.and_eq_true, decide_eq_true_eq] at hh
      obtain ⟨a, us, rfl, h1, r1⟩ := lst_of hx
      obtain rfl := int_of hy
      refine op_rep pins s σ H _ _ v u Q I rx ry ⟨a, _, us, rfl, rfl, h1, by omega, by omega, by rw [← r1.length]; exact line_le hh.2, new_lst R (r1.rep _) q⟩
    · cases e
  · cases e

/-! ## comparisons -/
mutual
def toD : Val → Option PyData
  | .non => some .none
  | .bl b => some (.bool b)
  | .int i => some (.int i)
  | .str x => some (.str x)
  | .tup xs => (toDs xs).map .tuple
  | .lst xs => (toDs xs).map .list
  | .scr ns => some (.list (ns.map .int))
  | _ => none
def toDs : List Val → Option (List PyData)
  | [] => some []
  | v :: vs => match toD v, toDs vs with
    | some d, some ds => some (d :: ds)
    | _, _ => none
end
theorem Dp.ints {K : PySem.W.Frag} {H : Hp} : ∀ ns : List Int, DpAll K H (ns.map V.int) (ns.map PyData.int)
  | [] => .nil
  | n :: ns => .cons (.int n) (Dp.ints ns)
mutual
theorem Rep.dp : ∀ {v : Val} {x : V} {d : PyData}, Rep c g H v x → toD v = some d → Dp c.K H x d
  | _, _, _, .non, h => by cases h; exact .non
  | _, _, _, .bl b, h => by cases h; exact .bl b
  | _, _, _, .int b, h => by cases h; exact .int b
  | _, _, _, .str b, h => by cases h; exact .str b
  | _, _, _, .ty n, h => by cases h
  | _, _, _, .fn _, h => by cases h
  | _, _, _, .tup (vs := vs) h1 h2, h => by
    rw [toD] at h
    cases e : toDs vs with
    | none => rw [e] at h; cases h
    | some ds => rw [e] at h; cases h; exact .tup (SqT.of h1) (Reps.dps h2 e)
  | _, _, _, .lst (vs := vs) _ h1 h2, h => by
    rw [toD] at h
    cases e : toDs vs with
    | none => rw [e] at h; cases h
    | some ds => rw [e] at h; cases h; exact .lst (SqL.of h1) (Reps.dps h2 e)
  | _, _, _, .scr _ h1, h => by
    rw [toD] at h
    cases h
    exact .lst h1 (Dp.ints _)
  | _, _, _, .dk _ _ _ _, h => by cases h
  | _, _, _, .dt _ _ _ _, h => by cases h
theorem Reps.dps : ∀ {vs : List Val} {xs : List V} {ds : List PyData}, Reps c g H vs xs → toDs vs = some ds → DpAll c.K H xs ds
  | _, _, _, .nil, h => by cases h; exact .nil
  | _, _, _, .cons (v := v) (vs := vs) h1 h2, h => by
    rw [toDs] at h
    cases e : toD v with
    | none => rw [e] at h; cases h
    | some d =>
      cases e2 : toDs vs with
      | none => rw [e, e2] at h; cases h
      | some ds => rw [e, e2] at h; cases h; exact .cons (Rep.dp h1 e) (Reps.dps h2 e2)
end
theorem RepP.dp {v : Val} {x : V} {d : PyData} (r : RepP c g H v x) (h : toD v = some d) : Dp c.K H x d := by
  cases v with
  | lst vs =>
    obtain ⟨a, us, rfl, h1, h2⟩ := lst_of r
    rw [toD] at h
    cases e : toDs vs with
    | none => rw [e] at h; cases h
    | some ds => rw [e] at h; cases h; exact .lst (SqL.of h1) (h2.dps e)
  | dk ks vs => cases h
  | dt ks vs => cases h
  | non => exact Rep.dp r h
  | bl b => exact Rep.dp r h
  | int b => exact Rep.dp r h
  | str b => exact Rep.dp r h
  | tup b => exact Rep.dp r h
  | scr b => exact Rep.dp r h
  | fn b => exact Rep.dp r h
  | ty b => exact Rep.dp r h
def eqV? (v w : Val) : Option Bool := match toD v, toD w with
  | some d, some e => if SeqAt.shaped d && SeqAt.shaped e then some (PyData.eqv d e) else none
  | _, _ => none
def eqV (v w : Val) : Option EV := (eqV? v w).map fun b => .p (.bl b)
def neV (v w : Val) : Option EV := (eqV? v w).map fun b => .p (.bl (!b))
theorem d_eq (G : Good X c k) : OpR X (compareOp .Eq) (rB c eqV) := by
  intro pins s σ H x y v u Q I rx ry hq
  obtain ⟨g, st, σ0, v', w', res, R, hx, hy, e, q⟩ := hq
  unfold eqV eqV? at e
  cases h1 : toD v' with
  | none => rw [h1] at e; cases e
  | some d =>
    cases h2 : toD w' with
    | none => rw [h1, h2] at e; cases e
    | some d2 =>
      rw [h1, h2] at e
      dsimp only at e
      split at e
      · rename_i hh
        cases e
        rw [Bool.and_eq_true] at hh
        exact op_eqD G.hr.units pins s σ H x y v u Q I rx ry ⟨d, d2, by rw [G.K]; exact hx.dp h1, by rw [G.K]; exact hy.dp h2, hh.1, hh.2, q g H _ Ext.refl R (.bl _)⟩
      · cases e
theorem d_ne (G : Good X c k) : OpR X (compareOp .NotEq) (rB c neV) := by
  intro pins s σ H x y v u Q I rx ry hq
  obtain ⟨g, st, σ0, v', w', res, R, hx, hy, e, q⟩ := hq
  unfold neV eqV? at e
  cases h1 : toD v' with
  | none => rw [h1] at e; cases e
  | some d =>
    cases h2 : toD w' with
    | none => rw [h1, h2] at e; cases e
    | some d2 =>
      rw [h1, h2] at e
      dsimp only at e
      split at e
      · rename_i hh
        cases e
        rw [Bool.and_eq_true] at hh
        exact op_neD G.hr.units pins s σ H x y v u Q I rx ry ⟨d, d2, by rw [G.K]; exact hx.dp h1, by rw [G.K]; exact hy.dp h2, hh.1, hh.2, q g H _ Ext.refl R (.bl _)⟩
      · cases e
def ltV : Val → Val → Option EV
  | .int i, .int j => some (.p (.bl (decide (i < j))))
  | _, _ => none
def leV : Val → Val → Option EV
  | .int i, .int j => some (.p (.bl (decide (i ≤ j))))
  | _, _ => none
def gtV : Val → Val → Option EV
  | .int i, .int j => some (.p (.bl (decide (j < i))))
  | _, _ => none
def geV : Val → Val → Option EV
  | .int i, .int j => some (.p (.bl (decide (j ≤ i))))
  | _, _ => none
theorem d_lt : OpR X (compareOp .Lt) (rB c ltV) := ii_op op_lt fun v w res x y H Q e q hx hy _ => by
  unfold ltV at e
  split at e
  · cases e
    exact ⟨_, _, hx _ rfl, hy _ rfl, q _ fun _ _ _ => .bl _⟩
  · cases e
theorem d_le : OpR X (compareOp .LtE) (rB c leV) := ii_op op_le fun v w res x y H Q e q hx hy _ => by
  unfold leV at e
  split at e
  · cases e
    exact ⟨_, _, hx _ rfl, hy _ rfl, q _ fun _ _ _ => .bl _⟩
  · cases e
theorem d_gt : OpR X (compareOp .Gt) (rB c gtV) := ii_op op_gt fun v w res x y H Q e q hx hy _ => by
  unfold gtV at e
  split at e
  · cases e
    exact ⟨_, _, hx _ rfl, hy _ rfl, q _ fun _ _ _ => .bl _⟩
  · cases e
theorem d_ge : OpR X (compareOp .GtE) (rB c geV) := ii_op op_ge fun v w res x y H Q e q hx hy _ => by
  unfold geV at e
  split at e
  · cases e
    exact ⟨_, _, hx _ rfl, hy _ rfl, q _ fun _ _ _ => .bl _⟩
  · cases e
/-- is None -/
def isN : Val → Bool
  | .non => true
  | _ => false
def isV (v w : Val) : Option EV := if isN w then some (.p (.bl (isN v))) else none
def isnV (v w : Val) : Option EV := if isN w then some (.p (.bl (!isN v))) else none
theorem isN_of {v : Val} {x : V} (r : RepP c g H v x) : decide (x = .non) = isN v := by
  cases v with
  | lst vs => obtain ⟨a, us, rfl, h1, h2⟩ := lst_of r; rfl
  | dk ks vs => obtain ⟨a, rfl, _⟩ := r; rfl
  | dt ks vs => obtain ⟨a, rfl, _⟩ := r; rfl
  | non => cases r; rfl
  | bl b => cases r; rfl
  | int b => cases r; rfl
  | str b => cases r; rfl
  | tup b => cases r; rfl
  | scr b => cases r; rfl
  | fn b => cases r; rfl
  | ty b => cases r; rfl
theorem isN_eq {v : Val} (h : isN v = true) : v = .non := by cases v <;> first | rfl | cases h
theorem d_is : OpR X (compareOp .Is) (rB c isV) := by
  intro pins s σ H x y v u Q I rx ry hq
  obtain ⟨g, st, σ0, v', w', res, R, hx, hy, e, q⟩ := hq
  unfold isV at e
  split at e
  · rename_i hn
    cases e
    obtain rfl := isN_eq hn
    cases hy
    exact op_isN pins s σ H x _ v u Q I rx ry ⟨rfl, by rw [isN_of hx]; exact q g H _ Ext.refl R (.bl _)⟩
  · cases e
theorem d_isn : OpR X (compareOp .IsNot) (rB c isnV) := by
  intro pins s σ H x y v u Q I rx ry hq
  obtain ⟨g, st, σ0, v', w', res, R, hx, hy, e, q⟩ := hq
  unfold isnV at e
  split at e
  · rename_i hn
    cases e
    obtain rfl := isN_eq hn
    cases hy
    exact op_notN pins s σ H x _ v u Q I rx ry ⟨rfl, by rw [isN_of hx]; exact q g H _ Ext.refl R (.bl _)⟩
  · cases e

/-! ## an item -/
def ixV : Val → Val → Option EV
  | .lst xs, .int i => (atI xs i).map .p
  | .tup xs, .int i => (atI xs i).map .p
  | .scr xs, .int i => (atI xs i).map fun n => .p (.int n)
  | .str x, .int i => if x.length ≤ LINE then (atI x.cps.toList i).map fun n => .p (.str ⟨#[n]⟩) else none
  | _, _ => none
theorem atI_rep {vs : List Val} {us : List V} {i : Int} {v : Val} (r : Reps c g H vs us) (h : atI vs i = some v) : ∃ x, atI us i = some x ∧ Rep c g H v x := by
  unfold atI at h ⊢
  rw [← r.length]
  cases e : ixN vs.length i with
  | none => rw [e] at h; cases h
  | some j =>
    rw [e] at h
    obtain ⟨x, h1, h2⟩ := r.get (show vs[j]? = some v from h)
    exact ⟨x, h1, h2⟩
theorem atI_map {α β : Type} {f : α → β} {xs : List α} {i : Int} {v : α} (h : atI xs i = some v) : atI (xs.map f) i = some (f v) := by
  unfold atI at h ⊢
  rw [List.length_map]
  cases e : ixN xs.length i with
  | none => rw [e] at h; cases h
  | some j =>
    rw [e] at h
    have h : xs[j]? = some v := h
    show (xs.map f)[j]? = _
    rw [List.getElem?_map, h]; rfl
theorem d_ix (G : Soft X c) : IxR X (rB c ixV) := by
  intro ve se pins s σ H x y v u Q I rx ry hq hss
  obtain ⟨g, st, σ0, v', w', res, R, hx, hy, e, q⟩ := hq
  unfold ixV at e
  split at e
  · rename_i xs i
    cases h : atI xs i with
    | none => rw [h] at e; cases e
    | some v0 =>
      rw [h] at e; cases e
      obtain ⟨a, us, rfl, h1, r1⟩ := lst_of hx
      obtain ⟨z, h2, h3⟩ := atI_rep r1 h
      exact ix_list ve se pins s σ H _ _ v u Q I rx ry ⟨a, us, i, z, rfl, int_of hy, SqL.of h1, h2, q g H _ Ext.refl R h3⟩ hss
  · rename_i xs i
    cases h : atI xs i with
    | none => rw [h] at e; cases e
    | some v0 =>
      rw [h] at e; cases e
      obtain ⟨a, us, rfl, h1, r1⟩ := tup_of hx
      obtain ⟨z, h2, h3⟩ := atI_rep r1 h
      exact ix_tup ve se pins s σ H _ _ v u Q I rx ry ⟨a, us, i, z, rfl, int_of hy, by rw [G.K]; exact h1, h2, q g H _ Ext.refl R h3⟩ hss
  · rename_i xs i
    cases h : atI xs i with
    | none => rw [h] at e; cases e
    | some v0 =>
      rw [h] at e; cases e
      obtain ⟨a, rfl, h1⟩ := scr_of hx
      exact ix_list ve se pins s σ H _ _ v u Q I rx ry ⟨a, _, i, _, rfl, int_of hy, by rw [G.K]; exact h1, atI_map h, q g H _ Ext.refl R (.int _)⟩ hss
  · rename_i z i
    split at e
    · rename_i hl
      cases h : atI z.cps.toList i with
      | none => rw [h] at e; cases e
      | some v0 =>
        rw [h] at e; cases e
        exact ix_str ve se pins s σ H _ _ v u Q I rx ry ⟨z, i, _, str_of hx, int_of hy, line_le hl, h, q g H _ Ext.refl R (.str _)⟩ hss
    · cases e
  · cases e
end
end Y
end

section
set_option Elab.async false
set_option linter.all false
set_option maxRecDepth 100000
set_option maxHeartbeats 1000000
namespace Y
open PySem PySem.Spec PyProof.Rows L2 RT
/-! ## list(reversed(xs)) -/
section
variable {prog : Program} {w : World} {A : Around} {E : Value → Shared → Prop} {s : Shared}
theorem list_init_rev {R : Result → Shared → Prop} {it l : Addr} {items : Array Value} (hh : A.handled = none) (hit : s.heap.IsRevIter it l ((items.size : Int) - 1)) (hl : s.heap.IsList l items) (hne : l ≠ it) (hn : items.size ≤ sizeLine)
    (S : Addr) (hS : s.heap.get? S = some { cls := .type "list", data := .seq #[] }) (hSf : S ∉ [it, l])
    (hR : ∀ h' tk acc' c', (∀ b o, b ≠ S → b ≠ it → s.heap.get? b = some o → h'.get? b = some o) → h'.get? S = some { cls := .type "list", dict := none, data := .seq acc' c', slots := #[] } →
      ItemsOf (fun i v => items[items.size - 1 - i]? = some v) acc' items.size → R (.ok (.ret .none)) { s with heap := h', toks := tk }) :
    wpAny (model prog w) A.in1 (Builtin.«list.__init__» ⟨[.ref S, .ref it], []⟩)
      (fun fin s' => match fin with | .done f => R (.ok f) s' | .again c' => c'.quiet = true ∧ codeAny (model prog w) A c' R s') (fun e s' => R (.error e) s') s := by
  have W := (Walks.listRev (prog := prog) (w := w) (A := A.in1) hh it l hne items).toS
  have hSi : S ≠ it := fun e => hSf (by rw [e]; exact List.mem_cons_self)
  have hSl : S ≠ l := fun e => hSf (by rw [e]; simp)
  show wpAny _ _ (do let old ← Builtin.List.listItems (.ref S); Builtin.List.listUpdate (.ref S) (fun _ => #[]); letGo old.toList.reverse; Builtin.List.listExtendWith (.ref S) (.ref it) .none) _ _ s
  refine wpAny_bind ?_
  unfold Builtin.List.listItems
  refine wpAny_bind (wpAny_seqItems hS rfl (wpAny_pure ?_))
  show wpAny _ _ (updateSeq S (fun _ => #[]) >>= fun _ => letGo (#[] : Array Value).toList.reverse >>= fun _ => Builtin.List.listExtendWith (.ref S) (.ref it) .none) _ _ s
  refine wpAny_bind (wpAny_updateSeq hS rfl ?_)
  have hS₂ := Heap.get?_update_self (Obj.mapSeq (fun _ => (#[] : Array Value))) hS rfl
  have oth : ∀ b o, b ≠ S → s.heap.get? b = some o → (s.heap.update S (Obj.mapSeq (fun _ => (#[] : Array Value)))).get? b = some o :=
    fun b o hb e => (Heap.get?_update_other _ _ (Ne.symm hb)).trans e
  refine wpAny_bind (wpAny_letGo ?_)
  have hit1 := hit.at fun o e => oth it o (Ne.symm hSi) e
  have hl1 : (s.heap.update S (Obj.mapSeq (fun _ => (#[] : Array Value)))).IsList l items := by
    obtain ⟨o, ho, hc, n, hd⟩ := hl
    exact ⟨o, oth l o (Ne.symm hSl) ho, hc, n, hd⟩
  have hT : ({ s with heap := s.heap.update S (Obj.mapSeq (fun _ => (#[] : Array Value))) } : Shared).TypeIs (.ref it) "list_reverseiterator" := Heap.IsRevIter.typeIs (s := { s with heap := s.heap.update S (Obj.mapSeq (fun _ => (#[] : Array Value))) }) hit1
  have h1 : Builtin.List.listSameRef (.ref S) (.ref it) = false := by simp [Builtin.List.listSameRef, hSi]
  unfold Builtin.List.listExtendWith
  refine wpAny_bind (wpAny_typeOf hT ?_)
  rw [if_neg (by rw [h1]; decide)]
  refine wpAny_bind (wpAny_pyIter_revIter (s := { s with heap := s.heap.update S (Obj.mapSeq (fun _ => (#[] : Array Value))) }) hit1 ?_)
  refine wpAny_bind (wpAny_holding ?_)
  unfold Builtin.List.listLengthHint
  refine wpAny_bind (wpAny_specialOf hT nolen_lri ?_)
  show wpAny _ A.in1 (specialOf (Value.ref it) (Str.ofString "__length_hint__") >>= _) _ _ _
  refine wpAny_bind (wpAny_specialOf hT hint_lri ?_)
  generalize hid : ("list_reverseiterator.__length_hint__" : String) = id0
  wp_delta
  rw [show splitId id0 = some ("list_reverseiterator", "__length_hint__") from by subst hid; decide +kernel]
  subst hid
  refine wpAny_bind (wpAny_isInstance (b := true) hT (by rw [isSubtype_type]; kernel_rfl) ?_)
  refine wpAny_pure ?_
  rw [if_neg (by decide)]
  have e0 : ((items.size : Nat) : Int) - 1 - ((0 : Nat) : Int) = (items.size : Int) - 1 := by omega
  refine wpAny_pure ⟨plainId_quiet F.plain_extend_loop _, codeAny_extend_loopS W hn _ hSf _ items.size 0 _ _ _ rfl (Nat.zero_le _) ⟨Nat.zero_le _, by rw [e0]; exact hit1, hl1⟩ hS₂ (ItemsOf.nil _) fun s' acc' c' hm hS' hacc => ?_⟩
  rw [Moved.eq_with hm]
  refine hR s'.heap s'.toks acc' c' (fun b o hb hb2 e => hm.heap b o (fun hmem => ?_) (oth b o hb e)) hS' hacc
  rcases List.mem_cons.mp hmem with e' | hmem
  · exact hb e'
  · exact hb2 (List.mem_singleton.mp hmem)
theorem call_list_rev {it l : Addr} {items : Array Value} {Q : Value → Shared → Prop} (hh : A.handled = none) (hit : s.heap.IsRevIter it l ((items.size : Int) - 1)) (hl : s.heap.IsList l items) (hne : l ≠ it) (hn : items.size ≤ sizeLine)
    (hQ : ∀ h' tk acc' c', (∀ b o, b ≠ it → s.heap.get? b = some o → h'.get? b = some o) →
      h'.get? s.heap.objs.size = some { cls := .type "list", dict := none, data := .seq acc' c', slots := #[] } → ItemsOf (fun i v => items[items.size - 1 - i]? = some v) acc' items.size → Q (.ref s.heap.objs.size) { s with heap := h', toks := tk }) :
    wpAny (model prog w) A (call (.type "list") [.ref it]) Q E s := by
  refine callType_codes (Q₁ := fun obj s₁ => obj = .ref s.heap.objs.size ∧ s₁ = { s with heap := s.heap.push { cls := .type "list", data := .seq #[] } }) F.called_list (F.typeCall_list_1 _) F.entry_list_init
    (code_list_new _ ⟨rfl, rfl⟩) fun obj s₁ h₁ => ?_
  obtain ⟨rfl, rfl⟩ := h₁
  have hS : (s.heap.push { cls := .type "list", data := .seq #[] }).get? s.heap.objs.size = some { cls := .type "list", data := .seq #[] } := Heap.get?_push_size _ rfl
  obtain ⟨oi, hoi, _⟩ := id hit
  obtain ⟨ol, hol, _⟩ := id hl
  have hSi : s.heap.objs.size ≠ it := Nat.ne_of_gt (Heap.lt_size hoi)
  have hSl : s.heap.objs.size ≠ l := Nat.ne_of_gt (Heap.lt_size hol)
  have hSf : s.heap.objs.size ∉ [it, l] := by simp only [List.mem_cons, List.not_mem_nil, or_false, not_or]; exact ⟨hSi, hSl⟩
  refine ⟨⟨_, hS, rfl⟩, F.args_list_init_2 _ _, list_init_rev (A := A.in1) hh (hit.at fun o e => Heap.get?_push_of_some _ e) (hl.push _) hne hn _ hS hSf fun h' tk acc' c' hk hS' hacc => ?_⟩
  exact ⟨rfl, hQ h' tk acc' c' (fun b o hb e => hk b o (Nat.ne_of_lt (Heap.lt_size e)) hb (Heap.get?_push_of_some _ e)) hS' hacc⟩
end

/-! ## calls of built-ins: one or two values, looked at -/
def eC1 (fn : Val → Option EV) (d : S → R EV) : S → R EV := fun st => (d st).bind fun x st1 => match peek st1 x with
  | some v => match fn v with
    | some r => .ok r st1
    | none => .bad
  | none => .bad
def rC1 (c : Ct) (fn : Val → Option EV) : List V → Hp → VK → Prop := fun xs H Q => ∃ x g st σ v res, xs = [x] ∧ Rel c g st σ H ∧ RepP c g H v x ∧ fn v = some res ∧
  ∀ g' H' z, Ext c g H g' H' → Rel c g' st σ H' → RepE c g g' H' σ res z → Q z H'
def rC2 (c : Ct) (fn : Val → Val → Option EV) : List V → Hp → VK → Prop := fun xs H Q => ∃ x y, xs = [x, y] ∧ rB c fn x y H Q
section
variable {X : Cx} {c : Ct} {W : WXs} {k : Nat} {pos p : Pos} {e e2 : Expr} {d d2 : S → R EV} {fn : Val → Option EV} {fn2 : Val → Val → Option EV} {x : Str} {id T : String}
theorem c1_step {g : Gh} {H : Hp} {σ : Sig} {st : S} {Q : VK} (R : Rel c g st σ H) (q : Post c W g H σ (eC1 fn d st) (kE c g σ Q)) :
    tE c W d σ H fun x H1 => rC1 c fn [x] H1 Q := by
  refine ⟨g, st, R, Post.mono q.bind fun v st1 g1 H1 e1 R1 q1 x rx => ?_⟩
  revert q1
  cases pv : peek st1 v with
  | none => exact fun z => z.elim
  | some w =>
    dsimp only
    cases po : fn w with
    | none => exact fun z => z.elim
    | some res =>
      intro q1
      exact ⟨x, g1, st1, σ, w, res, rfl, R1, peek_ok R1 rx pv, po, fun g' H' z e3 R3 rz => q1 g' H' e3 R3 z (RepE.start e1 rz)⟩
theorem pa1 (h : SE X c W e d) (hs : starEach [e] X.env = [(false, eval e X.env)] := by rfl) : PA X [e] (tCons (tE c W d) tNil) := pa_cons h pa_nil (by rw [hs] <;> rfl)
theorem pa2 (h : SE X c W e d) (h2 : SE X c W e2 d2) (hs : starEach [e, e2] X.env = [(false, eval e X.env), (false, eval e2 X.env)] := by rfl) (hs2 : starEach [e2] X.env = [(false, eval e2 X.env)] := by rfl) : PA X [e, e2] (tCons (tE c W d) (tCons (tE c W d2) tNil)) :=
  pa_cons h (pa_cons h2 pa_nil (by rw [hs2] <;> rfl)) (by rw [hs, hs2])
theorem se_callB1 (G : Soft X c) (hc : CallR X (.builtin id) (rC1 c fn)) (hg : Gl X x) (hm : c.mg x = none) (hv : bootBuiltins x = some (.builtin id)) (h : SE X c W e d) (hn : x ≠ "__name__" := by decide) (hdb : (x == ("__debug__" : Str)) = false := by decide)
    (hs : starEach [e] X.env = [(false, eval e X.env)] := by rfl) : SE X c W (.Call (.Name x p) [e] [] pos) (eC1 fn d) :=
  impE (pe_callB hc hg (by rw [G.mg]; exact hm) hv (pa1 h hs) hn hdb (by rw [hs] <;> rfl) rfl) fun σ H Q ⟨g, st, R, q⟩ => c1_step R q
theorem se_callT1 (G : Soft X c) (hc : CallR X (.type T) (rC1 c fn)) (hg : Gl X x) (hm : c.mg x = none) (hv : bootBuiltins x = some (.type T)) (h : SE X c W e d) (hn : x ≠ "__name__" := by decide) (hdb : (x == ("__debug__" : Str)) = false := by decide)
    (hs : starEach [e] X.env = [(false, eval e X.env)] := by rfl) : SE X c W (.Call (.Name x p) [e] [] pos) (eC1 fn d) :=
  impE (pe_callTy hc hg (by rw [G.mg]; exact hm) hv (pa1 h hs) hn hdb (by rw [hs] <;> rfl) rfl) fun σ H Q ⟨g, st, R, q⟩ => c1_step R q
theorem se_callB2 (G : Good X c k) (hc : CallR X (.builtin id) (rC2 c fn2)) (hg : Gl X x) (hm : c.mg x = none) (hv : bootBuiltins x = some (.builtin id)) (h : SE X c W e d) (h2 : SE X c W e2 d2) (hn : x ≠ "__name__" := by decide) (hdb : (x == ("__debug__" : Str)) = false := by decide)
    (hs : starEach [e, e2] X.env = [(false, eval e X.env), (false, eval e2 X.env)] := by rfl) (hs2 : starEach [e2] X.env = [(false, eval e2 X.env)] := by rfl) : SE X c W (.Call (.Name x p) [e, e2] [] pos) (eB2 fn2 d d2) :=
  impE (pe_callB hc hg (by rw [G.mg]; exact hm) hv (pa2 h h2 hs hs2) hn hdb (by rw [hs, hs2]) (by rw [hs2] <;> rfl)) fun σ H Q ⟨g, st, R, q⟩ => by
    obtain ⟨g0, st0, R0, h0⟩ := b2_step R q
    refine ⟨g0, st0, R0, h0.mono fun v st1 g1 H1 _ _ h1 x rx => ?_⟩
    obtain ⟨g2, st2, R2, h2⟩ := h1 x rx
    exact ⟨g2, st2, R2, h2.mono fun v st3 g3 H3 _ _ h3 y ry => ⟨x, y, rfl, h3 y ry⟩⟩

/-! ### what they do -/
def lenV : Val → Option EV
  | .lst xs => some (.p (.int xs.length))
  | .tup xs => some (.p (.int xs.length))
  | .scr xs => some (.p (.int xs.length))
  | .str x => if x.length ≤ LINE then some (.p (.int x.length)) else none
  | .dk ks _ => some (.p (.int ks.length))
  | _ => none
theorem d_len (G : Good X c k) : CallR X (.builtin "len") (rC1 c lenV) := by
  intro pins s σ H xs us Q I r hq
  obtain ⟨x, g, st, σ0, v, res, rfl, R, hx, e, q⟩ := hq
  unfold lenV at e
  split at e
  · cases e
    obtain ⟨a, us', rfl, h1, r1⟩ := lst_of hx
    exact call_len pins s σ H _ us Q I r ⟨_, _, rfl, .inl ⟨us', SqL.of h1, r1.length⟩, q g H _ Ext.refl R (.int _)⟩
  · cases e
    obtain ⟨a, us', rfl, h1, r1⟩ := tup_of hx
    exact call_len pins s σ H _ us Q I r ⟨_, _, rfl, .inr ⟨us', by rw [G.K]; exact h1, r1.length⟩, q g H _ Ext.refl R (.int _)⟩
  · cases e
    obtain ⟨a, rfl, h1⟩ := scr_of hx
    exact call_len pins s σ H _ us Q I r ⟨_, _, rfl, .inl ⟨_, by rw [G.K]; exact h1, by rw [List.length_map]⟩, q g H _ Ext.refl R (.int _)⟩
  · split at e
    · rename_i hl
      cases e
      obtain rfl := str_of hx
      exact call_len pins s σ H _ us Q I r ⟨_, _, rfl, ⟨line_le hl, rfl⟩, q g H _ Ext.refl R (.int _)⟩
    · cases e
  · cases e
    obtain ⟨a, rfl, us', h1, h2, h3⟩ := hx
    obtain ⟨u, rfl, ru⟩ := vals1 r
    cases ru
    refine L2.d_len I h1 fun t s' I' => ⟨.int _, H, I', ⟨t, rfl⟩, ?_⟩
    rw [List.length_zip, ← h2, Nat.min_self]
    exact q g H _ Ext.refl R (.int _)
  · cases e
def absV' : Val → Option EV
  | .int i => some (.p (.int (if i < 0 then -i else i)))
  | _ => none
theorem d_abs : CallR X (.builtin "abs") (rC1 c absV') := by
  intro pins s σ H xs us Q I r hq
  obtain ⟨x, g, st, σ0, v, res, rfl, R, hx, e, q⟩ := hq
  unfold absV' at e
  split at e
  · cases e
    obtain rfl := int_of hx
    exact call_abs pins s σ H _ us Q I r ⟨_, rfl, q g H _ Ext.refl R (.int _)⟩
  · cases e
def intV' : Val → Option EV
  | .int i => some (.p (.int i))
  | .bl b => some (.p (.int (if b then 1 else 0)))
  | _ => none
theorem d_int : CallR X (.type "int") (rC1 c intV') := by
  intro pins s σ H xs us Q I r hq
  obtain ⟨x, g, st, σ0, v, res, rfl, R, hx, e, q⟩ := hq
  unfold intV' at e
  split at e
  · cases e
    obtain rfl := int_of hx
    exact call_int1 pins s σ H _ us Q I r (.inl ⟨_, rfl, q g H _ Ext.refl R (.int _)⟩)
  · cases e
    obtain rfl := bl_of hx
    exact call_int1 pins s σ H _ us Q I r (.inr ⟨_, rfl, q g H _ Ext.refl R (.int _)⟩)
  · cases e
def strV' : Val → Option EV
  | .int i => if i.natAbs.log2 < 1920 then some (.p (.str (toString i))) else none
  | _ => none
theorem d_str : CallR X (.type "str") (rC1 c strV') := by
  intro pins s σ H xs us Q I r hq
  obtain ⟨x, g, st, σ0, v, res, rfl, R, hx, e, q⟩ := hq
  unfold strV' at e
  split at e
  · split at e
    · rename_i hl
      cases e
      obtain rfl := int_of hx
      exact call_str_int pins s σ H _ us Q I r ⟨_, rfl, hl, q g H _ Ext.refl R (.str _)⟩
    · cases e
  · cases e
def maxV2 : Val → Val → Option EV
  | .int i, .int j => some (.p (.int (if j > i then j else i)))
  | _, _ => none
def minV2 : Val → Val → Option EV
  | .int i, .int j => some (.p (.int (if j < i then j else i)))
  | _, _ => none
theorem d_max2 (G : Good X c k) : CallR X (.builtin "max") (rC2 c maxV2) := by
  intro pins s σ H xs us Q I r hq
  obtain ⟨x, y, rfl, g, st, σ0, v, w, res, R, hx, hy, e, q⟩ := hq
  unfold maxV2 at e
  split at e
  · cases e
    obtain rfl := int_of hx
    obtain rfl := int_of hy
    exact call_max2 G.calm pins s σ H _ us Q I r ⟨_, _, rfl, q g H _ Ext.refl R (.int _)⟩
  · cases e
theorem d_min2 (G : Good X c k) : CallR X (.builtin "min") (rC2 c minV2) := by
  intro pins s σ H xs us Q I r hq
  obtain ⟨x, y, rfl, g, st, σ0, v, w, res, R, hx, hy, e, q⟩ := hq
  unfold minV2 at e
  split at e
  · cases e
    obtain rfl := int_of hx
    obtain rfl := int_of hy
    exact call_min2 G.calm pins s σ H _ us Q I r ⟨_, _, rfl, q g H _ Ext.refl R (.int _)⟩
  · cases e
/-- the ints of a list of values -/
def ints? : List Val → Option (List Int)
  | [] => some []
  | .int i :: vs => (ints? vs).map (i :: ·)
  | _ :: _ => none
def bls? : List Val → Option (List Bool)
  | [] => some []
  | .bl i :: vs => (bls? vs).map (i :: ·)
  | _ :: _ => none
theorem ints_reps {g : Gh} {H : Hp} : ∀ {vs : List Val} {us : List V} {ns : List Int}, Reps c g H vs us → ints? vs = some ns → us = ns.map V.int
  | _, _, _, .nil, h => by cases h; rfl
  | _, _, ns, .cons (v := v) (vs := vs) h1 h2, h => by
    cases v with
    | int i =>
      rw [ints?] at h
      cases e : ints? vs with
      | none => rw [e] at h; cases h
      | some ms =>
        rw [e] at h
        cases h
        cases h1
        rw [ints_reps h2 e]; rfl
    | _ => cases h
theorem bls_reps {g : Gh} {H : Hp} : ∀ {vs : List Val} {us : List V} {ns : List Bool}, Reps c g H vs us → bls? vs = some ns → us = ns.map V.bl
  | _, _, _, .nil, h => by cases h; rfl
  | _, _, ns, .cons (v := v) (vs := vs) h1 h2, h => by
    cases v with
    | bl i =>
      rw [bls?] at h
      cases e : bls? vs with
      | none => rw [e] at h; cases h
      | some ms =>
        rw [e] at h
        cases h
        cases h1
        rw [bls_reps h2 e]; rfl
    | _ => cases h
theorem reps_ints {g : Gh} {H : Hp} : ∀ ns : List Int, Reps c g H (ns.map Val.int) (ns.map V.int)
  | [] => .nil
  | n :: ns => .cons (.int n) (reps_ints ns)
def allV : Val → Option EV
  | .lst xs => (bls? xs).map fun bs => .p (.bl (bs.all _root_.id))
  | _ => none
def anyV : Val → Option EV
  | .lst xs => (bls? xs).map fun bs => .p (.bl (bs.any _root_.id))
  | _ => none
def sumV : Val → Option EV
  | .lst xs => (ints? xs).map fun bs => .p (.int bs.sum)
  | _ => none
theorem d_all (G : Good X c k) : CallR X (.builtin "all") (rC1 c allV) := by
  intro pins s σ H xs us Q I r hq
  obtain ⟨x, g, st, σ0, v, res, rfl, R, hx, e, q⟩ := hq
  unfold allV at e
  split at e
  · rename_i vs
    obtain ⟨a, us', rfl, h1, r1⟩ := lst_of hx
    cases e2 : bls? vs with
    | none => rw [e2] at e; cases e
    | some bs =>
      rw [e2] at e
      cases e
      have := bls_reps r1 e2
      subst this
      exact cr_all G.calm pins s σ H _ us Q I r ⟨a, bs, rfl, SqL.of h1, q g H _ Ext.refl R (.bl _)⟩
  · cases e
theorem d_any (G : Good X c k) : CallR X (.builtin "any") (rC1 c anyV) := by
  intro pins s σ H xs us Q I r hq
  obtain ⟨x, g, st, σ0, v, res, rfl, R, hx, e, q⟩ := hq
  unfold anyV at e
  split at e
  · rename_i vs
    obtain ⟨a, us', rfl, h1, r1⟩ := lst_of hx
    cases e2 : bls? vs with
    | none => rw [e2] at e; cases e
    | some bs =>
      rw [e2] at e
      cases e
      have := bls_reps r1 e2
      subst this
      exact cr_any G.calm pins s σ H _ us Q I r ⟨a, bs, rfl, SqL.of h1, q g H _ Ext.refl R (.bl _)⟩
  · cases e
theorem d_sum (G : Good X c k) : CallR X (.builtin "sum") (rC1 c sumV) := by
  intro pins s σ H xs us Q I r hq
  obtain ⟨x, g, st, σ0, v, res, rfl, R, hx, e, q⟩ := hq
  unfold sumV at e
  split at e
  · rename_i vs
    obtain ⟨a, us', rfl, h1, r1⟩ := lst_of hx
    cases e2 : ints? vs with
    | none => rw [e2] at e; cases e
    | some bs =>
      rw [e2] at e
      cases e
      have := ints_reps r1 e2
      subst this
      exact cr_sum G.calm pins s σ H _ us Q I r ⟨a, bs, rfl, SqL.of h1, q g H _ Ext.refl R (.int _)⟩
  · cases e
/-- sorting ints -/
def insI (i : Int) : List Int → List Int
  | [] => [i]
  | j :: r => if i ≤ j then i :: j :: r else j :: insI i r
def sortI : List Int → List Int
  | [] => []
  | i :: r => insI i (sortI r)
theorem insI_perm (i : Int) : ∀ l : List Int, (insI i l).Perm (i :: l)
  | [] => .refl _
  | j :: r => by
    rw [insI]
    split
    · exact .refl _
    · exact ((insI_perm i r).cons j).trans (.swap i j r)
theorem sortI_perm : ∀ l : List Int, (sortI l).Perm l
  | [] => .refl _
  | i :: r => (insI_perm i _).trans ((sortI_perm r).cons i)
theorem insI_sorted (i : Int) : ∀ l : List Int, l.Pairwise (· ≤ ·) → (insI i l).Pairwise (· ≤ ·)
  | [], _ => by rw [insI]; exact List.pairwise_singleton _ _
  | j :: r, h => by
    rw [List.pairwise_cons] at h
    rw [insI]
    split
    · rename_i hij
      exact List.pairwise_cons.mpr ⟨fun a ha => by
        rcases List.mem_cons.mp ha with rfl | ha
        · exact hij
        · exact Int.le_trans hij (h.1 a ha), List.pairwise_cons.mpr h⟩
    · rename_i hij
      refine List.pairwise_cons.mpr ⟨fun a ha => ?_, insI_sorted i r h.2⟩
      rcases List.mem_cons.mp ((insI_perm i r).mem_iff.mp ha) with rfl | ha
      · omega
      · exact h.1 a ha
theorem sortI_sorted : ∀ l : List Int, (sortI l).Pairwise (· ≤ ·)
  | [] => .nil
  | i :: r => insI_sorted i _ (sortI_sorted r)
theorem sorted_unique : ∀ {l m : List Int}, l.Perm m → l.Pairwise (· ≤ ·) → m.Pairwise (· ≤ ·) → l = m
  | [], m, h, _, _ => by rw [List.nil_perm.mp h]
  | a :: l, m, h, h1, h2 => by
    cases m with
    | nil => exact absurd h.length_eq (by simp)
    | cons b m =>
      rw [List.pairwise_cons] at h1 h2
      have ab : a = b := by
        have m1 : a ∈ b :: m := h.mem_iff.mp List.mem_cons_self
        have m2 : b ∈ a :: l := h.mem_iff.mpr List.mem_cons_self
        have l1 : b ≤ a := by
          rcases List.mem_cons.mp m1 with e | e
          · rw [e]; exact Int.le_refl _
          · exact h2.1 a e
        have l2 : a ≤ b := by
          rcases List.mem_cons.mp m2 with e | e
          · rw [e]; exact Int.le_refl _
          · exact h1.1 b e
        omega
      subst ab
      rw [sorted_unique (List.Perm.cons_inv h) h1.2 h2.2]
def sortedV : Val → Option EV
  | .lst xs => (ints? xs).map fun ns => .f (.lst ((sortI ns).map .int))
  | _ => none
theorem d_sorted : CallR X (.builtin "sorted") (rC1 c sortedV) := by
  intro pins s σ H xs us Q I r hq
  obtain ⟨x, g, st, σ0, v, res, rfl, R, hx, e, q⟩ := hq
  unfold sortedV at e
  split at e
  · rename_i vs
    obtain ⟨a, us', rfl, h1, r1⟩ := lst_of hx
    cases e2 : ints? vs with
    | none => rw [e2] at e; cases e
    | some ns =>
      rw [e2] at e
      cases e
      have := ints_reps r1 e2
      subst this
      refine cr_sortedI pins s σ H _ us Q I r ⟨a, ns, rfl, SqL.of h1, fun ns' p hp hs hf => ?_⟩
      have : ns' = sortI ns := sorted_unique (hp.trans (sortI_perm ns).symm) hs (sortI_sorted ns)
      subst this
      exact new_lst R (reps_ints _) q p hf
  · cases e
/-- list(x), tuple(x) of a list or a tuple -/
def listV : Val → Option EV
  | .lst xs => some (.f (.lst xs))
  | .tup xs => some (.f (.lst xs))
  | _ => none
def tupleV : Val → Option EV
  | .lst xs => some (.p (.tup xs))
  | .tup xs => some (.p (.tup xs))
  | _ => none
theorem d_list (G : Good X c k) : CallR X (.type "list") (rC1 c listV) := by
  intro pins s σ H xs us Q I r hq
  obtain ⟨x, g, st, σ0, v, res, rfl, R, hx, e, q⟩ := hq
  unfold listV at e
  split at e
  · cases e
    obtain ⟨a, us', rfl, h1, r1⟩ := lst_of hx
    exact call_list_of pins s σ H _ us Q I r ⟨a, us', rfl, .inl (SqL.of h1), new_lst R r1 q⟩
  · cases e
    obtain ⟨a, us', rfl, h1, r1⟩ := tup_of hx
    exact call_list_of pins s σ H _ us Q I r ⟨a, us', rfl, .inr (by rw [G.K]; exact h1), new_lst R r1 q⟩
  · cases e
theorem d_tuple (G : Good X c k) : CallR X (.type "tuple") (rC1 c tupleV) := by
  intro pins s σ H xs us Q I r hq
  obtain ⟨x, g, st, σ0, v, res, rfl, R, hx, e, q⟩ := hq
  unfold tupleV at e
  split at e
  · cases e
    obtain ⟨a, us', rfl, h1, r1⟩ := lst_of hx
    exact call_tuple_of pins s σ H _ us Q I r ⟨a, us', rfl, .inl ⟨SqL.of h1, new_tup R r1 q⟩⟩
  · cases e
    obtain ⟨a, us', rfl, h1, r1⟩ := tup_at hx
    exact call_tuple_of pins s σ H _ us Q I r ⟨a, us', rfl, .inr ⟨SqT.of h1, q g H _ Ext.refl R (.tup h1 r1)⟩⟩
  · cases e
/-- isinstance(x, a built-in type) -/
def tyName : Val → Option String
  | .non => some "NoneType"
  | .bl _ => some "bool"
  | .int _ => some "int"
  | .str _ => some "str"
  | .tup _ => some "tuple"
  | .lst _ => some "list"
  | .scr _ => some "list"
  | .dk _ _ => some "dict"
  | .dt _ _ => some "dict"
  | _ => none
def isaN (t n : String) : Bool := t == n || (t == "bool" && n == "int")
def isiV : Val → Val → Option EV
  | v, .ty n => if n == "int" || n == "bool" || n == "str" || n == "tuple" || n == "list" || n == "dict" then (tyName v).map fun t => .p (.bl (isaN t n)) else none
  | _, _ => none
theorem sqT_tyx {K : PySem.W.Frag} {H : Hp} {a : Addr} {us : List V} (h : SqT K H a us) : TyX K H (.ref a) (.type "tuple") := by
  rcases h with (h | ⟨o, h⟩) | ⟨o, its, n, h1, h2, _⟩
  · exact .base (.tup h)
  · exact .fTuple h
  · exact .kTuple h1 h2
theorem sqL_tyx {K : PySem.W.Frag} {H : Hp} {a : Addr} {us : List V} (h : SqL K H a us) : TyX K H (.ref a) (.type "list") := by
  rcases h with (h | ⟨o, h⟩) | ⟨o, its, n, h1, h2, _⟩
  · exact .base (.lst h)
  · exact .base (.frz h)
  · exact .kList h1 h2
theorem tyx_of {g : Gh} {H : Hp} {v : Val} {x : V} {t : String} (r : RepP c g H v x) (h : tyName v = some t) : TyX c.K H x (.type t) := by
  cases v with
  | non => cases h; cases r; exact .base .non
  | bl b => cases h; cases r; exact .base (.bl b)
  | int b => cases h; cases r; exact .base (.int b)
  | str b => cases h; cases r; exact .base (.str b)
  | tup vs => cases h; obtain ⟨a, us, rfl, h1, _⟩ := tup_of r; exact sqT_tyx h1
  | lst vs => cases h; obtain ⟨a, us, rfl, h1, _⟩ := lst_of r; exact .base (.lst h1)
  | scr vs => cases h; obtain ⟨a, rfl, h1⟩ := scr_of r; exact sqL_tyx h1
  | dk ks vs => cases h; obtain ⟨a, rfl, us, h1, _⟩ := r; exact h1.elim (fun h1 => .base (.dK h1)) fun ⟨o, h1⟩ => .fDict h1
  | dt ks vs => cases h; obtain ⟨a, rfl, us, h1, _⟩ := r; exact .base (.dT h1)
  | fn x => cases h
  | ty x => cases h
theorem kit_all (K : PySem.W.Frag) {v : Val} {t n : String} (hn : (n == "int" || n == "bool" || n == "str" || n == "tuple" || n == "list" || n == "dict") = true) (h : tyName v = some t) : PySem.W.kitOne K (.type t) (.type n) = some (isaN t n) := by
  simp only [Bool.or_eq_true, beq_iff_eq] at hn
  have ht : t = "NoneType" ∨ t = "bool" ∨ t = "int" ∨ t = "str" ∨ t = "tuple" ∨ t = "list" ∨ t = "dict" := by
    cases v <;> first | (cases h; done) | (cases h; simp)
  rcases ht with rfl | rfl | rfl | rfl | rfl | rfl | rfl <;> rcases hn with ((((rfl | rfl) | rfl) | rfl) | rfl) | rfl <;> exact kit_ty (by decide +kernel)
theorem d_isi (G : Good X c k) : CallR X (.builtin "isinstance") (rC2 c isiV) := by
  intro pins s σ H xs us Q I r hq
  obtain ⟨x, y, rfl, g, st, σ0, v, w, res, R, hx, hy, e, q⟩ := hq
  unfold isiV at e
  split at e
  · rename_i n
    split at e
    · rename_i hn
      cases ht : tyName v with
      | none => rw [ht] at e; cases e
      | some t =>
        rw [ht] at e
        cases e
        cases hy
        exact call_isi pins s σ H _ us Q I r ⟨x, .ty n, .type t, .type n, _, rfl, .ty n, by rw [G.K]; exact tyx_of hx ht, kit_all _ hn ht, q g H _ Ext.refl R (.bl _)⟩
    · cases e
  · cases e
end
end Y
end

section
set_option Elab.async false
set_option linter.all false
set_option maxRecDepth 100000
set_option maxHeartbeats 1000000
namespace Y
open PySem PySem.Spec PyProof.Rows L2 RT
/-! ## list(range(..)), tuple(range(..)), list(reversed(..)) -/
def rgL (a b : Int) : List Val := (List.range (b - a).toNat).map fun (i : Nat) => Val.int (a + (i : Int))
def rgOkB (a b : Int) : Bool := decide (-(4611686018427387904) ≤ a) && decide (a < 4611686018427387904) && decide (-(4611686018427387904) ≤ b) && decide (b < 4611686018427387904) && decide ((b - a).toNat ≤ 16777216)
theorem rgOk_of {a b : Int} (h : rgOkB a b = true) : RgOk a b := by
  unfold rgOkB at h
  simp only [Bool.and_eq_true, decide_eq_true_eq] at h
  obtain ⟨⟨⟨⟨h1, h2⟩, h3⟩, h4⟩, h5⟩ := h
  exact ⟨by omega, by omega, by omega, by omega, by omega⟩
theorem rgL_reps {c : Ct} {g : Gh} {H : Hp} (a b : Int) : Reps c g H (rgL a b) (rgV a b) := by
  unfold rgL rgV
  generalize List.range (b - a).toNat = l
  induction l with
  | nil => exact .nil
  | cons i l ih => exact .cons (.int _) ih
def mkSeq (tup : Bool) (vs : List Val) : EV := if tup then .p (.tup vs) else .f (.lst vs)
def eRg1 (tup : Bool) (d : S → R EV) : S → R EV := fun st => (d st).bind fun v st1 => match peek st1 v with
  | some (.int n) => if rgOkB 0 n then .ok (mkSeq tup (rgL 0 n)) st1 else .bad
  | _ => .bad
def eRg2 (tup : Bool) (d d2 : S → R EV) : S → R EV := fun st => (d st).bind fun v st1 => (d2 st1).bind fun w st2 => match peek st2 v, peek st2 w with
  | some (.int m), some (.int n) => if rgOkB m n then .ok (mkSeq tup (rgL m n)) st2 else .bad
  | _, _ => .bad
def eListRev (d : S → R EV) : S → R EV := fun st => (d st).bind fun v st1 => match peek st1 v with
  | some (.lst xs) => .ok (.f (.lst xs.reverse)) st1
  | _ => .bad
section
variable {X : Cx} {c : Ct} {W : WXs} {k : Nat} {pos p p2 pos2 : Pos} {e e2 : Expr} {d d2 : S → R EV}
theorem se_listRg1 (G : Good X c k) (hg : Gl X "list") (hm : c.mg "list" = none) (hg2 : Gl X "range") (hm2 : c.mg "range" = none) (h : SE X c W e d) (na : starEach [e] X.env = (false, eval e X.env) :: starEach [] X.env := by rfl)
    (na2 : starEach [.Call (.Name "range" p2) [e] [] pos2] X.env = (false, eval (.Call (.Name "range" p2) [e] [] pos2) X.env) :: starEach [] X.env := by rfl) :
    SE X c W (.Call (.Name "list" p) [.Call (.Name "range" p2) [e] [] pos2] [] pos) (eRg1 false d) :=
  impE (pe_listRg G.calm hg (by rw [G.mg]; exact hm) (prg_1 hg2 (by rw [G.mg]; exact hm2) h na) na2) fun σ H Q ⟨g, st, R, q⟩ => by
    refine ⟨g, st, R, Post.mono q.bind fun v st1 g1 H1 e1 R1 q1 x rx => ?_⟩
    revert q1
    cases pv : peek st1 v with
    | none => exact fun z => z.elim
    | some w =>
      cases w with
      | int n =>
        dsimp only
        by_cases hn : rgOkB 0 n = true
        · rw [if_pos hn]
          intro q1
          have := peek_ok R1 rx pv
          obtain rfl := int_of this
          exact ⟨n, rfl, rgOk_of hn, new_lst R1 (rgL_reps 0 n) fun g' H' z e2 R2 rz => q1 g' H' e2 R2 z (RepE.start e1 rz)⟩
        · rw [if_neg hn]; exact fun z => z.elim
      | _ => exact fun z => z.elim
theorem se_tupRg1 (G : Good X c k) (hg : Gl X "tuple") (hm : c.mg "tuple" = none) (hg2 : Gl X "range") (hm2 : c.mg "range" = none) (h : SE X c W e d) (na : starEach [e] X.env = (false, eval e X.env) :: starEach [] X.env := by rfl)
    (na2 : starEach [.Call (.Name "range" p2) [e] [] pos2] X.env = (false, eval (.Call (.Name "range" p2) [e] [] pos2) X.env) :: starEach [] X.env := by rfl) :
    SE X c W (.Call (.Name "tuple" p) [.Call (.Name "range" p2) [e] [] pos2] [] pos) (eRg1 true d) :=
  impE (pe_tupRg G.calm hg (by rw [G.mg]; exact hm) (prg_1 hg2 (by rw [G.mg]; exact hm2) h na) na2) fun σ H Q ⟨g, st, R, q⟩ => by
    refine ⟨g, st, R, Post.mono q.bind fun v st1 g1 H1 e1 R1 q1 x rx => ?_⟩
    revert q1
    cases pv : peek st1 v with
    | none => exact fun z => z.elim
    | some w =>
      cases w with
      | int n =>
        dsimp only
        by_cases hn : rgOkB 0 n = true
        · rw [if_pos hn]
          intro q1
          have := peek_ok R1 rx pv
          obtain rfl := int_of this
          exact ⟨n, rfl, rgOk_of hn, new_tup R1 (rgL_reps 0 n) fun g' H' z e2 R2 rz => q1 g' H' e2 R2 z (RepE.start e1 rz)⟩
        · rw [if_neg hn]; exact fun z => z.elim
      | _ => exact fun z => z.elim
theorem rg2_step (tup : Bool) {g : Gh} {H : Hp} {σ : Sig} {st : S} {Q : VK} (R : Rel c g st σ H) (q : Post c W g H σ (eRg2 tup d d2 st) (kE c g σ Q)) :
    tE c W d σ H fun x H1 => tE c W d2 σ H1 fun y H2 => ∃ i j, x = .int i ∧ y = .int j ∧ RgOk i j ∧ ∀ p, H2 p = none → Q (.ref p) (upd H2 p (if tup then .tup (rgV i j) else .lst (rgV i j))) := by
  refine ⟨g, st, R, Post.mono q.bind fun v st1 g1 H1 e1 R1 q1 x rx => ⟨g1, st1, R1, Post.mono q1.bind fun w st2 g2 H2 e2 R2 q2 y ry => ?_⟩⟩
  revert q2
  cases pv : peek st2 v with
  | none => exact fun z => z.elim
  | some v' =>
    cases pw : peek st2 w with
    | none => cases v' <;> exact fun z => z.elim
    | some w' =>
      cases v' with
      | int m =>
        cases w' with
        | int n =>
          dsimp only
          by_cases hn : rgOkB m n = true
          · rw [if_pos hn]
            intro q2
            obtain rfl := int_of (peek_ok R2 (RepE.ext e2 rx) pv)
            obtain rfl := int_of (peek_ok R2 ry pw)
            refine ⟨m, n, rfl, rfl, rgOk_of hn, ?_⟩
            cases tup with
            | true => exact new_tup R2 (rgL_reps m n) fun g' H' z e3 R3 rz => q2 g' H' e3 R3 z (RepE.start (e1.trans e2) rz)
            | false => exact new_lst R2 (rgL_reps m n) fun g' H' z e3 R3 rz => q2 g' H' e3 R3 z (RepE.start (e1.trans e2) rz)
          · rw [if_neg hn]; exact fun z => z.elim
        | _ => exact fun z => z.elim
      | _ => exact fun z => z.elim
theorem se_listRg2 (G : Good X c k) (hg : Gl X "list") (hm : c.mg "list" = none) (hg2 : Gl X "range") (hm2 : c.mg "range" = none) (h : SE X c W e d) (h2 : SE X c W e2 d2) (na : starEach [e, e2] X.env = (false, eval e X.env) :: starEach [e2] X.env := by rfl)
    (na1 : starEach [e2] X.env = (false, eval e2 X.env) :: starEach [] X.env := by rfl)
    (na2 : starEach [.Call (.Name "range" p2) [e, e2] [] pos2] X.env = (false, eval (.Call (.Name "range" p2) [e, e2] [] pos2) X.env) :: starEach [] X.env := by rfl) :
    SE X c W (.Call (.Name "list" p) [.Call (.Name "range" p2) [e, e2] [] pos2] [] pos) (eRg2 false d d2) :=
  impE (pe_listRg G.calm hg (by rw [G.mg]; exact hm) (prg_2 hg2 (by rw [G.mg]; exact hm2) h h2 na na1 (by rw [na1] <;> rfl)) na2) fun σ H Q ⟨g, st, R, q⟩ => rg2_step false R q
theorem se_tupRg2 (G : Good X c k) (hg : Gl X "tuple") (hm : c.mg "tuple" = none) (hg2 : Gl X "range") (hm2 : c.mg "range" = none) (h : SE X c W e d) (h2 : SE X c W e2 d2) (na : starEach [e, e2] X.env = (false, eval e X.env) :: starEach [e2] X.env := by rfl)
    (na1 : starEach [e2] X.env = (false, eval e2 X.env) :: starEach [] X.env := by rfl)
    (na2 : starEach [.Call (.Name "range" p2) [e, e2] [] pos2] X.env = (false, eval (.Call (.Name "range" p2) [e, e2] [] pos2) X.env) :: starEach [] X.env := by rfl) :
    SE X c W (.Call (.Name "tuple" p) [.Call (.Name "range" p2) [e, e2] [] pos2] [] pos) (eRg2 true d d2) :=
  impE (pe_tupRg G.calm hg (by rw [G.mg]; exact hm) (prg_2 hg2 (by rw [G.mg]; exact hm2) h h2 na na1 (by rw [na1] <;> rfl)) na2) fun σ H Q ⟨g, st, R, q⟩ => rg2_step true R q
def tListRev (K : PySem.W.Frag) (te : TE) : TE := fun σ H Q => te σ H fun v H1 => ∃ (a : Addr) (xs : List V), v = .ref a ∧ SqL K H1 a xs ∧ ∀ q, H1 q = none → Q (.ref q) (upd H1 q (.lst xs.reverse))
theorem pe_listRev {te : TE} (hc : X.calm = true) (hg : Gl X "list") (hm : X.mg "list" = none) (hg2 : Gl X "reversed") (hm2 : X.mg "reversed" = none) (he : PE X e te)
    (hs : starEach [e] X.env = (false, eval e X.env) :: starEach [] X.env := by rfl)
    (hs2 : starEach [.Call (.Name "reversed" p2) [e] [] pos2] X.env = (false, eval (.Call (.Name "reversed" p2) [e] [] pos2) X.env) :: starEach [] X.env := by rfl) :
    PE X (.Call (.Name "list" p) [.Call (.Name "reversed" p2) [e] [] pos2] [] pos) (tListRev X.K te) := by
  refine ⟨fun pins s σ H Q I h => ?_⟩
  refine Call_ (ld_blt I hg hm boot_list (PyProof.Rows.callWith_type1 (args_cons (Call_ (ld_blt I hg2 hm2 PyProof.Rows.boot_reversed (PyProof.Rows.callWith_type1 (args_cons (thn (he.run pins s σ H _ I h) fun u s1 ⟨v, H1, I1, r1, q1⟩ => args_nil ?_) hs) hs rfl))) hs2) hs2 rfl))
  obtain ⟨a, xs, ev, hq, q⟩ := q1
  subst ev
  obtain rfl : u = Value.ref a := r1
  obtain ⟨its, rv, p', hz⟩ := I1.list hq
  refine call_reversed_list p'.isList (args_nil ?_)
  have k0 : ∀ b o, s1.heap.get? b = some o → (s1.heap.push (revObj a ((its.toArray.size : Int) - 1))).get? b = some o := fun b o e => Heap.get?_push_of_some _ e
  have I2 : Inv X pins σ H1 { s1 with heap := s1.heap.push (revObj a ((its.toArray.size : Int) - 1)) } := I1.kept (t' := s1.toks) k0
  obtain ⟨f0, f1, f2, f3, f4, f5⟩ := I1.fpOk (H' := H1) (b := s1.heap.objs.size) (Nat.le_refl _) (I1.hok.fresh (Nat.le_refl _))
  have hl := p'.isList
  obtain ⟨ol, hol, _⟩ := id hl
  have hne : a ≠ s1.heap.objs.size := Nat.ne_of_lt (Heap.lt_size hol)
  have hn : its.toArray.size ≤ sizeLine := by rw [List.size_toArray, ← rv.length]; exact hz
  have hfr : H1 (s1.heap.push (revObj a ((its.toArray.size : Int) - 1))).objs.size = none := I2.hok.fresh (Nat.le_refl _)
  refine call_list_rev (s := { s1 with heap := s1.heap.push (revObj a ((its.toArray.size : Int) - 1)) }) (I1.ok.hd hc) ⟨_, Heap.get?_push_size _ rfl, rfl, rfl⟩ (hl.push _) hne hn fun h' tk acc c' hk e' hi => ?_
  have I3 : Inv X pins σ H1 { s1 with heap := h', toks := tk } := I2.turned (t' := tk) (fun b o hb e => hk b o hb e) f0 f1 f3 f4 f5
  have hlt : ∀ b u, H1 b = some u → b ≠ (s1.heap.push (revObj a ((its.toArray.size : Int) - 1))).objs.size := fun b u e z => by rw [z, hfr] at e; cases e
  refine ⟨.ref _, upd H1 _ (.lst xs.reverse), ?_, rfl, q _ hfr⟩
  have I4 : Inv X pins σ (upd H1 (s1.heap.push (revObj a ((its.toArray.size : Int) - 1))).objs.size (.lst xs.reverse)) { s1 with heap := h', toks := tk } := by
    refine Inv.step (X := X) (s := { s1 with heap := s1.heap.push (revObj a ((its.toArray.size : Int) - 1)) }) (ch := [s1.heap.objs.size]) (g' := s1.gens) (d' := s1.drawn) (t' := tk) (h' := h') (H' := upd H1 (s1.heap.push (revObj a ((its.toArray.size : Int) - 1))).objs.size (.lst xs.reverse)) I2 (fun b hb => ?_) (fun b o _ _ hc e _ => hk b o (fun z => hc (by simp [z])) e) (fun b o _ _ hc e _ => ⟨o.slots, hk b o (fun z => hc (by simp [z])) e⟩) (fun b o _ e n => ?_) (fun b o hc e => ⟨o, hk b o (fun z => hc (by simp [z])) e⟩)
      (fun b xs e => by rw [upd_ne (hlt b _ e)]; exact e) (fun b u xs e => by rw [upd_ne (hlt b _ e)]; exact e) (fun b ps e => ⟨#[], by rw [upd_ne (hlt b _ e), e]; simp⟩) (fun m hm => ?_) ?_ I2.bare
    · have e : b = s1.heap.objs.size := by simpa using hb
      subst e
      exact ⟨f3, f1, f4, f5⟩
    · rw [upd_ne (Nat.ne_of_lt (Heap.lt_size e))]; exact n
    · obtain ⟨o, es, ep, ho, r⟩ := hm
      exact ⟨o, es, ep, hk _ o (Ne.symm f1) ho, r⟩
    · intro b u e
      by_cases hb : b = (s1.heap.push (revObj a ((its.toArray.size : Int) - 1))).objs.size
      · subst hb
        rw [upd_same] at e
        cases e
        refine ⟨by rw [List.length_reverse]; exact hz, acc.toList, c', vals_rev rv hi, ?_⟩
        rw [Array.toArray_toList]; exact e'
      · rw [upd_ne hb] at e
        exact (I3.hok b u e).stay (fun _ _ _ q => q) (fun d q => by rw [upd_ne (hlt d _ q)]; exact q) fun d xs q => by rw [upd_ne (hlt d _ q)]; exact q
  exact I4
theorem se_listRev (G : Good X c k) (hg : Gl X "list") (hm : c.mg "list" = none) (hg2 : Gl X "reversed") (hm2 : c.mg "reversed" = none) (h : SE X c W e d) (hs : starEach [e] X.env = (false, eval e X.env) :: starEach [] X.env := by rfl)
    (hs2 : starEach [.Call (.Name "reversed" p2) [e] [] pos2] X.env = (false, eval (.Call (.Name "reversed" p2) [e] [] pos2) X.env) :: starEach [] X.env := by rfl) :
    SE X c W (.Call (.Name "list" p) [.Call (.Name "reversed" p2) [e] [] pos2] [] pos) (eListRev d) :=
  impE (pe_listRev G.calm hg (by rw [G.mg]; exact hm) hg2 (by rw [G.mg]; exact hm2) h hs hs2) fun σ H Q ⟨g, st, R, q⟩ => by
    refine ⟨g, st, R, Post.mono q.bind fun v st1 g1 H1 e1 R1 q1 x rx => ?_⟩
    revert q1
    cases pv : peek st1 v with
    | none => exact fun z => z.elim
    | some w =>
      cases w with
      | lst xs =>
        intro q1
        obtain ⟨a, us, rfl, h1, r1⟩ := lst_of (peek_ok R1 rx pv)
        exact ⟨a, us, rfl, SqL.of h1, new_lst R1 r1.reverse fun g' H' z e2 R2 rz => q1 g' H' e2 R2 z (RepE.start e1 rz)⟩
      | _ => exact fun z => z.elim
end

/-! ## slices -/
def tO (c : Ct) (W : WXs) (d : S → R (Option Int)) : TO := fun σ H Q => ∃ g st, Rel c g st σ H ∧ Post c W g H σ (d st) fun o _ _ H' => Q o H'
def SO (X : Cx) (c : Ct) (W : WXs) (e : Option Expr) (d : S → R (Option Int)) : Prop := PO X e (tO c W d)
def oN : S → R (Option Int) := fun st => .ok none st
def oI (d : S → R EV) : S → R (Option Int) := fun st => (d st).bind fun v st1 => match v with
  | .p (.int i) => .ok (some i) st1
  | _ => .bad
def sliceL {α : Type} (xs : List α) (lo hi st : Option Int) : List α :=
  ((sliceRange (sliceBounds lo hi st xs.length).1 (sliceBounds lo hi st xs.length).2.1 (sliceBounds lo hi st xs.length).2.2).filterMap (xs[·]?))
def cutL {α : Type} (xs : List α) (lo hi : Option Int) : List α := (xs.drop (HT.sIx xs.length 0 lo)).take (HT.sIx xs.length xs.length hi - HT.sIx xs.length 0 lo)
def cutVal : Val → Option Int → Option Int → Option EV
  | .lst xs, lo, hi => some (.f (.lst (cutL xs lo hi)))
  | .tup xs, lo, hi => some (.p (.tup (cutL xs lo hi)))
  | .str z, lo, hi => if z.length ≤ LINE then some (.p (.str (cutS z lo hi))) else none
  | _, _, _ => none
def eSl (d : S → R EV) (l h : S → R (Option Int)) : S → R EV := fun st => (d st).bind fun v st1 => (l st1).bind fun lo st2 => (h st2).bind fun hi st3 => match peek st3 v with
  | some w => match cutVal w lo hi with
    | some r => .ok r st3
    | none => .bad
  | none => .bad
def eSl3 (d : S → R EV) (l h : S → R (Option Int)) (t : S → R (Option Int)) : S → R EV := fun st => (d st).bind fun v st1 => (l st1).bind fun lo st2 => (h st2).bind fun hi st3 => (t st3).bind fun s st4 => match peek st4 v with
  | some (.lst xs) => if s = some 0 then .bad else .ok (.f (.lst (sliceL xs lo hi s))) st4
  | _ => .bad
section
variable {X : Cx} {c : Ct} {W : WXs} {k : Nat} {pos p2 : Pos} {e : Expr} {lo hi stp : Option Expr} {d : S → R EV} {dl dh dt : S → R (Option Int)}
theorem so_none : SO X c W none oN := ⟨fun pins s σ H Q I ⟨g, st, R, q⟩ => po_none.run pins s σ H Q I (q g H Ext.refl R)⟩
theorem so_some {e : Expr} (h : SE X c W e d) : SO X c W (some e) (oI d) := ⟨fun pins s σ H Q I ⟨g, st, R, q⟩ => (po_some h).run pins s σ H Q I (by
  refine ⟨g, st, R, Post.mono q.bind fun v st1 g1 H1 e1 R1 q1 x rx => ?_⟩
  match v, q1 with
  | .p (.int i), q1 => cases rx; exact ⟨i, rfl, q1 g1 H1 Ext.refl R1⟩)⟩
theorem cutL_reps {g : Gh} {H : Hp} {vs : List Val} {us : List V} (r : Reps c g H vs us) (lo hi : Option Int) : Reps c g H (cutL vs lo hi) (cutV us lo hi) := by
  unfold cutL cutV
  rw [r.length]
  exact (r.drop _).take _
theorem cutL_whole {α : Type} {xs : List α} {lo hi : Option Int} (h : HT.sIx xs.length 0 lo = 0 ∧ HT.sIx xs.length xs.length hi = xs.length) : cutL xs lo hi = xs := by
  unfold cutL
  rw [h.1, h.2]
  simp
def rCut (c : Ct) : V → Option Int → Option Int → Hp → VK → Prop := fun x lo hi H Q => ∃ g st σ v res, Rel c g st σ H ∧ RepP c g H v x ∧ cutVal v lo hi = some res ∧
  ∀ g' H' z, Ext c g H g' H' → Rel c g' st σ H' → RepE c g g' H' σ res z → Q z H'
theorem d_cut (G : Good X c k) : SlR X (rCut c) := by
  intro pins s σ H x v vl vu lo hi sl Q I rx hs pl pu h
  obtain ⟨g, st, σ0, w, res, R, hx, e, q⟩ := h
  unfold cutVal at e
  split at e
  · cases e
    obtain ⟨a, us, rfl, h1, r1⟩ := lst_of hx
    exact sl_list pins s σ H _ v vl vu _ _ sl Q I rx hs pl pu ⟨a, us, rfl, SqL.of h1, new_lst R (cutL_reps r1 _ _) q⟩
  · cases e
    obtain ⟨a, us, rfl, h1, r1⟩ := tup_at hx
    refine sl_tupA pins s σ H _ v vl vu _ _ sl Q I rx hs pl pu ⟨a, us, rfl, SqT.of h1, fun hw => ?_, fun _ => new_tup R (cutL_reps r1 _ _) q⟩
    refine q g H _ Ext.refl R ?_
    rw [cutL_whole (by rw [r1.length]; exact hw)]
    exact .tup h1 r1
  · split at e
    · rename_i hl
      cases e
      obtain rfl := str_of hx
      exact sl_str pins s σ H _ v vl vu _ _ sl Q I rx hs pl pu ⟨_, rfl, line_le hl, q g H _ Ext.refl R (.str _)⟩
    · cases e
  · cases e
theorem se_slice (G : Good X c k) (h : SE X c W e d) (hl : SO X c W lo dl) (hh : SO X c W hi dh) : SE X c W (.Subscript e (.Slice lo hi none p2) pos) (eSl d dl dh) :=
  impE (pe_slice (d_cut G) h hl hh) fun σ H Q ⟨g, st, R, q⟩ => by
    refine ⟨g, st, R, Post.mono q.bind fun v st1 g1 H1 e1 R1 q1 x rx => ⟨g1, st1, R1, Post.mono q1.bind fun l st2 g2 H2 e2 R2 q2 => ⟨g2, st2, R2, Post.mono q2.bind fun u st3 g3 H3 e3 R3 q3 => ?_⟩⟩⟩
    revert q3
    cases pv : peek st3 v with
    | none => exact fun z => z.elim
    | some w =>
      dsimp only
      cases po : cutVal w l u with
      | none => exact fun z => z.elim
      | some res =>
        intro q3
        exact ⟨g3, st3, σ, w, res, R3, peek_ok R3 (RepE.ext (e2.trans e3) rx) pv, po, fun g' H' z e4 R4 rz => q3 g' H' e4 R4 z (RepE.start (e1.trans (e2.trans e3)) rz)⟩
theorem filterMap_reps {g : Gh} {H : Hp} {vs : List Val} {us : List V} (r : Reps c g H vs us) : ∀ l : List Nat, Reps c g H (l.filterMap (vs[·]?)) (l.filterMap (us[·]?))
  | [] => .nil
  | i :: l => by
    rw [List.filterMap_cons, List.filterMap_cons]
    cases e : vs[i]? with
    | none =>
      have : us[i]? = none := by
        rw [List.getElem?_eq_none_iff] at e ⊢
        rw [← r.length]; exact e
      rw [this]
      exact filterMap_reps r l
    | some v =>
      obtain ⟨x, h1, h2⟩ := r.get e
      rw [h1]
      exact .cons h2 (filterMap_reps r l)
theorem sliceL_reps {g : Gh} {H : Hp} {vs : List Val} {us : List V} (r : Reps c g H vs us) (lo hi st : Option Int) : Reps c g H (sliceL vs lo hi st) (sliceL us lo hi st) := by
  unfold sliceL
  rw [r.length]
  exact filterMap_reps r _
theorem filterMap_vals {us : List V} {its : List Value} (r : Vals us its) : ∀ l : List Nat, Vals (l.filterMap (us[·]?)) (l.filterMap (its[·]?))
  | [] => .nil
  | i :: l => by
    rw [List.filterMap_cons, List.filterMap_cons]
    cases e : us[i]? with
    | none =>
      rw [r.none_of e]
      exact filterMap_vals r l
    | some v =>
      obtain ⟨x, h1, h2⟩ := r.get e
      rw [h1]
      exact .cons h2 (filterMap_vals r l)
def tSl3 (K : PySem.W.Frag) (te : TE) (tl th tt : TO) : TE := fun σ H Q => te σ H fun x H1 => tl σ H1 fun l H2 => th σ H2 fun u H3 => tt σ H3 fun s H4 => ∃ a xs, x = .ref a ∧ SqL K H4 a xs ∧ s ≠ some 0 ∧
  (sliceL xs l u s).length ≤ sizeLine ∧ ∀ p, H4 p = none → Q (.ref p) (upd H4 p (.lst (sliceL xs l u s)))
theorem pe_slice3 {te : TE} {tl th tt : TO} {z : Expr} (he : PE X e te) (hl : PO X lo tl) (hu : PO X hi th) (ht : PO X (some z) tt)
    (hops : ∀ (a b : Addr), subscripted (.Slice lo hi (some z) p2) false (.ref a) (.ref b) = operate [.ref a, .ref b] (getItem (.ref a) (.ref b)) := by intro _ _; with_unfolding_all rfl) : PE X (.Subscript e (.Slice lo hi (some z) p2) pos) (tSl3 X.K te tl th tt) := by
  refine ⟨fun pins s σ H Q I h => ?_⟩
  refine Subscript_ (thn (he.run pins s σ H _ I h) fun v s1 ⟨x, H1, I1, r1, q1⟩ => ?_)
  refine wpAny_Slice (thn (hl.run pins s1 σ H1 _ I1 q1) fun vl s2 ⟨l, H2, I2, pl, q2⟩ => thn (hu.run pins s2 σ H2 _ I2 q2) fun vu s3 ⟨u, H3, I3, pu, q3⟩ => ?_)
  refine thn (ht.run pins s3 σ H3 _ I3 q3) fun vs s4 ⟨o, H4, I4, ps, a, xs, ex, hx, h0, hlen, q⟩ => ?_
  subst ex
  cases r1
  have I5 : Inv X pins σ H4 { s4 with heap := s4.heap.push { cls := .type "slice", data := .fields #[vl, vu, vs] } } := I4.kept (t' := s4.toks) fun b ob q => Heap.get?_push_of_some _ q
  obtain ⟨its, r, ht, hz⟩ := I5.list hx
  have hlen' := r.length
  show wpAny (model X.prog X.w) X.A (subscriptTail e (.Slice lo hi (some z) p2) (.ref a) (.ref s4.heap.objs.size)) (EP X pins σ Q) X.xe { s4 with heap := s4.heap.push { cls := .type "slice", data := .fields #[vl, vu, vs] } }
  refine tail_any (ops := [.ref a, .ref s4.heap.objs.size]) ht.isList.typeIs (PySem.slot_list_getitem.lookup) ?_ (hops _ _)
  refine wpAny_getItem_list_slice ht.isList (Heap.IsSliceOf.new _ vl vu vs) pl pu ps h0 ?_ (by rw [List.size_toArray]; omega)
  refine ⟨.ref _, _, I5.laid (t' := s4.toks) (o := .lst (sliceL xs l u o)) (fun b ob q => Heap.get?_push_of_some _ q) (Nat.le_refl _) ?_, rfl, q _ (I5.hok.fresh (Nat.le_refl _))⟩
  refine ⟨hlen, (sliceL its l u o), 0, ?_, ?_⟩
  · unfold sliceL
    rw [hlen']
    exact filterMap_vals r _
  · have e : slicePick its.toArray l u o = (sliceL its l u o).toArray := by
      unfold slicePick sliceL
      rw [List.size_toArray]
      simp only [List.getElem?_toArray]
    rw [e]
    exact Heap.get?_push_size _ rfl
end
end Y
end

section
set_option Elab.async false
set_option linter.all false
set_option maxRecDepth 100000
set_option maxHeartbeats 1000000
namespace Y
open PySem PySem.Spec PyProof.Rows L2
/-! ## xs[a:b:c] -/
def eSl3' (d : S → R EV) (l h t : S → R (Option Int)) : S → R EV := fun st => (d st).bind fun v st1 => (l st1).bind fun lo st2 => (h st2).bind fun hi st3 => (t st3).bind fun s st4 => match peek st4 v with
  | some (.lst xs) => if decide (s ≠ some 0) && decide ((sliceL xs lo hi s).length ≤ LINE) then .ok (.f (.lst (sliceL xs lo hi s))) st4 else .bad
  | _ => .bad
section
variable {X : Cx} {c : Ct} {W : WXs} {k : Nat} {pos p2 : Pos} {e : Expr} {lo hi : Option Expr} {d : S → R EV} {dl dh dt : S → R (Option Int)}
theorem se_slice3 {z : Expr} (G : Good X c k) (h : SE X c W e d) (hl : SO X c W lo dl) (hh : SO X c W hi dh) (ht : SO X c W (some z) dt)
    (hops : ∀ (a b : Addr), subscripted (.Slice lo hi (some z) p2) false (.ref a) (.ref b) = operate [.ref a, .ref b] (getItem (.ref a) (.ref b)) := by intro _ _; with_unfolding_all rfl) : SE X c W (.Subscript e (.Slice lo hi (some z) p2) pos) (eSl3' d dl dh dt) :=
  impE (pe_slice3 h hl hh ht hops) fun σ H Q ⟨g, st, R, q⟩ => by
    refine ⟨g, st, R, Post.mono q.bind fun v st1 g1 H1 e1 R1 q1 x rx => ⟨g1, st1, R1, Post.mono q1.bind fun l st2 g2 H2 e2 R2 q2 => ⟨g2, st2, R2, Post.mono q2.bind fun u st3 g3 H3 e3 R3 q3 => ⟨g3, st3, R3, Post.mono q3.bind fun s st4 g4 H4 e4 R4 q4 => ?_⟩⟩⟩⟩
    revert q4
    cases pv : peek st4 v with
    | none => exact fun z => z.elim
    | some w =>
      cases w with
      | lst xs =>
        dsimp only
        by_cases hb : (decide (s ≠ some 0) && decide ((sliceL xs l u s).length ≤ LINE)) = true
        · rw [if_pos hb]
          rw [Bool.and_eq_true, decide_eq_true_eq, decide_eq_true_eq] at hb
          intro q4
          obtain ⟨a, us, rfl, h1, r1⟩ := lst_of (peek_ok R4 (RepE.ext (e2.trans (e3.trans e4)) rx) pv)
          have r2 := sliceL_reps r1 l u s
          refine ⟨a, us, rfl, by rw [G.K]; exact SqL.of h1, hb.1, by rw [← r2.length]; exact line_le hb.2, new_lst R4 r2 fun g' H' z e5 R5 rz => q4 g' H' e5 R5 z (RepE.start (e1.trans (e2.trans (e3.trans e4))) rz)⟩
        · rw [if_neg hb]; exact fun z => z.elim
      | _ => exact fun z => z.elim
end

/-! ## an object is changed -/
def isMut : HO → Bool
  | .lst _ => true
  | .dK _ => true
  | .dT _ => true
  | _ => false
theorem RepO.mut {c : Ct} {g : Gh} {H : Hp} {b : Ob} {a : Addr} (h : RepO c g H b a) : ∃ o : HO, H a = Option.some o ∧ isMut o = true := by
  cases b with
  | none => exact h.elim
  | lst vs => obtain ⟨us, h1, _⟩ := h; exact ⟨_, h1, rfl⟩
  | dk ks vs => obtain ⟨us, h1, _⟩ := h; exact ⟨_, h1, rfl⟩
  | dt ks vs => obtain ⟨us, h1, _⟩ := h; exact ⟨_, h1, rfl⟩
section
variable {c : Ct} {g : Gh} {H : Hp} {st : S} {σ : Sig} {a : Addr} {o o' : HO}
theorem ext_write (ha : (∃ i, g a = .own i) ∨ g a = .rf) (h : H a = some o) (m : isMut o = true) : Ext c g H g (upd H a o') := by
  refine ⟨fun b q => ⟨rfl, ?_⟩, fun _ q => q, fun _ q => q, fun b us q => ?_, fun b q => ?_⟩
  · refine upd_ne fun z => ?_
    subst z
    rcases ha with ⟨i, e⟩ | e <;> rcases q with q | q | q | ⟨j, q⟩ <;> rw [e] at q <;> cases q
  · rw [upd_ne (fun z => by subst z; rw [h] at q; cases q; cases m)]
    exact q
  · by_cases z : b = a
    · rw [z, upd_same]; exact fun z => nomatch z
    · rw [upd_ne z]; exact q
/-- the object of slot i -/
theorem Rel.write (R : Rel c g st σ H) {i : Nat} {b b' : Ob} (hi : st.get i = .o b) (hs : σ[i]? = some (some (.ref a))) (ha : g a = .own i) (h : H a = some o) (m : isMut o = true)
    (r : RepO c g (upd H a o') b' a) : Rel c g (st.set i (.o b')) σ (upd H a o') := by
  have E : Ext c g H g (upd H a o') := ext_write (.inl ⟨i, ha⟩) h m
  have hlt : i < st.sl.length := (List.getElem?_eq_some_iff.mp (S.get_some hi (fun z => nomatch z))).1
  have ne : ∀ {b : Addr} {t : Tag}, g b = t → t ≠ .own i → b ≠ a := fun {b t} q n z => by subst z; rw [ha] at q; exact n q.symm
  refine ⟨by rw [← R.len]; exact List.length_set .., fun j sv x h1 h2 => ?_, ?_, R.rfu, fun b q => E.grow b (R.dom b q), R.young, lkd_set R (by rw [hi]; exact fun _ z => nomatch z), fun b q => E.grow b (R.grow b q)⟩
  · by_cases hj : j = i
    · subst hj
      have h1 : (st.sl.set j (.o b'))[j]? = some sv := h1
      rw [List.getElem?_set_self hlt] at h1
      cases h1
      rw [hs] at h2
      cases h2
      exact ⟨a, rfl, ha, r⟩
    · have h1 : (st.sl.set i (.o b'))[j]? = some sv := h1
      rw [List.getElem?_set_ne (Ne.symm hj)] at h1
      have q := R.sl j sv x h1 h2
      cases sv with
      | p v => cases x with | none => exact q | some x => exact Rep.ext E q
      | o b => cases x with | none => exact q | some x => obtain ⟨d, e1, e2, e3⟩ := q; exact ⟨d, e1, e2, e3.ext E (upd_ne (ne e2 fun z => hj (Tag.own.inj z)))⟩
      | l b => cases x with | none => exact q | some x => obtain ⟨d, e1, e2, e3⟩ := q; exact ⟨d, e1, e2, e3.ext E (upd_ne (ne e2 fun z => nomatch z))⟩
      | r => cases x with | none => exact q | some x => exact q
      | u => cases x <;> exact trivial
      | x => cases x with | none => exact q | some x => exact q
  · rcases R.rf with e | ⟨d, e1, e2⟩
    · exact .inl e
    · exact .inr ⟨d, e1, e2.ext E (upd_ne (ne e1 fun z => nomatch z))⟩
/-- the shared object -/
theorem Rel.writeR (R : Rel c g st σ H) {b' : Ob} (ha : g a = .rf) (h : H a = some o) (m : isMut o = true) (r : RepO c g (upd H a o') b' a) : Rel c g ⟨st.sl, b'⟩ σ (upd H a o') := by
  have E : Ext c g H g (upd H a o') := ext_write (.inr ha) h m
  have ne : ∀ {b : Addr} {t : Tag}, g b = t → t ≠ .rf → b ≠ a := fun {b t} q n z => by subst z; rw [ha] at q; exact n q.symm
  refine ⟨R.len, fun j sv x h1 h2 => ?_, .inr ⟨a, ha, r⟩, R.rfu, fun b q => E.grow b (R.dom b q), R.young, R.lkd, fun b q => E.grow b (R.grow b q)⟩
  have q := R.sl j sv x h1 h2
  cases sv with
  | p v => cases x with | none => exact q | some x => exact Rep.ext E q
  | o b => cases x with | none => exact q | some x => obtain ⟨d, e1, e2, e3⟩ := q; exact ⟨d, e1, e2, e3.ext E (upd_ne (ne e2 fun z => nomatch z))⟩
  | l b => cases x with | none => exact q | some x => obtain ⟨d, e1, e2, e3⟩ := q; exact ⟨d, e1, e2, e3.ext E (upd_ne (ne e2 fun z => nomatch z))⟩
  | r => cases x with | none => exact q | some x => exact q
  | u => cases x <;> exact trivial
  | x => cases x with | none => exact q | some x => exact q
end
/-- the object that an expression tells, changed by f -/
def mutAt {α : Type} (v : EV) (st : S) (f : Ob → Option (α × Ob)) (k : α → S → R EV) : R EV := match v with
  | .s i => match st.get i with
    | .o b => match f b with
      | some (r, b') => k r (st.set i (.o b'))
      | none => .bad
    | _ => .bad
  | .r => match f st.rf with
    | some (r, b') => k r ⟨st.sl, b'⟩
    | none => .bad
  | _ => .bad
theorem mutAt_ok {α : Type} {c : Ct} {W : WXs} {g0 g : Gh} {H : Hp} {σ : Sig} {st : S} {v : EV} {x : V} {f : Ob → Option (α × Ob)} {k : α → S → R EV} {Q : VK} (R : Rel c g st σ H) (rx : RepE c g0 g H σ v x) (f0 : f .none = none)
    (q : Post c W g H σ (mutAt v st f k) (kE c g0 σ Q)) : ∃ a b r b' o, x = .ref a ∧ ((∃ i, g a = .own i) ∨ g a = .rf) ∧ RepO c g H b a ∧ H a = some o ∧ isMut o = true ∧ f b = some (r, b') ∧
      ∀ o', RepO c g (upd H a o') b' a → ∃ st', Rel c g st' σ (upd H a o') ∧ Post c W g (upd H a o') σ (k r st') (kE c g0 σ Q) := by
  cases v with
  | p v => exact q.elim
  | f v => exact q.elim
  | s i =>
    have hx : σ[i]? = some (some x) := rx
    unfold mutAt at q
    dsimp only at q
    cases e : st.get i with
    | o b =>
      rw [e] at q
      dsimp only at q
      obtain ⟨y, hy, r⟩ := R.at e (fun z => nomatch z)
      rw [hx] at hy; cases hy
      obtain ⟨a, rfl, ha, rb⟩ := r
      obtain ⟨o, ho, hm⟩ := rb.mut
      cases hf : f b with
      | none => rw [hf] at q; exact q.elim
      | some p =>
        obtain ⟨r, b'⟩ := p
        rw [hf] at q
        refine ⟨a, b, r, b', o, rfl, .inl ⟨i, ha⟩, rb, ho, hm, hf, fun o' h => ⟨_, R.write e hx ha ho hm h, Post.start (ext_write (.inl ⟨i, ha⟩) ho hm) q⟩⟩
    | p v => rw [e] at q; exact q.elim
    | l v => rw [e] at q; exact q.elim
    | r => rw [e] at q; exact q.elim
    | u => rw [e] at q; exact q.elim
    | x => rw [e] at q; exact q.elim
  | r =>
    obtain ⟨a, rfl, ha⟩ := rx
    unfold mutAt at q
    dsimp only at q
    cases hf : f st.rf with
    | none => rw [hf] at q; exact q.elim
    | some p =>
      obtain ⟨r, b'⟩ := p
      rw [hf] at q
      rcases R.rf with e | ⟨d, e1, e2⟩
      · rw [e, f0] at hf; cases hf
      · have hd : a = d := R.rfu a d ha e1
        subst hd
        obtain ⟨o, ho, hm⟩ := e2.mut
        exact ⟨a, st.rf, r, b', o, rfl, .inr ha, e2, ho, hm, hf, fun o' h => ⟨_, R.writeR ha ho hm h, Post.start (ext_write (.inr ha) ho hm) q⟩⟩

/-! ## methods -/
/-- a method of the built-in type T that changes its object -/
def eMut (T : String) (f : List Val → Ob → Option (Val × Ob)) (d : S → R EV) (a : S → R (List Val)) : S → R EV := fun st => (d st).bind fun v st1 =>
  if (peek st1 v).bind tyName = some T then (a st1).bind fun vs st2 => mutAt v st2 (f vs) fun r st3 => .ok (.p r) st3 else .bad
def rMut (c : Ct) (f : List Val → Ob → Option (Val × Ob)) : V → List V → Hp → VK → Prop := fun x xs H Q => ∃ a b vs r b' o g, x = .ref a ∧ H a = some o ∧ isMut o = true ∧ (∀ o' w z, Rep c g H w z → Rep c g (upd H a o') w z) ∧ RepO c g H b a ∧ Reps c g H vs xs ∧ f vs b = some (r, b') ∧
  ∀ o' y, RepO c g (upd H a o') b' a → Rep c g (upd H a o') r y → Q y (upd H a o')
/-- a method that changes nothing -/
def eMeth (T : String) (f : Val → List Val → Option EV) (d : S → R EV) (a : S → R (List Val)) : S → R EV := fun st => (d st).bind fun v st1 =>
  if (peek st1 v).bind tyName = some T then (a st1).bind fun vs st2 => match peek st2 v with
    | some w => match f w vs with
      | some r => .ok r st2
      | none => .bad
    | none => .bad
  else .bad
def rMeth (c : Ct) (f : Val → List Val → Option EV) : V → List V → Hp → VK → Prop := fun x xs H Q => ∃ g st σ v vs res, Rel c g st σ H ∧ RepP c g H v x ∧ Reps c g H vs xs ∧ f v vs = some res ∧
  ∀ g' H' z, Ext c g H g' H' → Rel c g' st σ H' → RepE c g g' H' σ res z → Q z H'
theorem tyV_of {c : Ct} {g : Gh} {H : Hp} {w : Val} {x : V} {T : String} (r : RepP c g H w x) (h : tyName w = some T) (hT : T = "list" ∨ T = "str" ∨ T = "int") : tyV c.K T x H := by
  cases w with
  | non => cases h; rcases hT with h | h | h <;> exact absurd h (by decide)
  | bl b => cases h; rcases hT with h | h | h <;> exact absurd h (by decide)
  | int b => cases h; cases r; exact rfl
  | str b => cases h; cases r; exact rfl
  | tup vs => cases h; rcases hT with h | h | h <;> exact absurd h (by decide)
  | lst vs => cases h; obtain ⟨a, us, rfl, h1, _⟩ := lst_of r; exact .inl ⟨rfl, _, SqL.of h1⟩
  | scr vs => cases h; obtain ⟨a, rfl, h1⟩ := scr_of r; exact .inl ⟨rfl, _, h1⟩
  | dk ks vs => cases h; rcases hT with h | h | h <;> exact absurd h (by decide)
  | dt ks vs => cases h; rcases hT with h | h | h <;> exact absurd h (by decide)
  | fn x => cases h
  | ty x => cases h
section
variable {X : Cx} {c : Ct} {W : WXs} {k : Nat} {pos apos cpos : Pos} {o e : Expr} {es : List Expr} {d : S → R EV} {da : S → R (List Val)} {T id : String} {name : Str} {f : List Val → Ob → Option (Val × Ob)} {fm : Val → List Val → Option EV}
theorem mut_step (G : Good X c k) (hT : T = "list" ∨ T = "str" ∨ T = "int") (f0 : ∀ vs, f vs .none = none) {ta : TA} (ha : ∀ σ H Q, tA c W da σ H Q → ta σ H Q) {g : Gh} {H : Hp} {σ : Sig} {st : S} {Q : VK} (R : Rel c g st σ H) (q : Post c W g H σ (eMut T f d da st) (kE c g σ Q)) :
    tE c W d σ H fun x H1 => tyV X.K T x H1 ∧ ta σ H1 fun xs H2 => rMut c f x xs H2 Q := by
  refine ⟨g, st, R, Post.mono q.bind fun v st1 g1 H1 e1 R1 q1 x rx => ?_⟩
  revert q1
  by_cases ht : (peek st1 v).bind tyName = some T
  · rw [if_pos ht]
    intro q1
    cases pv : peek st1 v with
    | none => rw [pv] at ht; cases ht
    | some w =>
      rw [pv] at ht
      have hw : tyName w = some T := ht
      refine ⟨by rw [G.K]; exact tyV_of (peek_ok R1 rx pv) hw hT, ha _ _ _ ⟨g1, st1, R1, Post.mono q1.bind fun vs st2 g2 H2 e2 R2 q2 xs rs => ?_⟩⟩
      obtain ⟨a, b, r, b', o, rfl, hg, rb, ho, hm, hf, next⟩ := mutAt_ok (g0 := g) R2 (RepE.ext e2 rx) (f0 vs) q2
      refine ⟨a, b, vs, r, b', o, g2, rfl, ho, hm, fun o' w z h => Rep.ext (ext_write hg ho hm) h, rb, rs, hf, fun o' y h1 h2 => ?_⟩
      obtain ⟨st', R3, q3⟩ := next o' h1
      exact q3 g2 _ Ext.refl R3 y h2
  · rw [if_neg ht]; exact fun z => z.elim
theorem se_mut (G : Good X c k) (pa : PlainAttrs T) (slot : Slot T name id) (hty : typeOf (.builtin id) = pure (.type "method_descriptor")) (hm : MtR X id (rMut c f)) (hT : T = "list" ∨ T = "str" ∨ T = "int") (f0 : ∀ vs, f vs .none = none) (ho : SE X c W o d) (ha : SA X c W (e :: es) da)
    (hbase : attributeBase o name X.env (eval o X.env) = eval o X.env := by rfl)
    (hfew : ((backTo cpos (starEach (e :: es) X.env)).all (fun x => !x.1) && (backToKw cpos (keywordEach [] X.env)).all (fun x => x.1.isSome)
      && decide ((e :: es).length + ([] : List Keyword).length + (if ([] : List Keyword).isEmpty then 0 else 1) < 30)) = true := by rfl)
    (hline : (apos.endLine == cpos.line) = true := by rfl) (hs : starEach (e :: es) X.env = (false, eval e X.env) :: starEach es X.env := by rfl) (hplain : (backTo cpos (starEach es X.env)).any (·.1) = false := by rfl) :
    SE X c W (.Call (.Attribute o name apos) (e :: es) [] cpos) (eMut T f d da) :=
  impE (pe_bm pa slot hty hm ho ha hbase hfew hline hs hplain) fun σ H Q ⟨g, st, R, q⟩ => mut_step G hT f0 (fun _ _ _ h => h) R q
theorem se_mut0 (G : Good X c k) (pa : PlainAttrs T) (slot : Slot T name id) (hty : typeOf (.builtin id) = pure (.type "method_descriptor")) (hm : MtR X id (rMut c f)) (hT : T = "list" ∨ T = "str" ∨ T = "int") (f0 : ∀ vs, f vs .none = none) (ho : SE X c W o d)
    (hbase : attributeBase o name X.env (eval o X.env) = eval o X.env := by rfl) (hline : (apos.endLine == cpos.line) = true := by rfl) : SE X c W (.Call (.Attribute o name apos) [] [] cpos) (eMut T f d aNil) :=
  impE (pe_bm0 pa slot hty hm ho hbase hline) fun σ H Q ⟨g, st, R, q⟩ => mut_step (ta := tNil) G hT f0 (fun σ H Q ⟨g, st, R, q⟩ => q g H Ext.refl R [] .nil) R q
theorem meth_step (G : Good X c k) (hT : T = "list" ∨ T = "str" ∨ T = "int") {ta : TA} (ha : ∀ σ H Q, tA c W da σ H Q → ta σ H Q) {g : Gh} {H : Hp} {σ : Sig} {st : S} {Q : VK} (R : Rel c g st σ H) (q : Post c W g H σ (eMeth T fm d da st) (kE c g σ Q)) :
    tE c W d σ H fun x H1 => tyV X.K T x H1 ∧ ta σ H1 fun xs H2 => rMeth c fm x xs H2 Q := by
  refine ⟨g, st, R, Post.mono q.bind fun v st1 g1 H1 e1 R1 q1 x rx => ?_⟩
  revert q1
  by_cases ht : (peek st1 v).bind tyName = some T
  · rw [if_pos ht]
    intro q1
    cases pv : peek st1 v with
    | none => rw [pv] at ht; cases ht
    | some w =>
      rw [pv] at ht
      have hw : tyName w = some T := ht
      refine ⟨by rw [G.K]; exact tyV_of (peek_ok R1 rx pv) hw hT, ha _ _ _ ⟨g1, st1, R1, Post.mono q1.bind fun vs st2 g2 H2 e2 R2 q2 xs rs => ?_⟩⟩
      revert q2
      cases pw : peek st2 v with
      | none => exact fun z => z.elim
      | some w2 =>
        dsimp only
        cases po : fm w2 vs with
        | none => exact fun z => z.elim
        | some res =>
          intro q2
          exact ⟨g2, st2, σ, w2, vs, res, R2, peek_ok R2 (RepE.ext e2 rx) pw, rs, po, fun g' H' z e3 R3 rz => q2 g' H' e3 R3 z (RepE.start (e1.trans e2) rz)⟩
  · rw [if_neg ht]; exact fun z => z.elim
theorem se_meth (G : Good X c k) (pa : PlainAttrs T) (slot : Slot T name id) (hty : typeOf (.builtin id) = pure (.type "method_descriptor")) (hm : MtR X id (rMeth c fm)) (hT : T = "list" ∨ T = "str" ∨ T = "int") (ho : SE X c W o d) (ha : SA X c W (e :: es) da)
    (hbase : attributeBase o name X.env (eval o X.env) = eval o X.env := by rfl)
    (hfew : ((backTo cpos (starEach (e :: es) X.env)).all (fun x => !x.1) && (backToKw cpos (keywordEach [] X.env)).all (fun x => x.1.isSome)
      && decide ((e :: es).length + ([] : List Keyword).length + (if ([] : List Keyword).isEmpty then 0 else 1) < 30)) = true := by rfl)
    (hline : (apos.endLine == cpos.line) = true := by rfl) (hs : starEach (e :: es) X.env = (false, eval e X.env) :: starEach es X.env := by rfl) (hplain : (backTo cpos (starEach es X.env)).any (·.1) = false := by rfl) :
    SE X c W (.Call (.Attribute o name apos) (e :: es) [] cpos) (eMeth T fm d da) :=
  impE (pe_bm pa slot hty hm ho ha hbase hfew hline hs hplain) fun σ H Q ⟨g, st, R, q⟩ => meth_step G hT (fun _ _ _ h => h) R q
theorem se_meth0 (G : Good X c k) (pa : PlainAttrs T) (slot : Slot T name id) (hty : typeOf (.builtin id) = pure (.type "method_descriptor")) (hm : MtR X id (rMeth c fm)) (hT : T = "list" ∨ T = "str" ∨ T = "int") (ho : SE X c W o d)
    (hbase : attributeBase o name X.env (eval o X.env) = eval o X.env := by rfl) (hline : (apos.endLine == cpos.line) = true := by rfl) : SE X c W (.Call (.Attribute o name apos) [] [] cpos) (eMeth T fm d aNil) :=
  impE (pe_bm0 pa slot hty hm ho hbase hline) fun σ H Q ⟨g, st, R, q⟩ => meth_step (ta := tNil) G hT (fun σ H Q ⟨g, st, R, q⟩ => q g H Ext.refl R [] .nil) R q
/-! ### the methods of lists -/
def appF : List Val → Ob → Option (Val × Ob)
  | [v], .lst xs => if xs.length < LINE then some (.non, .lst (xs ++ [v])) else none
  | _, _ => none
def extF : List Val → Ob → Option (Val × Ob)
  | [.lst ys], .lst xs => if xs.length + ys.length ≤ LINE then some (.non, .lst (xs ++ ys)) else none
  | _, _ => none
def popF : List Val → Ob → Option (Val × Ob)
  | [], .lst xs => match xs[xs.length - 1]? with
    | some v => some (v, .lst xs.dropLast)
    | none => none
  | _, _ => none
def popAtF : List Val → Ob → Option (Val × Ob)
  | [.int i], .lst xs => if decide (-(9223372036854775808) ≤ i) && decide (i < 9223372036854775808) then match seqIndex? i xs.length with
    | some k => match xs[k]? with
      | some v => some (v, .lst (xs.eraseIdx k))
      | none => none
    | none => none else none
  | _, _ => none
def insF : List Val → Ob → Option (Val × Ob)
  | [.int i, v], .lst xs => if decide (xs.length < LINE) && decide (0 ≤ i) && decide (i < 9223372036854775808) then some (.non, .lst (xs.take i.toNat ++ [v] ++ xs.drop i.toNat)) else none
  | _, _ => none
theorem f0_app : ∀ vs, appF vs .none = none := by intro vs; unfold appF; split <;> first | rfl | (rename_i h; cases h)
theorem f0_ext : ∀ vs, extF vs .none = none := by intro vs; unfold extF; split <;> first | rfl | (rename_i h; cases h)
theorem f0_pop : ∀ vs, popF vs .none = none := by intro vs; unfold popF; split <;> first | rfl | (rename_i h; cases h)
theorem f0_popAt : ∀ vs, popAtF vs .none = none := by intro vs; unfold popAtF; split <;> first | rfl | (rename_i h; cases h)
theorem f0_ins : ∀ vs, insF vs .none = none := by intro vs; unfold insF; split <;> first | rfl | (rename_i h; cases h)
theorem Reps.upd {g : Gh} {H : Hp} {a : Addr} {o' : HO} (h : ∀ w z, Rep c g H w z → Rep c g (upd H a o') w z) : ∀ {vs : List Val} {us : List V}, Reps c g H vs us → Reps c g (L2.upd H a o') vs us
  | _, _, .nil => .nil
  | _, _, .cons r t => .cons (h _ _ r) (Reps.upd h t)
theorem line_lt {n : Nat} (h : n < LINE) : n < sizeLine := by rw [sizeLine_eq]; exact h
theorem m_app : MtR X "list.append" (rMut c appF) := by
  intro pins s σ H x xs v us Q I rx rs hq
  obtain ⟨a, b, vs, r, b', o, g, rfl, ho, hm, hu, rb, rv, hf, q⟩ := hq
  unfold appF at hf
  split at hf
  · split at hf
    · rename_i hl
      cases hf
      obtain ⟨ws, h1, h2⟩ := rb
      cases rv with
      | cons rv1 rv2 =>
        cases rv2
        refine mt_append pins s σ H _ _ v us Q I rx rs ⟨a, ws, _, rfl, rfl, h1, by rw [← h2.length]; exact line_lt hl, q _ _ ⟨_, upd_same, ?_⟩ .non⟩
        exact (Reps.upd (hu _) h2).append (.cons (hu _ _ _ rv1) .nil)
    · cases hf
  · cases hf
theorem m_ext : MtR X "list.extend" (rMut c extF) := by
  intro pins s σ H x xs v us Q I rx rs hq
  obtain ⟨a, b, vs, r, b', o, g, rfl, ho, hm, hu, rb, rv, hf, q⟩ := hq
  unfold extF at hf
  split at hf
  · split at hf
    · rename_i hl
      cases hf
      obtain ⟨ws, h1, h2⟩ := rb
      cases rv with
      | cons rv1 rv2 =>
        cases rv2
        obtain ⟨d, zs, rfl, h3, h4⟩ := lst_of rv1.peek
        refine mt_extend pins s σ H _ _ v us Q I rx rs ⟨a, d, ws, zs, rfl, rfl, h1, h3, by rw [← h2.length, ← h4.length]; exact line_le hl, q _ _ ⟨_, upd_same, ?_⟩ .non⟩
        exact (Reps.upd (hu _) h2).append (Reps.upd (hu _) h4)
    · cases hf
  · cases hf
theorem m_pop : MtR X "list.pop" (rMut c popF) := by
  intro pins s σ H x xs v us Q I rx rs hq
  obtain ⟨a, b, vs, r, b', o, g, rfl, ho, hm, hu, rb, rv, hf, q⟩ := hq
  unfold popF at hf
  split at hf
  · rename_i ys
    cases e : ys[ys.length - 1]? with
    | none => rw [e] at hf; cases hf
    | some w =>
      rw [e] at hf
      cases hf
      obtain ⟨ws, h1, h2⟩ := rb
      cases rv
      obtain ⟨z, e1, e2⟩ := h2.get e
      refine mt_pop pins s σ H _ _ v us Q I rx rs ⟨a, ws, z, rfl, rfl, h1, by rw [← h2.length]; exact e1, q _ _ ⟨_, upd_same, ?_⟩ (hu _ _ _ e2)⟩
      exact Reps.upd (hu _) h2.dropLast
  · cases hf
theorem m_popAt : MtR X "list.pop" (rMut c popAtF) := by
  intro pins s σ H x xs v us Q I rx rs hq
  obtain ⟨a, b, vs, r, b', o, g, rfl, ho, hm, hu, rb, rv, hf, q⟩ := hq
  unfold popAtF at hf
  split at hf
  · rename_i i ys
    split at hf
    · rename_i hb
      rw [Bool.and_eq_true, decide_eq_true_eq, decide_eq_true_eq] at hb
      cases e0 : seqIndex? i ys.length with
      | none => rw [e0] at hf; cases hf
      | some k =>
        rw [e0] at hf
        dsimp only at hf
        cases e : ys[k]? with
        | none => rw [e] at hf; cases hf
        | some w =>
          rw [e] at hf
          cases hf
          obtain ⟨ws, h1, h2⟩ := rb
          cases rv with
          | cons rv1 rv2 =>
            cases rv2
            cases rv1
            obtain ⟨z, e1, e2⟩ := h2.get e
            refine mt_popAt pins s σ H _ _ v us Q I rx rs ⟨a, ws, i, k, z, rfl, rfl, h1, by omega, by omega, by rw [← h2.length]; exact e0, e1, q _ _ ⟨_, upd_same, ?_⟩ (hu _ _ _ e2)⟩
            exact Reps.upd (hu _) (h2.eraseIdx _)
    · cases hf
  · cases hf
theorem m_ins : MtR X "list.insert" (rMut c insF) := by
  intro pins s σ H x xs v us Q I rx rs hq
  obtain ⟨a, b, vs, r, b', o, g, rfl, ho, hm, hu, rb, rv, hf, q⟩ := hq
  unfold insF at hf
  split at hf
  · split at hf
    · rename_i hb
      simp only [Bool.and_eq_true, decide_eq_true_eq] at hb
      cases hf
      obtain ⟨ws, h1, h2⟩ := rb
      cases rv with
      | cons rv1 rv2 =>
        cases rv2 with
        | cons rv2 rv3 =>
          cases rv3
          cases rv1
          refine mt_insert pins s σ H _ _ v us Q I rx rs ⟨a, ws, _, _, rfl, rfl, h1, by rw [← h2.length]; exact line_lt hb.1.1, hb.1.2, by omega, q _ _ ⟨_, upd_same, ?_⟩ .non⟩
          exact ((Reps.upd (hu _) (h2.take _)).append (.cons (hu _ _ _ rv2) .nil)).append (Reps.upd (hu _) (h2.drop _))
    · cases hf
  · cases hf
/-- xs.index(y), flat things -/
def flatB : Val → Bool
  | .non => true
  | .bl _ => true
  | .int _ => true
  | .str _ => true
  | _ => false
def eqF : Val → Val → Bool
  | .non, .non => true
  | .bl a, .bl b => a == b
  | .bl a, .int b => (if a then 1 else 0) == b
  | .int a, .bl b => a == (if b then 1 else 0)
  | .int a, .int b => a == b
  | .str a, .str b => a == b
  | _, _ => false
def idxF : Val → List Val → Option EV
  | .lst xs, [y] => if flatB y && xs.all flatB then (xs.findIdx? fun x => eqF x y).map fun j => .p (.int (j : Nat)) else none
  | _, _ => none
theorem flat_rep {g : Gh} {H : Hp} {v : Val} {x : V} (r : Rep c g H v x) (h : flatB v = true) : flatV x = true := by cases r <;> first | rfl | cases h
theorem eqF_rep {g : Gh} {H : Hp} {v w : Val} {x y : V} (r : Rep c g H v x) (r2 : Rep c g H w y) (h : flatB v = true) (h2 : flatB w = true) : L2.eqV x y = eqF v w := by
  cases r <;> first | (cases h; done) | (cases r2 <;> first | (cases h2; done) | rfl)
theorem flat_all {g : Gh} {H : Hp} : ∀ {vs : List Val} {us : List V}, Reps c g H vs us → vs.all flatB = true → us.all flatV = true
  | _, _, .nil, _ => rfl
  | _, _, .cons r t, h => by
    rw [List.all_cons, Bool.and_eq_true] at h ⊢
    exact ⟨flat_rep r h.1, flat_all t h.2⟩
theorem m_idx : MtR X "list.index" (rMeth c idxF) := by
  intro pins s σ H x xs v us Q I rx rs hq
  obtain ⟨g, st, σ0, w, vs, res, R, hx, hv, hf, q⟩ := hq
  unfold idxF at hf
  split at hf
  · rename_i ys y
    split at hf
    · rename_i hb
      rw [Bool.and_eq_true] at hb
      cases e : ys.findIdx? (fun x => eqF x y) with
      | none => rw [e] at hf; cases hf
      | some j =>
        rw [e] at hf
        cases hf
        obtain ⟨a, ws, rfl, h1, h2⟩ := lst_of hx
        cases hv with
        | cons rv1 rv2 =>
          cases rv2
          rw [List.findIdx?_eq_some_iff_getElem] at e
          obtain ⟨hlt, e1, e2⟩ := e
          have gy : ∀ {m : Nat} {z : Val}, ys[m]? = some z → flatB z = true := fun {m z} h => List.all_eq_true.mp hb.2 z (List.mem_of_getElem? h)
          have hj : ys[j]? = some ys[j] := List.getElem?_eq_getElem hlt
          obtain ⟨z, f1, f2⟩ := h2.get hj
          refine mt_index pins s σ H _ _ v us Q I rx rs ⟨a, ws, _, j, z, rfl, rfl, ?_, flat_rep rv1 hb.1, flat_all h2 hb.2, f1, ?_, fun m z' hm hz => ?_, q g H _ Ext.refl R (.int _)⟩
          · first | exact SqL.of h1 | exact .inl (.inl h1)
          · rw [eqF_rep f2 rv1 (gy hj) hb.1]; exact e1
          · obtain ⟨w', g1, g2⟩ := h2.get' hz
            rw [eqF_rep g2 rv1 (gy g1) hb.1]
            have hm' : m < ys.length := (List.getElem?_eq_some_iff.mp g1).1
            have := e2 m hm
            rw [List.getElem?_eq_getElem hm'] at g1
            cases g1
            simpa using this
    · cases hf
  · cases hf
end
end Y
end

section
set_option Elab.async false
set_option linter.all false
set_option maxRecDepth 100000
set_option maxHeartbeats 1000000
namespace Y
open PySem PySem.Spec PyProof.Rows L2
/-! ## targets -/
inductive Tgt where
  | nm (i : Nat) | tp (ts : List Tgt)
mutual
def asg : Tgt → Val → S → Option S
  | .nm i, v, st => match st.get i with
    | .l _ => none
    | _ => some (st.set i (.p v))
  | .tp ts, .tup vs, st => asgs ts vs st
  | .tp ts, .lst vs, st => none
  | .tp _, _, _ => none
def asgs : List Tgt → List Val → S → Option S
  | [], [], st => some st
  | t :: ts, v :: vs, st => match asg t v st with
    | some st1 => asgs ts vs st1
    | none => none
  | _, _, _ => none
end
mutual
def Tgt.slots : Tgt → List Nat
  | .nm i => [i]
  | .tp ts => slotsAll ts
def slotsAll : List Tgt → List Nat
  | [] => []
  | t :: ts => t.slots ++ slotsAll ts
end
section
variable {c : Ct} {g : Gh} {H : Hp} {st st' : S} {σ : Sig}
theorem Rel.setP (R : Rel c g st σ H) (i : Nat) {v : Val} {x : V} (hl : ∀ b, st.get i ≠ .l b) (r : Rep c g H v x) : Rel c g (st.set i (.p v)) (σ.set i (some x)) H := by
  refine ⟨by show (st.sl.set i _).length = _; rw [List.length_set, List.length_set]; exact R.len, fun j sv y h1 h2 => ?_, R.rf, R.rfu, R.dom, R.young, lkd_set2 R hl, R.grow⟩
  have h1 : (st.sl.set i (.p v))[j]? = some sv := h1
  by_cases hj : j = i
  · subst hj
    have hlt : j < st.sl.length := by
      have := (List.getElem?_eq_some_iff.mp h1).1
      rwa [List.length_set] at this
    rw [List.getElem?_set_self hlt] at h1
    rw [List.getElem?_set_self (by rw [← R.len]; exact hlt)] at h2
    cases h1
    cases h2
    exact r
  · rw [List.getElem?_set_ne (Ne.symm hj)] at h1 h2
    exact R.sl j sv y h1 h2
/-- a target's reading: the slots are set, the heap is as it was -/
def tG (c : Ct) (t : Tgt) : TG := fun v σ H Q => ∃ g st w st', Rel c g st σ H ∧ Rep c g H w v ∧ asg t w st = some st' ∧ ∀ σ', Rel c g st' σ' H → (∀ vs, (∀ i ∈ t.slots, i ∈ vs) → wipe σ' vs = wipe σ vs) → Q σ' H
def tGs (c : Ct) (ts : List Tgt) : TGs := fun vs σ H Q => ∃ g st ws st', Rel c g st σ H ∧ Reps c g H ws vs ∧ asgs ts ws st = some st' ∧ ∀ σ', Rel c g st' σ' H → (∀ vs, (∀ i ∈ slotsAll ts, i ∈ vs) → wipe σ' vs = wipe σ vs) → Q σ' H
def SG (X : Cx) (c : Ct) (e : Expr) (t : Tgt) : Prop := PG X e (tG c t)
def SGs (X : Cx) (c : Ct) (es : List Expr) (ts : List Tgt) : Prop := PGs X es (tGs c ts)
theorem wipe_set {i : Nat} {x : Option V} : ∀ {σ : Sig} {vs : List Nat}, i ∈ vs → wipe (σ.set i x) vs = wipe σ vs
  | σ, [], h => absurd h (by simp)
  | σ, v :: vs, h => by
    unfold wipe
    by_cases hv : i = v
    · subst hv
      by_cases hm : i ∈ vs
      · rw [wipe_set hm]
      · have : ∀ {ws : List Nat}, i ∉ ws → wipe (σ.set i x) ws = (wipe σ ws).set i x := by
          intro ws
          induction ws with
          | nil => intro _; rfl
          | cons w ws ih =>
            intro hn
            unfold wipe
            rw [ih fun z => hn (List.mem_cons_of_mem _ z), List.set_comm _ _ (fun z => hn (by rw [z]; exact List.mem_cons_self))]
        rw [this hm, List.set_set]
    · rw [wipe_set ((List.mem_cons.mp h).resolve_left hv)]
theorem sg_name {X : Cx} {pos : Pos} {i : Nat} {x : Str} (hN : X.N.Nodup) (hi : X.N[i]? = some x := by rfl) (hx : Loc X.env.scope x := by first | exact Or.inl rfl | exact Or.inr rfl) (hf : X.fn x = true ∨ X.env.scope.names.lookup x = some .local := by first | exact .inl rfl | exact .inr rfl | assumption) : SG X c (.Name x pos) (.nm i) := by
  refine ⟨fun pins s σ H v u Q I r ⟨g, st, w, st', R, rw', e, q⟩ => (pg_name hN hi hx hf).run pins s σ H v u Q I r (q _ ?_ fun vs h => wipe_set (h i (by simp [Tgt.slots])))⟩
  rw [asg] at e
  split at e
  · cases e
  · rename_i hn
    cases e
    exact R.setP i (fun b z => hn b z) rw'
theorem sgs_nil {X : Cx} : SGs X c [] [] := by
  refine ⟨fun pins s σ H vs us Q I r ⟨g, st, ws, st', R, rws, e, q⟩ => ?_⟩
  cases rws with
  | nil =>
    rw [asgs] at e
    cases e
    exact pgs_nil.run pins s σ H [] us Q I r ⟨rfl, q σ R fun _ _ => rfl⟩
  | cons _ _ => rw [asgs] at e; cases e; all_goals simp
theorem sgs_cons {X : Cx} {e : Expr} {es : List Expr} {t : Tgt} {ts : List Tgt} (h1 : SG X c e t) (h2 : SGs X c es ts)
    (hs : (assignEach (e :: es) X.env).map (·.2) = assign e X.env :: (assignEach es X.env).map (·.2) := by rfl) : SGs X c (e :: es) (t :: ts) := by
  refine ⟨fun pins s σ H vs us Q I r ⟨g, st, ws, st', R, rws, ea, q⟩ => ?_⟩
  cases rws with
  | nil => rw [asgs] at ea; cases ea; all_goals simp
  | cons r1 r2 =>
    rw [asgs] at ea
    cases e1 : asg t _ st with
    | none => rw [e1] at ea; cases ea
    | some st1 =>
      rw [e1] at ea
      refine (pgs_cons h1 h2 hs).run pins s σ H _ us Q I r ⟨_, _, rfl, g, st, _, st1, R, r1, e1, fun σ1 R1 w1 => ⟨g, st1, _, st', R1, r2, ea, fun σ2 R2 w2 => q σ2 R2 fun vs h => ?_⟩⟩
      rw [w2 vs fun i hi => h i (by rw [slotsAll]; exact List.mem_append_right _ hi), w1 vs fun i hi => h i (by rw [slotsAll]; exact List.mem_append_left _ hi)]
theorem sg_tup {X : Cx} {k : Nat} {pos : Pos} {es : List Expr} {ts : List Tgt} {kk : Nat} (G : Good X c k) (h : SGs X c es ts) (hlen : ts.length = es.length := by rfl)
    (hn : (assignEach es X.env).length = es.length := by rfl) (hst : (assignEach es X.env).findIdx? (·.1) = none := by rfl) : SG X c (.Tuple es kk pos) (.tp ts) := by
  refine ⟨fun pins s σ H v u Q I r ⟨g, st, w, st', R, rw', e, q⟩ => ?_⟩
  cases w with
  | tup vs =>
    rw [asg] at e
    obtain ⟨a, us, rfl, h1, r1⟩ := tup_of rw'.peek
    have hl : ∀ {ts : List Tgt} {vs : List Val} {st st' : S}, asgs ts vs st = some st' → ts.length = vs.length := by
      intro ts
      induction ts with
      | nil => intro vs st st' h; cases vs with | nil => rfl | cons _ _ => rw [asgs] at h; cases h; all_goals simp
      | cons t ts ih =>
        intro vs st st' h
        cases vs with
        | nil => rw [asgs] at h; cases h; all_goals simp
        | cons v vs =>
          rw [asgs] at h
          cases e1 : asg t v st with
          | none => rw [e1] at h; cases h
          | some st1 => rw [e1] at h; exact congrArg (· + 1) (ih h)
    refine (pg_tup G.calm h hn hst).run pins s σ H _ u Q I r ⟨a, us, rfl, by rw [G.K]; exact h1, by rw [← r1.length, ← hl e, hlen], g, st, vs, st', R, r1, e, fun σ' R' w' => q σ' R' fun vs hv => w' vs fun i hi => hv i (by rw [Tgt.slots]; exact hi)⟩
  | _ => rw [asg] at e; cases e; all_goals simp
end

/-! ## statements -/
def PostS (c : Ct) (W : WXs) (D : Ends) (g : Gh) (H : Hp) (r : SR) : Prop := match r with
  | .nx st' => ∀ g' σ' H', Ext c g H g' H' → Rel c g' st' σ' H' → D.nx σ' H'
  | .rt v st' => ∀ g' σ' H' x, Ext c g H g' H' → Rel c g' st' σ' H' → RepE c g g' H' σ' v x → D.rt x H'
  | .bk st' => ∀ g' σ' H', Ext c g H g' H' → Rel c g' st' σ' H' → D.bk σ' H'
  | .ct st' => ∀ g' σ' H', Ext c g H g' H' → Rel c g' st' σ' H' → D.ct σ' H'
  | .ex e st' => ∀ g' σ' H' cls dx, Ext c g H g' H' → Rel c g' st' σ' H' → RepX c H' e cls dx → W cls dx σ' H'
  | .bad => False
def tS (c : Ct) (W : WXs) (d : S → SR) : TS := fun D σ H => ∃ g st, Rel c g st σ H ∧ PostS c W D g H (d st)
def SS (X : Cx) (c : Ct) (W : WXs) (s : Stmt) (d : S → SR) : Prop := PS X s (tS c W d)
def SSs (X : Cx) (c : Ct) (W : WXs) (s : List Stmt) (d : S → SR) : Prop := PSs X s (tS c W d)
section
variable {c : Ct} {W : WXs} {D : Ends} {g g1 : Gh} {H H1 : Hp} {r : SR}
theorem PostS.start (e : Ext c g H g1 H1) (h : PostS c W D g H r) : PostS c W D g1 H1 r := by
  cases r with
  | nx st => exact fun g' σ' H' e' q => h g' σ' H' (e.trans e') q
  | rt v st => exact fun g' σ' H' x e' q rx => h g' σ' H' x (e.trans e') q (RepE.start e rx)
  | bk st => exact fun g' σ' H' e' q => h g' σ' H' (e.trans e') q
  | ct st => exact fun g' σ' H' e' q => h g' σ' H' (e.trans e') q
  | ex x st => exact fun g' σ' H' cls dx e' q => h g' σ' H' cls dx (e.trans e') q
  | bad => exact h
end
def SR.seq (r : SR) (d : S → SR) : SR := match r with
  | .nx st => d st
  | r => r
def sPass : S → SR := fun st => .nx st
def sSeq (a b : S → SR) : S → SR := fun st => (a st).seq b
def R.stm {α : Type} (r : R α) (f : α → S → SR) : SR := match r with
  | .ok a st => f a st
  | .ex e st => .ex e st
  | .bad => .bad
def sIf (t : S → R Bool) (a b : S → SR) : S → SR := fun st => (t st).stm fun k st1 => if k then a st1 else b st1
def sRet (d : S → R EV) : S → SR := fun st => (d st).stm .rt
def sRetN : S → SR := fun st => .rt (.p .non) st
def sExpr (d : S → R EV) : S → SR := fun st => (d st).stm fun _ st1 => .nx st1
def locked (st : S) (i : Nat) : Bool := match st.get i with
  | .l _ => true
  | _ => false
theorem locked_no {st : S} {i : Nat} (h : ¬ locked st i = true) : ∀ b, st.get i ≠ .l b := fun b z => h (by unfold locked; rw [z])
def store0 (i : Nat) (v : EV) (st : S) : SR := match v with
  | .p w => .nx (st.set i (.p w))
  | .f b => .nx (st.set i (.o b))
  | .r => .nx (st.set i .r)
  | .s j => match take st (.s j) with
    | some (w, st') => if locked st' i then .bad else .nx (st'.set i (.p w))
    | none => .bad
def store (i : Nat) (v : EV) (st : S) : SR := if locked st i then .bad else store0 i v st
theorem store_eq {i : Nat} {v : EV} {st : S} (h : ¬ locked st i = true) : store i v st = store0 i v st := if_neg h
theorem store_bad {i : Nat} {v : EV} {st : S} (h : locked st i = true) : store i v st = .bad := if_pos h
def sSet (i : Nat) (d : S → R EV) : S → SR := fun st => (d st).stm (store i)
def sAsg (t : Tgt) (d : S → R EV) : S → SR := fun st => (keep1 d st).stm fun w st1 => match asg t w st1 with
  | some st2 => .nx st2
  | none => .bad
section
variable {X : Cx} {c : Ct} {W : WXs} {k : Nat} {pos : Pos} {s : Stmt} {ss s2 : List Stmt} {a b : S → SR} {e : Expr} {d : S → R EV} {t : S → R Bool}
theorem stm_ok {α : Type} {g : Gh} {H : Hp} {σ : Sig} {D : Ends} {r : R α} {f : α → S → SR} (h : PostS c W D g H (r.stm f)) :
    Post c W g H σ r fun a st' g' H' => PostS c W D g' H' (f a st') := by
  cases r with
  | ok a st => exact fun g' H' e q => PostS.start e h
  | ex x st => exact fun g' H' cls dx e q rx => h g' σ H' cls dx e q rx
  | bad => exact h
theorem ss_nil : SSs X c W [] sPass := impSs pss_nil fun D σ H ⟨g, st, R, q⟩ => q g σ H Ext.refl R
theorem seq_ok {D : Ends} {g : Gh} {H : Hp} {r : SR} (q : PostS c W D g H (r.seq b)) : PostS c W { D with nx := tS c W b D } g H r := by
  cases r with
  | nx st => exact fun g' σ' H' e R => ⟨g', st, R, PostS.start e q⟩
  | rt v st => exact q
  | bk st => exact q
  | ct st => exact q
  | ex x st => exact q
  | bad => exact q
theorem ss_cons (h1 : SS X c W s a) (h2 : SSs X c W ss b) : SSs X c W (s :: ss) (sSeq a b) :=
  impSs (pss_cons h1 h2) fun D σ H ⟨g, st, R, q⟩ => ⟨g, st, R, seq_ok q⟩
theorem ss_one (h1 : SS X c W s a) : SSs X c W [s] a := pss_one h1
theorem s_pass : SS X c W (.Pass pos) sPass := impS ps_pass fun D σ H ⟨g, st, R, q⟩ => q g σ H Ext.refl R
theorem s_break : SS X c W (.Break pos) (fun st => .bk st) := impS ps_break fun D σ H ⟨g, st, R, q⟩ => q g σ H Ext.refl R
theorem s_cont : SS X c W (.Continue pos) (fun st => .ct st) := impS ps_continue fun D σ H ⟨g, st, R, q⟩ => q g σ H Ext.refl R
theorem s_if (ht : ST X c W e t) (h1 : SSs X c W ss a) (h2 : SSs X c W s2 b) : SS X c W (.If e ss s2 pos) (sIf t a b) :=
  impS (ps_if ht h1 h2) fun D σ H ⟨g, st, R, q⟩ => ⟨g, st, R, (stm_ok q).mono fun k st1 g1 H1 e1 R1 q1 => by
    cases k with
    | true => exact iteT ⟨g1, st1, R1, q1⟩
    | false => exact iteF ⟨g1, st1, R1, q1⟩⟩
theorem s_ret (h : SE X c W e d) : SS X c W (.Return (some e) pos) (sRet d) :=
  impS (ps_ret h) fun D σ H ⟨g, st, R, q⟩ => ⟨g, st, R, by
    revert q
    unfold sRet
    cases hd : d st with
    | ok v st1 => exact fun q g' H' e' R' x rx => q g' σ H' x e' R' rx
    | ex x st1 => exact fun q g' H' cls dx e' R' rx => q g' σ H' cls dx e' R' rx
    | bad => exact fun q => q⟩
theorem s_retN : SS X c W (.Return none pos) sRetN := impS ps_retN fun D σ H ⟨g, st, R, q⟩ => q g σ H .non Ext.refl R .non
theorem s_expr (h : SE X c W e d) (hs : swapsWith e none pos.line X.env = pure false := by rfl) : SS X c W (.Expr e pos) (sExpr d) :=
  impS (ps_expr h hs) fun D σ H ⟨g, st, R, q⟩ => ⟨g, st, R, (stm_ok q).mono fun v st1 g1 H1 e1 R1 q1 x rx => q1 g1 σ H1 Ext.refl R1⟩
theorem s_doc {x j pos'} : SS X c W (.Expr (.Constant (.str x) j pos) pos') sPass := impS ps_doc fun D σ H ⟨g, st, R, q⟩ => q g σ H Ext.refl R
/-- a slot is set -/
theorem store_ok' {g0 g : Gh} {H0 H : Hp} {σ : Sig} {st : S} {i : Nat} {v : EV} {x : V} {D : Ends} (E : Ext c g0 H0 g H) (R : Rel c g st σ H) (rx : RepE c g0 g H σ v x) (q : PostS c W D g0 H0 (store i v st)) : D.nx (σ.set i (some x)) H := by
  by_cases hlk : locked st i = true
  · rw [store_bad hlk] at q; exact q.elim
  rw [store_eq hlk] at q
  have hno := locked_no hlk
  cases v with
  | p w => exact q g _ H E (R.setP i hno rx)
  | r =>
    obtain ⟨a, rfl, ha⟩ := rx
    refine q g _ H E ⟨by show (st.sl.set i _).length = _; rw [List.length_set, List.length_set]; exact R.len, fun j sv y h1 h2 => ?_, R.rf, R.rfu, R.dom, R.young, lkd_set2 R hno, R.grow⟩
    have h1 : (st.sl.set i .r)[j]? = some sv := h1
    by_cases hj : j = i
    · subst hj
      have hlt : j < st.sl.length := by
        have := (List.getElem?_eq_some_iff.mp h1).1
        rwa [List.length_set] at this
      rw [List.getElem?_set_self hlt] at h1
      rw [List.getElem?_set_self (by rw [← R.len]; exact hlt)] at h2
      cases h1
      cases h2
      exact ⟨a, rfl, ha⟩
    · rw [List.getElem?_set_ne (Ne.symm hj)] at h1 h2
      exact R.sl j sv y h1 h2
  | f b =>
    obtain ⟨a, rfl, h1, h2, h3⟩ := rx
    refine q (mark g a (.own i)) _ H (E.remark h2 (fun z => nomatch z)) (R.remark (.inl h1) (.own i) (.inr ⟨i, rfl⟩) (by rw [List.length_set, List.length_set]; exact R.len) (lkd_set2 R hno) fun j sv y q1 q2 => ?_)
    by_cases hj : j = i
    · subst hj
      have hlt : j < st.sl.length := by
        have := (List.getElem?_eq_some_iff.mp q1).1
        rwa [List.length_set] at this
      rw [List.getElem?_set_self hlt] at q1
      rw [List.getElem?_set_self (by rw [← R.len]; exact hlt)] at q2
      cases q1
      cases q2
      exact ⟨a, rfl, mark_same, h3.mk fun z => by rw [h1] at z; cases z⟩
    · rw [List.getElem?_set_ne (Ne.symm hj)] at q1 q2
      exact (R.sl j sv y q1 q2).mk (fun z => by rw [h1] at z; cases z) (by rw [h1]; exact fun z => nomatch z) (by rw [h1]; exact fun z => nomatch z) (by rw [h1]; exact fun z => nomatch z)
  | s j =>
    unfold store0 at q
    dsimp only at q
    cases ht : Y.take st (.s j) with
    | none => rw [ht] at q; exact q.elim
    | some p =>
      obtain ⟨w, st'⟩ := p
      rw [ht] at q
      dsimp only at q
      obtain ⟨g', E', R', r'⟩ := take_ok E R rx ht
      by_cases h2 : locked st' i = true
      · rw [if_pos h2] at q; exact q.elim
      · rw [if_neg h2] at q
        exact q g' _ H E' (R'.setP i (locked_no h2) r')
theorem s_set {i : Nat} {x : Str} {pos' : Pos} (G : Good X c k) (h : SE X c W e d) (hi : X.N[i]? = some x := by rfl) (hx : Loc X.env.scope x := by first | exact Or.inl rfl | exact Or.inr rfl) (hs : swapsWith e (some (.Name x pos')) pos.line X.env = pure false := by rfl)
    (hf : X.fn x = true ∨ X.env.scope.names.lookup x = some .local := by first | exact .inl rfl | exact .inr rfl | assumption) : SS X c W (.Assign [.Name x pos'] e pos) (sSet i d) :=
  impS (ps_set G.nd hi hx h hs hf) fun D σ H ⟨g, st, R, q⟩ => ⟨g, st, R, by
    revert q
    unfold sSet
    cases hd : d st with
    | ok v st1 => exact fun q g' H' e' R' x rx => store_ok' e' R' rx q
    | ex x st1 => exact fun q g' H' cls dx e' R' rx => q g' σ H' cls dx e' R' rx
    | bad => exact fun q => q⟩
/-- any target, of a kept value -/
theorem keep_stm {g : Gh} {H : Hp} {σ : Sig} {st : S} {D : Ends} {f : Val → S → SR} (q : PostS c W D g H ((keep1 d st).stm f)) :
    Post c W g H σ (d st) fun v st1 g1 H1 => ∀ x, RepE c g g1 H1 σ v x → ∃ w st2 g2, Ext c g H g2 H1 ∧ Rel c g2 st2 σ H1 ∧ Rep c g2 H1 w x ∧ PostS c W D g2 H1 (f w st2) := by
  revert q
  unfold keep1
  cases hd : d st with
  | bad => exact fun z => z
  | ex x st' => exact fun q g' H' cls dx e q' rx => q g' σ H' cls dx e q' rx
  | ok v st1 =>
    intro q g1 H1 e1 R1 x rx
    revert q
    show PostS c W D g H ((match Y.take st1 v with | some (w, st2) => R.ok w st2 | none => R.bad : R Val).stm f) → _
    cases ht : Y.take st1 v with
    | none => exact fun z => z.elim
    | some p =>
      obtain ⟨w, st2⟩ := p
      intro q
      obtain ⟨g2, e2, R2, r2⟩ := take_ok e1 R1 rx ht
      exact ⟨w, st2, g2, e2, R2, r2, PostS.start e2 q⟩
theorem s_asg {tg : Expr} {tt : Tgt} (h : SE X c W e d) (ht : SG X c tg tt) (hs : swapsWithSole [tg] e pos.line X.env = pure false := by rfl) (hw : swappedStores [tg] e X.env = pure none := by rfl)
    (h1 : (assignEach [tg] X.env).map (·.2) = [assign tg X.env] := by rfl) : SS X c W (.Assign [tg] e pos) (sAsg tt d) :=
  impS (ps_asg h ht hs hw h1) fun D σ H ⟨g, st, R, q⟩ => ⟨g, st, R, (keep_stm q).mono fun v st1 g1 H1 _ _ h x rx => by
    obtain ⟨w, st2, g2, e2, R2, r2, q2⟩ := h x rx
    cases ha : asg tt w st2 with
    | none => rw [ha] at q2; exact q2.elim
    | some st3 =>
      rw [ha] at q2
      exact ⟨g2, st2, w, st3, R2, r2, ha, fun σ' R' _ => q2 g2 σ' H1 Ext.refl R'⟩⟩
end

/-! ## a, b = x, y; x[i] = e; x op= e -/
def par2 (i j : Nat) (v w : EV) (st : S) : SR := match v, w with
  | .s _, _ => .bad
  | _, .s _ => .bad
  | v, w => (store i v st).seq (store j w)
def sPar (i j : Nat) (a b : S → R EV) : S → SR := fun st => (a st).stm fun v st1 => (b st1).stm fun w st2 => par2 i j v w st2
theorem stm_ok0 {c : Ct} {W : WXs} {α : Type} {g : Gh} {H : Hp} {σ : Sig} {D : Ends} {r : R α} {f : α → S → SR} (h : PostS c W D g H (r.stm f)) :
    Post c W g H σ r fun a st' _ _ => PostS c W D g H (f a st') := by
  cases r with
  | ok a st => exact fun g' H' e q => h
  | ex x st => exact fun g' H' cls dx e q rx => h g' σ H' cls dx e q rx
  | bad => exact h
/-- a slot is set by a value that hangs on no slot; another such value stands for what it stood for -/
theorem store_ok2 {c : Ct} {W : WXs} {g0 g g1 : Gh} {H0 H : Hp} {σ : Sig} {st : S} {i j : Nat} {v w : EV} {x y : V} {D : Ends} (E : Ext c g0 H0 g H) (R : Rel c g st σ H) (rx : RepE c g0 g H σ v x) (ry : RepE c g1 g H σ w y) (hv : ∀ j, v ≠ .s j) (hw : ∀ j, w ≠ .s j)
    (ne : ∀ b b', v = .f b → w = .f b' → x ≠ y) (e10 : ∀ a, g1 a = .none → g0 a = .none) (q : PostS c W D g0 H0 ((store i v st).seq (store j w))) : D.nx ((σ.set i (some x)).set j (some y)) H := by
  have ry0 : RepE c g0 g H σ w y := by
    cases w with
    | p v => exact ry
    | f b => obtain ⟨a, e1, e2, e3, e4⟩ := ry; exact ⟨a, e1, e2, e10 a e3, e4⟩
    | s i => exact ry
    | r => exact ry
  by_cases hlk : locked st i = true
  · rw [store_bad hlk] at q; exact q.elim
  rw [store_eq hlk] at q
  have hno := locked_no hlk
  cases v with
  | s k => exact absurd rfl (hv k)
  | p v =>
    refine store_ok' E (R.setP i hno rx) (D := D) (W := W) ?_ q
    cases w with
    | s k => exact absurd rfl (hw k)
    | _ => exact ry0
  | r =>
    have R' : Rel c g (st.set i .r) (σ.set i (some x)) H := by
      obtain ⟨a, rfl, ha⟩ := rx
      refine ⟨by show (st.sl.set i _).length = _; rw [List.length_set, List.length_set]; exact R.len, fun j sv y h1 h2 => ?_, R.rf, R.rfu, R.dom, R.young, lkd_set2 R hno, R.grow⟩
      have h1 : (st.sl.set i .r)[j]? = some sv := h1
      by_cases hj : j = i
      · subst hj
        have hlt : j < st.sl.length := by
          have := (List.getElem?_eq_some_iff.mp h1).1
          rwa [List.length_set] at this
        rw [List.getElem?_set_self hlt] at h1
        rw [List.getElem?_set_self (by rw [← R.len]; exact hlt)] at h2
        cases h1
        cases h2
        exact ⟨a, rfl, ha⟩
      · rw [List.getElem?_set_ne (Ne.symm hj)] at h1 h2
        exact R.sl j sv y h1 h2
    refine store_ok' E R' (D := D) (W := W) ?_ q
    cases w with
    | s k => exact absurd rfl (hw k)
    | _ => exact ry0
  | f b =>
    obtain ⟨a, rfl, h1, h2, h3⟩ := id rx
    have R' : Rel c (mark g a (.own i)) (st.set i (.o b)) (σ.set i (some (.ref a))) H := by
      refine R.remark (.inl h1) (.own i) (.inr ⟨i, rfl⟩) (by rw [List.length_set, List.length_set]; exact R.len) (lkd_set2 R hno) fun j sv y q1 q2 => ?_
      by_cases hj : j = i
      · subst hj
        have hlt : j < st.sl.length := by
          have := (List.getElem?_eq_some_iff.mp q1).1
          rwa [List.length_set] at this
        rw [List.getElem?_set_self hlt] at q1
        rw [List.getElem?_set_self (by rw [← R.len]; exact hlt)] at q2
        cases q1
        cases q2
        exact ⟨a, rfl, mark_same, h3.mk fun z => by rw [h1] at z; cases z⟩
      · rw [List.getElem?_set_ne (Ne.symm hj)] at q1 q2
        exact (R.sl j sv y q1 q2).mk (fun z => by rw [h1] at z; cases z) (by rw [h1]; exact fun z => nomatch z) (by rw [h1]; exact fun z => nomatch z) (by rw [h1]; exact fun z => nomatch z)
    refine store_ok' (E.remark (t := .own i) h2 (fun z => nomatch z)) R' (D := D) (W := W) ?_ q
    cases w with
    | s k => exact absurd rfl (hw k)
    | p v => exact Rep.mk (fun z => by rw [h1] at z; cases z) ry0
    | f b' =>
      obtain ⟨d, rfl, e2, e3, e4⟩ := ry0
      have hd : d ≠ a := fun z => ne b b' rfl rfl (by rw [z])
      exact ⟨d, rfl, by rw [mark_ne hd]; exact e2, e3, e4.mk fun z => by rw [h1] at z; cases z⟩
    | r =>
      obtain ⟨d, rfl, e2⟩ := ry0
      exact ⟨d, rfl, by rw [mark_ne (fun z => by rw [z, h1] at e2; cases e2)]; exact e2⟩
section
variable {X : Cx} {c : Ct} {W : WXs} {k : Nat} {pos : Pos} {e e2 : Expr} {d d2 : S → R EV}
theorem s_par {i j : Nat} {x y : Str} {px py pt pt2 : Pos} {kt k2} (G : Good X c k) (h : SE X c W e d) (h2 : SE X c W e2 d2) (hi : X.N[i]? = some x := by rfl) (hj : X.N[j]? = some y := by rfl) (hij : i ≠ j := by decide)
    (hx : X.env.scope.names.lookup x = some .local := by rfl) (hy : X.env.scope.names.lookup y = some .local := by rfl)
    (hw : swappedStores [.Tuple [.Name x px, .Name y py] kt pt] (.Tuple [e, e2] k2 pt2) X.env = pure (some [x, y]) := by rfl)
    (hs : swapsWithSole [.Tuple [.Name x px, .Name y py] kt pt] (.Tuple [e, e2] k2 pt2) pos.line X.env = pure false := by rfl)
    (hs1 : starEach [e, e2] X.env = [(false, eval e X.env), (false, eval e2 X.env)] := by rfl) (hs2 : starEach [e2] X.env = [(false, eval e2 X.env)] := by rfl) :
    SS X c W (.Assign [.Tuple [.Name x px, .Name y py] kt pt] (.Tuple [e, e2] k2 pt2) pos) (sPar i j d d2) :=
  impS (ps_par G.calm G.nd hi hj hij hx hy (pa2 h h2 hs1 hs2) hw hs) fun D σ H ⟨g, st, R, q⟩ => by
    refine ⟨g, st, R, (stm_ok0 q).mono fun v st1 g1 H1 e1 R1 q1 x rx => ?_⟩
    have p2 : Post c W g H σ (d2 st1) fun w st2 _ _ => PostS c W D g H (par2 i j v w st2) := stm_ok0 q1
    refine ⟨g1, st1, R1, (Post.start e1 p2).mono fun w st2 g2 H2 e2 R2 q2 y ry => ?_⟩
    refine ⟨x, y, rfl, ?_⟩
    have rx2 : RepE c g g2 H2 σ v x := RepE.ext e2 rx
    have nv : ∀ j, v ≠ .s j := fun j z => by subst z; exact q2
    have nw : ∀ j, w ≠ .s j := fun j z => by
      subst z
      cases v <;> exact q2
    have q3 : PostS c W D g H ((store i v st2).seq (store j w)) := by
      cases v with
      | s j => exact absurd rfl (nv j)
      | _ => cases w with
        | s j => exact absurd rfl (nw j)
        | _ => exact q2
    refine store_ok2 (g1 := g1) (W := W) (D := D) (st := st2) (i := i) (j := j) (e1.trans e2) R2 rx2 ry nv nw (fun b b' hb hb' z => ?_) (fun a z => e1.none z) q3
    subst hb hb'
    obtain ⟨a, rfl, ha, _⟩ := rx
    obtain ⟨d, rfl, _, hd, _⟩ := ry
    cases z
    rw [ha] at hd; cases hd
end
end Y
end

section
set_option Elab.async false
set_option linter.all false
set_option maxRecDepth 100000
set_option maxHeartbeats 1000000
namespace Y
open PySem PySem.Spec PyProof.Rows L2
/-! ## x op= e -/
def sAug (op : Val → Val → Option EV) (i : Nat) (d : S → R EV) : S → SR := fun st => match st.get i with
  | .p v => (d st).stm fun w st1 => match peek st1 w with
    | some w' => match op v w' with
      | some (.p r) => store i (.p r) st1
      | _ => .bad
    | none => .bad
  | _ => .bad
section
variable {X : Cx} {c : Ct} {W : WXs} {k : Nat} {pos : Pos} {e e2 : Expr} {d d2 : S → R EV} {op : Val → Val → Option EV}
theorem s_aug {i : Nat} {x : Str} {pos' : Pos} {o : Operator} (G : Good X c k) (ho : PIp X o (rB c op)) (h : SE X c W e d) (hi : X.N[i]? = some x := by rfl) (hx : Loc X.env.scope x := by first | exact Or.inl rfl | exact Or.inr rfl)
    (hf : X.fn x = true ∨ X.env.scope.names.lookup x = some .local := by first | exact .inl rfl | exact .inr rfl | assumption) : SS X c W (.AugAssign (.Name x pos') o e pos) (sAug op i d) :=
  impS (ps_aug G.nd hi hx h ho hf) fun D σ H ⟨g, st, R, q⟩ => by
    unfold sAug at q
    cases hv : st.get i with
    | p v =>
      rw [hv] at q
      obtain ⟨z, hz, rz⟩ := R.at hv (fun z => nomatch z)
      cases z with
      | none => exact rz.elim
      | some z =>
        refine ⟨z, hz, g, st, R, (stm_ok0 q).mono fun w st1 g1 H1 e1 R1 q1 y ry => ?_⟩
        revert q1
        cases pw : peek st1 w with
        | none => exact fun z => z.elim
        | some w' =>
          dsimp only
          cases po : op v w' with
          | none => exact fun z => z.elim
          | some r =>
            cases r with
            | p r => exact fun q1 => ⟨g1, st1, σ, v, w', .p r, R1, (Rep.ext e1 rz).peek, peek_ok R1 ry pw, po, fun g' H' u e2 R2 ru => store_ok' (e1.trans e2) R2 (show RepE c g g' H' σ (.p r) u from ru) q1⟩
            | _ => exact fun z => z.elim
    | _ => rw [hv] at q; exact q.elim
def iaddV : Val → Val → Option EV
  | .int i, .int j => some (.p (.int (i + j)))
  | .str x, .str y => if x.length + y.length ≤ LINE then some (.p (.str (x ++ y))) else none
  | _, _ => none
def imulV : Val → Val → Option EV
  | .int i, .int j => if small64 i || small64 j then some (.p (.int (i * j))) else none
  | _, _ => none
theorem ia_add : PIp X .Add (rB c iaddV) := by
  intro pins s σ H x y v u Q I rx ry hq
  obtain ⟨g, st, σ0, v', w', res, R, hx, hy, e, q⟩ := hq
  unfold iaddV at e
  split at e
  · cases e
    exact iop_add pins s σ H x y v u Q I rx ry ⟨_, _, int_of hx, int_of hy, q g H _ Ext.refl R (.int _)⟩
  · split at e
    · rename_i hl
      cases e
      exact iop_add_str pins s σ H x y v u Q I rx ry ⟨_, _, str_of hx, str_of hy, line_le hl, q g H _ Ext.refl R (.str _)⟩
    · cases e
  · cases e
theorem ia_sub : PIp X .Sub (rB c subV) := by
  intro pins s σ H x y v u Q I rx ry hq
  obtain ⟨g, st, σ0, v', w', res, R, hx, hy, e, q⟩ := hq
  unfold subV at e
  split at e
  · cases e
    exact iop_sub pins s σ H x y v u Q I rx ry ⟨_, _, int_of hx, int_of hy, q g H _ Ext.refl R (.int _)⟩
  · cases e
theorem ia_mul : PIp X .Mult (rB c imulV) := by
  intro pins s σ H x y v u Q I rx ry hq
  obtain ⟨g, st, σ0, v', w', res, R, hx, hy, e, q⟩ := hq
  unfold imulV at e
  split at e
  · split at e
    · rename_i hh
      cases e
      refine iop_mul pins s σ H x y v u Q I rx ry ⟨_, _, int_of hx, int_of hy, ?_, q g H _ Ext.refl R (.int _)⟩
      rw [Bool.or_eq_true] at hh
      exact hh.imp small64_iff small64_iff
    · cases e
  · cases e
theorem ia_bor : PIp X .BitOr (rB c borV) := by
  intro pins s σ H x y v u Q I rx ry hq
  obtain ⟨g, st, σ0, v', w', res, R, hx, hy, e, q⟩ := hq
  unfold borV at e
  split at e
  · cases e
    exact iop_or pins s σ H x y v u Q I rx ry ⟨_, _, int_of hx, int_of hy, q g H _ Ext.refl R (.int _)⟩
  · cases e
end

/-! ## x[i] = e -/
def mutS (v : EV) (st : S) (f : Ob → Option Ob) : SR := match v with
  | .s i => match st.get i with
    | .o b => match f b with
      | some b' => .nx (st.set i (.o b'))
      | none => .bad
    | _ => .bad
  | .r => match f st.rf with
    | some b' => .nx ⟨st.sl, b'⟩
    | none => .bad
  | _ => .bad
theorem mutS_ok {c : Ct} {W : WXs} {D : Ends} {g0 g : Gh} {H0 H : Hp} {σ : Sig} {st : S} {v : EV} {x : V} {f : Ob → Option Ob} (E : Ext c g0 H0 g H) (R : Rel c g st σ H) (rx : RepE c g0 g H σ v x) (f0 : f .none = none)
    (q : PostS c W D g0 H0 (mutS v st f)) : ∃ a b b' o, x = .ref a ∧ ((∃ i, g a = .own i) ∨ g a = .rf) ∧ RepO c g H b a ∧ H a = some o ∧ isMut o = true ∧ f b = some b' ∧
      ∀ o', RepO c g (upd H a o') b' a → D.nx σ (upd H a o') := by
  cases v with
  | p v => exact q.elim
  | f v => exact q.elim
  | s i =>
    have hx : σ[i]? = some (some x) := rx
    unfold mutS at q
    dsimp only at q
    cases e : st.get i with
    | o b =>
      rw [e] at q
      dsimp only at q
      obtain ⟨y, hy, r⟩ := R.at e (fun z => nomatch z)
      rw [hx] at hy; cases hy
      obtain ⟨a, rfl, ha, rb⟩ := r
      obtain ⟨o, ho, hm⟩ := RepO.mut rb
      cases hf : f b with
      | none => rw [hf] at q; exact q.elim
      | some b' =>
        rw [hf] at q
        exact ⟨a, b, b', o, rfl, .inl ⟨i, ha⟩, rb, ho, hm, hf, fun o' h => q g _ _ (E.trans (ext_write (.inl ⟨i, ha⟩) ho hm)) (R.write e hx ha ho hm h)⟩
    | p v => rw [e] at q; exact q.elim
    | l v => rw [e] at q; exact q.elim
    | r => rw [e] at q; exact q.elim
    | u => rw [e] at q; exact q.elim
    | x => rw [e] at q; exact q.elim
  | r =>
    obtain ⟨a, rfl, ha⟩ := rx
    unfold mutS at q
    dsimp only at q
    cases hf : f st.rf with
    | none => rw [hf] at q; exact q.elim
    | some b' =>
      rw [hf] at q
      rcases R.rf with e | ⟨d, e1, e2⟩
      · rw [e, f0] at hf; cases hf
      · have hd : a = d := R.rfu a d ha e1
        subst hd
        obtain ⟨o, ho, hm⟩ := RepO.mut e2
        exact ⟨a, st.rf, b', o, rfl, .inr ha, e2, ho, hm, hf, fun o' h => q g _ _ (E.trans (ext_write (.inr ha) ho hm)) (R.writeR ha ho hm h)⟩
/-- what x[i] = w makes of the object: for lists (dicts: another file) -/
def setL (i w : Val) : Ob → Option Ob
  | .lst xs => match i with
    | .int n => (ixN xs.length n).map fun j => .lst (xs.set j w)
    | _ => none
  | _ => none
def sSetIx (f : Val → Val → Ob → Option Ob) (de dx di : S → R EV) : S → SR := fun st => (keep1 de st).stm fun w st1 => (dx st1).stm fun o st2 => (keep1 di st2).stm fun i st3 => mutS o st3 (f i w)
def rSet (c : Ct) (f : Val → Val → Ob → Option Ob) : TSet := fun o i v H Q => ∃ a b b' ob g iv w, o = .ref a ∧ H a = some ob ∧ isMut ob = true ∧ (∀ o' w z, Rep c g H w z → Rep c g (upd H a o') w z) ∧ RepO c g H b a ∧ Rep c g H iv i ∧ Rep c g H w v ∧ f iv w b = some b' ∧
  ∀ o', RepO c g (upd H a o') b' a → Q (upd H a o')
section
variable {X : Cx} {c : Ct} {W : WXs} {k : Nat} {pos tpos : Pos} {e o i : Expr} {de dx di : S → R EV} {f : Val → Val → Ob → Option Ob}
theorem s_setix (G : Good X c k) (hs : PSet X (rSet c f)) (f0 : ∀ i w, f i w .none = none) (he : SE X c W e de) (ho : SE X c W o dx) (hi : SE X c W i di)
    (hsw : swapsWithSole [.Subscript o i tpos] e pos.line X.env = pure false := by rfl) (hw : swappedStores [.Subscript o i tpos] e X.env = pure none := by rfl)
    (h1 : (assignEach [.Subscript o i tpos] X.env).map (·.2) = [assign (.Subscript o i tpos) X.env] := by rfl)
    (hg : PG X (.Subscript o i tpos) (gSub (tE c W dx) (tE c W di) (rSet c f))) : SS X c W (.Assign [.Subscript o i tpos] e pos) (sSetIx f de dx di) :=
  impS (ps_asg he hg hsw hw h1) fun D σ H ⟨g, st, R, q⟩ => by
    refine ⟨g, st, R, (keep_stm q).mono fun v st1 g1 H1 _ _ h x rx => ?_⟩
    obtain ⟨w, st2, g2, e2, R2, r2, q2⟩ := h x rx
    refine ⟨g2, st2, R2, (stm_ok0 q2).mono fun ov st3 g3 H3 e3 R3 q3 y ry => ?_⟩
    refine ⟨g3, st3, R3, (keep_stm (PostS.start e3 q3)).mono fun iv st4 g4 H4 _ _ h z rz => ?_⟩
    obtain ⟨i', st5, g5, e5, R5, r5, q5⟩ := h z rz
    obtain ⟨a, b, b', ob, rfl, hg, rb, hob, hm, hf, next⟩ := mutS_ok Ext.refl R5 (by
      have := RepE.ext e5 ry
      cases ov with
      | p v => exact this
      | f v => exact q5.elim
      | s i => exact this
      | r => exact this) (f0 _ _) q5
    exact ⟨a, b, b', ob, g5, i', w, rfl, hob, hm, fun o' w z h => Rep.ext (ext_write hg hob hm) h, rb, r5, Rep.ext (e3.trans e5) r2, hf, next⟩
theorem d_setL : PSet X (rSet c setL) := by
  intro pins s σ H o i v ov iv u Q I ro ri rv hq
  obtain ⟨a, b, b', ob, g, iv', w, rfl, hob, hm, hu, rb, r5, rw', hf, q⟩ := hq
  cases b with
  | lst xs =>
    cases iv' with
    | int n =>
      dsimp only [setL] at hf
      cases e : ixN xs.length n with
      | none => rw [e] at hf; cases hf
      | some j =>
        rw [e] at hf
        cases hf
        obtain ⟨us, h1, h2⟩ := rb
        cases r5
        exact set_list pins s σ H _ _ v ov iv u Q I ro ri rv ⟨a, us, n, j, rfl, rfl, h1, by rw [← h2.length]; exact e, q _ ⟨_, upd_same, (Reps.upd (hu _) h2).set (hu _ _ _ rw') _⟩⟩
    | _ => cases hf
  | _ => cases hf
theorem f0_setL : ∀ i w, setL i w .none = none := fun _ _ => rfl
end

/-! ## while -/
def whileL (t : S → R Bool) (body : S → SR) : Nat → S → SR
  | 0, _ => .bad
  | n + 1, st => (t st).stm fun k st1 => if k then match body st1 with
      | .nx st2 => whileL t body n st2
      | .ct st2 => whileL t body n st2
      | .bk st2 => .nx st2
      | r => r
    else .nx st1
def sWhile (n : Nat) (t : S → R Bool) (body : S → SR) : S → SR := fun st => whileL t body n st
section
variable {X : Cx} {c : Ct} {W : WXs} {k : Nat} {pos : Pos} {e : Expr} {ss : List Stmt} {t : S → R Bool} {body : S → SR}
theorem s_while (n : Nat) (po : PassesOwn (model X.prog X.w) X.A X.env X.xe) (ht : ST X c W e t) (hb : SSs X c W ss body) : SS X c W (.While e ss [] pos) (sWhile n t body) :=
  impS (ps_while po ht hb) fun D σ H ⟨g0, st0, R0, q0⟩ => by
    refine ⟨fun m σ' H' => ∃ g st, Rel c g st σ' H' ∧ Ext c g0 H g H' ∧ PostS c W D g0 H (whileL t body m st), ⟨n, g0, st0, R0, Ext.refl, q0⟩, ?_⟩
    rintro m σ1 H1 ⟨g1, st1, R1, E1, q1⟩
    cases m with
    | zero => exact q1.elim
    | succ m =>
      rw [whileL] at q1
      refine ⟨g1, st1, R1, (Post.start E1 (?_ : Post c W g0 H σ1 (t st1) fun b st2 _ _ => PostS c W D g0 H (if b then match body st2 with
        | .nx st3 => whileL t body m st3
        | .ct st3 => whileL t body m st3
        | .bk st3 => .nx st3
        | r => r else .nx st2))).mono fun b st2 g2 H2 e2 R2 q2 => ?_⟩
      · exact stm_ok0 q1
      · cases b with
        | false => exact iteF (q2 g2 σ1 H2 (E1.trans e2) R2)
        | true =>
          refine iteT ⟨fun σ' H' => ∃ g st, Rel c g st σ' H' ∧ Ext c g0 H g H' ∧ PostS c W D g0 H (whileL t body m st), fun σ' H' h => ⟨m, Nat.lt_succ_self m, h⟩, g2, st2, R2, ?_⟩
          have E2 := E1.trans e2
          have q2 : PostS c W D g0 H (match body st2 with
            | .nx st3 => whileL t body m st3
            | .ct st3 => whileL t body m st3
            | .bk st3 => .nx st3
            | r => r) := q2
          revert q2
          cases body st2 with
          | nx st3 => exact fun q2 g' σ' H' e' R' => ⟨g', st3, R', E2.trans e', q2⟩
          | ct st3 => exact fun q2 g' σ' H' e' R' => ⟨g', st3, R', E2.trans e', q2⟩
          | bk st3 => exact fun q2 g' σ' H' e' R' => q2 g' σ' H' (E2.trans e') R'
          | rt v st3 => exact fun q2 g' σ' H' x e' R' rx => q2 g' σ' H' x (E2.trans e') R' (RepE.start E2 rx)
          | ex x st3 => exact fun q2 g' σ' H' cls dx e' R' rx => q2 g' σ' H' cls dx (E2.trans e') R' rx
          | bad => exact fun z => z
end

/-! ## for -/
def Free (g : Gh) (a : Addr) : Prop := g a = .none ∨ ∃ j, g a = .own j
theorem Free.of {c : Ct} {g g' : Gh} {H H' : Hp} (e : Ext c g H g' H') {a : Addr} {i : Nat} (h : g' a = .own i) : Free g a := by
  cases q : g a with
  | none => exact .inl q
  | own j => exact .inr ⟨j, q⟩
  | frz => have := (e.keep a (.inl q)).1; rw [h, q] at this; cases this
  | tmp => have := (e.keep a (.inr (.inl q))).1; rw [h, q] at this; cases this
  | oth => have := (e.keep a (.inr (.inr (.inl q)))).1; rw [h, q] at this; cases this
  | lk j => have := (e.keep a (.inr (.inr (.inr ⟨j, q⟩)))).1; rw [h, q] at this; cases this
  | rf => have := e.rft a q; rw [h] at this; cases this
structure Iter (c : Ct) (J : It) (g1 : Gh) (H1 : Hp) (items : List Val) : Prop where
  go : ∀ i g H, Ext c g1 H1 g H → i < items.length → J.go i H
  stop : ∀ i g H, Ext c g1 H1 g H → items.length ≤ i → J.stop i H
  yld : ∀ i g H st σ x H' v, Ext c g1 H1 g H → Rel c g st σ H → items[i]? = some v → J.yld i H x H' → ∃ g', Ext c g H g' H' ∧ Rel c g' st σ H' ∧ Rep c g' H' v x
abbrev ItR := R (List Val × Option Nat)
def tI (c : Ct) (W : WXs) (d : S → ItR) : TI := fun σ H Rk => ∃ g st, Rel c g st σ H ∧ Post c W g H σ (d st) fun p _ g' H' => ∀ J, Iter c J g' H' p.1 → (∀ i, p.2 = some i → ∃ a, Free g a ∧ g' a = .lk i) → Rk J H'
def SI (X : Cx) (c : Ct) (W : WXs) (tg e : Expr) (d : S → ItR) : Prop := PI X tg e (tI c W d)
def forL (t : Tgt) (body : S → SR) : List Val → S → SR
  | [], st => .nx st
  | v :: vs, st => match asg t v st with
    | none => .bad
    | some st1 => match body st1 with
      | .nx st2 => forL t body vs st2
      | .ct st2 => forL t body vs st2
      | .bk st2 => .nx st2
      | r => r
def unlock (lk : Option Nat) (st : S) : SR := match lk with
  | none => .nx st
  | some i => match st.get i with
    | .l b => .nx (st.set i (.o b))
    | _ => .bad
def sFor (it : S → ItR) (t : Tgt) (body : S → SR) : S → SR := fun st => (it st).stm fun p st1 => (forL t body p.1 st1).seq (unlock p.2)
theorem Ext.lk {c : Ct} {g g' : Gh} {H H' : Hp} (e : Ext c g H g' H') {a : Addr} {i : Nat} (h : g a = .lk i) : g' a = .lk i ∧ H' a = H a := by
  obtain ⟨h1, h2⟩ := e.keep a (.inr (.inr (.inr ⟨i, h⟩)))
  exact ⟨h1.trans h, h2⟩
theorem Ext.unlock {c : Ct} {g0 g : Gh} {H0 H : Hp} {a : Addr} {i : Nat} (E : Ext c g0 H0 g H) (h0 : Free g0 a) : Ext c g0 H0 (mark g a (.own i)) H := by
  have nf : ∀ {b : Addr} {t : Tag}, g0 b = t → t ≠ .none → (∀ j, t ≠ .own j) → b ≠ a := fun {b t} e n1 n2 z => by
    subst z
    rcases h0 with z | ⟨j, z⟩
    · exact n1 (e.symm.trans z)
    · exact n2 j (e.symm.trans z)
  refine ⟨fun b q => ?_, fun b q => ?_, fun b q => ?_, E.tups, E.grow⟩
  · rw [mark_ne (by rcases q with q | q | q | ⟨j, q⟩ <;> exact nf q (fun z => nomatch z) fun _ z => nomatch z)]; exact E.keep b q
  · rw [mark_ne (nf q (fun z => nomatch z) fun _ z => nomatch z)]; exact E.rft b q
  · by_cases z : b = a
    · rw [z, mark_same]; exact fun z => nomatch z
    · rw [mark_ne z]; exact E.some b q
theorem Rel.unlock {c : Ct} {g : Gh} {H : Hp} {σ : Sig} {st : S} {a : Addr} {i : Nat} {b : Ob} (R : Rel c g st σ H) (h1 : g a = .lk i) (e1 : st.sl[i]? = some (.l b)) (e2 : σ[i]? = some (some (.ref a))) : Rel c (mark g a (.own i)) (st.set i (.o b)) σ H := by
  have hg : st.get i = .l b := by unfold S.get; rw [e1]
  obtain ⟨x, hx, rx⟩ := R.at hg (fun z => nomatch z)
  rw [e2] at hx; cases hx
  obtain ⟨a', ea, ha', rb⟩ := rx
  cases ea
  have hf : ∀ {t : Tag}, g a = .frz → t = .frz := fun q => by rw [h1] at q; cases q
  have hlt : i < st.sl.length := (List.getElem?_eq_some_iff.mp e1).1
  refine ⟨by show (st.sl.set i _).length = _; rw [List.length_set]; exact R.len, fun j sv y q1 q2 => ?_, ?_, fun b d p1 p2 => ?_, fun b p => ?_, fun b p => ?_, fun b j p => ?_, R.grow⟩
  · have q1 : (st.sl.set i (.o b))[j]? = some sv := q1
    by_cases hj : j = i
    · subst hj
      rw [List.getElem?_set_self hlt] at q1
      cases q1
      rw [e2] at q2; cases q2
      exact ⟨a, rfl, mark_same, rb.mk hf⟩
    · rw [List.getElem?_set_ne (Ne.symm hj)] at q1
      exact (R.sl j sv y q1 q2).mk hf (by rw [h1]; exact fun z => nomatch z) (by rw [h1]; exact fun z => nomatch z) (by rw [h1]; intro z; exact hj (Tag.lk.inj z).symm)
  · rcases R.rf with e | ⟨d, p1, p2⟩
    · exact .inl e
    · exact .inr ⟨d, by rw [mark_ne (fun z => by rw [z, h1] at p1; cases p1)]; exact p1, p2.mk hf⟩
  · have r : ∀ b, mark g a (.own i) b = .rf → g b = .rf := fun b p => by
      by_cases z : b = a
      · rw [z, mark_same] at p; cases p
      · rw [mark_ne z] at p; exact p
    exact R.rfu b d (r b p1) (r d p2)
  · by_cases z : b = a
    · rw [z]; exact R.dom a (by rw [h1]; exact fun z => nomatch z)
    · rw [mark_ne z] at p; exact R.dom b p
  · by_cases z : b = a
    · rw [z]; exact R.young a (.inr (.inr ⟨i, h1⟩))
    · rw [mark_ne z] at p; exact R.young b p
  · have hb : b ≠ a := fun z => by rw [z, mark_same] at p; cases p
    rw [mark_ne hb] at p
    obtain ⟨ob, p1, p2⟩ := R.lkd b j p
    have hj : i ≠ j := fun z => by
      subst z
      rw [e2] at p2
      cases p2
      exact hb rfl
    exact ⟨ob, by show (st.sl.set i _)[j]? = _; rw [List.getElem?_set_ne hj]; exact p1, p2⟩
theorem unlock_ok {c : Ct} {W : WXs} {D : Ends} {g0 g : Gh} {H0 H : Hp} {σ : Sig} {st : S} {lk : Option Nat} (E : Ext c g0 H0 g H) (R : Rel c g st σ H) (hl : ∀ i, lk = some i → ∃ a, Free g0 a ∧ g a = .lk i)
    (q : PostS c W D g0 H0 (unlock lk st)) : D.nx σ H := by
  cases lk with
  | none => exact q g σ H E R
  | some i =>
    obtain ⟨a, h0, h1⟩ := hl i rfl
    obtain ⟨b, e1, e2⟩ := R.lkd a i h1
    have hg : st.get i = .l b := by unfold S.get; rw [e1]
    unfold unlock at q
    dsimp only at q
    rw [hg] at q
    exact q (mark g a (.own i)) σ H (E.unlock h0) (R.unlock h1 e1 e2)
section
variable {X : Cx} {c : Ct} {W : WXs} {k : Nat} {pos : Pos} {e tg : Expr} {ss : List Stmt} {it : S → ItR} {tt : Tgt} {body : S → SR}
theorem s_for (G : Good X c k) (po : PassesOwn (model X.prog X.w) X.A X.env X.xe) (hi : SI X c W tg e it) (ht : SG X c tg tt) (hb : SSs X c W ss body)
    (hs : ∀ x, foldedSetIterable e X.env x = pure x := by intro _; rfl) : SS X c W (.For tg e ss [] pos) (sFor it tt body) :=
  impS (ps_for po G.calm hi ht hb hs) fun D σ H ⟨g0, st0, R0, q0⟩ => by
    refine ⟨g0, st0, R0, (stm_ok0 q0).mono fun p st1 g1 H1 e1 R1 q1 J I hl => ?_⟩
    refine ⟨fun i m σ' H' => ∃ g st, Rel c g st σ' H' ∧ Ext c g1 H1 g H' ∧ m = p.1.length - i ∧ i ≤ p.1.length ∧ PostS c W D g0 H ((forL tt body (p.1.drop i) st).seq (unlock p.2)), ⟨p.1.length, g1, st1, R1, Ext.refl, by simp, Nat.zero_le _, q1⟩, ?_⟩
    rintro i m σ2 H2 ⟨g2, st2, R2, E2, rfl, hi', q2⟩
    by_cases hlt : i < p.1.length
    · refine .inr ⟨I.go i g2 H2 E2 hlt, fun σ' H' => ∃ g st, Rel c g st σ' H' ∧ Ext c g1 H1 g H' ∧ PostS c W D g0 H ((forL tt body (p.1.drop (i + 1)) st).seq (unlock p.2)), fun σ' H' ⟨g, st, R, E, q⟩ => ⟨p.1.length - (i + 1), by omega, g, st, R, E, rfl, hlt, q⟩, fun x H' y => ?_⟩
      obtain ⟨g3, E3, R3, r3⟩ := I.yld i g2 H2 st2 σ2 x H' p.1[i] E2 R2 (List.getElem?_eq_getElem hlt) y
      have ed : p.1.drop i = p.1[i] :: p.1.drop (i + 1) := List.drop_eq_getElem_cons hlt
      rw [ed, forL] at q2
      cases ha : asg tt p.1[i] st2 with
      | none => rw [ha] at q2; exact q2.elim
      | some st3 =>
        rw [ha] at q2
        dsimp only at q2
        refine ⟨g3, st2, p.1[i], st3, R3, r3, ha, fun σ' R' _ => ⟨g3, st3, R', ?_⟩⟩
        have E4 := E2.trans E3
        have E5 := e1.trans E4
        revert q2
        cases body st3 with
        | nx st4 => exact fun q g' σ' H' e' R' => ⟨g', st4, R', E4.trans e', q⟩
        | ct st4 => exact fun q g' σ' H' e' R' => ⟨g', st4, R', E4.trans e', q⟩
        | bk st4 => exact fun q g' σ' H' e' R' => unlock_ok (E5.trans e') R' (fun j hj => by
            obtain ⟨a, h1, h2⟩ := hl j hj
            exact ⟨a, h1, ((E4.trans e').lk h2).1⟩) q
        | rt v st4 => exact fun q g' σ' H' x e' R' rx => q g' σ' H' x (E5.trans e') R' (RepE.start E5 rx)
        | ex x st4 => exact fun q g' σ' H' cls dx e' R' rx => q g' σ' H' cls dx (E5.trans e') R' rx
        | bad => exact fun z => z
    · have ei : i = p.1.length := by omega
      subst ei
      refine .inl ⟨I.stop _ g2 H2 E2 (Nat.le_refl _), ?_⟩
      rw [List.drop_length, forL] at q2
      exact unlock_ok (e1.trans E2) R2 (fun j hj => by
        obtain ⟨a, h1, h2⟩ := hl j hj
        exact ⟨a, h1, (E2.lk h2).1⟩) q2
end
end Y
end

section
set_option Elab.async false
set_option linter.all false
set_option maxRecDepth 100000
set_option maxHeartbeats 1000000
namespace Y
open PySem PySem.Spec PyProof.Rows L2 RZ
/-! ## what is walked -/
def seqItems : Val → Option (List Val)
  | .lst xs => some xs
  | .tup xs => some xs
  | .scr ns => some (ns.map .int)
  | _ => none
def iterD (d : S → R EV) : S → ItR := fun st => (d st).bind fun v st1 => match v with
  | .p w => match seqItems w with
    | some xs => .ok (xs, none) st1
    | none => .bad
  | .f (.lst xs) => .ok (xs, none) st1
  | .s i => match st1.get i with
    | .o (.lst xs) => .ok (xs, some i) (st1.set i (.l (.lst xs)))
    | .l (.lst xs) => .ok (xs, none) st1
    | _ => .bad
  | _ => .bad
theorem SqL.ext {c : Ct} {g g' : Gh} {H H' : Hp} (e : Ext c g H g' H') {a : Addr} {us : List V} (ha : g a = .frz ∨ g a = .tmp ∨ g a = .oth ∨ ∃ i, g a = .lk i) (h : SqL c.K H a us) : SqL c.K H' a us := SqL.frz (e.keep a ha).2 h
theorem sqL_inj {K : PySem.W.Frag} {H : Hp} {a : Addr} {us : List V} (h : H a = some (.lst us)) : SqL K H a us := .inl (.inl h)
/-- a list that stands still -/
theorem iter_list {c : Ct} {g : Gh} {H : Hp} {a : Addr} {us : List V} {vs : List Val} (h : ∀ g' H', Ext c g H g' H' → SqL c.K H' a us) (r : Reps c g H vs us) : Iter c (Itl c.K a) g H vs where
  go := fun i g' H' E hi => by
    obtain ⟨x, h1, _⟩ := r.get (List.getElem?_eq_getElem hi)
    exact ⟨us, x, h _ _ E, h1⟩
  stop := fun i g' H' E hi => ⟨us, h _ _ E, by rw [← r.length]; exact hi⟩
  yld := fun i g' H' st σ x H'' v E R hv y => by
    obtain ⟨e, y⟩ := y
    subst e
    obtain ⟨z, h1, h2⟩ := r.get hv
    have := y us (h _ _ E)
    rw [h1] at this
    cases this
    exact ⟨g', Ext.refl, R, Rep.ext E h2⟩
theorem iter_tup {c : Ct} {g : Gh} {H : Hp} {a : Addr} {us : List V} {vs : List Val} (h : H a = some (.tup us)) (r : Reps c g H vs us) : Iter c (Itt c.K a) g H vs where
  go := fun i g' H' E hi => by
    obtain ⟨x, h1, _⟩ := r.get (List.getElem?_eq_getElem hi)
    exact ⟨us, x, (SqT.of (E.tups _ _ h)), h1⟩
  stop := fun i g' H' E hi => ⟨us, (SqT.of (E.tups _ _ h)), by rw [← r.length]; exact hi⟩
  yld := fun i g' H' st σ x H'' v E R hv y => by
    obtain ⟨e, y⟩ := y
    subst e
    obtain ⟨z, h1, h2⟩ := r.get hv
    have := y us (SqT.of (E.tups _ _ h))
    rw [h1] at this
    cases this
    exact ⟨g', Ext.refl, R, Rep.ext E h2⟩
theorem lock_ok {c : Ct} {g0 g : Gh} {H0 H : Hp} {σ : Sig} {st : S} {i : Nat} {b : Ob} {x : V} (E : Ext c g0 H0 g H) (R : Rel c g st σ H) (hi : st.get i = .o b) (hx : σ[i]? = some (some x)) :
    ∃ a, x = .ref a ∧ g a = .own i ∧ Ext c g0 H0 (mark g a (.lk i)) H ∧ Rel c (mark g a (.lk i)) (st.set i (.l b)) σ H ∧ RepO c (mark g a (.lk i)) H b a := by
  obtain ⟨y, hy, r⟩ := R.at hi (fun z => nomatch z)
  rw [hx] at hy; cases hy
  obtain ⟨a, rfl, ha, rb⟩ := r
  have hf : ∀ {t : Tag}, g a = .frz → t = .frz := fun q => by rw [ha] at q; cases q
  have hlt : i < st.sl.length := (List.getElem?_eq_some_iff.mp (S.get_some hi (fun z => nomatch z))).1
  refine ⟨a, rfl, ha, E.remarkOwn ha (fun z => nomatch z), ?_, rb.mk hf⟩
  refine ⟨by show (st.sl.set i _).length = _; rw [List.length_set]; exact R.len, fun j sv y q1 q2 => ?_, ?_, fun b d p1 p2 => ?_, fun b p => ?_, fun b p => ?_, fun b j p => ?_, R.grow⟩
  · have q1 : (st.sl.set i (.l b))[j]? = some sv := q1
    by_cases hj : j = i
    · subst hj
      rw [List.getElem?_set_self hlt] at q1
      cases q1
      rw [hx] at q2; cases q2
      exact ⟨a, rfl, mark_same, rb.mk hf⟩
    · rw [List.getElem?_set_ne (Ne.symm hj)] at q1
      exact (R.sl j sv y q1 q2).mk hf (by rw [ha]; intro z; exact hj (Tag.own.inj z).symm) (by rw [ha]; exact fun z => nomatch z) (by rw [ha]; exact fun z => nomatch z)
  · rcases R.rf with e | ⟨d, p1, p2⟩
    · exact .inl e
    · exact .inr ⟨d, by rw [mark_ne (fun z => by rw [z, ha] at p1; cases p1)]; exact p1, p2.mk hf⟩
  · have r : ∀ b, mark g a (.lk i) b = .rf → g b = .rf := fun b p => by
      by_cases z : b = a
      · rw [z, mark_same] at p; cases p
      · rw [mark_ne z] at p; exact p
    exact R.rfu b d (r b p1) (r d p2)
  · by_cases z : b = a
    · rw [z]; exact R.dom a (by rw [ha]; exact fun z => nomatch z)
    · rw [mark_ne z] at p; exact R.dom b p
  · by_cases z : b = a
    · rw [z]; exact R.young a (.inr (.inl ⟨i, ha⟩))
    · rw [mark_ne z] at p; exact R.young b p
  · by_cases z : b = a
    · subst z
      rw [mark_same] at p
      cases p
      exact ⟨_, by show (st.sl.set i _)[i]? = _; rw [List.getElem?_set_self hlt], hx⟩
    · rw [mark_ne z] at p
      obtain ⟨ob, p1, p2⟩ := R.lkd b j p
      have hj : i ≠ j := fun z => by
        subst z
        have := S.get_some hi (fun z => nomatch z)
        rw [this] at p1; cases p1
      exact ⟨ob, by show (st.sl.set i _)[j]? = _; rw [List.getElem?_set_ne hj]; exact p1, p2⟩
section
variable {X : Cx} {c : Ct} {W : WXs} {k : Nat} {pos p : Pos} {e e2 tg : Expr} {es : List Expr} {d : S → R EV} {da : S → R (List Val)}
theorem pi_seq {te : TE} (hl : PE X e te) : PI X tg e (fun σ H Rk => te σ H fun x H1 => ∃ a, x = .ref a ∧ (((∃ xs, SqL X.K H1 a xs) ∧ Rk (Itl X.K a) H1) ∨ ((∃ xs, SqT X.K H1 a xs) ∧ Rk (Itt X.K a) H1))) := by
  refine ⟨fun pins s σ H Rk I h => ?_⟩
  refine thn (hl.run pins s σ H _ I h) fun v s1 ⟨x, H1, I1, r1, q1⟩ => ?_
  obtain ⟨a, rfl, ⟨⟨xs, hq⟩, q⟩ | ⟨⟨xs, hq⟩, q⟩⟩ := q1
  · cases r1
    obtain ⟨its, rv, p, hz⟩ := I1.list hq
    refine wpAny_pyIter_list p.isList ?_
    refine ⟨s1.heap.objs.size, [s1.heap.objs.size], _, _, H1, rfl, I1.kept (t' := s1.toks) fun b o e => Heap.get?_push_of_some _ e, turn_list a _, ⟨_, Heap.get?_push_size _ rfl, rfl, rfl⟩, fun b hb => ?_, q⟩
    have e : b = s1.heap.objs.size := by simpa using hb
    subst e
    exact I1.fpOk (Nat.le_refl _) (I1.hok.fresh (Nat.le_refl _))
  · cases r1
    obtain ⟨its, rv, p, hz⟩ := I1.tuple hq
    refine wpAny_pyIter_tuple (show s1.heap.IsTuple a its.toArray from p) ?_
    refine ⟨s1.heap.objs.size, [s1.heap.objs.size], _, _, H1, rfl, I1.kept (t' := s1.toks) fun b o e => Heap.get?_push_of_some _ e, turn_tuple a _, ⟨_, Heap.get?_push_size _ rfl, rfl, rfl⟩, fun b hb => ?_, q⟩
    have e : b = s1.heap.objs.size := by simpa using hb
    subst e
    exact I1.fpOk (Nat.le_refl _) (I1.hok.fresh (Nat.le_refl _))
theorem impI {t t' : TI} (h : PI X tg e t) (m : ∀ σ H Q, t' σ H Q → t σ H Q) : PI X tg e t' := ⟨fun pins s σ H Q I q => h.run pins s σ H Q I (m _ _ _ q)⟩
theorem si_seq (G : Good X c k) (h : SE X c W e d) : SI X c W tg e (iterD d) :=
  impI (pi_seq h) fun σ H Rk ⟨g, st, R, q⟩ => by
    refine ⟨g, st, R, ?_⟩
    revert q
    unfold iterD
    cases hd : d st with
    | bad => exact fun z => z
    | ex x st1 => exact fun q => q
    | ok v st1 =>
      intro q g1 H1 e1 R1 x rx
      rw [G.K]
      cases v with
      | p w =>
        have rx : Rep c g1 H1 w x := rx
        revert q
        show Post c W g H σ (match seqItems w with | some xs => Y.R.ok (xs, none) st1 | none => Y.R.bad) _ → _
        cases rx with
        | lst h1 h2 r => exact fun q => ⟨_, rfl, .inl ⟨⟨_, sqL_inj h2⟩, q g1 H1 e1 R1 _ (iter_list (fun _ _ E => SqL.ext E (.inl h1) (sqL_inj h2)) r) (fun _ z => nomatch z)⟩⟩
        | tup h1 r => exact fun q => ⟨_, rfl, .inr ⟨⟨_, SqT.of h1⟩, q g1 H1 e1 R1 _ (iter_tup h1 r) (fun _ z => nomatch z)⟩⟩
        | scr h1 h2 => exact fun q => ⟨_, rfl, .inl ⟨⟨_, h2⟩, q g1 H1 e1 R1 _ (iter_list (fun _ _ E => h1.elim (fun h1 => SqL.ext E (.inl h1) h2) fun h1 => h1 _) (reps_ints _)) (fun _ z => nomatch z)⟩⟩
        | _ => exact fun z => z.elim
      | f b =>
        cases b with
        | lst xs =>
          obtain ⟨a, rfl, h1, h2, us, h3, h4⟩ := rx
          exact ⟨a, rfl, .inl ⟨⟨_, sqL_inj h3⟩, q g1 H1 e1 R1 _ (iter_list (fun _ _ E => SqL.ext E (.inr (.inl h1)) (sqL_inj h3)) h4) (fun _ z => nomatch z)⟩⟩
        | _ => exact q.elim
      | r => exact q.elim
      | s i =>
        have hx : σ[i]? = some (some x) := rx
        revert q
        show Post c W g H σ (match st1.get i with | .o (.lst xs) => Y.R.ok (xs, some i) (st1.set i (.l (.lst xs))) | .l (.lst xs) => Y.R.ok (xs, none) st1 | _ => Y.R.bad) _ → _
        cases hi : st1.get i with
        | o b =>
          cases b with
          | lst xs =>
            intro q
            obtain ⟨a, rfl, ha, E2, R2, us, h3, h4⟩ := lock_ok e1 R1 hi hx
            exact ⟨a, rfl, .inl ⟨⟨_, sqL_inj h3⟩, q _ H1 E2 R2 _ (iter_list (fun _ _ E => SqL.ext E (.inr (.inr (.inr ⟨i, mark_same⟩))) (sqL_inj h3)) h4) (fun j hj => by cases hj; exact ⟨a, Free.of e1 ha, mark_same⟩)⟩⟩
          | _ => exact fun z => z.elim
        | l b =>
          cases b with
          | lst xs =>
            intro q
            obtain ⟨y, hy, r⟩ := R1.at hi (fun z => nomatch z)
            rw [hx] at hy; cases hy
            obtain ⟨a, rfl, ha, us, h3, h4⟩ := r
            exact ⟨a, rfl, .inl ⟨⟨_, sqL_inj h3⟩, q g1 H1 e1 R1 _ (iter_list (fun _ _ E => SqL.ext E (.inr (.inr (.inr ⟨i, ha⟩))) (sqL_inj h3)) h4) (fun _ z => nomatch z)⟩⟩
          | _ => exact fun z => z.elim
        | _ => exact fun z => z.elim
end

/-! ## range, zip, enumerate, a text -/
def bound62 (n : Int) : Bool := decide (-(4611686018427387904) ≤ n) && decide (n < 4611686018427387904)
def rgC (i j s : Int) : List Val := (List.range (Builtin.Range.rangeSize i j s).toNat).map fun (k : Nat) => Val.int (i + (k : Int) * s)
def rgCOk (i j s : Int) : Bool := decide (s ≠ 0) && decide (s.natAbs < 1073741824) && Builtin.Range.small i j s && decide (0 ≤ Builtin.Range.rangeSize i j s)
def rg1 : Val → Option (List Val)
  | .int n => if bound62 n then some (rgL 0 n) else none
  | _ => none
def rg2 : Val → Val → Option (List Val)
  | .int m, .int n => if bound62 m && bound62 n then some (rgL m n) else none
  | _, _ => none
def rg3 : Val → Val → Val → Option (List Val)
  | .int i, .int j, .int s => if rgCOk i j s then some (rgC i j s) else none
  | _, _, _ => none
def a1 (f : Val → Option (List Val)) : List Val → Option (List Val)
  | [v] => f v
  | _ => none
def a2 (f : Val → Val → Option (List Val)) : List Val → Option (List Val)
  | [v, w] => f v w
  | _ => none
def a3 (f : Val → Val → Val → Option (List Val)) : List Val → Option (List Val)
  | [u, v, w] => f u v w
  | _ => none
theorem a1_of {f : Val → Option (List Val)} {vs xs : List Val} (h : a1 f vs = some xs) : ∃ v, vs = [v] ∧ f v = some xs := by
  match vs, h with
  | [v], h => exact ⟨v, rfl, h⟩
theorem a2_of {f : Val → Val → Option (List Val)} {vs xs : List Val} (h : a2 f vs = some xs) : ∃ v w, vs = [v, w] ∧ f v w = some xs := by
  match vs, h with
  | [v, w], h => exact ⟨v, w, rfl, h⟩
theorem a3_of {f : Val → Val → Val → Option (List Val)} {vs xs : List Val} (h : a3 f vs = some xs) : ∃ u v w, vs = [u, v, w] ∧ f u v w = some xs := by
  match vs, h with
  | [u, v, w], h => exact ⟨u, v, w, rfl, h⟩
def argIt (f : List Val → Option (List Val)) (da : S → R (List Val)) : S → ItR := fun st => (da st).bind fun vs st1 => match f vs with
  | some xs => .ok (xs, none) st1
  | none => .bad
def zipV : Val → Val → Option (List Val)
  | .lst xs, .lst ys => some ((xs.zip ys).map fun p => .tup [p.1, p.2])
  | .tup xs, .tup ys => some ((xs.zip ys).map fun p => .tup [p.1, p.2])
  | _, _ => none
def enumFrom : Nat → List Val → List Val
  | _, [] => []
  | n, v :: vs => .tup [.int (n : Int), v] :: enumFrom (n + 1) vs
def enumV : Val → Option (List Val)
  | .lst xs => some (enumFrom 0 xs)
  | _ => none
theorem enum_get : ∀ (xs : List Val) (n i : Nat), (enumFrom n xs)[i]? = xs[i]?.map fun v => .tup [.int ((n + i : Nat) : Int), v]
  | [], _, _ => by rw [enumFrom]; rfl
  | v :: vs, n, 0 => rfl
  | v :: vs, n, i + 1 => by
    rw [enumFrom, List.getElem?_cons_succ, List.getElem?_cons_succ, enum_get vs (n + 1) i]
    have : n + 1 + i = n + (i + 1) := by omega
    rw [this]
theorem enum_len : ∀ (xs : List Val) (n : Nat), (enumFrom n xs).length = xs.length
  | [], _ => rfl
  | v :: vs, n => congrArg (· + 1) (enum_len vs (n + 1))
section
variable {X : Cx} {c : Ct} {W : WXs} {k : Nat} {pos p : Pos} {e e2 e3 tg : Expr} {es : List Expr} {d : S → R EV} {da : S → R (List Val)}
theorem arg_step {f : List Val → Option (List Val)} {g : Gh} {H : Hp} {σ : Sig} {st : S} {kk : (List Val × Option Nat) → S → Gh → Hp → Prop} (q : Post c W g H σ (argIt f da st) kk) :
    Post c W g H σ (da st) fun vs st' g' H' => ∃ xs, f vs = some xs ∧ kk (xs, none) st' g' H' := by
  refine Post.mono q.bind fun vs st1 g1 H1 e1 R1 q1 => ?_
  revert q1
  cases hf : f vs with
  | none => exact fun z => z.elim
  | some xs => exact fun q1 => ⟨xs, rfl, q1 g1 H1 Ext.refl R1⟩
theorem b62 {n : Int} (h : bound62 n = true) : -(2 ^ 62) ≤ n ∧ n < 2 ^ 62 := by
  unfold bound62 at h
  simp only [Bool.and_eq_true, decide_eq_true_eq] at h
  omega
theorem iter_range {g : Gh} {H : Hp} (lo : Int) (n : Nat) : Iter c (Itr lo n) g H ((List.range n).map fun (i : Nat) => Val.int (lo + (i : Int))) where
  go := fun i _ _ _ hi => show i < n by simpa using hi
  stop := fun i _ _ _ hi => show n ≤ i by simpa using hi
  yld := fun i g' H' st σ x H'' v E R hv y => by
    obtain ⟨rfl, rfl⟩ := y
    rw [List.getElem?_map] at hv
    have hi : i < n := by
      cases e : (List.range n)[i]? with
      | none => rw [e] at hv; cases hv
      | some j => simpa using (List.getElem?_eq_some_iff.mp e).1
    rw [List.getElem?_range hi] at hv
    cases hv
    exact ⟨g', Ext.refl, R, .int _⟩
theorem iter_rangeC {g : Gh} {H : Hp} (lo s : Int) (n : Nat) : Iter c (Itc lo s n) g H ((List.range n).map fun (i : Nat) => Val.int (lo + (i : Int) * s)) where
  go := fun i _ _ _ hi => show i < n by simpa using hi
  stop := fun i _ _ _ hi => show n ≤ i by simpa using hi
  yld := fun i g' H' st σ x H'' v E R hv y => by
    obtain ⟨rfl, rfl⟩ := y
    rw [List.getElem?_map] at hv
    have hi : i < n := by
      cases e : (List.range n)[i]? with
      | none => rw [e] at hv; cases hv
      | some j => simpa using (List.getElem?_eq_some_iff.mp e).1
    rw [List.getElem?_range hi] at hv
    cases hv
    exact ⟨g', Ext.refl, R, .int _⟩
theorem reps1 {g : Gh} {H : Hp} {v : Val} {xs : List V} (r : Reps c g H [v] xs) : ∃ x, xs = [x] ∧ Rep c g H v x := by
  cases r with
  | cons a b => cases b; exact ⟨_, rfl, a⟩
theorem reps2 {g : Gh} {H : Hp} {v w : Val} {xs : List V} (r : Reps c g H [v, w] xs) : ∃ x y, xs = [x, y] ∧ Rep c g H v x ∧ Rep c g H w y := by
  cases r with
  | cons a b => cases b with
    | cons b d => cases d; exact ⟨_, _, rfl, a, b⟩
theorem reps3 {g : Gh} {H : Hp} {u v w : Val} {xs : List V} (r : Reps c g H [u, v, w] xs) : ∃ x y z, xs = [x, y, z] ∧ Rep c g H u x ∧ Rep c g H v y ∧ Rep c g H w z := by
  cases r with
  | cons a b => cases b with
    | cons b d => cases d with
      | cons d f => cases f; exact ⟨_, _, _, rfl, a, b, d⟩
theorem si_range1 (G : Good X c k) (hg : Gl X "range") (hm : c.mg "range" = none) (h : SA X c W [e] da) (hs : starEach [e] X.env = [(false, eval e X.env)] := by rfl) : SI X c W tg (.Call (.Name "range" p) [e] [] pos) (argIt (a1 rg1) da) :=
  impI (pi_range1 hg (by rw [G.mg]; exact hm) h hs) fun σ H Rk ⟨g, st, R, q⟩ => by
    refine ⟨g, st, R, (arg_step q).mono fun vs st1 g1 H1 e1 R1 q1 xs rs => ?_⟩
    obtain ⟨its, hf, q2⟩ := q1
    obtain ⟨v, rfl, hf⟩ := a1_of hf
    obtain ⟨x, rfl, rx⟩ := reps1 rs
    cases rx with
    | int n =>
      have hf : (if bound62 n then some (rgL 0 n) else none) = some its := hf
      split at hf
      · rename_i hb
        cases hf
        obtain ⟨b1, b2⟩ := b62 hb
        refine ⟨_, rfl, b1, b2, q2 _ ?_ (fun _ z => nomatch z)⟩
        have := iter_range (c := c) (g := g1) (H := H1) 0 n.toNat
        unfold rgL
        rw [Int.sub_zero]
        exact this
      · cases hf
    | _ => cases hf
theorem si_range2 (G : Good X c k) (hg : Gl X "range") (hm : c.mg "range" = none) (h : SA X c W [e, e2] da) (hs : starEach [e, e2] X.env = [(false, eval e X.env), (false, eval e2 X.env)] := by rfl) (hs2 : starEach [e2] X.env = [(false, eval e2 X.env)] := by rfl) : SI X c W tg (.Call (.Name "range" p) [e, e2] [] pos) (argIt (a2 rg2) da) :=
  impI (pi_range2 hg (by rw [G.mg]; exact hm) h hs hs2) fun σ H Rk ⟨g, st, R, q⟩ => by
    refine ⟨g, st, R, (arg_step q).mono fun vs st1 g1 H1 e1 R1 q1 xs rs => ?_⟩
    obtain ⟨its, hf, q2⟩ := q1
    obtain ⟨v, w, rfl, hf⟩ := a2_of hf
    obtain ⟨x, y, rfl, rx, ry⟩ := reps2 rs
    cases rx with
    | int m =>
      cases ry with
      | int n =>
        have hf : (if bound62 m && bound62 n then some (rgL m n) else none) = some its := hf
        split at hf
        · rename_i hb
          cases hf
          rw [Bool.and_eq_true] at hb
          obtain ⟨b1, b2⟩ := b62 hb.1
          obtain ⟨b3, b4⟩ := b62 hb.2
          exact ⟨_, _, rfl, ⟨b1, b2, b3, b4⟩, q2 _ (iter_range _ _) (fun _ z => nomatch z)⟩
        · cases hf
      | _ => cases hf
    | _ => cases hf
theorem si_range3 (G : Good X c k) (h : SA X c W [e, e2, e3] da) (hpi : ∀ {ta : TA}, PA X [e, e2, e3] ta → PI X tg (.Call (.Name "range" p) [e, e2, e3] [] pos) (iRng3 ta)) : SI X c W tg (.Call (.Name "range" p) [e, e2, e3] [] pos) (argIt (a3 rg3) da) :=
  impI (hpi h) fun σ H Rk ⟨g, st, R, q⟩ => by
    refine ⟨g, st, R, (arg_step q).mono fun vs st1 g1 H1 e1 R1 q1 xs rs => ?_⟩
    obtain ⟨its, hf, q2⟩ := q1
    obtain ⟨u, v, w, rfl, hf⟩ := a3_of hf
    obtain ⟨x, y, z, rfl, rx, ry, rz⟩ := reps3 rs
    cases rx with
    | int i =>
      cases ry with
      | int j =>
        cases rz with
        | int s =>
          have hf : (if rgCOk i j s then some (rgC i j s) else none) = some its := hf
          split at hf
          · rename_i hb
            cases hf
            unfold rgCOk at hb
            simp only [Bool.and_eq_true, decide_eq_true_eq] at hb
            exact ⟨_, _, _, _, rfl, ⟨hb.1.1.1, hb.1.1.2, hb.1.2, (Int.toNat_of_nonneg hb.2).symm⟩, q2 _ (iter_rangeC _ _ _) (fun _ z => nomatch z)⟩
          · cases hf
        | _ => cases hf
      | _ => cases hf
    | _ => cases hf
theorem zip_get : ∀ (xs ys : List Val) (i : Nat) (v : Val), ((xs.zip ys).map fun p => Val.tup [p.1, p.2])[i]? = some v → ∃ x y, xs[i]? = some x ∧ ys[i]? = some y ∧ v = .tup [x, y]
  | [], _, i, v, h => by simp at h
  | _ :: _, [], i, v, h => by simp at h
  | x :: xs, y :: ys, 0, v, h => ⟨x, y, rfl, rfl, by simpa using h.symm⟩
  | x :: xs, y :: ys, i + 1, v, h => zip_get xs ys i v (by simpa using h)
theorem pair_new {g : Gh} {H : Hp} {st : S} {σ : Sig} {T : Addr} {x y : V} {v w : Val} (R : Rel c g st σ H) (hT : H T = none) (r1 : Rep c g H v x) (r2 : Rep c g H w y) :
    ∃ g', Ext c g H g' (upd H T (.tup [x, y])) ∧ Rel c g' st σ (upd H T (.tup [x, y])) ∧ Rep c g' (upd H T (.tup [x, y])) (.tup [v, w]) (.ref T) := by
  obtain ⟨R', E'⟩ := R.new hT (.tup [x, y]) .frz (fun z => nomatch z) (.inr rfl)
  exact ⟨_, E', R', .tup upd_same (.cons (Rep.ext E' r1) (.cons (Rep.ext E' r2) .nil))⟩
theorem iter_zipL {g : Gh} {H : Hp} {a b : Addr} {us ws : List V} {vs zs : List Val} (ha : g a = .frz) (h : H a = some (.lst us)) (r : Reps c g H vs us) (hb : g b = .frz) (h2 : H b = some (.lst ws)) (r2 : Reps c g H zs ws) :
    Iter c (Itz c.K a b) g H ((vs.zip zs).map fun p => .tup [p.1, p.2]) where
  go := fun i g' H' E hi => by
    rw [List.length_map, List.length_zip, Nat.lt_min] at hi
    obtain ⟨x, h1, _⟩ := r.get (List.getElem?_eq_getElem hi.1)
    obtain ⟨y, h3, _⟩ := r2.get (List.getElem?_eq_getElem hi.2)
    exact ⟨us, ws, x, y, SqL.of ((E.frz ha).2.trans h), SqL.of ((E.frz hb).2.trans h2), h1, h3⟩
  stop := fun i g' H' E hi => by
    rw [List.length_map, List.length_zip] at hi
    refine ⟨us, ws, SqL.of ((E.frz ha).2.trans h), SqL.of ((E.frz hb).2.trans h2), ?_⟩
    rw [← r.length, ← r2.length]
    omega
  yld := fun i g' H' st σ x H'' v E R hv y => by
    obtain ⟨T, p, q, rfl, hT, rfl, h5, h6⟩ := y
    obtain ⟨v1, v2, e1, e2, rfl⟩ := zip_get _ _ _ _ hv
    obtain ⟨z1, f1, f2⟩ := r.get e1
    obtain ⟨z2, f3, f4⟩ := r2.get e2
    have g1 := h5 us (SqL.of ((E.frz ha).2.trans h))
    have g2 := h6 ws (SqL.of ((E.frz hb).2.trans h2))
    rw [f1] at g1; cases g1
    rw [f3] at g2; cases g2
    exact pair_new R hT (Rep.ext E f2) (Rep.ext E f4)
theorem iter_zipT {g : Gh} {H : Hp} {a b : Addr} {us ws : List V} {vs zs : List Val} (h : H a = some (.tup us)) (r : Reps c g H vs us) (h2 : H b = some (.tup ws)) (r2 : Reps c g H zs ws) :
    Iter c (ItzT c.K a b) g H ((vs.zip zs).map fun p => .tup [p.1, p.2]) where
  go := fun i g' H' E hi => by
    rw [List.length_map, List.length_zip, Nat.lt_min] at hi
    obtain ⟨x, h1, _⟩ := r.get (List.getElem?_eq_getElem hi.1)
    obtain ⟨y, h3, _⟩ := r2.get (List.getElem?_eq_getElem hi.2)
    exact ⟨us, ws, x, y, (SqT.of (E.tups _ _ h)), (SqT.of (E.tups _ _ h2)), h1, h3⟩
  stop := fun i g' H' E hi => by
    rw [List.length_map, List.length_zip] at hi
    refine ⟨us, ws, (SqT.of (E.tups _ _ h)), (SqT.of (E.tups _ _ h2)), ?_⟩
    rw [← r.length, ← r2.length]
    omega
  yld := fun i g' H' st σ x H'' v E R hv y => by
    obtain ⟨T, p, q, rfl, hT, rfl, h5, h6⟩ := y
    obtain ⟨v1, v2, e1, e2, rfl⟩ := zip_get _ _ _ _ hv
    obtain ⟨z1, f1, f2⟩ := r.get e1
    obtain ⟨z2, f3, f4⟩ := r2.get e2
    have g1 := h5 us (SqT.of (E.tups _ _ h))
    have g2 := h6 ws ((SqT.of (E.tups _ _ h2)))
    rw [f1] at g1; cases g1
    rw [f3] at g2; cases g2
    exact pair_new R hT (Rep.ext E f2) (Rep.ext E f4)
theorem iter_enum {g : Gh} {H : Hp} {a : Addr} {us : List V} {vs : List Val} (ha : g a = .frz) (h : H a = some (.lst us)) (r : Reps c g H vs us) : Iter c (Ite c.K a) g H (enumFrom 0 vs) where
  go := fun i g' H' E hi => by
    rw [enum_len] at hi
    obtain ⟨x, h1, _⟩ := r.get (List.getElem?_eq_getElem hi)
    exact ⟨us, x, SqL.of ((E.frz ha).2.trans h), h1⟩
  stop := fun i g' H' E hi => ⟨us, SqL.of ((E.frz ha).2.trans h), by rw [enum_len] at hi; rw [← r.length]; exact hi⟩
  yld := fun i g' H' st σ x H'' v E R hv y => by
    obtain ⟨T, p, rfl, hT, rfl, h5⟩ := y
    rw [enum_get] at hv
    cases e : vs[i]? with
    | none => rw [e] at hv; cases hv
    | some v1 =>
      rw [e] at hv
      cases hv
      obtain ⟨z1, f1, f2⟩ := r.get e
      have g1 := h5 us (SqL.of ((E.frz ha).2.trans h))
      rw [f1] at g1; cases g1
      rw [Nat.zero_add]
      exact pair_new R hT (.int _) (Rep.ext E f2)
theorem si_zip {elts : List Expr} {kk : Nat} {tpos : Pos} (G : Good X c k) (hg : Gl X "zip") (hm : c.mg "zip" = none) (h : SA X c W [e, e2] da)
    (hs : starEach [e, e2] X.env = (false, eval e X.env) :: starEach [e2] X.env := by rfl) (hpl : (backTo pos (starEach [e2] X.env)).any (·.1) = false := by rfl) :
    SI X c W (.Tuple elts kk tpos) (.Call (.Name "zip" p) [e, e2] [] pos) (argIt (a2 zipV) da) :=
  impI (pi_zipA hg (by rw [G.mg]; exact hm) h hs hpl) fun σ H Rk ⟨g, st, R, q⟩ => by
    refine ⟨g, st, R, (arg_step q).mono fun vs st1 g1 H1 e1 R1 q1 xs rs => ?_⟩
    obtain ⟨its, hf, q2⟩ := q1
    obtain ⟨v, w, rfl, hf⟩ := a2_of hf
    obtain ⟨x, y, rfl, rx, ry⟩ := reps2 rs
    rw [G.K]
    cases rx with
    | lst h1 h2 r =>
      cases ry with
      | lst h3 h4 r' =>
        cases hf
        exact ⟨_, _, _, _, rfl, .inl ⟨SqL.of h2, SqL.of h4, q2 _ (iter_zipL h1 h2 r h3 h4 r') (fun _ z => nomatch z)⟩⟩
      | _ => cases hf
    | tup h1 r =>
      cases ry with
      | tup h2 r' =>
        cases hf
        exact ⟨_, _, _, _, rfl, .inr ⟨SqT.of h1, SqT.of h2, q2 _ (iter_zipT h1 r h2 r') (fun _ z => nomatch z)⟩⟩
      | _ => cases hf
    | _ => cases hf
theorem si_enum {elts : List Expr} {kk : Nat} {tpos : Pos} (G : Good X c k) (hg : Gl X "enumerate") (hm : c.mg "enumerate" = none) (h : SA X c W [e] da) (hs : starEach [e] X.env = [(false, eval e X.env)] := by rfl) :
    SI X c W (.Tuple elts kk tpos) (.Call (.Name "enumerate" p) [e] [] pos) (argIt (a1 enumV) da) :=
  impI (pi_enum hg (by rw [G.mg]; exact hm) h hs) fun σ H Rk ⟨g, st, R, q⟩ => by
    refine ⟨g, st, R, (arg_step q).mono fun vs st1 g1 H1 e1 R1 q1 xs rs => ?_⟩
    obtain ⟨its, hf, q2⟩ := q1
    obtain ⟨v, rfl, hf⟩ := a1_of hf
    obtain ⟨x, rfl, rx⟩ := reps1 rs
    rw [G.K]
    cases rx with
    | lst h1 h2 r =>
      cases hf
      exact ⟨_, _, rfl, SqL.of h2, q2 _ (iter_enum h1 h2 r) (fun _ z => nomatch z)⟩
    | _ => cases hf
end
end Y
end

section
set_option Elab.async false
set_option linter.all false
set_option maxRecDepth 100000
set_option maxHeartbeats 1000000
namespace Y
open PySem PySem.Spec PyProof.Rows L2
/-! ## comprehensions -/
def setAll {α : Type} (f : Nat → α) : List Nat → List α → List α
  | [], l => l
  | v :: vs, l => (setAll f vs l).set v (f v)
theorem setAll_len {α : Type} (f : Nat → α) : ∀ (vs : List Nat) (l : List α), (setAll f vs l).length = l.length
  | [], _ => rfl
  | v :: vs, l => by rw [setAll, List.length_set, setAll_len f vs l]
theorem setAll_in {α : Type} (f : Nat → α) : ∀ (vs : List Nat) (l : List α) (i : Nat), i ∈ vs → i < l.length → (setAll f vs l)[i]? = some (f i)
  | [], _, _, h, _ => absurd h (by simp)
  | v :: vs, l, i, h, hl => by
    rw [setAll]
    by_cases hv : v = i
    · subst hv; rw [List.getElem?_set_self (by rw [setAll_len]; exact hl)]
    · rw [List.getElem?_set_ne hv]
      exact setAll_in f vs l i ((List.mem_cons.mp h).resolve_left (Ne.symm hv)) hl
theorem setAll_out {α : Type} (f : Nat → α) : ∀ (vs : List Nat) (l : List α) (i : Nat), i ∉ vs → (setAll f vs l)[i]? = l[i]?
  | [], _, _, _ => rfl
  | v :: vs, l, i, h => by
    rw [setAll, List.getElem?_set_ne (fun z => h (by rw [z]; exact List.mem_cons_self))]
    exact setAll_out f vs l i fun z => h (List.mem_cons_of_mem _ z)
theorem wipe_eq : ∀ (vs : List Nat) (σ : Sig), wipe σ vs = setAll (fun _ => none) vs σ
  | [], _ => rfl
  | v :: vs, σ => by rw [wipe, setAll, wipe_eq vs σ]
theorem wipe_idem (vs : List Nat) (σ : Sig) : wipe (wipe σ vs) vs = wipe σ vs := by
  refine List.ext_getElem? fun i => ?_
  rw [wipe_eq vs (wipe σ vs)]
  by_cases hi : i ∈ vs
  · by_cases hl : i < σ.length
    · rw [setAll_in _ _ _ _ hi (by rw [wipe_length]; exact hl), wipe_eq, setAll_in _ _ _ _ hi hl]
    · rw [List.getElem?_eq_none (by rw [setAll_len, wipe_length]; omega), List.getElem?_eq_none (by rw [wipe_length]; omega)]
  · rw [setAll_out _ _ _ _ hi]
theorem wipe_out' {σ : Sig} {vs : List Nat} {i : Nat} (h : i ∉ vs) : (wipe σ vs)[i]? = σ[i]? := by rw [wipe_eq]; exact setAll_out _ _ _ _ h
/-- a slot that may be lent to a comprehension -/
def lend : SV → Bool
  | .p _ => true
  | .u => true
  | .r => true
  | _ => false
def wipeS (vs : List Nat) (st : S) : S := ⟨setAll (fun _ => .u) vs st.sl, st.rf⟩
def rest (st0 : S) (vs : List Nat) (st : S) : S := ⟨setAll st0.get vs st.sl, st.rf⟩
def lendAll (vs : List Nat) (st : S) : Bool := vs.all fun v => lend (st.get v)
def unlkAll (vs : List Nat) (st : S) : Bool := vs.all fun v => !locked st v
section
variable {c : Ct} {g g0 : Gh} {H H0 : Hp} {st st0 : S} {σ σ2 : Sig} {vs : List Nat}
theorem Rel.wipe (R : Rel c g st σ H) (h : unlkAll vs st = true) : Rel c g (wipeS vs st) (wipe σ vs) H := by
  refine ⟨by show (setAll _ vs st.sl).length = _; rw [setAll_len, wipe_length]; exact R.len, fun i sv x h1 h2 => ?_, R.rf, R.rfu, R.dom, R.young, fun a i q => ?_, R.grow⟩
  · have h1 : (setAll (fun _ => SV.u) vs st.sl)[i]? = some sv := h1
    by_cases hi : i ∈ vs
    · have hl : i < st.sl.length := by
        have := (List.getElem?_eq_some_iff.mp h1).1
        rwa [setAll_len] at this
      rw [setAll_in _ _ _ _ hi hl] at h1
      cases h1
      cases x <;> exact trivial
    · rw [setAll_out _ _ _ _ hi] at h1
      rw [wipe_out' hi] at h2
      exact R.sl i sv x h1 h2
  · obtain ⟨b, h1, h2⟩ := R.lkd a i q
    have hi : i ∉ vs := fun hi => by
      have := List.all_eq_true.mp h i hi
      unfold locked S.get at this
      rw [h1] at this
      cases this
    exact ⟨b, by show (setAll _ vs st.sl)[i]? = _; rw [setAll_out _ _ _ _ hi]; exact h1, by rw [wipe_out' hi]; exact h2⟩
theorem Rel.rest (R : Rel c g st σ2 H) (hw : L2.wipe σ2 vs = L2.wipe σ vs) (R0 : Rel c g0 st0 σ H0) (E : Ext c g0 H0 g H) (hl : lendAll vs st0 = true) (hu : unlkAll vs st = true) : Rel c g (Y.rest st0 vs st) σ H := by
  have hlen : σ2.length = σ.length := by
    have := congrArg List.length hw
    rwa [wipe_length, wipe_length] at this
  refine ⟨by show (setAll _ vs st.sl).length = _; rw [setAll_len, ← hlen]; exact R.len, fun i sv x h1 h2 => ?_, R.rf, R.rfu, R.dom, R.young, fun a i q => ?_, R.grow⟩
  · have h1 : (setAll st0.get vs st.sl)[i]? = some sv := h1
    by_cases hi : i ∈ vs
    · have hlt : i < st.sl.length := by
        have := (List.getElem?_eq_some_iff.mp h1).1
        rwa [setAll_len] at this
      rw [setAll_in _ _ _ _ hi hlt] at h1
      cases h1
      have hlend := List.all_eq_true.mp hl i hi
      cases hg : st0.get i with
      | u => cases x <;> exact trivial
      | p v =>
        obtain ⟨y, hy, r⟩ := R0.at hg (fun z => nomatch z)
        rw [h2] at hy; cases hy
        cases x with
        | none => exact r
        | some x => exact Rep.ext E r
      | r =>
        obtain ⟨y, hy, r⟩ := R0.at hg (fun z => nomatch z)
        rw [h2] at hy; cases hy
        cases x with
        | none => exact r
        | some x => obtain ⟨a, e1, e2⟩ := r; exact ⟨a, e1, E.rft a e2⟩
      | o b => rw [hg] at hlend; cases hlend
      | l b => rw [hg] at hlend; cases hlend
      | x => rw [hg] at hlend; cases hlend
    · rw [setAll_out _ _ _ _ hi] at h1
      have : σ2[i]? = σ[i]? := by rw [← wipe_out' (σ := σ2) hi, hw, wipe_out' hi]
      rw [← this] at h2
      exact R.sl i sv x h1 h2
  · obtain ⟨b, h1, h2⟩ := R.lkd a i q
    have hi : i ∉ vs := fun hi => by
      have := List.all_eq_true.mp hu i hi
      unfold locked S.get at this
      rw [h1] at this
      cases this
    refine ⟨b, by show (setAll _ vs st.sl)[i]? = _; rw [setAll_out _ _ _ _ hi]; exact h1, ?_⟩
    rw [← wipe_out' (σ := σ) hi, ← hw, wipe_out' hi]; exact h2
theorem rest_lend (hlen : st.sl.length = st0.sl.length) (hl : lendAll vs st0 = true) : lendAll vs (Y.rest st0 vs st) = true := by
  refine List.all_eq_true.mpr fun i hi => ?_
  have h := List.all_eq_true.mp hl i hi
  by_cases hlt : i < st.sl.length
  · unfold S.get
    rw [show (Y.rest st0 vs st).sl[i]? = some (st0.get i) from setAll_in _ _ _ _ hi hlt]
    exact h
  · unfold S.get
    rw [show (Y.rest st0 vs st).sl[i]? = none from List.getElem?_eq_none (by show (setAll _ vs st.sl).length ≤ i; rw [setAll_len]; omega)]
    rfl
theorem lend_unlk (h : lendAll vs st = true) : unlkAll vs st = true := by
  refine List.all_eq_true.mpr fun i hi => ?_
  have h := List.all_eq_true.mp h i hi
  unfold locked
  cases hg : st.get i <;> first | rfl | (rw [hg] at h; cases h)
/-- an object that hangs on no slot is changed -/
theorem Rel.writeT (R : Rel c g st σ H) {D : Addr} (hD : g D = .tmp) {o o' : HO} (h : H D = some o) (m : isMut o = true) : Rel c g st σ (upd H D o') ∧ (∀ {v : Val} {x : V}, Rep c g H v x → Rep c g (upd H D o') v x) := by
  have ne : ∀ {b : Addr} {t : Tag}, g b = t → t ≠ .tmp → b ≠ D := fun {b t} q n z => by subst z; rw [hD] at q; exact n q.symm
  -- the same marks but the one at D, which is no mark of what is kept
  have E : Ext c (mark g D .none) H g (upd H D o') := by
    refine ⟨fun b q => ?_, fun b q => ?_, fun b q => ?_, fun b us q => ?_, fun b q => ?_⟩
    · have hb : b ≠ D := fun z => by subst z; rw [mark_same] at q; rcases q with q | q | q | ⟨j, q⟩ <;> cases q
      rw [mark_ne hb]
      exact ⟨rfl, upd_ne hb⟩
    · have hb : b ≠ D := fun z => by subst z; rw [mark_same] at q; cases q
      rw [mark_ne hb] at q
      exact q
    · have hb : b ≠ D := fun z => by subst z; rw [mark_same] at q; exact q rfl
      rw [mark_ne hb] at q
      exact q
    · rw [upd_ne (fun z => by subst z; rw [h] at q; cases q; cases m)]; exact q
    · by_cases z : b = D
      · rw [z, upd_same]; exact fun z => nomatch z
      · rw [upd_ne z]; exact q
  have hf : g D = .frz → (Tag.none : Tag) = .frz := fun q => by rw [hD] at q; cases q
  have rp : ∀ {v : Val} {x : V}, Rep c g H v x → Rep c g (upd H D o') v x := fun r => Rep.ext E (r.mk hf)
  have ro : ∀ {b : Ob} {a : Addr}, a ≠ D → RepO c g H b a → RepO c g (upd H D o') b a := fun ha r => RepO.ext E (upd_ne ha) (r.mk hf)
  refine ⟨⟨R.len, fun i sv x h1 h2 => ?_, ?_, R.rfu, fun b q => E.grow b (R.dom b q), R.young, R.lkd, fun b q => E.grow b (R.grow b q)⟩, rp⟩
  · have q := R.sl i sv x h1 h2
    cases sv with
    | p v => cases x with | none => exact q | some x => exact rp q
    | o b => cases x with | none => exact q | some x => obtain ⟨d, e1, e2, e3⟩ := q; exact ⟨d, e1, e2, ro (ne e2 fun z => nomatch z) e3⟩
    | l b => cases x with | none => exact q | some x => obtain ⟨d, e1, e2, e3⟩ := q; exact ⟨d, e1, e2, ro (ne e2 fun z => nomatch z) e3⟩
    | r => cases x with | none => exact q | some x => exact q
    | u => cases x <;> exact trivial
    | x => cases x with | none => exact q | some x => exact q
  · rcases R.rf with e | ⟨d, e1, e2⟩
    · exact .inl e
    · exact .inr ⟨d, e1, ro (ne e1 fun z => nomatch z) e2⟩
theorem Ext.writeT (E : Ext c g0 H0 g H) {D : Addr} (hD : g D = .tmp) (h0 : g0 D = .none) {o o' : HO} (h : H D = Option.some o) (m : isMut o = true) : Ext c g0 H0 g (upd H D o') := by
  refine ⟨fun b q => ?_, E.rft, E.some, fun b us q => ?_, fun b q => ?_⟩
  · have hb : b ≠ D := fun z => by subst z; rw [h0] at q; rcases q with q | q | q | ⟨j, q⟩ <;> cases q
    obtain ⟨k1, k2⟩ := E.keep b q
    exact ⟨k1, (upd_ne hb).trans k2⟩
  · have q := E.tups b us q
    rw [upd_ne (fun z => by subst z; rw [h] at q; cases q; cases m)]; exact q
  · by_cases z : b = D
    · rw [z, upd_same]; exact fun z => nomatch z
    · rw [upd_ne z]; exact E.grow b q
end
def R.noex {α : Type} (r : R α) : R α := match r with
  | .ex _ _ => .bad
  | r => r
def compL (t : Tgt) (cond : S → R Bool) (elt : S → R EV) (vs : List Nat) : List Val → List Val → S → R (List Val)
  | [], acc, st => .ok acc st
  | v :: rst, acc, st => match asg t v (wipeS vs st) with
    | none => .bad
    | some st1 => (cond st1).noex.bind fun b st2 => if b then (keep1 elt st2).noex.bind fun w st3 => if decide (acc.length < LINE) && unlkAll vs st3 then compL t cond elt vs rst (acc ++ [w]) (rest st vs st3) else .bad
      else if unlkAll vs st2 then compL t cond elt vs rst acc (rest st vs st2) else .bad
def unl (lk : Option Nat) (st : S) : Option S := match lk with
  | none => some st
  | some i => match st.get i with
    | .l b => some (st.set i (.o b))
    | _ => none
def finC (lk : Option Nat) (acc : List Val) (st : S) : R EV := match unl lk st with
  | some st3 => .ok (.f (.lst acc)) st3
  | none => .bad
def eComp (it : S → ItR) (t : Tgt) (cond : S → R Bool) (elt : S → R EV) (vs : List Nat) : S → R EV := fun st => (it st).bind fun p st1 => if lendAll vs st1 then (compL t cond elt vs p.1 [] st1).bind (finC p.2) else .bad
abbrev WF : WXs := fun _ _ _ _ => False
theorem bind0 {c : Ct} {W : WXs} {α β : Type} {g : Gh} {H : Hp} {σ : Sig} {r : R α} {f : α → S → R β} {k : β → S → Gh → Hp → Prop} (h : Post c W g H σ (r.bind f) k) : Post c W g H σ r fun a st' _ _ => Post c W g H σ (f a st') k := by
  cases r with
  | ok a st => exact fun g' H' e q => h
  | ex x st => exact h
  | bad => exact h
theorem noex_ok {c : Ct} {W : WXs} {α β : Type} {g : Gh} {H : Hp} {σ : Sig} {r : R α} {f : α → S → R β} {k : β → S → Gh → Hp → Prop} (h : Post c W g H σ (r.noex.bind f) k) : ∃ a st', r = .ok a st' ∧ Post c W g H σ (f a st') k := by
  cases r with
  | ok a st => exact ⟨a, st, rfl, h⟩
  | ex x st => exact h.elim
  | bad => exact h.elim
theorem unl_ok {c : Ct} {g0 g : Gh} {H0 H : Hp} {σ : Sig} {st st' : S} {lk : Option Nat} {D : Addr} {b : Ob} (E : Ext c g0 H0 g H) (R : Rel c g st σ H) (hl : ∀ i, lk = some i → ∃ a, Free g0 a ∧ g a = .lk i) (h : unl lk st = some st') (r : RepE c g0 g H σ (.f b) (.ref D)) :
    ∃ g', Ext c g0 H0 g' H ∧ Rel c g' st' σ H ∧ RepE c g0 g' H σ (.f b) (.ref D) := by
  cases lk with
  | none => cases h; exact ⟨g, E, R, r⟩
  | some i =>
    obtain ⟨a, ha0, ha⟩ := hl i rfl
    obtain ⟨bb, e1, e2⟩ := R.lkd a i ha
    have hg : st.get i = .l bb := by unfold S.get; rw [e1]
    have hf : ∀ {t : Tag}, g a = .frz → t = .frz := fun q => by rw [ha] at q; cases q
    have hs : st' = st.set i (.o bb) := by
      unfold unl at h
      dsimp only at h
      rw [hg] at h
      cases h; rfl
    subst hs
    refine ⟨mark g a (.own i), E.unlock ha0, R.unlock ha e1 e2, ?_⟩
    · obtain ⟨d, e, h1, h2, h3⟩ := r
      cases e
      exact ⟨D, rfl, by rw [mark_ne (fun z => by rw [z, ha] at h1; cases h1)]; exact h1, h2, h3.mk hf⟩

theorem takes0N {X : Cx} : L2N.Takes X (fun _ _ _ _ => False) := fun _ _ ⟨_, _, _, _, _, _, _, _, _, _, _, _, _, _, _, _, w⟩ => w.elim
section
variable {X : Cx} {c : Ct} {W : WXs} {k : Nat} {pos : Pos} {elt tg iter : Expr} {ifs : List Expr} {scope : Scope} {own : List (Str × Nat)} {it : S → ItR} {t : Tgt} {cond : S → R Bool} {ed : S → R EV}
def STs (X : Cx) (c : Ct) (W : WXs) (es : List Expr) (d : S → R Bool) : Prop := PTs X es (tT c W d)
theorem sts_nil : STs X c W [] tyes := ⟨fun pins s σ H Q I ⟨g, st, R, q⟩ => pts_nil.run pins s σ H Q I (q g H Ext.refl R)⟩
theorem sts_one {e : Expr} {d : S → R Bool} (h : ST X c W e d) : STs X c W [e] d := pts_one h
theorem rel_len {g : Gh} {st st' : S} {σ σ' : Sig} {H H' : Hp} (R : Rel c g st σ H) {g' : Gh} (R' : Rel c g' st' σ' H') {vs : List Nat} (hw : wipe σ' vs = wipe σ vs) : st'.sl.length = st.sl.length := by
  have := congrArg List.length hw
  rw [wipe_length, wipe_length] at this
  rw [R.len, R'.len, this]
/-- the reading of a comprehension -/
theorem comp_step {g0 : Gh} {H : Hp} {σ : Sig} {st0 : S} {Q : VK} (vs : List Nat) (ht : ∀ i ∈ t.slots, i ∈ vs) (R0 : Rel c g0 st0 σ H) (q0 : Post c W g0 H σ (eComp it t cond ed vs st0) (kE c g0 σ Q)) :
    tLc (tI c W it) (tG c t) (tT c WF cond) (tE c WF ed) vs σ H Q := by
  refine ⟨g0, st0, R0, (bind0 q0).mono fun p st1 g1 H1 e1 R1 q1 J I hl D hD => ?_⟩
  revert q1
  by_cases hlend : lendAll vs st1 = true
  · rw [if_pos hlend]
    intro q1
    have gD : g1 D = .none := by
      by_cases z : g1 D = .none
      · exact z
      · exact absurd hD (R1.dom D z)
    obtain ⟨R2, E2⟩ := R1.new hD (.lst []) .tmp (fun z => nomatch z) (.inl rfl)
    have fin := q1
    refine ⟨fun i m H2 => ∃ g st acc us, m = p.1.length - i ∧ i ≤ p.1.length ∧ Rel c g st σ H2 ∧ Ext c g1 H1 g H2 ∧ g D = .tmp ∧ H2 D = some (.lst us) ∧ Reps c g H2 acc us ∧ lendAll vs st = true ∧
      Post c W g0 H σ ((compL t cond ed vs (p.1.drop i) acc st).bind (finC p.2)) (kE c g0 σ Q),
      ⟨p.1.length, _, st1, [], [], by simp, Nat.zero_le _, R2, E2, mark_same, upd_same, .nil, hlend, q1⟩, ?_⟩
    rintro i m H2 ⟨g2, st2, acc, us, rfl, hi, R2, E2, hg2, hH2, racc, hlend2, q2⟩
    by_cases hlt : i < p.1.length
    · refine .inr ⟨I.go i g2 H2 E2 hlt, fun H' => ∃ g st acc us, Rel c g st σ H' ∧ Ext c g1 H1 g H' ∧ g D = .tmp ∧ H' D = some (.lst us) ∧ Reps c g H' acc us ∧ lendAll vs st = true ∧
        Post c W g0 H σ ((compL t cond ed vs (p.1.drop (i + 1)) acc st).bind (finC p.2)) (kE c g0 σ Q),
        fun H' ⟨g, st, acc, us, h1, h2, h3, h4, h5, h6, h7⟩ => ⟨_, by omega, g, st, acc, us, rfl, hlt, h1, h2, h3, h4, h5, h6, h7⟩, fun x H3 y => ?_⟩
      obtain ⟨g3, E3, R3, r3⟩ := I.yld i g2 H2 st2 σ x H3 p.1[i] E2 R2 (List.getElem?_eq_getElem hlt) y
      have ed' : p.1.drop i = p.1[i] :: p.1.drop (i + 1) := List.drop_eq_getElem_cons hlt
      rw [ed', compL] at q2
      cases ha : asg t p.1[i] (wipeS vs st2) with
      | none => rw [ha] at q2; exact q2.elim
      | some st3 =>
        rw [ha] at q2
        dsimp only at q2
        have R3w := R3.wipe (lend_unlk hlend2)
        refine ⟨g3, wipeS vs st2, p.1[i], st3, R3w, r3, ha, fun σ' R' hw' => ?_⟩
        have hw : wipe σ' vs = wipe σ vs := by rw [hw' vs ht, wipe_idem]
        refine ⟨hw, g3, st3, R', ?_⟩
        have t3 := E3.tmp hg2
        have q3 : Post c W g0 H σ ((((cond st3).noex.bind fun b st2' => if b then (keep1 ed st2').noex.bind fun w st3' => if decide (acc.length < LINE) && unlkAll vs st3' then compL t cond ed vs (p.1.drop (i + 1)) (acc ++ [w]) (Y.rest st2 vs st3') else .bad
          else if unlkAll vs st2' then compL t cond ed vs (p.1.drop (i + 1)) acc (Y.rest st2 vs st2') else .bad)).bind (finC p.2)) (kE c g0 σ Q) := q2
        cases hc : cond st3 with
        | ex x st => rw [hc] at q3; exact q3.elim
        | bad => rw [hc] at q3; exact q3.elim
        | ok b st4 =>
          rw [hc] at q3
          intro g4 H4 E4 R4
          have t4 := E4.tmp t3.1
          cases b with
          | false =>
            refine iteF ?_
            have q4 : Post c W g0 H σ (((if unlkAll vs st4 = true then compL t cond ed vs (p.1.drop (i + 1)) acc (Y.rest st2 vs st4) else R.bad)).bind (finC p.2)) (kE c g0 σ Q) := q3
            by_cases hu : unlkAll vs st4 = true
            · rw [if_pos hu] at q4
              have E5 := E3.trans E4
              exact ⟨g4, _, acc, us, R4.rest hw R2 E5 hlend2 hu, E2.trans E5, t4.1, by rw [t4.2, t3.2]; exact hH2, racc.ext E5, rest_lend (rel_len R2 R4 hw) hlend2, q4⟩
            · rw [if_neg hu] at q4; exact q4.elim
          | true =>
            refine iteT ⟨g4, st4, R4, ?_⟩
            have q4 : Post c W g0 H σ (((keep1 ed st4).noex.bind fun w st3' => if decide (acc.length < LINE) && unlkAll vs st3' then compL t cond ed vs (p.1.drop (i + 1)) (acc ++ [w]) (Y.rest st2 vs st3') else .bad).bind (finC p.2)) (kE c g0 σ Q) := q3
            revert q4
            unfold keep1
            cases he : ed st4 with
            | ex x st => exact fun z => z.elim
            | bad => exact fun z => z.elim
            | ok ev st5 =>
              intro q4 g5 H5 E5 R5 y ry
              revert q4
              show Post c W g0 H σ ((((match Y.take st5 ev with | some (w, st2) => R.ok w st2 | none => R.bad : R Val)).noex.bind fun w st3' => if decide (acc.length < LINE) && unlkAll vs st3' then compL t cond ed vs (p.1.drop (i + 1)) (acc ++ [w]) (Y.rest st2 vs st3') else .bad).bind (finC p.2)) (kE c g0 σ Q) → _
              cases htk : Y.take st5 ev with
              | none => exact fun z => z.elim
              | some pr =>
                obtain ⟨w, st6⟩ := pr
                intro q4
                have q5 : Post c W g0 H σ ((if (decide (acc.length < LINE) && unlkAll vs st6) = true then compL t cond ed vs (p.1.drop (i + 1)) (acc ++ [w]) (Y.rest st2 vs st6) else R.bad).bind (finC p.2)) (kE c g0 σ Q) := q4
                obtain ⟨g6, E6, R6, r6⟩ := take_ok E5 R5 ry htk
                by_cases hb : (decide (acc.length < LINE) && unlkAll vs st6) = true
                · rw [if_pos hb] at q5
                  rw [Bool.and_eq_true, decide_eq_true_eq] at hb
                  have t6 := E6.tmp t4.1
                  have E7 := (E3.trans E4).trans E6
                  have hD6 : H5 D = some (.lst us) := by rw [t6.2, t4.2, t3.2]; exact hH2
                  have R7 := R6.rest hw R2 E7 hlend2 hb.2
                  obtain ⟨R8, k8⟩ := R7.writeT t6.1 hD6 (o' := .lst (us ++ [y])) rfl
                  have ra : Reps c g6 H5 acc us := racc.ext E7
                  refine ⟨us, hD6, by rw [← ra.length]; exact line_lt hb.1, g6, _, acc ++ [w], us ++ [y], R8, (E2.trans E7).writeT t6.1 gD hD6 rfl, t6.1, upd_same, ?_, rest_lend (rel_len R2 R6 hw) hlend2, q5⟩
                  have up : ∀ {vs : List Val} {us : List V}, Reps c g6 H5 vs us → Reps c g6 (upd H5 D (.lst (us ++ [y]))) vs us → True := fun _ _ => trivial
                  have all : ∀ {vs : List Val} {xs : List V}, Reps c g6 H5 vs xs → Reps c g6 (upd H5 D (.lst (us ++ [y]))) vs xs := by
                    intro vs
                    induction vs with
                    | nil => intro xs h; cases h; exact .nil
                    | cons v vs ih => intro xs h; cases h with | cons h1 h2 => exact .cons (k8 h1) (ih h2)
                  exact all (ra.append (.cons r6 .nil))
                · rw [if_neg hb] at q5; exact q5.elim
    · have ei : i = p.1.length := by omega
      subst ei
      refine .inl ⟨I.stop _ g2 H2 E2 (Nat.le_refl _), ?_⟩
      rw [List.drop_length, compL] at q2
      have q3 : Post c W g0 H σ (finC p.2 acc st2) (kE c g0 σ Q) := q2
      unfold finC at q3
      have E3 := e1.trans E2
      cases hu : unl p.2 st2 with
      | none => rw [hu] at q3; exact q3.elim
      | some st3 =>
        rw [hu] at q3
        obtain ⟨g', E', R', r'⟩ := unl_ok (b := .lst acc) (D := D) E3 R2 (fun j hj => by
          obtain ⟨a, h1, h2⟩ := hl j hj
          exact ⟨a, h1, (E2.lk h2).1⟩) hu ⟨D, rfl, hg2, e1.none gD, us, hH2, racc⟩
        exact q3 g' H2 E' R' _ r'
  · rw [if_neg hlend]; exact fun z => z.elim
theorem se_comp (G : Good X c k) (hi : SI X c W tg iter it) (ok : BlkOk X.N X.env.scope scope own)
    (hg : ∀ (s : Shared) (H : Hp) (C : Addr) (cl : List (Str × Addr)) (fp : List Addr), Good (X.blk s H scope (compEnvC scope cl C X.env) fp) c k → SG (X.blk s H scope (compEnvC scope cl C X.env) fp) c tg t)
    (ht : ∀ (s : Shared) (H : Hp) (C : Addr) (cl : List (Str × Addr)) (fp : List Addr), Good (X.blk s H scope (compEnvC scope cl C X.env) fp) c k → L2N.Takes (X.blk s H scope (compEnvC scope cl C X.env) fp) WF → STs (X.blk s H scope (compEnvC scope cl C X.env) fp) c WF ifs cond)
    (he : ∀ (s : Shared) (H : Hp) (C : Addr) (cl : List (Str × Addr)) (fp : List Addr), Good (X.blk s H scope (compEnvC scope cl C X.env) fp) c k → L2N.Takes (X.blk s H scope (compEnvC scope cl C X.env) fp) WF → SE (X.blk s H scope (compEnvC scope cl C X.env) fp) c WF elt ed)
    (hsl : ∀ i ∈ t.slots, i ∈ own.map (·.2) := by decide) (hs : ∀ x, foldedSetIterable iter X.env x = pure x := by intro _; rfl) :
    SE X c W (.ListComp elt [⟨tg, iter, ifs, 0⟩] scope pos) (eComp it t cond ed (own.map (·.2))) :=
  have GB : ∀ (s : Shared) (H : Hp) (C : Addr) (cl : List (Str × Addr)) (fp : List Addr), Good (X.blk s H scope (compEnvC scope cl C X.env) fp) c k := fun _ _ _ _ _ => ⟨G.P, G.w, G.base, G.K, G.mg, G.calm, G.nd, G.hr⟩
  impE (pe_lc G.calm G.nd hi ok (fun s H C cl fp => hg s H C cl fp (GB s H C cl fp)) (fun s H C cl fp => ht s H C cl fp (GB s H C cl fp) takes0N) (fun s H C cl fp => he s H C cl fp (GB s H C cl fp) takes0N) hs) fun σ H Q ⟨g, st, R, q⟩ => comp_step _ hsl R q
/-- name = [..] -/
theorem s_setcomp {i : Nat} {y : Str} {py spos : Pos} (G : Good X c k) (hi : SI X c W tg iter it) (ok : BlkOk X.N X.env.scope scope own)
    (hg : ∀ (s : Shared) (H : Hp) (C : Addr) (cl : List (Str × Addr)) (fp : List Addr), Good (X.blk s H scope (compEnvC scope cl C X.env) fp) c k → SG (X.blk s H scope (compEnvC scope cl C X.env) fp) c tg t)
    (ht : ∀ (s : Shared) (H : Hp) (C : Addr) (cl : List (Str × Addr)) (fp : List Addr), Good (X.blk s H scope (compEnvC scope cl C X.env) fp) c k → L2N.Takes (X.blk s H scope (compEnvC scope cl C X.env) fp) WF → STs (X.blk s H scope (compEnvC scope cl C X.env) fp) c WF ifs cond)
    (he : ∀ (s : Shared) (H : Hp) (C : Addr) (cl : List (Str × Addr)) (fp : List Addr), Good (X.blk s H scope (compEnvC scope cl C X.env) fp) c k → L2N.Takes (X.blk s H scope (compEnvC scope cl C X.env) fp) WF → SE (X.blk s H scope (compEnvC scope cl C X.env) fp) c WF elt ed)
    (hsw : swapsWith (.ListComp elt [⟨tg, iter, ifs, 0⟩] scope pos) (some (.Name y py)) spos.line X.env = pure true) (hy : X.N[i]? = some y := by rfl) (hyl : X.env.scope.names.lookup y = some .local := by rfl)
    (hsl : ∀ i ∈ t.slots, i ∈ own.map (·.2) := by decide) (hs : ∀ x, foldedSetIterable iter X.env x = pure x := by intro _; rfl) :
    SS X c W (.Assign [.Name y py] (.ListComp elt [⟨tg, iter, ifs, 0⟩] scope pos) spos) (sSet i (eComp it t cond ed (own.map (·.2)))) :=
  have GB : ∀ (s : Shared) (H : Hp) (C : Addr) (cl : List (Str × Addr)) (fp : List Addr), Good (X.blk s H scope (compEnvC scope cl C X.env) fp) c k := fun _ _ _ _ _ => ⟨G.P, G.w, G.base, G.K, G.mg, G.calm, G.nd, G.hr⟩
  impS (ps_setLc G.calm G.nd hy hyl hsw hi ok (fun s H C cl fp => hg s H C cl fp (GB s H C cl fp)) (fun s H C cl fp => ht s H C cl fp (GB s H C cl fp) takes0N) (fun s H C cl fp => he s H C cl fp (GB s H C cl fp) takes0N) hs) fun D σ H ⟨g, st, R, q⟩ => by
    refine comp_step (g0 := g) (st0 := st) _ hsl R ?_
    revert q
    unfold sSet
    cases eComp it t cond ed (own.map (·.2)) st with
    | ok v st1 => exact fun q g' H' e' R' x rx => store_ok' e' R' rx q
    | ex x st1 => exact fun q g' H' cls dx e' R' rx => q g' σ H' cls dx e' R' rx
    | bad => exact fun q => q
end
end Y
end

section
set_option Elab.async false
set_option linter.all false
set_option maxRecDepth 100000
set_option maxHeartbeats 1000000
namespace Y
open PySem PySem.Spec PyProof.Rows L2
/-! ## what a def promises -/
inductive FR where
  | ok (v : EV) (rf : Ob) | ex (e : Exc) (rf : Ob) | bad
abbrev FD := List SV → Ob → FR
structure Fin (c : Ct) (g : Gh) (H : Hp) (b : Ob) : Prop where
  dom : ∀ a, g a ≠ .none → H a ≠ none
  rfu : ∀ a b, g a = .rf → g b = .rf → a = b
  rf : b = .none ∨ ∃ a, g a = .rf ∧ RepO c g H b a
def RepR (c : Ct) (g : Gh) (H : Hp) : EV → V → Prop
  | .p v, x => Rep c g H v x
  | .f b, x => ∃ a, x = .ref a ∧ (g a = .tmp ∨ ∃ i, g a = .own i) ∧ c.B a = none ∧ RepO c g H b a
  | _, _ => False
def argOk : SV → Bool
  | .p _ => true
  | .r => true
  | _ => false
def Ct.at (c : Ct) (H : Hp) : Ct := { c with B := H }
def spF (c : Ct) (n : Nat) (d : FD) : Sp := fun vs H Q E => vs.length = n ∧ ∃ g svs rf, Rel (c.at H) g ⟨svs, rf⟩ (vs.map some) H ∧ svs.all argOk = true ∧ match d svs rf with
  | .ok v rf' => ∀ g' H' x, Ext (c.at H) g H g' H' → Fin (c.at H) g' H' rf' → RepR (c.at H) g' H' v x → Q x H'
  | .ex e rf' => ∀ g' H' cls dx, Ext (c.at H) g H g' H' → Fin (c.at H) g' H' rf' → RepX (c.at H) H' e cls dx → E cls dx H'
  | .bad => False
def fnEnd (r : SR) : FR := match r with
  | .nx st => .ok (.p .non) st.rf
  | .rt v st => match v with
    | .p w => .ok (.p w) st.rf
    | .f b => .ok (.f b) st.rf
    | .s i => match st.get i with
      | .o b => .ok (.f b) st.rf
      | .p w => .ok (.p w) st.rf
      | _ => .bad
    | .r => .bad
  | .ex e st => .ex e st.rf
  | _ => .bad
def fnD (n : Nat) (body : S → SR) : FD := fun svs rf => fnEnd (body ⟨svs ++ List.replicate (n - svs.length) .u, rf⟩)
/-- a def of the module: what it promises, where it stands -/
structure Fn (c : Ct) (j : Nat) (x : Str) (n : Nat) (d : FD) : Prop where
  ex : ∃ f fd ps, FnOk c.P c.w c.K c.mg c.base (L2N.CX c.P c.w) j f fd ps (spF c n d) ∧ c.mg x = some (.ref f) ∧ PySem.W.keepIn c.K (.ref f) = true ∧ Binds c.K fd ps []
section
variable {c c' : Ct} {g g' gc : Gh} {H H' : Hp} {st : S} {σ : Sig}
theorem Rel.fin (R : Rel c g st σ H) : Fin c g H st.rf := ⟨R.dom, R.rfu, R.rf⟩
theorem rel_start {svs : List SV} {rf : Ob} {vs : List V} {N : List Str} (R : Rel c g ⟨svs, rf⟩ (vs.map some) H) : Rel c g ⟨svs ++ List.replicate (N.length - svs.length) .u, rf⟩ (L2.start N vs) H := by
  have hl : svs.length = vs.length := by have := R.len; rwa [List.length_map] at this
  unfold L2.start
  refine ⟨?_, fun i sv x h1 h2 => ?_, R.rf, R.rfu, R.dom, R.young, fun a i q => ?_, R.grow⟩
  · show (svs ++ List.replicate (N.length - svs.length) SV.u).length = _
    rw [List.length_append, List.length_append, List.length_replicate, List.length_replicate, List.length_map, hl]
  · have h1 : (svs ++ List.replicate (N.length - svs.length) SV.u)[i]? = some sv := h1
    by_cases hi : i < svs.length
    · rw [List.getElem?_append_left hi] at h1
      rw [List.getElem?_append_left (by rw [List.length_map, ← hl]; exact hi)] at h2
      exact R.sl i sv x h1 h2
    · rw [List.getElem?_append_right (by omega), List.getElem?_replicate] at h1
      split at h1
      · cases h1
        cases x <;> exact trivial
      · cases h1
  · obtain ⟨b, h1, h2⟩ := R.lkd a i q
    have h1 : svs[i]? = some (.l b) := h1
    have hi : i < svs.length := (List.getElem?_eq_some_iff.mp h1).1
    exact ⟨b, by show (svs ++ _)[i]? = _; rw [List.getElem?_append_left hi]; exact h1, by rw [List.getElem?_append_left (by rw [List.length_map, ← hl]; exact hi)]; exact h2⟩
/-- the end of a body is the promise's end -/
theorem fn_end {W : WXs} {Q : VK} {E : XK} {r : SR} {g : Gh} {H : Hp} (h : match fnEnd r with
    | .ok v rf' => ∀ g' H' x, Ext c g H g' H' → Fin c g' H' rf' → RepR c g' H' v x → Q x H'
    | .ex e rf' => ∀ g' H' cls dx, Ext c g H g' H' → Fin c g' H' rf' → RepX c H' e cls dx → E cls dx H'
    | .bad => False) : PostS c (fun cls d _ H => E cls d H) { nx := fun _ H' => Q .non H', rt := Q } g H r := by
  cases r with
  | nx st => exact fun g' σ' H' e R => h g' H' .non e R.fin .non
  | bk st => exact h.elim
  | ct st => exact h.elim
  | bad => exact h.elim
  | ex x st => exact fun g' σ' H' cls dx e R rx => h g' H' cls dx e R.fin rx
  | rt v st =>
    intro g' σ' H' x e R rx
    cases v with
    | p w => exact h g' H' x e R.fin rx
    | r => exact h.elim
    | f b =>
      obtain ⟨a, rfl, h1, h2, h3⟩ := rx
      exact h g' H' _ e R.fin ⟨a, rfl, .inl h1, R.young a (.inl h1), h3⟩
    | s i =>
      have hx : σ'[i]? = some (some x) := rx
      unfold fnEnd at h
      dsimp only at h
      cases hi : st.get i with
      | p w =>
        rw [hi] at h
        obtain ⟨y, hy, r⟩ := R.at hi (fun z => nomatch z)
        rw [hx] at hy; cases hy
        exact h g' H' x e R.fin r
      | o b =>
        rw [hi] at h
        obtain ⟨y, hy, r⟩ := R.at hi (fun z => nomatch z)
        rw [hx] at hy; cases hy
        obtain ⟨a, rfl, h1, h2⟩ := r
        exact h g' H' _ e R.fin ⟨a, rfl, .inr ⟨i, h1⟩, R.young a (.inr (.inl ⟨i, h1⟩)), h2⟩
      | _ => rw [hi] at h; exact h.elim
/-- THE RULE for a def -/
theorem fn_ok {k : Nat} {x qual : Str} {params : Arguments} {stms : List Stmt} {scope : Scope} {f : Addr} {fd : FuncData} {N ps : List Str} {body : S → SR} {n : Nat} (F : FunD c.K x qual params stms scope [] [] f fd) (S : FnScope N ps scope) (hn : ps.length = n)
    (h : ∀ (cdv : Value) (A : Around) (outer : List Env) (s : Shared) (H : Hp) (E : XK), Good (cxOf (L2N.CX c.P c.w) c.P c.w c.K c.mg c.base N qual scope f cdv A outer s H E) (c.at H) k →
      L2N.Takes (cxOf (L2N.CX c.P c.w) c.P c.w c.K c.mg c.base N qual scope f cdv A outer s H E) (fun cls d _ H => E cls d H) →
      PassesOwn (model c.P c.w) (cxOf (L2N.CX c.P c.w) c.P c.w c.K c.mg c.base N qual scope f cdv A outer s H E).A (cxOf (L2N.CX c.P c.w) c.P c.w c.K c.mg c.base N qual scope f cdv A outer s H E).env (cxOf (L2N.CX c.P c.w) c.P c.w c.K c.mg c.base N qual scope f cdv A outer s H E).xe →
      SSs (cxOf (L2N.CX c.P c.w) c.P c.w c.K c.mg c.base N qual scope f cdv A outer s H E) (c.at H) (fun cls d _ H => E cls d H) stms body) :
    FnOk c.P c.w c.K c.mg c.base (L2N.CX c.P c.w) (k + 1) f fd ps (spF c n (fnD N.length body)) := by
  refine F.ok S (fun vs H Q E h => by rw [hn]; exact h.1) (fun cdv A outer s H vs Q E hr hsp => ?_)
  obtain ⟨_, g, svs, rf, R, _, hd⟩ := hsp
  refine ⟨_, h cdv A outer s H E ⟨rfl, rfl, rfl, rfl, rfl, rfl, S.nd, hr⟩ (L2N.takes_of rfl rfl rfl rfl) (passes_of rfl), g, _, rel_start R, fn_end (c := c.at H) (W := fun cls d _ H => E cls d H) hd⟩
theorem fn_mk {k : Nat} {x : Str} {f : Addr} {fd : FuncData} {ps : List Str} {n : Nat} {d : FD} (h : FnOk c.P c.w c.K c.mg c.base (L2N.CX c.P c.w) k f fd ps (spF c n d)) (hm : c.mg x = some (.ref f)) (hk : PySem.W.keepIn c.K (.ref f) = true) (hb : Binds c.K fd ps []) : Fn c k x n d := ⟨f, fd, ps, h, hm, hk, hb⟩
end

/-! ## calls -/
abbrev AR := List SV × Option EV
def bNil : S → R AR := fun st => .ok ([], none) st
def bCons (d : S → R EV) (r : S → R AR) : S → R AR := fun st => (keep1 d st).bind fun v st1 => (r st1).bind fun p st2 => .ok (.p v :: p.1, p.2) st2
def bRef (d : S → R EV) (r : S → R AR) : S → R AR := fun st => (d st).bind fun v st1 => (r st1).bind fun p st2 => match p.2 with
  | none => .ok (.r :: p.1, some v) st2
  | some _ => .bad
def isObj : Ob → Bool
  | .none => false
  | _ => true
def back (r : FR) (f : Ob → S) : R EV := match r with
  | .ok (.p v) b => if isObj b then .ok (.p v) (f b) else .bad
  | .ok (.f v) b => if isObj b then .ok (.f v) (f b) else .bad
  | .ex e b => if isObj b then .ex e (f b) else .bad
  | _ => .bad
def callD (d : FD) (p : AR) (st : S) : R EV := match p.2 with
  | none => match d p.1 .none with
    | .ok (.p v) _ => .ok (.p v) st
    | .ok (.f v) _ => .ok (.f v) st
    | .ex e _ => .ex e st
    | _ => .bad
  | some (.s i) => match st.get i with
    | .o b => back (d p.1 b) fun b' => st.set i (.o b')
    | _ => .bad
  | some .r => if isObj st.rf then back (d p.1 st.rf) fun b' => ⟨st.sl, b'⟩ else .bad
  | _ => .bad
def eCall (n : Nat) (d : FD) (a : S → R AR) : S → R EV := fun st => (a st).bind fun p st1 => if p.1.length = n then callD d p st1 else .bad
def RepB (c : Ct) (g0 g : Gh) (H : Hp) (σ : Sig) (ev : Option EV) : List SV → List V → Prop
  | [], [] => True
  | .p v :: r, x :: xs => Rep c g H v x ∧ RepB c g0 g H σ ev r xs
  | .r :: r, x :: xs => (∃ e, ev = some e ∧ RepE c g0 g H σ e x) ∧ RepB c g0 g H σ ev r xs
  | _, _ => False
def noR : List SV → Bool
  | [] => true
  | .p _ :: r => noR r
  | _ => false
section
variable {c : Ct} {g0 g g' : Gh} {H H' : Hp} {σ : Sig} {ev : Option EV}
theorem RepB.ext (e : Ext c g H g' H') : ∀ {svs : List SV} {xs : List V}, RepB c g0 g H σ ev svs xs → RepB c g0 g' H' σ ev svs xs
  | [], [], _ => trivial
  | .p v :: r, x :: xs, h => ⟨Rep.ext e h.1, RepB.ext e h.2⟩
  | .r :: r, x :: xs, h => ⟨by obtain ⟨q, h1, h2⟩ := h.1; exact ⟨q, h1, RepE.ext e h2⟩, RepB.ext e h.2⟩
  | [], _ :: _, h => h.elim
  | .o _ :: _, [], h => h.elim
  | .o _ :: _, _ :: _, h => h.elim
  | .l _ :: _, [], h => h.elim
  | .l _ :: _, _ :: _, h => h.elim
  | .u :: _, [], h => h.elim
  | .x :: _, [], h => h.elim
  | .u :: _, _ :: _, h => h.elim
  | .x :: _, _ :: _, h => h.elim
  | .p _ :: _, [], h => h.elim
  | .r :: _, [], h => h.elim
theorem RepB.start {g1 : Gh} {H1 : Hp} (e : Ext c g0 H g1 H1) : ∀ {svs : List SV} {xs : List V}, RepB c g1 g H' σ ev svs xs → RepB c g0 g H' σ ev svs xs
  | [], [], _ => trivial
  | .p v :: r, x :: xs, h => ⟨h.1, RepB.start e h.2⟩
  | .r :: r, x :: xs, h => ⟨by obtain ⟨q, h1, h2⟩ := h.1; exact ⟨q, h1, RepE.start e h2⟩, RepB.start e h.2⟩
  | [], _ :: _, h => h.elim
  | .o _ :: _, [], h => h.elim
  | .o _ :: _, _ :: _, h => h.elim
  | .l _ :: _, [], h => h.elim
  | .l _ :: _, _ :: _, h => h.elim
  | .u :: _, [], h => h.elim
  | .x :: _, [], h => h.elim
  | .u :: _, _ :: _, h => h.elim
  | .x :: _, _ :: _, h => h.elim
  | .p _ :: _, [], h => h.elim
  | .r :: _, [], h => h.elim
theorem RepB.none : ∀ {svs : List SV} {xs : List V}, RepB c g0 g H σ Option.none svs xs → noR svs = true
  | [], [], _ => rfl
  | .p v :: r, x :: xs, h => RepB.none (svs := r) h.2
  | .r :: r, x :: xs, h => by obtain ⟨q, h1, h2⟩ := h.1; cases h1
  | [], _ :: _, h => h.elim
  | .o _ :: _, [], h => h.elim
  | .o _ :: _, _ :: _, h => h.elim
  | .l _ :: _, [], h => h.elim
  | .l _ :: _, _ :: _, h => h.elim
  | .u :: _, [], h => h.elim
  | .x :: _, [], h => h.elim
  | .u :: _, _ :: _, h => h.elim
  | .x :: _, _ :: _, h => h.elim
  | .p _ :: _, [], h => h.elim
  | .r :: _, [], h => h.elim
/-- other arguments beside the shared one -/
theorem RepB.other {e : EV} {x0 : V} : ∀ {svs : List SV} {xs : List V}, noR svs = true → RepB c g0 g H σ ev svs xs → RepB c g0 g H σ (some e) svs xs
  | [], [], _, _ => trivial
  | .p v :: r, x :: xs, n, h => ⟨h.1, RepB.other (x0 := x0) (svs := r) n h.2⟩
  | .r :: r, _, n, h => by cases n
  | [], _ :: _, _, h => h.elim
  | .o _ :: _, [], _, h => h.elim
  | .o _ :: _, _ :: _, _, h => h.elim
  | .l _ :: _, [], _, h => h.elim
  | .l _ :: _, _ :: _, _, h => h.elim
  | .u :: _, [], _, h => h.elim
  | .x :: _, [], _, h => h.elim
  | .u :: _, _ :: _, _, h => h.elim
  | .x :: _, _ :: _, _, h => h.elim
  | .p _ :: _, [], _, h => h.elim
end
def tB (c : Ct) (W : WXs) (d : S → R AR) : TA := fun σ H Q => ∃ g st, Rel c g st σ H ∧ Post c W g H σ (d st) fun p _ g' H' => ∀ xs, RepB c g g' H' σ p.2 p.1 xs → Q xs H'
def SB (X : Cx) (c : Ct) (W : WXs) (es : List Expr) (d : S → R AR) : Prop := PA X es (tB c W d)
section
variable {X : Cx} {c : Ct} {W : WXs} {k : Nat} {pos : Pos} {e : Expr} {es : List Expr} {d : S → R EV} {da : S → R AR}
theorem sb_nil : SB X c W [] bNil := impA pa_nil fun σ H Q ⟨g, st, R, q⟩ => q g H Ext.refl R [] trivial
theorem sb_cons (h : SE X c W e d) (hr : SB X c W es da) (hs : starEach (e :: es) X.env = (false, eval e X.env) :: starEach es X.env := by rfl) : SB X c W (e :: es) (bCons d da) :=
  impA (pa_cons h hr hs) fun σ H Q ⟨g, st, R, q⟩ => by
    refine ⟨g, st, R, (keep_step q.bind).mono fun v st1 g1 H1 _ _ h x rx => ?_⟩
    obtain ⟨w, st2, g2, e2, R2, r2, q2⟩ := h x rx
    exact ⟨g2, st2, R2, q2.bind.mono fun p st3 g3 H3 e3 R3 q3 xs rs => q3 g3 H3 Ext.refl R3 _ ⟨Rep.ext e3 r2, RepB.start e2 rs⟩⟩
theorem sb_ref (h : SE X c W e d) (hr : SB X c W es da) (hs : starEach (e :: es) X.env = (false, eval e X.env) :: starEach es X.env := by rfl) : SB X c W (e :: es) (bRef d da) :=
  impA (pa_cons h hr hs) fun σ H Q ⟨g, st, R, q⟩ => by
    refine ⟨g, st, R, q.bind.mono fun v st1 g1 H1 e1 R1 q1 x rx => ⟨g1, st1, R1, q1.bind.mono fun p st2 g2 H2 e2 R2 q2 xs rs => ?_⟩⟩
    obtain ⟨svs, ev⟩ := p
    cases ev with
    | some _ => exact q2.elim
    | none => exact q2 g2 H2 Ext.refl R2 _ ⟨⟨v, rfl, RepE.ext e2 rx⟩, RepB.start e1 (RepB.other (x0 := x) rs.none rs)⟩
end

/-! ### the call -/
theorem Rep.move {c c' : Ct} {g g' : Gh} {H : Hp} (hK : c'.K = c.K) (hm : c'.mg = c.mg) (hf : ∀ a, g a = .frz → g' a = .frz) {v : Val} {x : V} (h : Rep c g H v x) : Rep c' g' H v x := by
  refine Rep.rec (motive_1 := fun v x _ => Rep c' g' H v x) (motive_2 := fun vs xs _ => Reps c' g' H vs xs) ?_ ?_ ?_ ?_ ?_ ?_ ?_ ?_ ?_ ?_ ?_ ?_ ?_ h
  · exact .non
  · intro b; exact .bl b
  · intro b; exact .int b
  · intro b; exact .str b
  · intro b; exact .ty b
  · intro _ _ h; exact .fn (by rw [hm]; exact h)
  · intro _ _ _ h _ r; exact .tup h r
  · intro _ _ _ h1 h2 _ r; exact .lst (hf _ h1) h2 r
  · intro _ _ h1 h2; exact .scr (h1.elim (fun h1 => .inl (hf _ h1)) fun h1 => .inr (by rw [hK]; exact h1)) (by rw [hK]; exact h2)
  · intro _ _ _ _ h1 h2 h3 _ r; exact .dk (hf _ h1) h2 h3 r
  · intro _ _ _ _ h1 h2 h3 _ r; exact .dt (hf _ h1) h2 h3 r
  · exact .nil
  · intro _ _ _ _ _ _ h t; exact .cons h t
theorem Reps.move {c c' : Ct} {g g' : Gh} {H : Hp} (hK : c'.K = c.K) (hm : c'.mg = c.mg) (hf : ∀ a, g a = .frz → g' a = .frz) : ∀ {vs : List Val} {xs : List V}, Reps c g H vs xs → Reps c' g' H vs xs
  | _, _, .nil => .nil
  | _, _, .cons h r => .cons (h.move hK hm hf) (Reps.move hK hm hf r)
theorem RepO.move {c c' : Ct} {g g' : Gh} {H : Hp} (hK : c'.K = c.K) (hm : c'.mg = c.mg) (hf : ∀ a, g a = .frz → g' a = .frz) {b : Ob} {d : Addr} (h : RepO c g H b d) : RepO c' g' H b d := by
  cases b with
  | none => exact h
  | lst vs => obtain ⟨us, h1, h2⟩ := h; exact ⟨us, h1, h2.move hK hm hf⟩
  | dk ks vs => obtain ⟨us, h1, h2, h3⟩ := h; exact ⟨us, h1, h2, h3.move hK hm hf⟩
  | dt ks vs => obtain ⟨us, h1, h2, h3⟩ := h; exact ⟨us, h1, h2, h3.move hK hm hf⟩
/-- the caller's marks as the callee takes them -/
def calT : Tag → Tag
  | .none => .none
  | .frz => .frz
  | _ => .oth
def calG (g : Gh) (ao : Option Addr) : Gh := fun a => if some a = ao then .rf else calT (g a)
theorem calT_frz {t : Tag} : calT t = .frz ↔ t = .frz := by cases t <;> simp [calT]
theorem calT_none {t : Tag} : calT t = .none ↔ t = .none := by cases t <;> simp [calT]
/-- .. and the marks behind the call -/
noncomputable def retG (g gc : Gh) (n : Option Addr) : Gh := fun a => if g a ≠ .none then g a else if gc a = .frz then .frz else if some a = n then .tmp else .none
def newAt : EV → V → Option Addr
  | .f _, .ref a => some a
  | _, _ => none
structure CallAt (c : Ct) (g0 g : Gh) (H0 H : Hp) (st : S) (σ : Sig) (ao : Option Addr) (b : Ob) : Prop where
  E : Ext c g0 H0 g H
  R : Rel c g st σ H
  no : ao = none → b = .none
  at_ : ∀ a, ao = some a → RepO c g H b a ∧ g a ≠ .none ∧ g a ≠ .frz ∧ g a ≠ .oth ∧ (∀ i, g a ≠ .lk i) ∧ (g0 a ≠ .frz ∧ g0 a ≠ .tmp ∧ g0 a ≠ .oth ∧ ∀ i, g0 a ≠ .lk i) ∧ (g0 a = .rf → g a = .rf)
section
variable {c : Ct} {g0 g gc : Gh} {H0 H H' : Hp} {st : S} {σ : Sig} {ao : Option Addr} {b b' : Ob}
theorem CallAt.rel (A : CallAt c g0 g H0 H st σ ao b) {svs : List SV} {xs : List V} (hx : ∀ a, RepO c g H b a → True) (hb : RepB c g0 g H σ (none : Option EV) svs xs ∨ ∃ e a, ao = some a ∧ RepB c g0 g H σ (some e) svs xs ∧ ∀ x, RepE c g0 g H σ e x → x = .ref a) :
    Rel (c.at H) (calG g ao) ⟨svs, b⟩ (xs.map some) H := by
  have hf : ∀ a, g a = .frz → calG g ao a = .frz := fun a h => by
    unfold calG
    rw [if_neg (fun z => (A.at_ a z.symm).2.2.1 h), h]; rfl
  have key : ∀ (ev : Option EV) (svs : List SV) (xs : List V), RepB c g0 g H σ ev svs xs → (∀ e, ev = some e → ∃ a, ao = some a ∧ ∀ x, RepE c g0 g H σ e x → x = .ref a) →
      svs.length = xs.length ∧ ∀ i sv x, svs[i]? = some sv → (xs.map some)[i]? = some x → RepS (c.at H) (calG g ao) H i sv x ∧ ∀ ob, sv ≠ .l ob := by
    intro ev svs
    induction svs with
    | nil =>
      intro xs h _
      cases xs with
      | nil => exact ⟨rfl, fun i sv x h => by simp at h⟩
      | cons _ _ => exact h.elim
    | cons sv svs ih =>
      intro xs h he
      cases xs with
      | nil => cases sv <;> exact h.elim
      | cons x xs =>
        cases sv with
        | p v =>
          obtain ⟨h1, h2⟩ := ih xs h.2 he
          refine ⟨congrArg (· + 1) h1, fun i sv y q1 q2 => ?_⟩
          cases i with
          | zero =>
            simp at q1 q2
            subst q1 q2
            exact ⟨show Rep (c.at H) (calG g ao) H v x from Rep.move (c := c) (c' := c.at H) rfl rfl hf h.1, fun _ z => nomatch z⟩
          | succ i =>
            obtain ⟨p1, p2⟩ := h2 i sv y (by simpa using q1) (by simpa using q2)
            refine ⟨?_, p2⟩
            cases sv with
            | p v => cases y <;> exact p1
            | o b => cases y with | none => exact p1 | some y => obtain ⟨a, e1, e2, e3⟩ := p1; unfold calG at e2; split at e2 <;> first | (cases e2; done) | (cases hg : g a <;> rw [hg] at e2 <;> cases e2)
            | l b => exact absurd rfl (p2 b)
            | r => cases y <;> exact p1
            | u => cases y <;> exact trivial
            | x => cases y with | none => exact p1 | some y => exact p1
        | r =>
          obtain ⟨h1, h2⟩ := ih xs h.2 he
          refine ⟨congrArg (· + 1) h1, fun i sv y q1 q2 => ?_⟩
          cases i with
          | zero =>
            simp at q1 q2
            subst q1 q2
            obtain ⟨e, e1, e2⟩ := h.1
            obtain ⟨a, f1, f2⟩ := he e e1
            exact ⟨⟨a, f2 x e2, by unfold calG; rw [if_pos f1.symm]⟩, fun _ z => nomatch z⟩
          | succ i =>
            obtain ⟨p1, p2⟩ := h2 i sv y (by simpa using q1) (by simpa using q2)
            refine ⟨?_, p2⟩
            cases sv with
            | p v => cases y <;> exact p1
            | o b => cases y with | none => exact p1 | some y => obtain ⟨a, e1, e2, e3⟩ := p1; unfold calG at e2; split at e2 <;> first | (cases e2; done) | (cases hg : g a <;> rw [hg] at e2 <;> cases e2)
            | l b => exact absurd rfl (p2 b)
            | r => cases y <;> exact p1
            | u => cases y <;> exact trivial
            | x => cases y with | none => exact p1 | some y => exact p1
        | _ => exact h.elim
  have all : svs.length = xs.length ∧ ∀ i sv x, svs[i]? = some sv → (xs.map some)[i]? = some x → RepS (c.at H) (calG g ao) H i sv x ∧ ∀ ob, sv ≠ .l ob := by
    rcases hb with hb | ⟨e, a, h1, h2, h3⟩
    · exact key none svs xs hb fun _ z => nomatch z
    · exact key (some e) svs xs h2 fun e' z => by cases z; exact ⟨a, h1, h3⟩
  refine ⟨by rw [List.length_map]; exact all.1, fun i sv x h1 h2 => (all.2 i sv x h1 h2).1, ?_, fun a d h1 h2 => ?_, fun a h => ?_, fun a h => ?_, fun a i h => ?_, fun a h => h⟩
  · rcases Option.eq_none_or_eq_some ao with hao | ⟨a, hao⟩
    · exact .inl (A.no hao)
    · exact .inr ⟨a, by unfold calG; rw [if_pos hao.symm], RepO.move (c := c) (c' := c.at H) rfl rfl hf (A.at_ a hao).1⟩
  · have r : ∀ a, calG g ao a = .rf → some a = ao := fun a h => by
      unfold calG at h
      split at h
      · assumption
      · cases hg : g a <;> rw [hg] at h <;> cases h
    exact Option.some.inj ((r a h1).trans (r d h2).symm)
  · unfold calG at h
    split at h
    · rename_i z; exact A.R.dom a (A.at_ a z.symm).2.1
    · exact A.R.dom a fun z => h (by rw [z]; rfl)
  · unfold calG at h
    split at h
    · rcases h with h | ⟨i, h⟩ | ⟨i, h⟩ <;> cases h
    · cases hg : g a <;> rw [hg] at h <;> rcases h with h | ⟨i, h⟩ | ⟨i, h⟩ <;> cases h
  · unfold calG at h
    split at h
    · cases h
    · cases hg : g a <;> rw [hg] at h <;> cases h
/-- what stands behind a call -/
theorem CallAt.ret (A : CallAt c g0 g H0 H st σ ao b) (Ec : Ext (c.at H) (calG g ao) H gc H') (F : Fin (c.at H) gc H' b') {v : EV} {x : V} (r : RepR (c.at H) gc H' v x) :
    let g' := retG g gc (newAt v x)
    Ext c g0 H0 g' H' ∧ RepE c g0 g' H' σ v x ∧ (∀ a, g a ≠ .none → g' a = g a) ∧ (∀ a, g' a = .rf → g a = .rf) ∧ (∀ a i, g' a = .lk i → g a = .lk i) ∧ (∀ a, g' a ≠ .none → H' a ≠ none) ∧
      (∀ a, g' a = .tmp ∨ (∃ i, g' a = .own i) ∨ (∃ i, g' a = .lk i) → c.B a = none) ∧ (∀ a, c.B a ≠ none → H' a ≠ none) ∧
      (∀ a, g a ≠ .none → some a ≠ ao → H' a = H a) ∧ (∀ {v : Val} {x : V}, Rep c g H v x → Rep c g' H' v x) ∧ (∀ {b : Ob} {a : Addr}, some a ≠ ao → g a ≠ .none → RepO c g H b a → RepO c g' H' b a) ∧
      (∀ a, ao = some a → b' ≠ .none → RepO c g' H' b' a) := by
  intro g'
  have hg' : ∀ a, g a ≠ .none → g' a = g a := fun a h => by
    show retG _ _ _ a = _
    unfold retG
    rw [if_pos h]
  have hH : ∀ a, g a ≠ .none → some a ≠ ao → H' a = H a := fun a h1 h2 => by
    refine (Ec.keep a ?_).2
    unfold calG
    rw [if_neg h2]
    cases hg : g a with
    | none => exact absurd hg h1
    | frz => exact .inl rfl
    | _ => exact .inr (.inr (.inl rfl))
  have frz : ∀ a, gc a = .frz → g' a = .frz := fun a h => by
    by_cases hn : g a = .none
    · show retG _ _ _ a = _
      unfold retG
      rw [if_neg (fun z => z hn), if_pos h]
    · rw [hg' a hn]
      have hao : some a ≠ ao := fun z => by
        have : calG g ao a = .rf := by unfold calG; rw [if_pos z]
        have := Ec.rft a this
        rw [h] at this; cases this
      cases hg : g a with
      | none => exact absurd hg hn
      | frz => rfl
      | _ =>
        have hc : calG g ao a = .oth := by unfold calG; rw [if_neg hao, hg]; rfl
        have := (Ec.keep a (.inr (.inr (.inl hc)))).1
        rw [h, hc] at this; cases this
  have hf : ∀ a, g a = .frz → calG g ao a = .frz := fun a h => by
    unfold calG
    rw [if_neg (fun z => (A.at_ a z.symm).2.2.1 h), h]; rfl
  have rp : ∀ {v : Val} {x : V}, Rep c g H v x → Rep c g' H' v x := fun h => Rep.move (c := c.at H) (c' := c) rfl rfl frz (Rep.ext Ec (Rep.move (c := c) (c' := c.at H) rfl rfl hf h))
  have ro : ∀ {b : Ob} {a : Addr}, some a ≠ ao → g a ≠ .none → RepO c g H b a → RepO c g' H' b a := fun h1 h2 h => RepO.move (c := c.at H) (c' := c) rfl rfl frz (RepO.ext Ec (hH _ h2 h1) (RepO.move (c := c) (c' := c.at H) rfl rfl hf h))
  have fresh : ∀ a, H a = none → g a = .none := fun a h => by
    by_cases z : g a = .none
    · exact z
    · exact absurd h (A.R.dom a z)
  have other : ∀ a, g' a ≠ .none → g a ≠ .none ∨ gc a = .frz ∨ (∃ b0, v = .f b0 ∧ x = .ref a ∧ g' a = .tmp) := fun a h => by
    by_cases hn : g a = .none
    · have h2 : retG g gc (newAt v x) a ≠ .none := h
      by_cases hz : gc a = .frz
      · exact .inr (.inl hz)
      · refine .inr (.inr ?_)
        have e : g' a = (if some a = (newAt v x) then .tmp else .none) := by
          show retG _ _ _ a = _
          unfold retG
          rw [if_neg (fun z => z hn), if_neg hz]
        rw [e] at h
        by_cases hq : some a = (newAt v x)
        · rw [if_pos hq] at e
          cases v with
          | f b0 =>
            cases x with
            | ref d => cases hq; exact ⟨b0, rfl, rfl, e⟩
            | _ => cases hq
          | _ => cases hq
        · rw [if_neg hq] at h; exact absurd rfl h
    · exact .inl hn
  refine ⟨⟨fun a h => ?_, fun a h => ?_, fun a h => ?_, fun a us h => Ec.tups a us (A.E.tups a us h), fun a h => Ec.grow a (A.E.grow a h)⟩, ?_, hg', fun a h => ?_, fun a i h => ?_, fun a h => ?_, fun a h => ?_, fun a h => Ec.grow a (A.R.grow a h), hH, rp, ro, fun a ha hb => ?_⟩
  · obtain ⟨k1, k2⟩ := A.E.keep a h
    have hn : g a ≠ .none := by rw [k1]; rcases h with h | h | h | ⟨i, h⟩ <;> rw [h] <;> exact fun z => nomatch z
    have hao : some a ≠ ao := fun z => by
      obtain ⟨_, _, _, _, _, ⟨n1, n2, n3, n4⟩, _⟩ := A.at_ a z.symm
      rcases h with h | h | h | ⟨i, h⟩
      · exact n1 h
      · exact n2 h
      · exact n3 h
      · exact n4 i h
    exact ⟨(hg' a hn).trans k1, (hH a hn hao).trans k2⟩
  · have := A.E.rft a h
    rw [hg' a (by rw [this]; exact fun z => nomatch z)]; exact this
  · have := A.E.some a h
    rw [hg' a this]; exact this
  · cases v with
    | p w => exact Rep.move (c := c.at H) (c' := c) rfl rfl frz r
    | f b0 =>
      obtain ⟨a, rfl, h1, h2, h3⟩ := r
      have hn := fresh a h2
      have hz : gc a ≠ .frz := by rcases h1 with h1 | ⟨i, h1⟩ <;> rw [h1] <;> exact fun z => nomatch z
      refine ⟨a, rfl, ?_, A.E.none hn, RepO.move (c := c.at H) (c' := c) rfl rfl frz h3⟩
      show retG _ _ _ a = _
      unfold retG
      rw [if_neg (fun z => z hn), if_neg hz]
      exact if_pos rfl
    | s i => exact r.elim
    | r => exact r.elim
  · rcases other a (by rw [h]; exact fun z => nomatch z) with h1 | h1 | ⟨_, _, _, h1⟩
    · rw [hg' a h1] at h; exact h
    · rw [frz a h1] at h; cases h
    · rw [h1] at h; cases h
  · rcases other a (by rw [h]; exact fun z => nomatch z) with h1 | h1 | ⟨_, _, _, h1⟩
    · rw [hg' a h1] at h; exact h
    · rw [frz a h1] at h; cases h
    · rw [h1] at h; cases h
  · rcases other a h with h1 | h1 | ⟨b0, rfl, rfl, _⟩
    · exact Ec.grow a (A.R.dom a h1)
    · exact F.dom a (by rw [h1]; exact fun z => nomatch z)
    · obtain ⟨d, e, _, _, h3⟩ := r
      cases e
      exact RepO.some h3
  · rcases other a (by rcases h with h | ⟨i, h⟩ | ⟨i, h⟩ <;> rw [h] <;> exact fun z => nomatch z) with h1 | h1 | ⟨b0, rfl, rfl, _⟩
    · rw [hg' a h1] at h; exact A.R.young a h
    · rw [frz a h1] at h; rcases h with h | ⟨i, h⟩ | ⟨i, h⟩ <;> cases h
    · obtain ⟨d, e, _, h2, _⟩ := r
      cases e
      by_cases z : c.B a = none
      · exact z
      · exact absurd h2 (A.R.grow a z)
  · rcases F.rf with e | ⟨d, h1, h2⟩
    · exact absurd e hb
    · have : calG g ao a = .rf := by unfold calG; rw [if_pos ha.symm]
      have := F.rfu a d (Ec.rft a this) h1
      subst this
      exact RepO.move (c := c.at H) (c' := c) rfl rfl frz h2
end

section
variable {c : Ct} {g0 g gc : Gh} {H0 H H' : Hp} {st : S} {σ : Sig} {ao : Option Addr} {b b' : Ob}
/-- the state behind a call: its objects stand as they stood, but the shared one -/
theorem rel_back {g' : Gh} (R : Rel c g st σ H) (keep : ∀ a, g a ≠ .none → g' a = g a) (rf' : ∀ a, g' a = .rf → g a = .rf) (lk' : ∀ a i, g' a = .lk i → g a = .lk i) (dom : ∀ a, g' a ≠ .none → H' a ≠ none)
    (yng : ∀ a, g' a = .tmp ∨ (∃ i, g' a = .own i) ∨ (∃ i, g' a = .lk i) → c.B a = none) (grow : ∀ a, c.B a ≠ none → H' a ≠ none) (rp : ∀ {v : Val} {x : V}, Rep c g H v x → Rep c g' H' v x)
    (st' : S) (hlen : st'.sl.length = st.sl.length) (hsl : ∀ i sv, st'.sl[i]? = some sv → st.sl[i]? = some sv ∨ (∃ b a, sv = .o b ∧ σ[i]? = some (some (.ref a)) ∧ g a = .own i ∧ RepO c g' H' b a))
    (ro : ∀ i ob a, (st.sl[i]? = some (.o ob) ∧ st'.sl[i]? = some (.o ob) ∧ g a = .own i) ∨ (st.sl[i]? = some (.l ob) ∧ g a = .lk i) → RepO c g H ob a → RepO c g' H' ob a ∨ (∃ b a', SV.o ob = .o b ∧ σ[i]? = some (some (.ref a')) ∧ g a' = .own i ∧ RepO c g' H' b a'))
    (hlk : ∀ (i : Nat) (ob : Ob), st.sl[i]? = some (SV.l ob) → st'.sl[i]? = some (SV.l ob)) (hrf : st'.rf = .none ∨ ∃ a, g' a = .rf ∧ RepO c g' H' st'.rf a) : Rel c g' st' σ H' := by
  have ne : ∀ {a : Addr} {t : Tag}, g a = t → t ≠ .none → g' a = t := fun {a t} h n => by rw [keep a (by rw [h]; exact n)]; exact h
  refine ⟨hlen.trans R.len, fun i sv x h1 h2 => ?_, hrf, fun a d h1 h2 => R.rfu a d (rf' a h1) (rf' d h2), dom, yng, fun a i h => ?_, grow⟩
  · rcases hsl i sv h1 with h | ⟨bb, a, rfl, h3, h4, h5⟩
    · have q := R.sl i sv x h h2
      cases sv with
      | p v => cases x with | none => exact q | some x => exact rp q
      | o ob =>
        cases x with
        | none => exact q
        | some x =>
          obtain ⟨a, rfl, e2, e3⟩ := q
          rcases ro i ob a (.inl ⟨h, h1, e2⟩) e3 with k | ⟨b2, a2, eb, k1, k2, k3⟩
          · exact ⟨a, rfl, ne e2 (fun z => nomatch z), k⟩
          · cases eb
            rw [h2] at k1
            cases k1
            exact ⟨a, rfl, ne k2 (fun z => nomatch z), k3⟩
      | l ob =>
        cases x with
        | none => exact q
        | some x =>
          obtain ⟨a, rfl, e2, e3⟩ := q
          rcases ro i ob a (.inr ⟨h, e2⟩) e3 with k | ⟨b2, a2, eb, k1, k2, k3⟩
          · exact ⟨a, rfl, ne e2 (fun z => nomatch z), k⟩
          · rw [h2] at k1
            cases k1
            rw [e2] at k2
            cases k2
      | r => cases x with | none => exact q | some x => obtain ⟨a, e1, e2⟩ := q; exact ⟨a, e1, ne e2 fun z => nomatch z⟩
      | u => cases x <;> exact trivial
      | x => cases x with | none => exact q | some x => exact q
    · rw [h3] at h2
      cases h2
      exact ⟨a, rfl, ne h4 (fun z => nomatch z), h5⟩
  · obtain ⟨ob, h1, h2⟩ := R.lkd a i (lk' a i h)
    exact ⟨ob, hlk i ob h1, h2⟩
/-- where the shared object is no object of the state -/
theorem CallAt.state (A : CallAt c g0 g H0 H st σ ao b) (hao : ∀ a, ao = some a → g a = .tmp) (Ec : Ext (c.at H) (calG g ao) H gc H') (F : Fin (c.at H) gc H' b') {v : EV} {x : V} (r : RepR (c.at H) gc H' v x) :
    ∃ g', Ext c g0 H0 g' H' ∧ Rel c g' st σ H' ∧ RepE c g0 g' H' σ v x := by
  obtain ⟨E', rE, keep, rf', lk', dom, yng, grow, hH, rp, ro, sh⟩ := A.ret Ec F r
  have nao : ∀ {a : Addr} {t : Tag}, g a = t → t ≠ .tmp → some a ≠ ao := fun {a t} h n z => n (h.symm.trans (hao a z.symm))
  refine ⟨_, E', rel_back A.R keep rf' lk' dom yng grow rp st rfl (fun i sv h => .inl h) (fun i ob a h hr => .inl ?_) (fun _ _ h => h) ?_, rE⟩
  · rcases h with ⟨_, _, h⟩ | ⟨_, h⟩
    · exact ro (nao h fun z => nomatch z) (by rw [h]; exact fun z => nomatch z) hr
    · exact ro (nao h fun z => nomatch z) (by rw [h]; exact fun z => nomatch z) hr
  · rcases A.R.rf with e | ⟨a, h1, h2⟩
    · exact .inl e
    · exact .inr ⟨a, by rw [keep a (by rw [h1]; exact fun z => nomatch z)]; exact h1, ro (nao h1 fun z => nomatch z) (by rw [h1]; exact fun z => nomatch z) h2⟩
/-- where it is a slot's -/
theorem CallAt.stateO (A : CallAt c g0 g H0 H st σ ao b) {i : Nat} {a : Addr} (hao : ao = some a) (hi : st.get i = .o b) (hs : σ[i]? = some (some (.ref a))) (ha : g a = .own i) (hb' : b' ≠ .none) (Ec : Ext (c.at H) (calG g ao) H gc H') (F : Fin (c.at H) gc H' b') {v : EV} {x : V} (r : RepR (c.at H) gc H' v x) :
    ∃ g', Ext c g0 H0 g' H' ∧ Rel c g' (st.set i (.o b')) σ H' ∧ RepE c g0 g' H' σ v x := by
  obtain ⟨E', rE, keep, rf', lk', dom, yng, grow, hH, rp, ro, sh⟩ := A.ret Ec F r
  have hlt : i < st.sl.length := (List.getElem?_eq_some_iff.mp (S.get_some hi (fun z => nomatch z))).1
  have nao : ∀ {d : Addr} {t : Tag}, g d = t → t ≠ .own i → some d ≠ ao := fun {d t} h n z => by
    rw [hao] at z
    cases z
    exact n (h.symm.trans ha)
  have hset : ∀ j, j ≠ i → (st.set i (.o b')).sl[j]? = st.sl[j]? := fun j hj => List.getElem?_set_ne (Ne.symm hj)
  have hself : (st.set i (.o b')).sl[i]? = some (.o b') := List.getElem?_set_self hlt
  refine ⟨_, E', rel_back A.R keep rf' lk' dom yng grow rp _ (List.length_set ..) (fun j sv h => ?_) (fun j ob d h hr => ?_) (fun j ob h => ?_) ?_, rE⟩
  · by_cases hj : j = i
    · subst hj
      rw [hself] at h
      cases h
      exact .inr ⟨b', a, rfl, hs, ha, sh a hao hb'⟩
    · rw [hset j hj] at h; exact .inl h
  · by_cases hj : j = i
    · subst hj
      rcases h with ⟨h1, h2, h3⟩ | ⟨h1, h2⟩
      · rw [hself] at h2
        cases h2
        exact .inr ⟨b', a, rfl, hs, ha, sh a hao hb'⟩
      · have := S.get_some hi (fun z => nomatch z)
        rw [this] at h1
        cases h1
    · rcases h with ⟨_, _, h⟩ | ⟨_, h⟩
      · exact .inl (ro (nao h fun z => hj (Tag.own.inj z)) (by rw [h]; exact fun z => nomatch z) hr)
      · exact .inl (ro (nao h fun z => nomatch z) (by rw [h]; exact fun z => nomatch z) hr)
  · have hj : j ≠ i := fun z => by
      subst z
      have := S.get_some hi (fun z => nomatch z)
      rw [this] at h
      cases h
    rw [hset j hj]; exact h
  · rcases A.R.rf with e | ⟨d, h1, h2⟩
    · exact .inl e
    · exact .inr ⟨d, by rw [keep d (by rw [h1]; exact fun z => nomatch z)]; exact h1, ro (nao h1 fun z => nomatch z) (by rw [h1]; exact fun z => nomatch z) h2⟩
/-- where it is the state's own shared one -/
theorem CallAt.stateR (A : CallAt c g0 g H0 H st σ ao b) {a : Addr} (hao : ao = some a) (ha : g a = .rf) (hb' : b' ≠ .none) (Ec : Ext (c.at H) (calG g ao) H gc H') (F : Fin (c.at H) gc H' b') {v : EV} {x : V} (r : RepR (c.at H) gc H' v x) :
    ∃ g', Ext c g0 H0 g' H' ∧ Rel c g' ⟨st.sl, b'⟩ σ H' ∧ RepE c g0 g' H' σ v x := by
  obtain ⟨E', rE, keep, rf', lk', dom, yng, grow, hH, rp, ro, sh⟩ := A.ret Ec F r
  have nao : ∀ {d : Addr} {t : Tag}, g d = t → t ≠ .rf → some d ≠ ao := fun {d t} h n z => by
    rw [hao] at z
    cases z
    exact n (h.symm.trans ha)
  refine ⟨_, E', rel_back A.R keep rf' lk' dom yng grow rp ⟨st.sl, b'⟩ rfl (fun j sv h => .inl h) (fun j ob d h hr => .inl ?_) (fun j ob h => h) (.inr ⟨a, ?_, sh a hao hb'⟩), rE⟩
  · rcases h with ⟨_, _, h⟩ | ⟨_, h⟩
    · exact ro (nao h fun z => nomatch z) (by rw [h]; exact fun z => nomatch z) hr
    · exact ro (nao h fun z => nomatch z) (by rw [h]; exact fun z => nomatch z) hr
  · rw [keep a (by rw [ha]; exact fun z => nomatch z)]; exact ha
end
theorem noR_ok : ∀ {svs : List SV}, noR svs = true → svs.all argOk = true
  | [], _ => rfl
  | .p _ :: r, h => by rw [List.all_cons, noR_ok (svs := r) h]; rfl
theorem RepB.ok {c : Ct} {g0 g : Gh} {H : Hp} {σ : Sig} {ev : Option EV} : ∀ {svs : List SV} {xs : List V}, RepB c g0 g H σ ev svs xs → svs.all argOk = true
  | [], [], _ => rfl
  | .p v :: r, x :: xs, h => by rw [List.all_cons, RepB.ok (svs := r) h.2]; rfl
  | .r :: r, x :: xs, h => by rw [List.all_cons, RepB.ok (svs := r) h.2]; rfl
  | [], _ :: _, h => h.elim
  | .o _ :: _, [], h => h.elim
  | .o _ :: _, _ :: _, h => h.elim
  | .l _ :: _, [], h => h.elim
  | .l _ :: _, _ :: _, h => h.elim
  | .u :: _, [], h => h.elim
  | .x :: _, [], h => h.elim
  | .u :: _, _ :: _, h => h.elim
  | .x :: _, _ :: _, h => h.elim
  | .p _ :: _, [], h => h.elim
  | .r :: _, [], h => h.elim
theorem RepB.len {c : Ct} {g0 g : Gh} {H : Hp} {σ : Sig} {ev : Option EV} : ∀ {svs : List SV} {xs : List V}, RepB c g0 g H σ ev svs xs → svs.length = xs.length
  | [], [], _ => rfl
  | .p v :: r, x :: xs, h => congrArg (· + 1) (RepB.len (svs := r) h.2)
  | .r :: r, x :: xs, h => congrArg (· + 1) (RepB.len (svs := r) h.2)
  | [], _ :: _, h => h.elim
  | .o _ :: _, [], h => h.elim
  | .o _ :: _, _ :: _, h => h.elim
  | .l _ :: _, [], h => h.elim
  | .l _ :: _, _ :: _, h => h.elim
  | .u :: _, [], h => h.elim
  | .x :: _, [], h => h.elim
  | .u :: _, _ :: _, h => h.elim
  | .x :: _, _ :: _, h => h.elim
  | .p _ :: _, [], h => h.elim
  | .r :: _, [], h => h.elim
theorem isObj_ne {b : Ob} (h : isObj b = true) : b ≠ .none := fun z => by rw [z] at h; cases h
/-- THE CALL: the promise's start from the caller's wish -/
theorem call_ok {c : Ct} {W : WXs} {g0 g : Gh} {H0 H : Hp} {σ : Sig} {st : S} {Q : VK} {d : FD} {p : AR} {xs : List V} {n : Nat} (E : Ext c g0 H0 g H) (R : Rel c g st σ H) (hb : RepB c g0 g H σ p.2 p.1 xs) (hn : xs.length = n)
    (q : Post c W g0 H0 σ (callD d p st) (kE c g0 σ Q)) : spF c n d xs H Q fun cls dx H => W cls dx σ H := by
  obtain ⟨svs, ev⟩ := p
  have hb : RepB c g0 g H σ ev svs xs := hb
  -- the common end: from a state lemma
  have run : ∀ (ao : Option Addr) (b : Ob) (A : CallAt c g0 g H0 H st σ ao b) (f : Ob → S) (needs : Bool) (Rl : Rel (c.at H) (calG g ao) ⟨svs, b⟩ (xs.map some) H)
      (next : ∀ {gc : Gh} {H' : Hp} {b' : Ob} {v : EV} {x : V}, (needs = true → b' ≠ .none) → Ext (c.at H) (calG g ao) H gc H' → Fin (c.at H) gc H' b' → RepR (c.at H) gc H' v x → ∃ g', Ext c g0 H0 g' H' ∧ Rel c g' (f b') σ H' ∧ RepE c g0 g' H' σ v x)
      (hq : match d svs b with
        | .ok (.p v) b' => (needs = true → isObj b' = true) ∧ Post c W g0 H0 σ (.ok (.p v) (f b')) (kE c g0 σ Q)
        | .ok (.f v) b' => (needs = true → isObj b' = true) ∧ Post c W g0 H0 σ (.ok (.f v) (f b')) (kE c g0 σ Q)
        | .ex e b' => (needs = true → isObj b' = true) ∧ Post c W g0 H0 σ (.ex e (f b') : Y.R EV) (kE c g0 σ Q)
        | _ => False), spF c n d xs H Q fun cls dx H => W cls dx σ H := by
    intro ao b A f needs Rl next hq
    refine ⟨hn, calG g ao, svs, b, Rl, hb.ok, ?_⟩
    cases hd : d svs b with
    | bad => rw [hd] at hq; exact hq.elim
    | ex e b' =>
      rw [hd] at hq
      intro gc H' cls dx Ec F rx
      obtain ⟨g', E', R', _⟩ := next (fun z => isObj_ne (hq.1 z)) Ec F (v := .p .non) (x := .non) .non
      exact hq.2 g' H' cls dx E' R' rx
    | ok v b' =>
      rw [hd] at hq
      intro gc H' x Ec F r
      cases v with
      | p w =>
        obtain ⟨g', E', R', r'⟩ := next (fun z => isObj_ne (hq.1 z)) Ec F r
        exact hq.2 g' H' E' R' x r'
      | f w =>
        obtain ⟨g', E', R', r'⟩ := next (fun z => isObj_ne (hq.1 z)) Ec F r
        exact hq.2 g' H' E' R' x r'
      | s i => exact hq.elim
      | r => exact hq.elim
  have bk : ∀ {r : FR} {f : Ob → S}, Post c W g0 H0 σ (back r f) (kE c g0 σ Q) → (match r with
        | .ok (.p v) b' => (true = true → isObj b' = true) ∧ Post c W g0 H0 σ (.ok (.p v) (f b')) (kE c g0 σ Q)
        | .ok (.f v) b' => (true = true → isObj b' = true) ∧ Post c W g0 H0 σ (.ok (.f v) (f b')) (kE c g0 σ Q)
        | .ex e b' => (true = true → isObj b' = true) ∧ Post c W g0 H0 σ (.ex e (f b') : Y.R EV) (kE c g0 σ Q)
        | _ => False) := by
    intro r f q
    cases r with
    | bad => exact q
    | ex e b' =>
      unfold back at q
      dsimp only at q
      by_cases hb : isObj b' = true
      · rw [if_pos hb] at q; exact ⟨fun _ => hb, q⟩
      · rw [if_neg hb] at q; exact q.elim
    | ok v b' =>
      cases v with
      | p w =>
        unfold back at q
        dsimp only at q
        by_cases hb : isObj b' = true
        · rw [if_pos hb] at q; exact ⟨fun _ => hb, q⟩
        · rw [if_neg hb] at q; exact q.elim
      | f w =>
        unfold back at q
        dsimp only at q
        by_cases hb : isObj b' = true
        · rw [if_pos hb] at q; exact ⟨fun _ => hb, q⟩
        · rw [if_neg hb] at q; exact q.elim
      | s i => exact q
      | r => exact q
  cases ev with
  | none =>
    have A : CallAt c g0 g H0 H st σ none .none := ⟨E, R, fun _ => rfl, fun a z => nomatch z⟩
    refine run none .none A (fun _ => st) false (A.rel (fun _ _ => trivial) (.inl hb)) (fun _ Ec F r => A.state (fun a z => nomatch z) Ec F r) ?_
    have q' : Post c W g0 H0 σ (match d svs .none with | .ok (.p v) _ => .ok (.p v) st | .ok (.f v) _ => .ok (.f v) st | .ex e _ => .ex e st | _ => .bad : Y.R EV) (kE c g0 σ Q) := q
    cases hd : d svs .none with
    | bad => rw [hd] at q'; exact q'
    | ex e b' => rw [hd] at q'; exact ⟨(fun z => nomatch z), q'⟩
    | ok v b' =>
      rw [hd] at q'
      cases v with
      | p w => exact ⟨(fun z => nomatch z), q'⟩
      | f w => exact ⟨(fun z => nomatch z), q'⟩
      | s i => exact q'
      | r => exact q'
  | some e =>
    cases e with
    | p v => exact q.elim
    | s i =>
      have q' : Post c W g0 H0 σ (match st.get i with | .o b => back (d svs b) fun b' => st.set i (.o b') | _ => .bad) (kE c g0 σ Q) := q
      cases hi : st.get i with
      | o b =>
        rw [hi] at q'
        obtain ⟨y, hy, r⟩ := R.at hi (fun z => nomatch z)
        cases y with
        | none => exact r.elim
        | some y =>
          obtain ⟨a, rfl, ha, rb⟩ := r
          have A : CallAt c g0 g H0 H st σ (some a) b := ⟨E, R, (fun z => nomatch z), fun a' z => by
            cases z
            refine ⟨rb, by rw [ha]; exact (fun z => nomatch z), by rw [ha]; exact (fun z => nomatch z), by rw [ha]; exact (fun z => nomatch z), by rw [ha]; exact (fun _ z => nomatch z), ?_, fun z => ?_⟩
            · rcases Free.of E ha with h | ⟨j, h⟩ <;> rw [h] <;> exact ⟨(fun z => nomatch z), (fun z => nomatch z), (fun z => nomatch z), fun _ z => nomatch z⟩
            · rcases Free.of E ha with h | ⟨j, h⟩ <;> rw [h] at z <;> cases z⟩
          have hx : ∀ x, RepE c g0 g H σ (.s i) x → x = .ref a := fun x h => by
            have h : σ[i]? = some (some x) := h
            rw [hy] at h
            cases h; rfl
          exact run (some a) b A (fun b' => st.set i (.o b')) true (A.rel (fun _ _ => trivial) (.inr ⟨.s i, a, rfl, hb, hx⟩)) (fun hne Ec F r => A.stateO rfl hi hy ha (hne rfl) Ec F r) (bk q')
      | p v => rw [hi] at q'; exact q'.elim
      | l v => rw [hi] at q'; exact q'.elim
      | r => rw [hi] at q'; exact q'.elim
      | u => rw [hi] at q'; exact q'.elim
      | x => rw [hi] at q'; exact q'.elim
    | r =>
      have q' : Post c W g0 H0 σ (if isObj st.rf then back (d svs st.rf) fun b' => ⟨st.sl, b'⟩ else .bad) (kE c g0 σ Q) := q
      by_cases ho : isObj st.rf = true
      · rw [if_pos ho] at q'
        rcases R.rf with e | ⟨a, ha, rb⟩
        · rw [e] at ho; cases ho
        · have A : CallAt c g0 g H0 H st σ (some a) st.rf := ⟨E, R, (fun z => nomatch z), fun a' z => by
            cases z
            refine ⟨rb, by rw [ha]; exact (fun z => nomatch z), by rw [ha]; exact (fun z => nomatch z), by rw [ha]; exact (fun z => nomatch z), by rw [ha]; exact (fun _ z => nomatch z), ⟨fun z => ?_, fun z => ?_, fun z => ?_, fun j z => ?_⟩, fun _ => ha⟩
            · have := (E.keep a (.inl z)).1; rw [ha, z] at this; cases this
            · have := (E.keep a (.inr (.inl z))).1; rw [ha, z] at this; cases this
            · have := (E.keep a (.inr (.inr (.inl z)))).1; rw [ha, z] at this; cases this
            · have := (E.keep a (.inr (.inr (.inr ⟨j, z⟩)))).1; rw [ha, z] at this; cases this⟩
          have hx : ∀ x, RepE c g0 g H σ .r x → x = .ref a := fun x h => by
            obtain ⟨a', rfl, h⟩ := h
            rw [R.rfu a' a h ha]
          exact run (some a) st.rf A (fun b' => ⟨st.sl, b'⟩) true (A.rel (fun _ _ => trivial) (.inr ⟨.r, a, rfl, hb, hx⟩)) (fun hne Ec F r => A.stateR rfl ha (hne rfl) Ec F r) (bk q')
      · rw [if_neg ho] at q'; exact q'.elim
    | f b => exact q.elim
section
variable {X : Cx} {c : Ct} {W : WXs} {k j n : Nat} {pos p : Pos} {e : Expr} {es : List Expr} {da : S → R AR} {d : FD} {x : Str}
/-- f(e, ..) -/
theorem se_call (G : Good X c k) (tk : L2N.Takes X W) (F : Fn c j x n d) (hj : j ≤ k) (ha : SB X c W (e :: es) da) (hg : Gl X x) (hdb : (x == ("__debug__" : Str)) = false := by decide)
    (he : starEach (e :: es) X.env = (false, eval e X.env) :: starEach es X.env := by rfl) (hpl : (backTo pos (starEach es X.env)).any (·.1) = false := by rfl) : SE X c W (.Call (.Name x p) (e :: es) [] pos) (eCall n d da) := by
  obtain ⟨f, fd, ps, Fo, hm, hk, hb⟩ := F.ex
  have Fo' : FnOk X.prog X.w X.K X.mg X.base (L2N.CX X.prog X.w) k f fd ps (spF c n d) := by
    rw [G.P, G.w, G.K, G.mg, G.base]; exact Fo.mono hj
  refine impE (pe_callS Fo' G.hr hg (by rw [G.mg]; exact hm) (by rw [G.K]; exact hk) (by rw [G.K]; exact hb) (fun σ => L2N.passAt tk σ) ha hdb he hpl) fun σ H Q ⟨g, st, R, q⟩ => ?_
  refine ⟨g, st, R, (bind0 q).mono fun pr st1 g1 H1 e1 R1 q1 xs rs => ?_⟩
  revert q1
  by_cases hlen : pr.1.length = n
  · rw [if_pos hlen]
    exact fun q1 => call_ok e1 R1 rs (rs.len.symm.trans hlen) q1
  · rw [if_neg hlen]; exact fun z => z.elim
end
end Y
end

section
set_option Elab.async false
set_option linter.all false
set_option maxRecDepth 100000
set_option maxHeartbeats 1000000
namespace Y
open PySem PySem.Spec PyProof.Rows L2
/-! ## raise -/
/-- a class that is raised with a text -/
def XC (c : Ct) (x : Str) : Prop := ∃ C, c.mg x = some (.ref C) ∧ PySem.W.excIn c.K C PySem.HandSPX.veTail "ValueError.__new__" = true ∧ PySem.W.keepIn c.K (.ref C) = true ∧ PySem.W.subIn c.K (.ref C) (.type "BaseException") = some true ∧ PySem.W.typeIn c.K (.ref C) = some (.type "type")
def sRaise (x : Str) : S → SR := fun st => .ex ⟨x, none⟩ st
theorem s_raise {X : Cx} {c : Ct} {W : WXs} {k : Nat} {x m : Str} {j p p2 p3 pos} (G : Good X c k) (tk : L2N.Takes X W) (h : XC c x) (hg : Gl X x) (hdb : (x == ("__debug__" : Str)) = false := by decide) :
    SS X c W (.Raise (some (.Call (.Name x p) [.Constant (.str m) j p2] [] p3)) none pos) (sRaise x) := by
  obtain ⟨C, h1, h2, h3, h4, h5⟩ := h
  refine impS (L2N.ps_raise (W := W) G.calm tk (L2N.pmk_own PySem.F.excBase_ValueError (by rw [G.K]; exact h2) (by rw [G.mg]; exact h1) (by rw [G.K]; exact h3) (raises_own (by rw [G.K]; exact h4) (by rw [G.K]; exact h5)) hg hdb)) fun D σ H ⟨g, st, R, q⟩ => ?_
  exact q g σ H _ _ Ext.refl R ⟨⟨C, h1, rfl⟩, rfl⟩

/-! ## a caught exception -/
abbrev Isa := Str → Str → Option Bool
structure XT (c : Ct) (isa : Isa) : Prop where
  kit : ∀ n m b, isa n m = some b → ∃ C D, c.mg n = some (.ref C) ∧ c.mg m = some (.ref D) ∧ ExcC c.K C ∧ PySem.W.kitOne c.K (.ref C) (.ref D) = some b ∧ PySem.W.exmOne c.K (.ref C) (.ref D) = some b
def Ct.hot (c : Ct) (a : Addr) : Ct := { c with exc := some a }
def SV.clr : SV → SV
  | .x => .u
  | v => v
def S.clr (st : S) : S := ⟨st.sl.map SV.clr, st.rf⟩
theorem Rep.hot {c : Ct} {a : Addr} {g : Gh} {H : Hp} {v : Val} {x : V} (h : Rep (c.hot a) g H v x) : Rep c g H v x := Rep.move (c := c.hot a) (c' := c) rfl rfl (fun _ z => z) h
theorem RepO.hot {c : Ct} {a : Addr} {g : Gh} {H : Hp} {v : Ob} {x : Addr} (h : RepO (c.hot a) g H v x) : RepO c g H v x := RepO.move (c := c.hot a) (c' := c) rfl rfl (fun _ z => z) h
theorem Rep.cool {c : Ct} {a : Addr} {g : Gh} {H : Hp} {v : Val} {x : V} (h : Rep c g H v x) : Rep (c.hot a) g H v x := Rep.move (c := c) (c' := c.hot a) rfl rfl (fun _ z => z) h
theorem RepO.cool {c : Ct} {a : Addr} {g : Gh} {H : Hp} {v : Ob} {x : Addr} (h : RepO c g H v x) : RepO (c.hot a) g H v x := RepO.move (c := c) (c' := c.hot a) rfl rfl (fun _ z => z) h
theorem Ext.hot {c : Ct} {a : Addr} {g g' : Gh} {H H' : Hp} (h : Ext (c.hot a) g H g' H') : Ext c g H g' H' := ⟨h.keep, h.rft, h.some, h.tups, h.grow⟩
theorem clr_get {l : List SV} {i : Nat} {sv : SV} (h : (l.map SV.clr)[i]? = some sv) : ∃ sw, l[i]? = some sw ∧ sv = sw.clr := by
  rw [List.getElem?_map] at h
  cases e : l[i]? with
  | none => rw [e] at h; cases h
  | some w => rw [e] at h; cases h; exact ⟨w, rfl, rfl⟩
/-- behind the suite -/
theorem Rel.clr {c : Ct} {a : Addr} {g : Gh} {H : Hp} {st : S} {σ : Sig} (R : Rel (c.hot a) g st σ H) : Rel c g st.clr σ H := by
  refine ⟨by show (st.sl.map SV.clr).length = _; rw [List.length_map]; exact R.len, fun i sv x h1 h2 => ?_, ?_, R.rfu, R.dom, R.young, fun b i q => ?_, R.grow⟩
  · obtain ⟨sw, e1, rfl⟩ := clr_get h1
    have q := R.sl i sw x e1 h2
    cases sw with
    | p v => cases x with | none => exact q | some x => exact Rep.hot q
    | o b => cases x with | none => exact q | some x => obtain ⟨a, e1, e2, e3⟩ := q; exact ⟨a, e1, e2, e3.hot⟩
    | l b => cases x with | none => exact q | some x => obtain ⟨a, e1, e2, e3⟩ := q; exact ⟨a, e1, e2, e3.hot⟩
    | r => cases x with | none => exact q | some x => exact q
    | u => cases x <;> exact trivial
    | x => cases x <;> exact trivial
  · rcases R.rf with e | ⟨b, e1, e2⟩
    · exact .inl e
    · exact .inr ⟨b, e1, e2.hot⟩
  · obtain ⟨ob, h1, h2⟩ := R.lkd b i q
    refine ⟨ob, ?_, h2⟩
    show (st.sl.map SV.clr)[i]? = _
    rw [List.getElem?_map, h1]; rfl
/-- into the suite: slot i holds the exception -/
theorem Rel.heat {c : Ct} {a : Addr} {g : Gh} {H : Hp} {st : S} {σ : Sig} (R : Rel c g st σ H) {i : Nat} (hl : ∀ b, st.get i ≠ .l b) : Rel (c.hot a) g (st.clr.set i .x) (σ.set i (some (.ref a))) H := by
  have hl' : ∀ b, st.clr.get i ≠ .l b := fun b z => by
    have h1 := S.get_some z (fun z => nomatch z)
    obtain ⟨sw, e1, e2⟩ := clr_get h1
    cases sw <;> first | (cases e2; done) | (cases e2; exact hl b (by unfold S.get; rw [e1]))
  refine ⟨by show ((st.sl.map SV.clr).set i .x).length = (σ.set i _).length; rw [List.length_set, List.length_set, List.length_map]; exact R.len, fun j sv x h1 h2 => ?_, ?_, R.rfu, R.dom, R.young, fun b j q => ?_, R.grow⟩
  · have h1 : ((st.sl.map SV.clr).set i .x)[j]? = some sv := h1
    by_cases hj : i = j
    · subst hj
      have hlt : i < (st.sl.map SV.clr).length := by have := (List.getElem?_eq_some_iff.mp h1).1; rwa [List.length_set] at this
      rw [List.getElem?_set_self hlt] at h1
      rw [List.getElem?_set_self (by rw [← R.len]; rw [List.length_map] at hlt; exact hlt)] at h2
      cases h1; cases h2
      exact ⟨a, rfl, rfl⟩
    · rw [List.getElem?_set_ne hj] at h1 h2
      obtain ⟨sw, e1, rfl⟩ := clr_get h1
      have q := R.sl j sw x e1 h2
      cases sw with
      | p v => cases x with | none => exact q | some x => exact Rep.cool q
      | o b => cases x with | none => exact q | some x => obtain ⟨a, e1, e2, e3⟩ := q; exact ⟨a, e1, e2, e3.cool⟩
      | l b => cases x with | none => exact q | some x => obtain ⟨a, e1, e2, e3⟩ := q; exact ⟨a, e1, e2, e3.cool⟩
      | r => cases x with | none => exact q | some x => exact q
      | u => cases x <;> exact trivial
      | x => cases x <;> exact trivial
  · rcases R.rf with e | ⟨b, e1, e2⟩
    · exact .inl e
    · exact .inr ⟨b, e1, e2.cool⟩
  · obtain ⟨ob, h1, h2⟩ := R.lkd b j q
    have hj : i ≠ j := fun z => by subst z; exact hl ob (by unfold S.get; rw [h1])
    refine ⟨ob, ?_, by rw [List.getElem?_set_ne hj]; exact h2⟩
    show ((st.sl.map SV.clr).set i .x)[j]? = _
    rw [List.getElem?_set_ne hj, List.getElem?_map, h1]; rfl
def SR.unx (i : Nat) : SR → SR
  | .nx st => if locked st i then .bad else .nx (st.clr.set i .u)
  | .bk st => if locked st i then .bad else .bk (st.clr.set i .u)
  | .ct st => if locked st i then .bad else .ct (st.clr.set i .u)
  | .rt v st => .rt v st.clr
  | _ => .bad
def sTryAs (isa : Isa) (cn : Str) (i : Nat) (body : S → SR) (suite : Exc → S → SR) : S → SR := fun st => match body st with
  | .ex e st1 => match isa e.nm cn with
    | some true => if locked st1 i then .bad else (suite e (st1.clr.set i .x)).unx i
    | some false => .ex e st1
    | none => .bad
  | r => r
/-- what a suite's code stands in -/
structure Suit (X : Cx) (c : Ct) (a : Addr) (oe : Obj) (cls : Value) (d : Option Addr) (pn : List (Addr × Obj)) (e : Exc) : Prop where
  zn : L2N.Zn cls d oe
  fl : ∃ vs, oe.data = .fields vs
  cl : ∃ C, c.mg e.nm = some (.ref C) ∧ cls = .ref C
  dx : e.at_ = none → d = none
  soft : Soft (X.suite a ((a, oe) :: pn)) (c.hot a)
theorem RepE.hot {c : Ct} {a : Addr} {g0 g : Gh} {H : Hp} {σ : Sig} {v : EV} {x : V} (h : RepE (c.hot a) g0 g H σ v x) : RepE c g0 g H σ v x := by
  cases v with
  | p v => exact Rep.hot h
  | f b => obtain ⟨a, e1, e2, e3, e4⟩ := h; exact ⟨a, e1, e2, e3, e4.hot⟩
  | s i => exact h
  | r => exact h
theorem RepE.cool {c : Ct} {a : Addr} {g0 g : Gh} {H : Hp} {σ : Sig} {v : EV} {x : V} (h : RepE c g0 g H σ v x) : RepE (c.hot a) g0 g H σ v x := by
  cases v with
  | p v => exact Rep.cool h
  | f b => obtain ⟨a, e1, e2, e3, e4⟩ := h; exact ⟨a, e1, e2, e3, e4.cool⟩
  | s i => exact h
  | r => exact h
theorem Ext.cool {c : Ct} {a : Addr} {g g' : Gh} {H H' : Hp} (h : Ext c g H g' H') : Ext (c.hot a) g H g' H' := ⟨h.keep, h.rft, h.some, h.tups, h.grow⟩
/-- the slot of an exception's name is emptied -/
theorem Rel.empty {c : Ct} {g : Gh} {H : Hp} {st : S} {σ : Sig} (R : Rel c g st σ H) {i : Nat} (hl : ∀ b, st.get i ≠ .l b) : Rel c g (st.set i .u) (σ.set i none) H := by
  refine ⟨by show (st.sl.set i .u).length = _; rw [List.length_set, List.length_set]; exact R.len, fun j sv x h1 h2 => ?_, R.rf, R.rfu, R.dom, R.young, lkd_set2 R hl, R.grow⟩
  have h1 : (st.sl.set i .u)[j]? = some sv := h1
  by_cases hj : i = j
  · subst hj
    have hlt : i < st.sl.length := by have := (List.getElem?_eq_some_iff.mp h1).1; rwa [List.length_set] at this
    rw [List.getElem?_set_self hlt] at h1
    cases h1
    cases x <;> exact trivial
  · rw [List.getElem?_set_ne hj] at h1 h2
    exact R.sl j sv x h1 h2
section
variable {X : Cx} {c : Ct} {W : WXs} {k : Nat} {pos np pos' : Pos} {body suite : List Stmt} {b₀ : Stmt} {x n : Str} {i : Nat} {db : S → SR} {ds : Exc → S → SR} {isa : Isa}
def tX (c : Ct) (ds : Exc → S → SR) (a : Addr) (cls : Value) (d : Option Addr) : TS := fun D σ H => ∃ e, RepX c H e cls d ∧ tS (c.hot a) WF (ds e) D σ H
theorem clr_unl {st : S} {i : Nat} (h : ¬ locked st i = true) (b : Ob) : st.clr.get i ≠ .l b := fun z => by
  have h1 := S.get_some z (fun z => nomatch z)
  obtain ⟨sw, e1, e2⟩ := clr_get h1
  cases sw <;> first | (cases e2; done) | (cases e2; exact locked_no h b (by unfold S.get; rw [e1]))
theorem unx_ok {D : Ends} {g : Gh} {H : Hp} {r : SR} {a : Addr} (q : PostS c W D g H (r.unx i)) :
    PostS (c.hot a) WF { nx := fun σ' H' => D.nx (σ'.set i none) H', rt := D.rt, bk := fun σ' H' => D.bk (σ'.set i none) H', ct := fun σ' H' => D.ct (σ'.set i none) H' } g H r := by
  cases r with
  | nx st =>
    by_cases h : locked st i = true
    · unfold SR.unx at q; dsimp only at q; rw [if_pos h] at q; exact q.elim
    · unfold SR.unx at q; dsimp only at q; rw [if_neg h] at q
      exact fun g' σ' H' e' R' => q g' _ H' (Ext.hot e') (Rel.empty (Rel.clr R') (clr_unl h))
  | bk st =>
    by_cases h : locked st i = true
    · unfold SR.unx at q; dsimp only at q; rw [if_pos h] at q; exact q.elim
    · unfold SR.unx at q; dsimp only at q; rw [if_neg h] at q
      exact fun g' σ' H' e' R' => q g' _ H' (Ext.hot e') (Rel.empty (Rel.clr R') (clr_unl h))
  | ct st =>
    by_cases h : locked st i = true
    · unfold SR.unx at q; dsimp only at q; rw [if_pos h] at q; exact q.elim
    · unfold SR.unx at q; dsimp only at q; rw [if_neg h] at q
      exact fun g' σ' H' e' R' => q g' _ H' (Ext.hot e') (Rel.empty (Rel.clr R') (clr_unl h))
  | rt v st => exact fun g' σ' H' x e' R' rx => q g' σ' H' x (Ext.hot e') (Rel.clr R') (RepE.hot rx)
  | ex e st => exact q.elim
  | bad => exact q
theorem suit_ss {ds : Exc → S → SR} {a : Addr} {oe : Obj} {cls : Value} {d : Option Addr} {pn : List (Addr × Obj)} {suite : List Stmt}
    (h : ∀ e, (∃ C, c.mg e.nm = some (.ref C) ∧ cls = .ref C) → (e.at_ = none → d = none) → SSs (X.suite a ((a, oe) :: pn)) (c.hot a) WF suite (ds e)) : PSs (X.suite a ((a, oe) :: pn)) suite (tX c ds a cls d) :=
  ⟨fun pins s σ H D I ⟨e, rx, q⟩ => (h e rx.1 (fun z => by have := rx.2; rw [z] at this; exact this)).run pins s σ H D I q⟩
/-- try: .. except X as n: .. -/
theorem s_try_as (G : Good X c k) (hs : X.stack = X.env :: X.outer := by rfl) (hf : X.env.frame = some X.env.locals := by rfl) (T : XT c isa) (hi : X.N[i]? = some n) (hln : X.env.kindOf n = some .local) (hg : Gl X x) (hdb : (x == ("__debug__" : Str)) = false) (hx : ∃ C, c.mg x = some (.ref C)) (tk : L2N.Takes X W)
    (hb : ∀ (W' : WXs) (pn : List (Addr × Obj)) (xe : Value → Shared → Prop), Good (X.tr pn xe) c k → L2N.Takes (X.tr pn xe) W' → PassesOwn (model X.prog X.w) X.A X.env xe → SSs (X.tr pn xe) c W' body db)
    (hsu : ∀ (a : Addr) (oe : Obj) (cls : Value) (d : Option Addr) (pn : List (Addr × Obj)) (e : Exc), Suit X c a oe cls d pn e → SSs (X.suite a ((a, oe) :: pn)) (c.hot a) WF (b₀ :: suite) (ds e)) :
    SS X c W (.Try body [.ExceptHandler (some (.Name x np)) (some n) (b₀ :: suite) pos'] [] [] pos) (sTryAs isa x i db ds) := by
  obtain ⟨C, hC⟩ := hx
  refine impS (L2N.ps_try_as (tb := fun W' => tS c W' db) (ts := tX c ds) (Wout := W) hs hf G.nd hi hln ⟨hg, hdb, .inl (by rw [G.mg]; exact hC)⟩ tk (fun W' pn xe t p => hb W' pn xe ⟨G.P, G.w, G.base, G.K, G.mg, G.calm, G.nd, G.hr⟩ t p)
    (fun a oe cls d pn hz hd => suit_ss fun e he hdx => hsu a oe cls d pn e ⟨hz, hd, he, hdx, ⟨G.K, G.mg⟩⟩)) fun D σ H ⟨g, st, R, q⟩ => ⟨g, st, R, ?_⟩
  unfold sTryAs at q
  cases hd : db st with
  | nx st1 => rw [hd] at q; exact q
  | rt v st1 => rw [hd] at q; exact q
  | bk st1 => rw [hd] at q; exact q
  | ct st1 => rw [hd] at q; exact q
  | bad => rw [hd] at q; exact q
  | ex e st1 =>
    rw [hd] at q
    dsimp only at q
    intro g1 σ1 H1 cls dx e1 R1 rx
    obtain ⟨C1, hC1, rfl⟩ := rx.1
    cases hI : isa e.nm x with
    | none => rw [hI] at q; exact q.elim
    | some b =>
      obtain ⟨C2, D2, m1, m2, _, _, m5⟩ := T.kit _ _ _ hI
      rw [hC1] at m1; cases m1
      rw [hC] at m2; cases m2
      refine ⟨b, by rw [G.K]; exact m5, fun hbt a na => ?_, fun hbf => ?_⟩
      · subst hbt
        rw [hI] at q
        dsimp only at q
        by_cases hl : locked st1 i = true
        · rw [if_pos hl] at q; exact q.elim
        · rw [if_neg hl] at q
          exact ⟨e, rx, g1, _, Rel.heat R1 (locked_no hl), PostS.start (Ext.cool e1) (unx_ok q)⟩
      · subst hbf
        rw [hI] at q
        exact q g1 σ1 H1 _ dx e1 R1 rx
/-! ### in the suite -/
/-- isinstance(error, X) -/
def eIsE (isa : Isa) (e : Exc) (i : Nat) (m : Str) : S → R EV := fun st => match st.get i with
  | .x => match e.at_ with
    | none => match isa e.nm m with
      | some b => .ok (.p (.bl b)) st
      | none => .bad
    | some _ => .bad
  | _ => .bad
/-- isinstance, the exception that a pin bears -/
theorem call_isP {X : Cx} {p : Addr × Obj} {D : Addr} (hp : p ∈ X.pn) (C : ExcC X.K D) (hz : Zc (.ref D) none p.2) (hf : ∃ vs, p.2.data = .fields vs) : CallR X (.builtin "isinstance") (rIsE X.K D p.1) := by
  intro pins s σ H xs us Q I r h
  obtain ⟨c, cv, b, rfl, hcv, e, q⟩ := h
  cases r with
  | cons rx rr =>
    cases rr with
    | cons rt rr =>
      cases rr
      cases rx
      have ec := hcv _ rt
      subst ec
      obtain ⟨hget, _⟩ := I.pin p (List.mem_append.mpr (.inl hp))
      obtain ⟨vs, hv⟩ := hf
      have J : PySem.W.InstAt s.heap p.1 p.2 D none := by
        obtain ⟨a, oc, od, oda, osl⟩ := p
        obtain ⟨h1, h2⟩ := hz
        dsimp only at h1 h2 hv
        subst h1 h2 hv
        exact ⟨hget, rfl, rfl, trivial⟩
      exact PySem.W.kia_one (PySem.W.handS_kitx_exc C.hg C.hk C.hs C.hd C.ha C.hn C.ht C.hm) I.kIn J e (fun z => nomatch z) fun tk => ⟨.bl b, H, I.kept (t' := tk) fun _ _ z => z, rfl, q⟩
/-- .. at a slot -/
theorem se_isP {X : Cx} {c : Ct} {W : WXs} {isa : Isa} {p : Addr × Obj} {cls : Value} {d : Option Addr} {e : Exc} {n m : Str} {i : Nat} {q1 q2 q3 pos : Pos} (G : Soft X c) (T : XT c isa) (hp : p ∈ X.pn) (hc : c.exc = some p.1) (hz : Zc cls d p.2) (hf : ∃ vs, p.2.data = .fields vs)
    (hcl : ∃ C, c.mg e.nm = some (.ref C) ∧ cls = .ref C) (hdx : e.at_ = none → d = none) (hm : c.mg "isinstance" = none) (hN : X.N[i]? = some n) (hv : Vis X.env.scope n) (hg : Gl X "isinstance") (hg2 : Gl X m)
    (hd : (n == ("__debug__" : Str)) = false) (hcd : (n == ("__classdict__" : Str)) = false) (hd2 : (m == ("__debug__" : Str)) = false) :
    SE X c W (.Call (.Name "isinstance" q1) [.Name n q2, .Name m q3] [] pos) (eIsE isa e i m) := by
  obtain ⟨C, hC, hcls⟩ := hcl
  subst hcls
  by_cases hno : e.at_ = none
  · have hd0 := hdx hno
    subst hd0
    cases hI : isa e.nm m with
    | none =>
      refine ⟨fun pins s σ H Q I h => ?_⟩
      obtain ⟨g, st, R, q⟩ := h
      unfold eIsE at q
      rw [hno, hI] at q
      cases hx : st.get i <;> rw [hx] at q <;> exact q.elim
    | some b =>
      obtain ⟨C1, D, m1, m2, xc, k1, _⟩ := T.kit _ _ _ hI
      rw [hC] at m1; cases m1
      have Ck : ExcC X.K C := by rw [G.K]; exact xc
      refine impE (pe_callB (call_isP hp Ck hz hf) hg (by rw [G.mg]; exact hm) rfl (pa_cons (pe_var hN hv hd hcd) (pa_cons (pe_glob (v := .ref D) hg2 (by rw [G.mg]; exact m2) rfl hd2) pa_nil)) (by decide) (by decide)) fun σ H Q ⟨g, st, R, q⟩ => ?_
      unfold eIsE at q
      rw [hno, hI] at q
      cases hx : st.get i with
      | x =>
        rw [hx] at q
        obtain ⟨y, h1, h2⟩ := R.at hx (fun z => nomatch z)
        cases y with
        | none => exact h2.elim
        | some y =>
          obtain ⟨a', rfl, h3⟩ := h2
          rw [hc] at h3; cases h3
          exact ⟨_, h1, ⟨.ref D, .ref D, b, rfl, fun u r => by cases r; rfl, by rw [G.K]; exact k1, q g H Ext.refl R _ (.bl b)⟩⟩
      | p v => rw [hx] at q; exact q.elim
      | o v => rw [hx] at q; exact q.elim
      | l v => rw [hx] at q; exact q.elim
      | r => rw [hx] at q; exact q.elim
      | u => rw [hx] at q; exact q.elim
  · refine ⟨fun pins s σ H Q I h => ?_⟩
    obtain ⟨g, st, R, q⟩ := h
    unfold eIsE at q
    cases ha : e.at_ with
    | none => exact absurd ha hno
    | some z => rw [ha] at q; cases hx : st.get i <;> rw [hx] at q <;> exact q.elim
end
end Y
end

section
set_option Elab.async false
set_option linter.all false
set_option maxRecDepth 100000
set_option maxHeartbeats 1000000
namespace Y
open PySem PySem.Spec PyProof.Rows L2 L2H
/-! ## a def that is given the caught exception, called in a suite -/
/-- the run of a def's call where p's exception is handled: what is wished may speak of p -/
theorem runX {CX : CXT} {P : Program} {w : World} {K : PySem.W.Frag} {mg : Str → Option Value} {base : Heap} {k : Nat} {f : Addr} {name qual : Str} {params : Arguments} {body : List Stmt} {scope : Scope} {dV kV doc pm cdv ct oc : Value} {an od : Option Addr}
    {osl : Array (Option Value)} {N ps : List Str} {A : Around} {outer : List Env} {s : Shared} {H : Hp} {args : Args} {us : List Value} {vs : List V} {Q : VK} {E : XK} {p : Addr × Obj} {t : TS}
    (lk : K.lookup f = some ⟨oc, od, .func (PySem.W.fnOf name qual params body scope dV kV doc pm an cdv ct), osl⟩) (hcd : PySem.W.codeIn K cdv qual = true) (S : FnScope N ps scope) (hl : vs.length = ps.length)
    (hr : RoomH (k + 1) A) (hpin : PinOk outer H s p) (e0 : Env0 P w K mg base A outer s H) (hb : BindsTo s (PySem.W.fnOf name qual params body scope dV kV doc pm an cdv ct) args (ps.zip us)) (r : Vals vs us)
    (ht : PSs (cxH CX P w K mg base N qual scope f cdv A outer s H E p) body t) (hq : t { nx := fun _ H' => Q .non H', rt := Q } (L2.start N vs) H) :
    codeAny (model P w) A (.call (.ref f) args) (CR CX outer P w H s Q E) s := by
  have KX : K.In s.heap := e0.mod.kin.keeps fun b o e => (e0.bs b o e).1
  have lim : s.heap.NoLimit := e0.mod.nolimit.keeps fun b o e => (e0.bs b o e).1
  have hk : ∀ y ∈ ps.zip us, scope.names.lookup y.1 = some .local ∨ (scope.names.lookup y.1 = some .cell ∧ ((cellsFrom (s.heap.objs.size + 1) scope.names []).lookup y.1).isSome = true) := fun ⟨n, v⟩ hy =>
    (S.par n (List.of_mem_zip hy).1).elim .inl fun q => .inr ⟨q, PySem.W.cellsFrom_some _ _ _ (.inl q)⟩
  refine codeAny_call_function hr.depth (KX _ _ lk) rfl S.co S.gen rfl (PySem.W.codeRec_of KX hcd) (hb _ _ _ _ (wpAny_newFunctionEnv_cells S.kind hk fun env he s1 x => ?_))
  subst he
  have I := inv_startH (CX := CX) (E := E) (f := f) (cd := cdv) (qual := qual) S hpin e0 hl r x
  refine ⟨lim.keeps x.toInCall.keep, codeAny_func (wpAny_mono (ht.run [] s1 _ H _ I hq) (fun fl s' hs => ?_) fun e s' hs => hs)⟩
  have fin : ∀ {σ' : L2.St} {H' : Hp} {v : V} {u : Value}, Inv (cxH CX P w K mg base N qual scope f cdv A outer s H E p) [] σ' H' s' → RelV v u → Q v H' → CE outer P w H s Q u s' :=
    fun J rv q => ⟨_, _, J.os, J.bare, J.base, J.hok, rv, q⟩
  cases fl with
  | ret u => obtain ⟨v, σ', H', J, rv, q⟩ := hs; exact fin J rv q
  | next => obtain ⟨σ', H', J, q⟩ := hs; exact fin (v := V.non) (u := Value.none) J rfl q
  | brk => obtain ⟨_, _, _, q⟩ := hs; exact q.elim
  | cont => obtain ⟨_, _, _, q⟩ := hs; exact q.elim
/-- what such a def computes of the exception -/
def fxD (n : Nat) (body : Exc → S → SR) : Exc → FR := fun e => fnEnd (body e ⟨.x :: List.replicate (n - 1) .u, .none⟩)
def eXCall (d : Exc → FR) (e : Exc) (i : Nat) : S → R EV := fun st => match st.get i with
  | .x => match d e with
    | .ok (.p v) _ => .ok (.p v) st
    | .ok (.f b) _ => .ok (.f b) st
    | _ => .bad
  | _ => .bad
/-- the context in the body -/
structure SuitX (X : Cx) (c : Ct) (p : Addr × Obj) (cls : Value) (d : Option Addr) (e : Exc) : Prop where
  soft : Soft X c
  hp : p ∈ X.pn
  hc : c.exc = some p.1
  zn : Zc cls d p.2
  fl : ∃ vs, p.2.data = .fields vs
  cl : ∃ C, c.mg e.nm = some (.ref C) ∧ cls = .ref C
  dx : e.at_ = none → d = none
theorem RepR.at {c : Ct} {B : Hp} {g : Gh} {H : Hp} {v : EV} {x : V} {a : Addr} (h : RepR ((c.at B).hot a) g H v x) : RepR (c.at B) g H v x := by
  cases v with
  | p v => exact Rep.hot h
  | f b => obtain ⟨a, e1, e2, e3, e4⟩ := h; exact ⟨a, e1, e2, e3, e4.hot⟩
  | s i => exact h
  | r => exact h
theorem Fin.hot {c : Ct} {g : Gh} {H : Hp} {b : Ob} {a : Addr} (h : Fin (c.hot a) g H b) : Fin c g H b := ⟨h.dom, h.rfu, h.rf.imp_right fun ⟨a, h1, h2⟩ => ⟨a, h1, h2.hot⟩⟩
theorem se_xcall {X : Cx} {c : Ct} {W : WXs} {k : Nat} {x n qual : Str} {params : Arguments} {stms : List Stmt} {scope : Scope} {f : Addr} {fd : FuncData} {N : List Str} {y : Str} {i : Nat} {body : Exc → S → SR} {a : Addr} {oe : Obj} {cls : Value} {d : Option Addr} {pn : List (Addr × Obj)} {e : Exc} {q1 q2 pos : Pos}
    (G : Good X c (k + 1)) (Z : Suit X c a oe cls d pn e) (F : FunD c.K x qual params stms scope [] [] f fd) (S : FnScope N [y] scope) (hm : c.mg x = some (.ref f)) (hk : PySem.W.keepIn c.K (.ref f) = true) (hb : Binds c.K fd [y] [])
    (h : ∀ (cdv : Value) (A : Around) (outer : List Env) (s : Shared) (H : Hp), SuitX (cxH (L2N.CX c.P c.w) c.P c.w c.K c.mg c.base N qual scope f cdv A outer s H (fun _ _ _ => False) (a, oe)) ((c.at H).hot a) (a, oe) cls d e →
      SSs (cxH (L2N.CX c.P c.w) c.P c.w c.K c.mg c.base N qual scope f cdv A outer s H (fun _ _ _ => False) (a, oe)) ((c.at H).hot a) WF stms (body e))
    (hN : X.N[i]? = some n) (hv : Vis X.env.scope n) (hg : Gl X x) (hd : (n == ("__debug__" : Str)) = false) (hcd : (n == ("__classdict__" : Str)) = false) (hd2 : (x == ("__debug__" : Str)) = false) :
    SE (X.suite a ((a, oe) :: pn)) (c.hot a) W (.Call (.Name x q1) [.Name n q2] [] pos) (eXCall (fxD N.length body) e i) := by
  refine ⟨fun pins s σ H Q I ⟨g, st, R, q⟩ => ?_⟩
  unfold eXCall at q
  cases hx : st.get i with
  | p v => rw [hx] at q; exact q.elim
  | o v => rw [hx] at q; exact q.elim
  | l v => rw [hx] at q; exact q.elim
  | r => rw [hx] at q; exact q.elim
  | u => rw [hx] at q; exact q.elim
  | x =>
    rw [hx] at q
    dsimp only at q
    obtain ⟨w, h1, h2⟩ := R.at hx (fun z => nomatch z)
    cases w with
    | none => exact h2.elim
    | some w =>
      obtain ⟨a', rfl, h3⟩ := h2
      cases h3
      have hg' : Gl (X.suite a ((a, oe) :: pn)) x := hg
      refine wpAny_Call_Name_kw (ld_glob I hg' (show X.mg x = some (.ref f) by rw [G.mg]; exact hm) ?_ hd2)
      have PA1 : PA (X.suite a ((a, oe) :: pn)) [.Name n q2] (tCons (tVar i) tNil) := pa_cons (pe_var hN hv hd hcd) pa_nil
      refine PySem.W.callWith_K (h₀ := X.base) I.ok.mod.kin (show PySem.W.keepIn X.K (.ref f) = true by rw [G.K]; exact hk) (thn (PA1.run pos pins s σ H (fun vs H1 => vs = [V.ref a] ∧ H1 = H) I ⟨.ref a, h1, rfl, rfl⟩) fun us s1 ⟨vs, H1, I1, r, ev, eH⟩ => ⟨I1.kIn, ?_⟩) (by rfl) (by rfl)
      subst ev
      subst eH
      obtain ⟨P1, P2, P3, P4, P5⟩ := I1.pin (a, oe) (List.mem_append.mpr (.inl List.mem_cons_self))
      have hpin : PinOk (X.suite a ((a, oe) :: pn)).stack H1 s1 (a, oe) := ⟨P1, P2, fun hm => (List.mem_cons.mp (I1.stkSub a hm)).elim P3 P4, P5⟩
      have hl : us.length = [y].length := by rw [← r.length]; rfl
      have b := hb s1 us (by rw [← G.K]; exact I1.kIn) (by rw [List.append_nil]; exact hl)
      rw [List.append_nil] at b
      obtain ⟨oc, od, dV, kV, doc, pm, an, cdv, ct, osl, rfl, lk, hcd', _, _⟩ := F.ex
      have e0 := I1.env0
      have hr : RoomH (k + 1) (X.suite a ((a, oe) :: pn)).A := ⟨G.hr.dp, G.hr.un⟩
      have eP : (X.suite a ((a, oe) :: pn)).prog = c.P := G.P
      have ew : (X.suite a ((a, oe) :: pn)).w = c.w := G.w
      have eK : (X.suite a ((a, oe) :: pn)).K = c.K := G.K
      have em : (X.suite a ((a, oe) :: pn)).mg = c.mg := G.mg
      have eb : (X.suite a ((a, oe) :: pn)).base = c.base := G.base
      rw [eP, ew, eK, em, eb] at e0
      have HB := h cdv (X.suite a ((a, oe) :: pn)).A (X.suite a ((a, oe) :: pn)).stack s1 H1 ⟨⟨rfl, rfl⟩, List.mem_cons_self, rfl, Z.zn.zc, Z.fl, Z.cl, Z.dx⟩
      -- the callee's start
      have A0 : CallAt (c.hot a) g g H1 H1 st σ none .none := ⟨Ext.refl, R, fun _ => rfl, fun a z => nomatch z⟩
      have R1 : Rel (c.hot a |>.at H1) (calG g none) ⟨[], .none⟩ (([] : List V).map some) H1 := A0.rel (fun _ _ => trivial) (.inl (show RepB (c.hot a) g g H1 σ none [] [] from trivial))
      have R2 : Rel ((c.at H1).hot a) (calG g none) ⟨[.x], .none⟩ ([V.ref a].map some) H1 := by
        refine ⟨rfl, fun j sv z q1 q2 => ?_, R1.rf, R1.rfu, R1.dom, R1.young, fun b j z => ?_, R1.grow⟩
        · cases j with
          | zero => cases q1; cases q2; exact ⟨a, rfl, rfl⟩
          | succ j => cases j <;> cases q1
        · obtain ⟨ob, z1, _⟩ := R1.lkd b j z
          cases z1
      have R3 := rel_start (N := N) R2
      have fin : ∀ (QQ : VK), (match fxD N.length body e with
          | .ok v rf' => ∀ g' H' x, Ext ((c.at H1).hot a) (calG g none) H1 g' H' → Fin ((c.at H1).hot a) g' H' rf' → RepR ((c.at H1).hot a) g' H' v x → QQ x H'
          | .ex e rf' => False
          | .bad => False) → PostS ((c.at H1).hot a) WF { nx := fun _ H' => QQ .non H', rt := QQ } (calG g none) H1 (body e ⟨[.x] ++ List.replicate (N.length - [SV.x].length) .u, .none⟩) := by
        intro QQ hq
        refine fn_end (c := (c.at H1).hot a) (W := WF) (E := fun _ _ _ => False) (Q := QQ) ?_
        have e1 : fnEnd (body e ⟨[.x] ++ List.replicate (N.length - [SV.x].length) .u, .none⟩) = fxD N.length body e := rfl
        rw [e1]
        revert hq
        cases fxD N.length body e with
        | ok v b => exact id
        | ex e b => exact False.elim
        | bad => exact id
      have key : (match fxD N.length body e with
          | .ok v rf' => ∀ g' H' x, Ext ((c.at H1).hot a) (calG g none) H1 g' H' → Fin ((c.at H1).hot a) g' H' rf' → RepR ((c.at H1).hot a) g' H' v x → Q x H'
          | .ex e rf' => False
          | .bad => False) := by
        have nxt : ∀ {gc : Gh} {H' : Hp} {b' : Ob} {v : EV} {x : V}, Ext ((c.at H1).hot a) (calG g none) H1 gc H' → Fin ((c.at H1).hot a) gc H' b' → RepR ((c.at H1).hot a) gc H' v x → ∃ g', Ext (c.hot a) g H1 g' H' ∧ Rel (c.hot a) g' st σ H' ∧ RepE (c.hot a) g g' H' σ v x :=
          fun Ec Fc r => A0.state (c := c.hot a) (fun a z => nomatch z) Ec Fc r
        revert q
        cases fxD N.length body e with
        | ok v b =>
          cases v with
          | p w =>
            intro q g' H' x Ec Fc r
            obtain ⟨g2, E2, R2, r2⟩ := nxt Ec Fc r
            exact q g2 H' E2 R2 x r2
          | f w =>
            intro q g' H' x Ec Fc r
            obtain ⟨g2, E2, R2, r2⟩ := nxt Ec Fc r
            exact q g2 H' E2 R2 x r2
          | s i => exact fun z => z.elim
          | r => exact fun z => z.elim
        | ex e b => exact fun z => z.elim
        | bad => exact fun z => z.elim
      have run := runX (CX := L2N.CX c.P c.w) (E := fun _ _ _ => False) (Q := Q) lk hcd' S rfl hr hpin e0 b r HB ⟨calG g none, _, R3, fin Q key⟩
      rw [← eP, ← ew] at run
      refine wpAny_call (codeAny_mono run fun r s' hq => ?_)
      cases r with
      | error e =>
        obtain ⟨_, _, _, _, _, _, _, _, _, _, _, _, z⟩ := hq
        exact z.elim
      | ok fl =>
        cases fl with
        | ret u => exact I1.after hq
        | next => exact False.elim hq
        | brk => exact False.elim hq
        | cont => exact False.elim hq
theorem XT.hot {c : Ct} {isa : Isa} (T : XT c isa) (a : Addr) : XT (c.hot a) isa := ⟨T.kit⟩
theorem XT.at {c : Ct} {isa : Isa} (T : XT c isa) (H : Hp) : XT (c.at H) isa := ⟨T.kit⟩
/-- isinstance(error, X) in the suite -/
theorem se_isS {X : Cx} {c : Ct} {W : WXs} {isa : Isa} {a : Addr} {oe : Obj} {cls : Value} {d : Option Addr} {pn : List (Addr × Obj)} {e : Exc} {n m : Str} {i : Nat} {q1 q2 q3 pos : Pos} (Z : Suit X c a oe cls d pn e) (T : XT c isa) (hm : c.mg "isinstance" = none) (hN : X.N[i]? = some n) (hv : Vis X.env.scope n) (hg : Gl X "isinstance") (hg2 : Gl X m)
    (hd : (n == ("__debug__" : Str)) = false := by decide) (hcd : (n == ("__classdict__" : Str)) = false := by decide) (hd2 : (m == ("__debug__" : Str)) = false := by decide) :
    SE (X.suite a ((a, oe) :: pn)) (c.hot a) W (.Call (.Name "isinstance" q1) [.Name n q2, .Name m q3] [] pos) (eIsE isa e i m) :=
  se_isP (X := X.suite a ((a, oe) :: pn)) (c := c.hot a) Z.soft (T.hot a) List.mem_cons_self rfl Z.zn.zc Z.fl Z.cl Z.dx hm hN hv hg hg2 hd hcd hd2
/-- .. in a def that was given it -/
theorem se_isX {X : Cx} {c : Ct} {W : WXs} {isa : Isa} {p : Addr × Obj} {cls : Value} {d : Option Addr} {e : Exc} {n m : Str} {i : Nat} {q1 q2 q3 pos : Pos} (Z : SuitX X c p cls d e) (T : XT c isa) (hm : c.mg "isinstance" = none) (hN : X.N[i]? = some n) (hv : Vis X.env.scope n) (hg : Gl X "isinstance") (hg2 : Gl X m)
    (hd : (n == ("__debug__" : Str)) = false := by decide) (hcd : (n == ("__classdict__" : Str)) = false := by decide) (hd2 : (m == ("__debug__" : Str)) = false := by decide) :
    SE X c W (.Call (.Name "isinstance" q1) [.Name n q2, .Name m q3] [] pos) (eIsE isa e i m) :=
  se_isP Z.soft T Z.hp Z.hc Z.zn Z.fl Z.cl Z.dx hm hN hv hg hg2 hd hcd hd2
end Y
end

section
set_option Elab.async false
set_option linter.all false
set_option maxRecDepth 100000
set_option maxHeartbeats 1000000
namespace Y
open PySem PySem.Spec PyProof.Rows L2
/-! ## the end of a law -/
/-- a law over the layer: what is let out may speak of the world -/
theorem walk_y {l : PySem.W.OpenLaw} {n k : Nat} {q : Program} {loose : List Str} {XP : (Str → Option Value) → Heap → Prop} {YP : World → Heap → Prop} {d : DefRec} {CX : World → CXT} {x : Str}
    (hn : l.most = some n) (hn2 : n ≤ sizeLine) (hdf : d.params.defaults = []) (hr : Room k callerA)
    (F : ∀ (w : World) (mg : Str → Option Value) (fa : Addr) (h : Heap), YP w h → h.Ns mainGlobals mg → mg d.name = some (.ref fa) →
      ∃ (K : PySem.W.Frag) (fd : FuncData) (sp : Sp), K.In h ∧ (∀ (s : Shared) (u : Value), BindsTo s fd ⟨[u], []⟩ [(x, u)]) ∧
        (∀ (H : Hp) (a : Addr) (ns : List Int), ns.length ≤ n → Only H → SqL K H a (ns.map V.int) → sp [.ref a] H (fun v _ => v = .bl true) fun _ _ _ => False) ∧
        ∀ base : Heap, K.In base → base.Ns mainGlobals mg → FnOk l.prog w K mg base (CX w) k fa fd [x] sp)
    (hCX : ∀ (w : World) (H : Hp) (s : Shared) (e : Value) (s' : Shared), CX w [] H s (fun _ _ _ => False) e s' → False) :
    PySem.W.WalkO q loose XP YP l.row.toRowW d [] (fun f vs => PySem.call f vs) := by
  refine Att.attach_call hn hdf fun w s₀ s₁ mg mb fa o pm cd doc a vs ns G Y ho hd hcd hmg hobj hints hlen hg => ?_
  obtain ⟨K, fd, sp, KX, hb, hsp, hF⟩ := F w mg fa _ Y G.T.g hmg
  exact law_call KX G.T.g G.T.b G.T.builtins G.T.nolimit hg hobj hints (Nat.le_trans hlen hn2) hr hF hb (fun H hO hS => hsp H a ns hlen hO hS) fun H e s' => hCX w H s₁ e s'
theorem cx_none {P : Program} {w : World} {H : Hp} {s : Shared} {e : Value} {s' : Shared} (h : L2N.CX P w [] H s (fun _ _ _ => False) e s') : False := by
  obtain ⟨_, _, _, _, _, _, _, _, _, _, _, _, z⟩ := h
  exact z
/-! ### the head's facts about classes -/
/-- an own class may be asked after -/
def exB (K : PySem.W.Frag) (x : Str) : Bool := let D := He.ga K x
  decide (PySem.W.findIn K (.ref D) "__getattribute__" = some (some (.builtin "BaseException.__getattribute__"))) && (decide (PySem.W.findIn K (.ref D) "__getattr__" = some none) && (decide (PySem.W.subIn K (.ref D) (.type "BaseException") = some true) &&
    (PySem.W.hasDictIn K D && (decide (PySem.W.findIn K (.ref D) "__class__" = some (some (.builtin "object.__class__"))) && (decide (PySem.W.specialIn K (.builtin "object.__class__") "__get__" = some (some (.builtin "getset_descriptor.__get__"))) &&
      (decide (PySem.W.takesIn K (.builtin "object.__class__") = some true) && decide (PySem.W.mroIn K D (.type "object") = some true)))))))
theorem exB_ok {K : PySem.W.Frag} {x : Str} (h : exB K x = true) : ExcC K (He.ga K x) := by
  unfold exB at h
  simp only [Bool.and_eq_true, decide_eq_true_eq] at h
  obtain ⟨a, b, c, d, e, f, g, i⟩ := h
  exact ⟨a, b, c, d, e, f, g, i⟩
/-- .. all pairs of a table -/
abbrev IsaT := List (Str × List (Str × Bool))
def isaOf (t : IsaT) : Isa := fun n m => (t.lookup n).bind fun r => r.lookup m
def glB (K : PySem.W.Frag) (x : Str) : Bool := (He.Fa.glo x).ok K
def isaB (t : IsaT) (K : PySem.W.Frag) : Bool := t.all fun p => glB K p.1 && (exB K p.1 && p.2.all fun q => glB K q.1 && (decide (PySem.W.kitOne K (.ref (He.ga K p.1)) (.ref (He.ga K q.1)) = some q.2) && decide (PySem.W.exmOne K (.ref (He.ga K p.1)) (.ref (He.ga K q.1)) = some q.2)))
theorem lookup_mem {α β : Type} [BEq α] [LawfulBEq α] {x : α} {y : β} : ∀ {l : List (α × β)}, l.lookup x = some y → (x, y) ∈ l
  | [], h => by cases h
  | (a, b) :: l, h => by
    rw [List.lookup_cons] at h
    by_cases e : (x == a) = true
    · rw [e] at h; cases h; rw [eq_of_beq e]; exact List.mem_cons_self
    · rw [Bool.not_eq_true] at e; rw [e] at h; exact List.mem_cons_of_mem _ (lookup_mem h)
theorem isaB_ok {c : Ct} {h : Heap} {t : IsaT} (X : c.K.In h) (G : h.Ns mainGlobals c.mg) (b : isaB t c.K = true) : XT c (isaOf t) := by
  refine ⟨fun n m r e => ?_⟩
  unfold isaOf at e
  cases e1 : t.lookup n with
  | none => rw [e1] at e; cases e
  | some row =>
    rw [e1] at e
    have e : row.lookup m = some r := e
    have hb := List.all_eq_true.mp b _ (lookup_mem e1)
    simp only [Bool.and_eq_true] at hb
    obtain ⟨b1, b2, b3⟩ := hb
    have hq := List.all_eq_true.mp b3 _ (lookup_mem e)
    simp only [Bool.and_eq_true, decide_eq_true_eq] at hq
    obtain ⟨c1, c2, c3⟩ := hq
    exact ⟨_, _, He.glo_ok X G b1, He.glo_ok X G c1, exB_ok b2, c2, c3⟩
theorem xc_ok {c : Ct} {h : Heap} {x : Str} (X : c.K.In h) (G : h.Ns mainGlobals c.mg) (b : (He.Fa.glo x).ok c.K = true) (e : (He.Fa.exc x).ok c.K = true) : XC c x := by
  obtain ⟨h1, h2, h3, h4⟩ := He.exc_ok e
  exact ⟨_, He.glo_ok X G b, h1, h2, h3, h4⟩
end Y
end

section
set_option Elab.async false
set_option linter.all false
set_option maxRecDepth 100000
set_option maxHeartbeats 1000000
namespace Y
open PySem PySem.Spec PyProof.Rows L2
/-! ## what is not walked -/
def eBad : S → R EV := fun _ => .bad
def tBad : S → R Bool := fun _ => .bad
def sBad : S → SR := fun _ => .bad
abbrev sBrk : S → SR := fun st => .bk st
abbrev sCnt : S → SR := fun st => .ct st
section
variable {X : Cx} {c : Ct} {W : WXs} {k : Nat} {pos : Pos} {a e : Expr} {d da : S → R EV}
theorem se_bad : SE X c W e eBad := ⟨fun _ _ _ _ _ _ ⟨_, _, _, q⟩ => q.elim⟩
theorem st_bad : ST X c W e tBad := ⟨fun _ _ _ _ _ _ ⟨_, _, _, q⟩ => q.elim⟩
theorem s_bad {s : Stmt} : SS X c W s sBad := ⟨fun _ _ _ _ _ _ ⟨_, _, _, q⟩ => q.elim⟩
theorem ss_bad {s : List Stmt} : SSs X c W s sBad := ⟨fun _ _ _ _ _ _ ⟨_, _, _, q⟩ => q.elim⟩
def eNeg (d : S → R EV) : S → R EV := fun st => (d st).bind fun v st1 => match v with
  | .p (.int i) => .ok (.p (.int (-i))) st1
  | _ => .bad
theorem se_neg (h : SE X c W a d) : SE X c W (.UnaryOp .USub a pos) (eNeg d) :=
  impE (pe_un un_neg h) fun σ H Q ⟨g, st, R, q⟩ => by
    refine ⟨g, st, R, q.bind.mono fun v st1 g1 H1 e1 R1 q1 x rx => ?_⟩
    match v, q1 with
    | .p (.int i), q1 => cases rx; exact ⟨i, rfl, q1 g1 H1 Ext.refl R1 _ (.int _)⟩
end
/-! ## targets that are computed -/
abbrev TF := Val → S → SR
def QN (Q : Sig → Hp → Prop) : Ends := { nx := Q, rt := fun _ _ => False }
def tGx (c : Ct) (W : WXs) (f : TF) : TG := fun v σ H Q => ∃ g st w, Rel c g st σ H ∧ Rep c g H w v ∧ PostS c W (QN Q) g H (f w st)
def SGx (X : Cx) (c : Ct) (W : WXs) (e : Expr) (f : TF) : Prop := PG X e (tGx c W f)
def tfs : List TF → List Val → S → SR
  | [], [], st => .nx st
  | f :: fs, w :: ws, st => (f w st).seq (tfs fs ws)
  | _, _, _ => .bad
def tGsx (c : Ct) (W : WXs) (fs : List TF) : TGs := fun vs σ H Q => ∃ g st ws, Rel c g st σ H ∧ Reps c g H ws vs ∧ PostS c W (QN Q) g H (tfs fs ws st)
def SGsx (X : Cx) (c : Ct) (W : WXs) (es : List Expr) (fs : List TF) : Prop := PGs X es (tGsx c W fs)
def tfN (i : Nat) : TF := fun w st => if locked st i then .bad else .nx (st.set i (.p w))
def tfS (f : Val → Val → Ob → Option Ob) (dx di : S → R EV) : TF := fun w st => (dx st).stm fun o st2 => (keep1 di st2).stm fun i st3 => mutS o st3 (f i w)
def tfT (fs : List TF) : TF := fun w st => match w with
  | .tup ws => if ws.length = fs.length then tfs fs ws st else .bad
  | _ => .bad
def sAsgx (f : TF) (d : S → R EV) : S → SR := fun st => (keep1 d st).stm f
def sAsgx2 (f f2 : TF) (d : S → R EV) : S → SR := fun st => (keep1 d st).stm fun w st1 => (f w st1).seq (f2 w)
section
variable {X : Cx} {c : Ct} {W : WXs} {k : Nat} {pos tpos : Pos} {o i e tg tg2 : Expr} {es : List Expr} {d dx di : S → R EV} {f : Val → Val → Ob → Option Ob} {t t2 : TF} {ts : List TF}
theorem sgx_name {j : Nat} {x : Str} (hN : X.N.Nodup) (hi : X.N[j]? = some x := by rfl) (hx : Loc X.env.scope x := by first | exact Or.inl rfl | exact Or.inr rfl) (hf : X.fn x = true ∨ X.env.scope.names.lookup x = some .local := by first | exact .inl rfl | exact .inr rfl | assumption) : SGx X c W (.Name x pos) (tfN j) := by
  refine ⟨fun pins s σ H v u Q I r ⟨g, st, w, R, rw', q⟩ => (pg_name hN hi hx hf).run pins s σ H v u Q I r ?_⟩
  unfold tfN at q
  by_cases hl : locked st j = true
  · rw [if_pos hl] at q; exact q.elim
  · rw [if_neg hl] at q
    exact q g _ H Ext.refl (R.setP j (locked_no hl) rw')
theorem sgx_sub (hs : PSet X (rSet c f)) (f0 : ∀ i w, f i w .none = none) (ho : SE X c W o dx) (hi : SE X c W i di)
    (hg : PG X (.Subscript o i tpos) (gSub (tE c W dx) (tE c W di) (rSet c f))) : SGx X c W (.Subscript o i tpos) (tfS f dx di) := by
  refine ⟨fun pins s σ H v u Q I r ⟨g, st, w, R, r2, q⟩ => hg.run pins s σ H v u Q I r ?_⟩
  refine ⟨g, st, R, (stm_ok0 q).mono fun ov st3 g3 H3 e3 R3 q3 y ry => ?_⟩
  refine ⟨g3, st3, R3, (keep_stm (PostS.start e3 q3)).mono fun iv st4 g4 H4 _ _ h z rz => ?_⟩
  obtain ⟨i', st5, g5, e5, R5, r5, q5⟩ := h z rz
  obtain ⟨a, b, b', ob, rfl, hg, rb, hob, hm, hf, next⟩ := mutS_ok Ext.refl R5 (by
    have := RepE.ext e5 ry
    cases ov with
    | p v => exact this
    | f v => exact q5.elim
    | s i => exact this
    | r => exact this) (f0 _ _) q5
  exact ⟨a, b, b', ob, g5, i', w, rfl, hob, hm, fun o' w z h => Rep.ext (ext_write hg hob hm) h, rb, r5, Rep.ext (e3.trans e5) r2, hf, next⟩
theorem sgsx_nil : SGsx X c W [] [] := by
  refine ⟨fun pins s σ H vs us Q I r ⟨g, st, ws, R, rs, q⟩ => pgs_nil.run pins s σ H vs us Q I r ?_⟩
  cases rs with
  | nil => exact ⟨rfl, q g σ H Ext.refl R⟩
  | cons _ _ => exact q.elim
theorem sgsx_cons (h1 : SGx X c W e t) (h2 : SGsx X c W es ts) (hs : (assignEach (e :: es) X.env).map (·.2) = assign e X.env :: (assignEach es X.env).map (·.2) := by rfl) : SGsx X c W (e :: es) (t :: ts) := by
  refine ⟨fun pins s σ H vs us Q I r ⟨g, st, ws, R, rs, q⟩ => (pgs_cons h1 h2 hs).run pins s σ H vs us Q I r ?_⟩
  cases rs with
  | nil => exact q.elim
  | @cons w x ws xs r1 rs =>
    refine ⟨x, xs, rfl, g, st, w, R, r1, ?_⟩
    have q : PostS c W (QN Q) g H ((t w st).seq (tfs ts ws)) := q
    revert q
    cases t w st with
    | nx st1 => exact fun q g' σ' H' e' R' => ⟨g', st1, ws, R', rs.ext e', PostS.start e' q⟩
    | rt v st1 => exact fun q => q
    | bk st1 => exact fun q => q
    | ct st1 => exact fun q => q
    | ex e st1 => exact fun q => q
    | bad => exact fun q => q
theorem sgx_tup {kk : Nat} (G : Good X c k) (h : SGsx X c W es ts) (hlen : ts.length = es.length := by rfl) (hn : (assignEach es X.env).length = es.length := by rfl) (hst : (assignEach es X.env).findIdx? (·.1) = none := by rfl) : SGx X c W (.Tuple es kk pos) (tfT ts) := by
  refine ⟨fun pins s σ H v u Q I r ⟨g, st, w, R, rw', q⟩ => (pg_tup G.calm h hn hst).run pins s σ H v u Q I r ?_⟩
  unfold tfT at q
  cases rw' with
  | tup h1 rs =>
    dsimp only at q
    split at q
    · rename_i hl
      exact ⟨_, _, rfl, SqT.of h1, by rw [← rs.length, hl, hlen], g, st, _, R, rs, q⟩
    · exact q.elim
  | _ => exact q.elim
theorem asgx_fin {D : Ends} {g : Gh} {H : Hp} {r : SR} (hq : PostS c W D g H r) (hr : ∀ v st, r ≠ .rt v st) (hb : ∀ st, r ≠ .bk st) (hc : ∀ st, r ≠ .ct st) : PostS c W (QN D.nx) g H r := by
  cases r with
  | nx st => exact hq
  | rt v st => exact absurd rfl (hr v st)
  | bk st => exact absurd rfl (hb st)
  | ct st => exact absurd rfl (hc st)
  | ex e st => exact hq
  | bad => exact hq
/-- a target's function neither returns nor leaves a loop -/
def SR.lone : SR → SR
  | .nx st => .nx st
  | .ex e st => .ex e st
  | _ => .bad
theorem lone_ok {D : Ends} {g : Gh} {H : Hp} {r : SR} (hq : PostS c W D g H r.lone) : PostS c W (QN D.nx) g H r := by
  cases r with
  | nx st => exact hq
  | rt v st => exact hq.elim
  | bk st => exact hq.elim
  | ct st => exact hq.elim
  | ex e st => exact hq
  | bad => exact hq
def sAsgX (f : TF) (d : S → R EV) : S → SR := fun st => (keep1 d st).stm fun w st1 => (f w st1).lone
def sAsgX2 (f f2 : TF) (d : S → R EV) : S → SR := fun st => (keep1 d st).stm fun w st1 => ((f w st1).lone).seq fun st2 => (f2 w st2).lone
theorem s_asgx (h : SE X c W e d) (ht : SGx X c W tg t) (hs : swapsWithSole [tg] e pos.line X.env = pure false := by rfl) (hw : swappedStores [tg] e X.env = pure none := by rfl)
    (h1 : (assignEach [tg] X.env).map (·.2) = [assign tg X.env] := by rfl) : SS X c W (.Assign [tg] e pos) (sAsgX t d) :=
  impS (ps_asg h ht hs hw h1) fun D σ H ⟨g, st, R, q⟩ => by
    refine ⟨g, st, R, (keep_stm q).mono fun v st1 g1 H1 _ _ h x rx => ?_⟩
    obtain ⟨w, st2, g2, e2, R2, r2, q2⟩ := h x rx
    exact ⟨g2, st2, w, R2, r2, lone_ok q2⟩
theorem s_asgx2 (h : SE X c W e d) (ht : SGx X c W tg t) (ht2 : SGx X c W tg2 t2) (ha : (assignEach [tg, tg2] X.env).map (·.2) = [assign tg X.env, assign tg2 X.env] := by rfl) (hw : swappedStores [tg, tg2] e X.env = pure none := by rfl) :
    SS X c W (.Assign [tg, tg2] e pos) (sAsgX2 t t2 d) :=
  impS (ps_asg2 h ht ht2 ha hw) fun D σ H ⟨g, st, R, q⟩ => by
    refine ⟨g, st, R, (keep_stm q).mono fun v st1 g1 H1 _ _ h x rx => ?_⟩
    obtain ⟨w, st2, g2, e2, R2, r2, q2⟩ := h x rx
    refine ⟨g2, st2, w, R2, r2, ?_⟩
    revert q2
    cases t w st2 with
    | nx st3 => exact fun q2 g' σ' H' e' R' => ⟨g', st3, w, R', Rep.ext e' r2, lone_ok (PostS.start e' q2)⟩
    | rt v st3 => exact fun q2 => q2.elim
    | bk st3 => exact fun q2 => q2.elim
    | ct st3 => exact fun q2 => q2.elim
    | ex e st3 => exact fun q2 => q2
    | bad => exact fun q2 => q2.elim
end
/-! ## dicts: by keys -/
def keyOf : Val → Option Key
  | .int i => some (.inl i)
  | .str x => some (.inr x)
  | _ => none
def keysOf : List Val → Option (List Key)
  | [] => some []
  | v :: vs => (keyOf v).bind fun k => (keysOf vs).map (k :: ·)
section
variable {κ : Type} [DecidableEq κ]
def lookL (ks : List κ) (vs : List Val) (k : κ) : Option Val := ((ks.zip vs).find? fun p => decide (p.1 = k)).map (·.2)
/-- in its place, or at the end -/
def putL (ks : List κ) (vs : List Val) (k : κ) (v : Val) : List κ × List Val :=
  if ks.contains k then (ks, (ks.zip vs).map fun p => if p.1 = k then v else p.2) else (ks ++ [k], vs ++ [v])
end
section
variable {κ : Type} [DecidableEq κ] {c : Ct} {g : Gh} {H : Hp}
theorem look_rep : ∀ {ks : List κ} {vs : List Val} {us : List V} {k : κ}, Reps c g H vs us → (∀ v, lookL ks vs k = some v → ∃ x, valV (ks.zip us) k = some x ∧ Rep c g H v x) ∧ (lookL ks vs k = none → valV (ks.zip us) k = none)
  | [], _, _, _, _ => ⟨(fun v h => by simp [lookL] at h), fun _ => rfl⟩
  | _ :: _, [], _, _, .nil => ⟨(fun v h => by simp [lookL] at h), fun _ => rfl⟩
  | j :: ks, v :: vs, x :: us, k, .cons r t => by
    by_cases e : j = k
    · refine ⟨fun w h => ⟨x, ?_, ?_⟩, fun h => ?_⟩
      · simp [valV, e]
      · simp [lookL, e] at h; subst h; exact r
      · simp [lookL, e] at h
    · have ih := look_rep (ks := ks) (k := k) t
      have e1 : lookL (j :: ks) (v :: vs) k = lookL ks vs k := by simp [lookL, e]
      have e2 : valV ((j :: ks).zip (x :: us)) k = valV (ks.zip us) k := by simp [valV, e]
      rw [e1, e2]; exact ih
theorem zip_any {κ : Type} [DecidableEq κ] {k : κ} : ∀ {ks : List κ} {us : List V}, ks.length = us.length → ((ks.zip us).any fun kv => decide (kv.1 = k)) = ks.contains k
  | [], _, _ => rfl
  | _ :: _, [], h => by cases h
  | j :: ks, u :: us, h => by
    rw [List.zip_cons_cons, List.any_cons, List.contains_cons, zip_any (Nat.succ.inj h)]
    congr 1
    by_cases e : j = k
    · simp [e]
    · simp [e, Ne.symm e]
theorem zip_put {k : κ} {x : V} : ∀ {ks : List κ} {us : List V}, ks.length = us.length → (ks.zip us).map (fun kv => if kv.1 = k then (kv.1, x) else kv) = ks.zip ((ks.zip us).map fun p => if p.1 = k then x else p.2)
  | [], _, _ => rfl
  | _ :: _, [], h => by cases h
  | j :: ks, u :: us, h => by
    simp only [List.zip_cons_cons, List.map_cons]
    rw [zip_put (Nat.succ.inj h)]
    congr 1
    by_cases e : j = k <;> simp [e]
theorem reps_put {k : κ} {v : Val} {x : V} (r : Rep c g H v x) : ∀ {ks : List κ} {vs : List Val} {us : List V}, Reps c g H vs us → Reps c g H ((ks.zip vs).map fun p => if p.1 = k then v else p.2) ((ks.zip us).map fun p => if p.1 = k then x else p.2)
  | [], _, _, _ => .nil
  | _ :: _, [], _, .nil => .nil
  | j :: ks, _, _, .cons r1 t => by
    simp only [List.zip_cons_cons, List.map_cons]
    by_cases e : j = k
    · simp only [e, if_true]; exact .cons r (reps_put r t)
    · simp only [e, if_false]; exact .cons r1 (reps_put r t)
theorem put_rep {ks : List κ} {vs : List Val} {us : List V} {k : κ} {v : Val} {x : V} (h : ks.length = us.length) (rs : Reps c g H vs us) (r : Rep c g H v x) :
    ∃ us', putK (ks.zip us) k x = (putL ks vs k v).1.zip us' ∧ (putL ks vs k v).1.length = us'.length ∧ Reps c g H (putL ks vs k v).2 us' := by
  unfold putK putL
  rw [zip_any h]
  cases ks.contains k with
  | true =>
    refine ⟨_, zip_put h, ?_, reps_put r rs⟩
    simp [h]
  | false =>
    refine ⟨us ++ [x], ?_, ?_, rs.append (.cons r .nil)⟩
    · show ks.zip us ++ [(k, x)] = (ks ++ [k]).zip (us ++ [x])
      rw [List.zip_append h]; rfl
    · show (ks ++ [k]).length = (us ++ [x]).length
      simp [h]
end
end Y
end

section
set_option Elab.async false
set_option linter.all false
set_option maxRecDepth 100000
set_option maxHeartbeats 1000000
namespace Y
open PySem PySem.Spec PyProof.Rows L2
/-! ## dicts: reading -/
def lookV : Val → Val → Option (Option Val)
  | .dk ks vs, k => (keyOf k).map (lookL ks vs)
  | .dt ks vs, .tup ws => (keysOf ws).map (lookL ks vs)
  | _, _ => none
section
variable {c : Ct} {g : Gh} {H : Hp} {x y : V}
theorem key_rep {v : Val} {k : Key} (r : RepP c g H v y) (h : keyOf v = some k) : y = kV k := by
  cases v with
  | int i => cases h; cases r; rfl
  | str i => cases h; cases r; rfl
  | _ => cases h
theorem keys_rep : ∀ {vs : List Val} {us : List V} {ks : List Key}, Reps c g H vs us → keysOf vs = some ks → us = ks.map kV
  | [], _, _, .nil, h => by cases h; rfl
  | v :: vs, _, ks, .cons r t, h => by
    unfold keysOf at h
    cases e : keyOf v with
    | none => rw [e] at h; cases h
    | some k =>
      rw [e] at h
      cases e2 : keysOf vs with
      | none => rw [e2] at h; cases h
      | some js =>
        rw [e2] at h
        cases h
        rw [key_rep r.peek e, keys_rep t e2]; rfl
theorem look_ok {d k : Val} {o : Option Val} (rx : RepP c g H d x) (ry : RepP c g H k y) (h : lookV d k = some o) :
    ∃ a ov, x = .ref a ∧ DGet H a y ov ∧ (∀ v, o = some v → ∃ z, ov = some z ∧ Rep c g H v z) ∧ (o = none → ov = none) := by
  cases d with
  | dk ks vs =>
    obtain ⟨a, rfl, us, h1, h2, h3⟩ := rx
    cases e : keyOf k with
    | none => simp [lookV, e] at h
    | some k' =>
      simp [lookV, e] at h
      subst h
      have l := look_rep (ks := ks) (k := k') h3
      exact ⟨a, _, rfl, .inl ⟨_, k', h1, key_rep ry e, rfl⟩, l.1, l.2⟩
  | dt ks vs =>
    obtain ⟨a, rfl, us, h1, h2, h3⟩ := rx
    cases k with
    | tup ws =>
      obtain ⟨b, us', rfl, hb, rs⟩ := tup_at ry
      cases e : keysOf ws with
      | none => simp [lookV, e] at h
      | some k' =>
        simp [lookV, e] at h
        subst h
        have l := look_rep (ks := ks) (k := k') h3
        exact ⟨a, _, rfl, .inr ⟨_, k', b, .inl h1, rfl, by rw [hb, keys_rep rs e], rfl⟩, l.1, l.2⟩
    | _ => cases h
  | _ => cases h
def isDict : Val → Bool
  | .dk _ _ => true
  | .dt _ _ => true
  | _ => false
theorem isd_ok {d : Val} (rx : RepP c g H d x) (h : isDict d = true) : ∃ a, x = .ref a ∧ IsD H a := by
  cases d with
  | dk ks vs => obtain ⟨a, rfl, us, h1, h2, h3⟩ := rx; exact ⟨a, rfl, .inl ⟨_, h1⟩⟩
  | dt ks vs => obtain ⟨a, rfl, us, h1, h2, h3⟩ := rx; exact ⟨a, rfl, .inr ⟨_, .inl h1⟩⟩
  | _ => cases h
end
def ixDV (d k : Val) : Option EV := match d with
  | .dk _ _ => match lookV d k with
    | some (some v) => some (.p v)
    | _ => none
  | .dt _ _ => match lookV d k with
    | some (some v) => some (.p v)
    | _ => none
  | _ => ixV d k
/-- membership -/
def memV (v w : Val) : Option Bool := match w with
  | .lst xs => if flatB v && xs.all flatB then some (xs.any fun y => eqF y v) else match toD v, toDs xs with
    | some d, some ds => if SeqAt.shaped d && SeqAt.shaped (.list ds) then some (ds.any fun z => PyData.eqv z d) else none
    | _, _ => none
  | .tup xs => if flatB v && xs.all flatB then some (xs.any fun y => eqF y v) else none
  | .str j => match v with
    | .str i => some (!(Builtin.Str.occurrences j i 0 j.length 1).isEmpty)
    | _ => none
  | .dk _ _ => (lookV w v).map Option.isSome
  | .dt _ _ => (lookV w v).map Option.isSome
  | _ => none
def inV' (v w : Val) : Option EV := (memV v w).map fun b => .p (.bl b)
def ninV' (v w : Val) : Option EV := (memV v w).map fun b => .p (.bl (!b))
section
variable {X : Cx} {c : Ct} {W : WXs} {k : Nat} {pos : Pos}
theorem Good.un (G : Good X c k) : X.A.units + 200 < cLine := by have := G.hr.un; omega
theorem d_ixD (G : Good X c k) : IxR X (rB c ixDV) := by
  intro ve se pins s σ H x y v u Q I rx ry hq hss
  obtain ⟨g, st, σ0, v', w', res, R, hx, hy, e, q⟩ := hq
  have dict : isDict v' = true → ∀ z, lookV v' w' = some (some z) → res = .p z → wpAny (model X.prog X.w) X.A (subscriptTail ve se v u) (EP X pins σ Q) X.xe s := by
    intro hd z hl hres
    subst hres
    obtain ⟨a, ov, rfl, hg, h1, _⟩ := look_ok hx hy hl
    obtain ⟨x1, rfl, r1⟩ := h1 z rfl
    obtain rfl : v = Value.ref a := rx
    exact tail_any (dict_typeIs I hg) PySem.F.slot_dict_getitem.lookup (d_getItem (by have := G.un; omega) I hg ry fun w' s3 I3 rw' => ⟨x1, H, I3, rw', q g H _ Ext.refl R r1⟩) hss
  cases v' with
  | dk ks vs =>
    cases hl : lookV (.dk ks vs) w' with
    | none => simp [ixDV, hl] at e
    | some o => cases o with
      | none => simp [ixDV, hl] at e
      | some z => simp [ixDV, hl] at e; exact dict rfl z hl e.symm
  | dt ks vs =>
    cases hl : lookV (.dt ks vs) w' with
    | none => simp [ixDV, hl] at e
    | some o => cases o with
      | none => simp [ixDV, hl] at e
      | some z => simp [ixDV, hl] at e; exact dict rfl z hl e.symm
  | _ => exact d_ix G.soft ve se pins s σ H x y v u Q I rx ry ⟨g, st, σ0, _, w', res, R, hx, hy, e, q⟩ hss
theorem mem_flat {g : Gh} {H : Hp} {v : Val} {y : V} {xs : List Val} {us : List V} (r : Reps c g H xs us) (ry : Rep c g H v y) (h : flatB v = true) (h2 : xs.all flatB = true) : inV y us = xs.any fun w => eqF w v := by
  induction xs generalizing us with
  | nil => cases r; rfl
  | cons w xs ih =>
    cases r with
    | cons r1 r2 =>
      rw [List.all_cons, Bool.and_eq_true] at h2
      show (L2.eqV _ _ || _) = _
      rw [List.any_cons, eqF_rep r1 ry h2.1 h]
      exact congrArg _ (ih r2 h2.2)
theorem flat_pr {g : Gh} {H : Hp} {v : Val} {x : V} (h : flatB v = true) (r : RepP c g H v x) : Rep c g H v x := by
  cases v <;> first | exact r | cases h
theorem d_in (G : Good X c k) : OpR X (compareOp .In) (rB c inV') := by
  intro pins s σ H y x u v Q I ry rx hq
  obtain ⟨g, st, σ0, w', v', res, R, hy, hx, e, q⟩ := hq
  have e : (memV w' v').map (fun b => EV.p (.bl b)) = some res := e
  cases hm : memV w' v' with
  | none => rw [hm] at e; cases e
  | some b =>
    rw [hm] at e
    cases e
    have dict : isDict v' = true → ∀ o, lookV v' w' = some o → o.isSome = b → wpAny (model X.prog X.w) X.A (compareOp .In u v) (EP X pins σ Q) X.xe s := by
      intro hd o hl hb
      obtain ⟨a, ov, rfl, hg, h1, h2⟩ := look_ok hx hy hl
      obtain rfl : v = Value.ref a := rx
      have : ov.isSome = b := by
        cases o with
        | none => rw [h2 rfl]; exact hb
        | some z => obtain ⟨x1, rfl, _⟩ := h1 z rfl; exact hb
      exact L2.d_in (by have := G.un; omega) I hg ry fun s3 I3 => ⟨.bl ov.isSome, H, I3, rfl, by rw [this]; exact q g H _ Ext.refl R (.bl _)⟩
    cases v' with
    | lst xs =>
      obtain ⟨a, us, rfl, h1, r1⟩ := lst_of hx
      unfold memV at hm
      dsimp only at hm
      split at hm
      · rename_i hf
        simp only [Bool.and_eq_true] at hf
        cases hm
        have ry' := flat_pr hf.1 hy
        refine op_in_seq pins s σ H _ _ u v Q I ry rx ⟨a, us, rfl, .inl (SqL.of h1), flat_rep ry' hf.1, flat_all r1 hf.2, ?_⟩
        rw [mem_flat r1 ry' hf.1 hf.2]
        exact q g H _ Ext.refl R (.bl _)
      · cases e1 : toD w' with
        | none => rw [e1] at hm; cases hm
        | some d =>
          cases e2 : toDs xs with
          | none => rw [e1, e2] at hm; cases hm
          | some ds =>
            rw [e1, e2] at hm
            dsimp only at hm
            split at hm
            · rename_i hs
              simp only [Bool.and_eq_true] at hs
              cases hm
              have e3 : toD (.lst xs) = some (.list ds) := by unfold toD; rw [e2]; rfl
              refine op_inD (by have := G.un; omega) pins s σ H _ _ u v Q I ry rx ⟨d, ds, by rw [G.K]; exact RepP.dp hy e1, by rw [G.K]; exact RepP.dp hx e3, hs.1, hs.2, q g H _ Ext.refl R (.bl _)⟩
            · cases hm
    | tup xs =>
      obtain ⟨a, us, rfl, h1, r1⟩ := tup_at hx
      unfold memV at hm
      dsimp only at hm
      split at hm
      · rename_i hf
        simp only [Bool.and_eq_true] at hf
        cases hm
        have ry' := flat_pr hf.1 hy
        refine op_in_seq pins s σ H _ _ u v Q I ry rx ⟨a, us, rfl, .inr (SqT.of h1), flat_rep ry' hf.1, flat_all r1 hf.2, ?_⟩
        rw [mem_flat r1 ry' hf.1 hf.2]
        exact q g H _ Ext.refl R (.bl _)
      · cases hm
    | str j =>
      cases w' with
      | str i =>
        cases hm
        have := str_of hx; subst this
        have := str_of hy; subst this
        exact op_in_str pins s σ H _ _ u v Q I ry rx ⟨i, j, rfl, rfl, q g H _ Ext.refl R (.bl _)⟩
      | _ => cases hm
    | dk ks vs =>
      cases hl : lookV (.dk ks vs) w' with
      | none => simp [memV, hl] at hm
      | some o => simp [memV, hl] at hm; exact dict rfl o hl hm
    | dt ks vs =>
      cases hl : lookV (.dt ks vs) w' with
      | none => simp [memV, hl] at hm
      | some o => simp [memV, hl] at hm; exact dict rfl o hl hm
    | _ => cases hm
theorem d_nin (G : Good X c k) : OpR X (compareOp .NotIn) (rB c ninV') := by
  intro pins s σ H y x u v Q I ry rx hq
  obtain ⟨g, st, σ0, w', v', res, R, hy, hx, e, q⟩ := hq
  have e : (memV w' v').map (fun b => EV.p (.bl (!b))) = some res := e
  cases hm : memV w' v' with
  | none => rw [hm] at e; cases e
  | some b =>
    rw [hm] at e
    cases e
    have dict : isDict v' = true → ∀ o, lookV v' w' = some o → o.isSome = b → wpAny (model X.prog X.w) X.A (compareOp .NotIn u v) (EP X pins σ Q) X.xe s := by
      intro hd o hl hb
      obtain ⟨a, ov, rfl, hg, h1, h2⟩ := look_ok hx hy hl
      obtain rfl : v = Value.ref a := rx
      have : ov.isSome = b := by
        cases o with
        | none => rw [h2 rfl]; exact hb
        | some z => obtain ⟨x1, rfl, _⟩ := h1 z rfl; exact hb
      exact L2.d_notIn (by have := G.un; omega) I hg ry fun s3 I3 => ⟨.bl (!ov.isSome), H, I3, rfl, by rw [this]; exact q g H _ Ext.refl R (.bl _)⟩
    cases v' with
    | lst xs =>
      obtain ⟨a, us, rfl, h1, r1⟩ := lst_of hx
      unfold memV at hm
      dsimp only at hm
      split at hm
      · rename_i hf
        simp only [Bool.and_eq_true] at hf
        cases hm
        have ry' := flat_pr hf.1 hy
        refine op_notIn_seq pins s σ H _ _ u v Q I ry rx ⟨a, us, rfl, .inl (SqL.of h1), flat_rep ry' hf.1, flat_all r1 hf.2, ?_⟩
        rw [mem_flat r1 ry' hf.1 hf.2]
        exact q g H _ Ext.refl R (.bl _)
      · cases e1 : toD w' with
        | none => rw [e1] at hm; cases hm
        | some d =>
          cases e2 : toDs xs with
          | none => rw [e1, e2] at hm; cases hm
          | some ds =>
            rw [e1, e2] at hm
            dsimp only at hm
            split at hm
            · rename_i hs
              simp only [Bool.and_eq_true] at hs
              cases hm
              have e3 : toD (.lst xs) = some (.list ds) := by unfold toD; rw [e2]; rfl
              refine op_notInD (by have := G.un; omega) pins s σ H _ _ u v Q I ry rx ⟨d, ds, by rw [G.K]; exact RepP.dp hy e1, by rw [G.K]; exact RepP.dp hx e3, hs.1, hs.2, q g H _ Ext.refl R (.bl _)⟩
            · cases hm
    | tup xs =>
      obtain ⟨a, us, rfl, h1, r1⟩ := tup_at hx
      unfold memV at hm
      dsimp only at hm
      split at hm
      · rename_i hf
        simp only [Bool.and_eq_true] at hf
        cases hm
        have ry' := flat_pr hf.1 hy
        refine op_notIn_seq pins s σ H _ _ u v Q I ry rx ⟨a, us, rfl, .inr (SqT.of h1), flat_rep ry' hf.1, flat_all r1 hf.2, ?_⟩
        rw [mem_flat r1 ry' hf.1 hf.2]
        exact q g H _ Ext.refl R (.bl _)
      · cases hm
    | str j =>
      cases w' with
      | str i =>
        cases hm
        have := str_of hx; subst this
        have := str_of hy; subst this
        exact op_notIn_str pins s σ H _ _ u v Q I ry rx ⟨i, j, rfl, rfl, q g H _ Ext.refl R (.bl _)⟩
      | _ => cases hm
    | dk ks vs =>
      cases hl : lookV (.dk ks vs) w' with
      | none => simp [memV, hl] at hm
      | some o => simp [memV, hl] at hm; exact dict rfl o hl hm
    | dt ks vs =>
      cases hl : lookV (.dt ks vs) w' with
      | none => simp [memV, hl] at hm
      | some o => simp [memV, hl] at hm; exact dict rfl o hl hm
    | _ => cases hm
end
end Y
end

section
set_option Elab.async false
set_option linter.all false
set_option maxRecDepth 100000
set_option maxHeartbeats 1000000
namespace Y
open PySem PySem.Spec PyProof.Rows L2
/-! ## dicts: making, changing -/
section
variable {c : Ct} {g : Gh} {H : Hp} {σ : Sig} {st : S} {Q : VK}
theorem new_dk {ks : List Key} {vs : List Val} {us : List V} (R : Rel c g st σ H) (hl : ks.length = us.length) (r : Reps c g H vs us)
    (q : ∀ g' H' z, Ext c g H g' H' → Rel c g' st σ H' → RepE c g g' H' σ (.f (.dk ks vs)) z → Q z H') : ∀ p, H p = none → Q (.ref p) (upd H p (.dK (ks.zip us))) := fun p hp => by
  obtain ⟨R', e⟩ := R.new hp (.dK (ks.zip us)) .tmp (fun z => nomatch z) (.inl rfl)
  refine q _ _ _ e R' ⟨p, rfl, mark_same, ?_, us, upd_same, hl, r.ext e⟩
  by_cases z : g p = .none
  · exact z
  · exact absurd hp (R.dom p z)
theorem new_dt {ks : List (List Key)} {vs : List Val} {us : List V} (R : Rel c g st σ H) (hl : ks.length = us.length) (r : Reps c g H vs us)
    (q : ∀ g' H' z, Ext c g H g' H' → Rel c g' st σ H' → RepE c g g' H' σ (.f (.dt ks vs)) z → Q z H') : ∀ p, H p = none → Q (.ref p) (upd H p (.dT (ks.zip us))) := fun p hp => by
  obtain ⟨R', e⟩ := R.new hp (.dT (ks.zip us)) .tmp (fun z => nomatch z) (.inl rfl)
  refine q _ _ _ e R' ⟨p, rfl, mark_same, ?_, us, upd_same, hl, r.ext e⟩
  by_cases z : g p = .none
  · exact z
  · exact absurd hp (R.dom p z)
end
def eDict0 : S → R EV := fun st => .ok (.f (.dk [] [])) st
def eDict0T : S → R EV := fun st => .ok (.f (.dt [] [])) st
section
variable {X : Cx} {c : Ct} {W : WXs} {k : Nat} {pos cpos apos : Pos} {o e f : Expr} {d de df : S → R EV}
theorem se_dict0 : SE X c W (.Dict [] [] pos) eDict0 := impE pe_dnewK fun σ H Q ⟨g, st, R, q⟩ => new_dk (ks := []) R rfl .nil fun g' H' z e R' r => q g' H' e R' z r
theorem se_dict0T : SE X c W (.Dict [] [] pos) eDict0T := impE pe_dnewT fun σ H Q ⟨g, st, R, q⟩ => new_dt (ks := []) R rfl .nil fun g' H' z e R' r => q g' H' e R' z r
/-- d.get(k, x) -/
def eGet2 (d de df : S → R EV) : S → R EV := fun st => (d st).bind fun v st1 => if (peek st1 v).map isDict = some true then (de st1).bind fun w st2 => (df st2).bind fun z st3 =>
  match peek st3 v, peek st3 w with
  | some dv, some kv => match lookV dv kv with
    | some (some r) => .ok (.p r) st3
    | some none => .ok z st3
    | none => .bad
  | _, _ => .bad else .bad
theorem se_get2 (G : Good X c k) (ho : SE X c W o d) (he : SE X c W e de) (hf : SE X c W f df) (m : M2 X o "get" apos e f cpos := by exact ⟨rfl, rfl, rfl, rfl⟩) : SE X c W (.Call (.Attribute o "get" apos) [e, f] [] cpos) (eGet2 d de df) :=
  impE (pe_dget2 (by have := G.un; omega) ho he hf m) fun σ H Q ⟨g, st, R, q⟩ => by
    refine ⟨g, st, R, q.bind.mono fun v st1 g1 H1 e1 R1 q1 x rx => ?_⟩
    by_cases hd : (peek st1 v).map isDict = some true
    · rw [if_pos hd] at q1
      cases pv : peek st1 v with
      | none => rw [pv] at hd; cases hd
      | some dv =>
        rw [pv] at hd
        obtain ⟨a, rfl, hda⟩ := isd_ok (peek_ok R1 rx pv) (by simpa using hd)
        refine ⟨a, rfl, hda, g1, st1, R1, q1.bind.mono fun w st2 g2 H2 e2 R2 q2 y ry => ⟨g2, st2, R2, q2.bind.mono fun z st3 g3 H3 e3 R3 q3 t rt => ?_⟩⟩
        revert q3
        cases p1 : peek st3 v with
        | none => exact fun z => z.elim
        | some dv' =>
          cases p2 : peek st3 w with
          | none => exact fun z => z.elim
          | some kv =>
            dsimp only
            have r1 := peek_ok R3 (RepE.ext (e2.trans e3) rx) p1
            have r2 := peek_ok R3 (RepE.ext e3 ry) p2
            cases hl : lookV dv' kv with
            | none => exact fun z => z.elim
            | some ov =>
              obtain ⟨a', ov', ha', hg, h1, h2⟩ := look_ok r1 r2 hl
              cases ha'
              cases ov with
              | some r =>
                intro q3
                obtain ⟨z1, rfl, rz⟩ := h1 r rfl
                exact ⟨_, hg, q3 g3 H3 Ext.refl R3 _ rz⟩
              | none =>
                intro q3
                have := h2 rfl
                subst this
                exact ⟨_, hg, q3 g3 H3 Ext.refl R3 _ (RepE.start (e1.trans e2) rt)⟩
    · rw [if_neg hd] at q1; exact q1.elim
/-! ### dict(d), list(d), len(d), sorted(d) -/
def dictV : Val → Option EV
  | .dk ks vs => some (.f (.dk ks vs))
  | _ => none
theorem d_dict : CallR X (.type "dict") (rC1 c dictV) := by
  intro pins s σ H xs us Q I r hq
  obtain ⟨x, g, st, σ0, v, res, rfl, R, hx, e, q⟩ := hq
  cases v with
  | dk ks vs =>
    cases e
    obtain ⟨a, rfl, us', h1, h2, h3⟩ := hx
    exact call_dictD pins s σ H _ us Q I r ⟨a, _, rfl, h1, new_dk R h2 h3 fun g' H' z e R' r => q g' H' z e R' r⟩
  | _ => cases e
def keyV : Key → Val
  | .inl i => .int i
  | .inr x => .str x
theorem keyV_rep {g : Gh} {H : Hp} (k : Key) : Rep c g H (keyV k) (kV k) := by cases k <;> first | exact .int _ | exact .str _
theorem keysV_rep {g : Gh} {H : Hp} : ∀ ks : List Key, Reps c g H (ks.map keyV) (ks.map kV)
  | [] => .nil
  | k :: ks => .cons (keyV_rep k) (keysV_rep ks)
theorem zip_keys {κ : Type} {us : List V} : ∀ {ks : List κ}, ks.length = us.length → (ks.zip us).map (·.1) = ks := fun {ks} h => by
  rw [List.map_fst_zip (Nat.le_of_eq h)]
def listDV : Val → Option EV
  | .dk ks _ => some (.f (.lst (ks.map keyV)))
  | v => listV v
theorem d_listD (G : Good X c k) : CallR X (.type "list") (rC1 c listDV) := by
  intro pins s σ H xs us Q I r hq
  obtain ⟨x, g, st, σ0, v, res, rfl, R, hx, e, q⟩ := hq
  cases v with
  | dk ks vs =>
    cases e
    obtain ⟨a, rfl, us', h1, h2, h3⟩ := hx
    refine call_listD G.calm pins s σ H _ us Q I r ⟨a, _, rfl, h1, ?_⟩
    have : (ks.zip us').map (fun kv => kV kv.1) = ks.map kV := by
      rw [show (fun kv : Key × V => kV kv.1) = kV ∘ (·.1) from rfl, ← List.map_map, zip_keys h2]
    rw [this]
    exact new_lst R (keysV_rep ks) fun g' H' z e R' r => q g' H' z e R' r
  | _ => exact d_list G pins s σ H _ us Q I r ⟨x, g, st, σ0, _, res, rfl, R, hx, e, q⟩
def lenDV : Val → Option EV
  | .dk ks _ => some (.p (.int ks.length))
  | v => lenV v
theorem d_lenD (G : Good X c k) : CallR X (.builtin "len") (rC1 c lenDV) := by
  intro pins s σ H xs us Q I r hq
  obtain ⟨x, g, st, σ0, v, res, rfl, R, hx, e, q⟩ := hq
  cases v with
  | dk ks vs =>
    cases e
    obtain ⟨a, rfl, us', h1, h2, h3⟩ := hx
    obtain ⟨u, rfl, ru⟩ := vals1 r
    cases ru
    refine L2.d_len I h1 fun t s' I' => ⟨.int _, H, I', ⟨t, rfl⟩, ?_⟩
    have : (ks.zip us').length = ks.length := by rw [List.length_zip, h2, Nat.min_self]
    rw [this]
    exact q g H _ Ext.refl R (.int _)
  | _ => exact d_len G pins s σ H _ us Q I r ⟨x, g, st, σ0, _, res, rfl, R, hx, e, q⟩
def ikeys : List Key → Option (List Int)
  | [] => some []
  | .inl i :: ks => (ikeys ks).map (i :: ·)
  | _ => none
theorem ikeys_ok : ∀ {ks : List Key} {is : List Int}, ikeys ks = some is → ks = is.map Sum.inl
  | [], _, h => by cases h; rfl
  | .inl i :: ks, is, h => by
    unfold ikeys at h
    cases e : ikeys ks with
    | none => rw [e] at h; cases h
    | some js => rw [e] at h; cases h; rw [ikeys_ok e]; rfl
  | .inr _ :: _, _, h => by cases h
def sortedDV : Val → Option EV
  | .dk ks _ => match ikeys ks with
    | some is => if is.length < 64 then some (.f (.lst ((sortI is).map .int))) else none
    | none => none
  | .tup xs => match ints? xs with
    | some is => if is.length ≤ 16777216 then some (.f (.lst ((sortI is).map .int))) else none
    | none => none
  | v => sortedV v
end
/-! ### sorted of a tuple of ints -/
section
open Srt SrtO
variable {prog : Program} {w : World} {A : Around} {E : Value → Shared → Prop} {s : Shared}
theorem collect_tup {l : Addr} {vs : List Value} {Q : List Value → Shared → Prop} (hl : IsTup s.heap l vs.toArray)
    (h : Q vs { s with heap := (s.heap.push (seqObj "list" #[] 0)).update s.heap.objs.size (Obj.mapSeq (· ++ vs.toArray)) }) (hsz : vs.length ≤ sizeLine) :
    wpAny (model prog w) A (collect (.ref l)) Q E s := by
  obtain ⟨o, ho, hc, n, hd⟩ := id hl
  unfold collect
  refine wpAny_bind (wpAny_runValue (codeAny_builtin entry_proto_collect' ?_))
  show wpAny _ _ (do again (.builtin "list.__iadd__" ⟨[← newList [], .ref l], []⟩)) _ _ s
  refine wpAny_bind (wpAny_newList (wpAny_pure ⟨Code.quiet_builtin _ (by decide +kernel), codeAny_builtin entry_list_iadd' ?_⟩))
  show wpAny _ _ (Builtin.List.listExtendWith (.ref s.heap.objs.size) (.ref l) (.ref s.heap.objs.size)) _ _ { s with heap := s.heap.push (seqObj "list" #[] 0) }
  unfold Builtin.List.listExtendWith
  have ho' : (s.heap.push (seqObj "list" #[] 0)).get? l = some o := Heap.get?_push_of_some _ ho
  refine wpAny_bind (wpAny_typeOf (T := "tuple") ⟨o, ho', hc⟩ ?_)
  have ht : (Value.type "tuple" == Value.type "tuple") = true := by rfl
  rw [if_pos (by rw [ht]; simp)]
  refine wpAny_bind (listItems_at ho' hd ?_)
  refine wpAny_bind (listItems_at (xs := #[]) (n := 0) (Heap.get?_push_size _ rfl) rfl ?_)
  rw [if_neg (by simp)]
  refine wpAny_bind (listUpdate_at (xs := #[]) (n := 0) (Heap.get?_push_size _ rfl) rfl ?_ (Nat.zero_le _) (by show (#[] ++ vs.toArray).size ≤ sizeLine + 1; simp only [Array.size_append, List.size_toArray, List.length_nil]; omega))
  refine wpAny_pure ?_
  show wpAny (model prog w) A (do
      let o ← load s.heap.objs.size
      match o.data with
      | .seq xs _ => pure xs.toList
      | _ => unsupported "internal:collect") Q E { s with heap := (s.heap.push (seqObj "list" #[] 0)).update s.heap.objs.size (Obj.mapSeq (· ++ vs.toArray)) }
  refine wpAny_bind (wpAny_load (get?_update_seq (Heap.get?_push_size _ rfl) _) ?_)
  show wpAny _ _ (pure ((#[] : Array Value) ++ vs.toArray).toList) Q E _
  rw [show ((#[] : Array Value) ++ vs.toArray).toList = vs by simp]
  exact wpAny_pure h
theorem sorted_tup {l : Addr} {vs : List Value} {ltv : Value → Value → Bool} {Q : Value → Shared → Prop} (O : Swo ltv) (hl : IsTup s.heap l vs.toArray) (hz : vs.length ≤ sizeLine)
    (hS : 2 ≤ vs.length → ∀ (h₁ : Heap) (a : Addr), h₁.get? a = some (seqObj "list" vs.toArray 0) → (∀ b o, s.heap.get? b = some o → b ≠ a ∧ h₁.get? b = some o) → SortableO prog w A.in1.in1 { s with heap := h₁ } a vs ltv)
    (h : ∀ out : List Value, Srtd ltv out → Stb ltv out vs → Q (.ref (s.heap.objs.size + 1)) { s with heap := sortedAll s.heap vs out.toArray }) :
    wpAny (model prog w) A (call (.builtin "sorted") [.ref l]) Q E s := by
  refine Calls.call_function_entry kind_sorted plain_sorted entry_sorted (args_sorted1 _) ?_
  unfold Builtin.«sorted»
  refine wpAny_bind (m := checkCount "sorted" 1 1 _) (wpAny_pure ?_)
  refine wpAny_bind (collect_tup hl ?_ hz)
  refine wpAny_bind (wpAny_newList ?_ hz)
  have hsz : ((s.heap.push (seqObj "list" #[] 0)).update s.heap.objs.size (Obj.mapSeq (· ++ vs.toArray))).objs.size = s.heap.objs.size + 1 := by
    rw [Heap.size_update, size_push']
  have hoL : (((s.heap.push (seqObj "list" #[] 0)).update s.heap.objs.size (Obj.mapSeq (· ++ vs.toArray))).push (seqObj "list" vs.toArray 0)).get? (s.heap.objs.size + 1) = some (seqObj "list" vs.toArray 0) := by
    rw [← hsz]; exact Heap.get?_push_size _ rfl
  have keep : ∀ b o, s.heap.get? b = some o → b ≠ s.heap.objs.size + 1 ∧ (((s.heap.push (seqObj "list" #[] 0)).update s.heap.objs.size (Obj.mapSeq (· ++ vs.toArray))).push (seqObj "list" vs.toArray 0)).get? b = some o := fun b o q => by
    have hlt : b < s.heap.objs.size := Heap.lt_size q
    refine ⟨Nat.ne_of_lt (Nat.lt_succ_of_lt hlt), Heap.get?_push_of_some _ ?_⟩
    rw [Heap.get?_update_ne _ _ _ _ (Nat.ne_of_lt hlt)]
    exact Heap.get?_push_of_some _ q
  show wpAny _ _ _ _ _ { s with heap := ((s.heap.push (seqObj "list" #[] 0)).update s.heap.objs.size (Obj.mapSeq (· ++ vs.toArray))).push (seqObj "list" vs.toArray 0) }
  rw [hsz]
  refine wpAny_bind (wpAny_holding (wpAny_call_entry slot_list_sort ⟨_, hoL, rfl⟩ entry_list_sort (list_sort_ord O hoL hz (fun h2 => hS h2 _ _ hoL keep) fun out hs hb => ⟨_, rfl, ?_⟩) (args_list_sort _)))
  exact wpAny_pure ⟨_, rfl, h out hs hb⟩
end
def rSortedTI (K : PySem.W.Frag) : List V → Hp → VK → Prop := fun vs H Q => ∃ (a : Addr) (ns : List Int), vs = [V.ref a] ∧ SqT K H a (ns.map V.int) ∧ ∀ (ns' : List Int) (p : Addr), ns'.Perm ns → ns'.Pairwise (· ≤ ·) → H p = none → Q (.ref p) (upd H p (.lst (ns'.map V.int)))
theorem cr_sortedTI {X : Cx} : CallR X (.builtin "sorted") (rSortedTI X.K) := by
  intro pins s σ H vs us Q I r h
  obtain ⟨a, ns, rfl, hs, q⟩ := h
  obtain ⟨its, rv, hl, hz⟩ := I.tuple hs
  rw [Vals.ref1 r]
  have hi := rv.ints
  refine sorted_tup SrtO.swo_int hl (by rw [← rv.length]; exact hz) (fun h2 h₁ a' _ _ => SrtO.ints_sortable hi h2) fun out h1 h2 => ?_
  obtain ⟨k1, k2, k3⟩ := SrtO.ints_out hi h1 h2
  obtain ⟨ep, he'⟩ := PyProof.Rows.sortedAll_at s.heap its out.toArray
  have hlen : ((out.map SrtO.iv).map V.int).length ≤ sizeLine := by
    rw [List.length_map, k2.length_eq]
    rw [List.length_map] at hz
    exact hz
  exact ⟨.ref _, upd H (s.heap.objs.size + 1) (.lst ((out.map SrtO.iv).map V.int)), I.laid (t' := s.toks) (fun _ _ => PyProof.Rows.sortedAll_old) (Nat.le_succ _) ⟨hlen, out, ep, vals_of_ints k1, he'⟩, rfl, q _ _ k2 k3 (I.hok.fresh (Nat.le_succ _))⟩
section
variable {X : Cx} {c : Ct} {W : WXs} {k : Nat} {pos cpos apos : Pos} {o e f : Expr} {d de df : S → R EV}
theorem d_sortedD (G : Good X c k) : CallR X (.builtin "sorted") (rC1 c sortedDV) := by
  intro pins s σ H xs us Q I r hq
  obtain ⟨x, g, st, σ0, v, res, rfl, R, hx, e, q⟩ := hq
  cases v with
  | dk ks vs =>
    unfold sortedDV at e
    dsimp only at e
    cases e2 : ikeys ks with
    | none => rw [e2] at e; cases e
    | some is =>
      rw [e2] at e
      dsimp only at e
      split at e
      · rename_i hlt
        cases e
        obtain ⟨a, rfl, us', h1, h2, h3⟩ := hx
        refine call_sortedDI G.calm pins s σ H _ us Q I r ⟨a, _, is, rfl, h1, by rw [zip_keys h2, ikeys_ok e2], hlt, fun ys p hp hs hf => ?_⟩
        have : ys = sortI is := sorted_unique (hp.trans (sortI_perm is).symm) hs (sortI_sorted is)
        subst this
        exact new_lst R (reps_ints _) q p hf
      · cases e
  | tup vs =>
    unfold sortedDV at e
    dsimp only at e
    cases e2 : ints? vs with
    | none => rw [e2] at e; cases e
    | some is =>
      rw [e2] at e
      dsimp only at e
      split at e
      · cases e
        obtain ⟨a, us', rfl, h1, r1⟩ := tup_at hx
        have := ints_reps r1 e2
        subst this
        refine cr_sortedTI pins s σ H _ us Q I r ⟨a, is, rfl, SqT.of h1, fun ys p hp hs hf => ?_⟩
        have : ys = sortI is := sorted_unique (hp.trans (sortI_perm is).symm) hs (sortI_sorted is)
        subst this
        exact new_lst R (reps_ints _) q p hf
      · cases e
  | _ => exact d_sorted pins s σ H _ us Q I r ⟨x, g, st, σ0, _, res, rfl, R, hx, e, q⟩
/-! ### d[k] = v -/
def setLD (i w : Val) : Ob → Option Ob
  | .dk ks vs => (keyOf i).bind fun k => if ks.length < 16777216 then let p := putL ks vs k w; some (.dk p.1 p.2) else none
  | .dt ks vs => match i with
    | .tup ws => (keysOf ws).bind fun k => if ks.length < 16777216 then let p := putL ks vs k w; some (.dt p.1 p.2) else none
    | _ => none
  | b => setL i w b
theorem f0_setLD : ∀ i w, setLD i w .none = none := fun _ _ => rfl
theorem d_setLD (G : Good X c k) : PSet X (rSet c setLD) := by
  intro pins s σ H o i v ov iv u Q I ro ri rv hq
  obtain ⟨a, b, b', ob, g, iv', w, rfl, hob, hm, hu, rb, r5, rw', hf, q⟩ := hq
  cases b with
  | dk ks vs =>
    obtain ⟨us, h1, h2, h3⟩ := rb
    cases e : keyOf iv' with
    | none => simp [setLD, e] at hf
    | some k' =>
      by_cases hl : ks.length < 16777216
      · simp [setLD, e, hl] at hf
        subst hf
        obtain ⟨us', e1, e2, e3⟩ := put_rep (k := k') h2 h3 rw'
        refine set_dict (by have := G.un; omega) pins s σ H _ _ v ov iv u Q I ro ri rv ⟨a, _, rfl, .inl ⟨_, k', h1, key_rep r5.peek e, ?_, rfl⟩, ?_⟩
        · rw [List.length_zip, ← h2, Nat.min_self]; exact line_lt hl
        · rw [e1]
          exact q _ ⟨us', upd_same, e2, Reps.upd (hu _) e3⟩
      · simp [setLD, e, hl] at hf
  | dt ks vs =>
    obtain ⟨us, h1, h2, h3⟩ := rb
    cases iv' with
    | tup ws =>
      cases e : keysOf ws with
      | none => simp [setLD, e] at hf
      | some k' =>
        by_cases hl : ks.length < 16777216
        · simp [setLD, e, hl] at hf
          subst hf
          obtain ⟨t, us2, rfl, hb, rs⟩ := tup_at r5.peek
          obtain ⟨us', e1, e2, e3⟩ := put_rep (k := k') h2 h3 rw'
          refine set_dict (by have := G.un; omega) pins s σ H _ _ v ov iv u Q I ro ri rv ⟨a, _, rfl, .inr ⟨_, k', t, h1, rfl, by rw [hb, keys_rep rs e], ?_, rfl⟩, ?_⟩
          · rw [List.length_zip, ← h2, Nat.min_self]; exact line_lt hl
          · rw [e1]
            exact q _ ⟨us', upd_same, e2, Reps.upd (hu _) e3⟩
        · simp [setLD, e, hl] at hf
    | _ => cases hf
  | none => cases hf
  | lst xs => exact d_setL pins s σ H _ i v ov iv u Q I ro ri rv ⟨a, _, b', ob, g, iv', w, rfl, hob, hm, hu, rb, r5, rw', hf, q⟩
end
end Y
end

section
set_option Elab.async false
set_option linter.all false
set_option maxRecDepth 100000
set_option maxHeartbeats 1000000
namespace Y
open PySem PySem.Spec PyProof.Rows L2
theorem plain_ix (b : Expr) (h : ∀ o i, subscripted b false o i = operate [o, i] (getItem o i) := by intro _ _; rfl) : PlainIx b := h
/-- the promise stands in the def's body, too -/
theorem Fn.at {c : Ct} {j n : Nat} {x : Str} {d : FD} (h : Fn c j x n d) {H : Hp} : Fn (c.at H) j x n d := ⟨h.ex⟩
/-- no promise at all -/
theorem fn_zero {c : Ct} {k : Nat} {f : Addr} {fd : FuncData} {ps : List Str} {n : Nat} : FnOk c.P c.w c.K c.mg c.base (L2N.CX c.P c.w) k f fd ps (spF c n fun _ _ => .bad) := by
  refine ⟨fun vs H Q E h => ?_, ?_⟩
  · obtain ⟨_, _, _, _, _, _, z⟩ := h
    exact z.elim
  · intro A outer s H args us vs Q E h1 h2 h3 h4 h
    obtain ⟨_, _, _, _, _, _, z⟩ := h
    exact z.elim
end Y
end

section
set_option Elab.async false
set_option linter.all false
set_option maxRecDepth 100000
set_option maxHeartbeats 4000000
namespace Y
open PySem PySem.Spec PyProof.Rows L2
/-! ## tuple * int, at most once -/
theorem tuple_mul1 (l : Addr) (items : Array Value) (n : Nat) (dd : Option Addr) (sl : Array (Option Value)) (x : Int) (u : Tok) (c0 : (decide (x < -(2 ^ 63)) || decide (x ≥ 2 ^ 63)) = false) (c1 : (items.isEmpty || x == 1) = true) :
    Meets (Builtin.«tuple.__mul__» ⟨[.ref l, .int x u], []⟩) (fun _ R s => s.heap.get? l = some { cls := .type "tuple", dict := dd, data := .seq items n, slots := sl } ∧ R (.ok (.ret (Value.ref l))) s) :=
  .of_wp fun prog w A R s h => by
    obtain ⟨hp, g, d, tk, os⟩ := s
    obtain ⟨hl, h⟩ := h
    have f1 := AutoSeq1.idx_int
    wp_walk using wpAny_loadPart' hl
    repeat (first
      | (refine wpAny_ite_false (decide_eq_false (by rw [c0]; exact Bool.false_ne_true)) ?_; wp_walk using wpAny_loadPart' hl)
      | (refine wpAny_ite_true (decide_eq_true c1) ?_; wp_walk using wpAny_loadPart' hl))
    exact ⟨_, rfl, h⟩
theorem tuple_mul0 (l : Addr) (items : Array Value) (n : Nat) (dd : Option Addr) (sl : Array (Option Value)) (x : Int) (u : Tok) (c0 : (decide (x < -(2 ^ 63)) || decide (x ≥ 2 ^ 63)) = false) (c1 : (items.isEmpty || x == 1) = false) (c2 : (decide (x ≤ 0) || items.isEmpty) = true) :
    Meets (Builtin.«tuple.__mul__» ⟨[.ref l, .int x u], []⟩) (fun _ R s => s.heap.get? l = some { cls := .type "tuple", dict := dd, data := .seq items n, slots := sl } ∧
      R (.ok (.ret (Value.ref s.heap.objs.size))) { s with heap := s.heap.push { cls := Value.type "tuple", data := Data.seq #[] }, toks := s.toks }) :=
  .of_wp fun prog w A R s h => by
    obtain ⟨hp, g, d, tk, os⟩ := s
    obtain ⟨hl, h⟩ := h
    have f1 := AutoSeq1.idx_int
    wp_walk using wpAny_loadPart' hl
    repeat (first
      | (refine wpAny_ite_false (decide_eq_false (by rw [c0]; exact Bool.false_ne_true)) ?_; wp_walk using wpAny_loadPart' hl)
      | (refine wpAny_ite_false (decide_eq_false (by rw [c1]; exact Bool.false_ne_true)) ?_; wp_walk using wpAny_loadPart' hl)
      | (refine wpAny_ite_true (decide_eq_true c2) ?_; wp_walk using wpAny_loadPart' hl))
    exact ⟨_, rfl, h⟩
def rRepT1 (K : PySem.W.Frag) : R2 := fun x y H Q => ∃ l k xs, x = .ref l ∧ y = .int k ∧ SqT K H l xs ∧ (xs = [] ∨ k = 1) ∧ -(2 ^ 63) ≤ k ∧ k < 2 ^ 63 ∧ Q (.ref l) H
def rRepT0 (K : PySem.W.Frag) : R2 := fun x y H Q => ∃ l k xs, x = .ref l ∧ y = .int k ∧ SqT K H l xs ∧ xs ≠ [] ∧ k ≤ 0 ∧ -(2 ^ 63) ≤ k ∧ ∀ p, H p = none → Q (.ref p) (upd H p (.tup []))
section
variable {X : Cx}
theorem op_repT1 : OpR X (binaryOp .Mult) (rRepT1 X.K) := by
  intro pins s σ H x y v u Q I rx ry h
  obtain ⟨l, k, xs, rfl, rfl, hT, h1, h2, h3, q⟩ := h
  cases rx
  obtain ⟨t, rfl⟩ := ry
  obtain ⟨its, r, ⟨⟨cls, dd, data, sl⟩, ho, hc, n, hd⟩, hs⟩ := I.tuple hT
  simp only at hc hd
  subst hc hd
  have c0 : (decide (k < -(2 ^ 63)) || decide (k ≥ 2 ^ 63)) = false := by
    rw [decide_eq_false (by omega), decide_eq_false (by omega)] <;> rfl
  have c1 : (its.toArray.isEmpty || k == 1) = true := by
    rcases h1 with h1 | h1
    · subst h1
      cases r
      rfl
    · subst h1
      simp
  exact wpAny_binaryOp_repeat_ref (T := "tuple") (U := "int") (by decide) ⟨_, ho, rfl⟩ (fun s' => typeIs_int s' k t) noFill_tuple_mul PySem.F.fills_int_mul PySem.F.slot_int_rmul repeat_tuple PySem.F.slot_int_index.lookup
    (call_meets PySem.F.slot_int_rmul (typeIs_int s k t) PySem.F.entry_int_rmul (PySem.F.args_int_rmul_2 _ _) (int_rmul_tuple k t l its.toArray n dd sl)
      ⟨ho, rfl, ⟨_, ho, rfl⟩, call_meets PySem.F.slot_tuple_mul ⟨_, ho, rfl⟩ PySem.F.entry_tuple_mul (PySem.F.args_tuple_mul_2 _ _) (tuple_mul1 l its.toArray n dd sl k t c0 c1) ⟨ho, ⟨.ref l, H, I, rfl, q⟩⟩⟩)
theorem op_repT0 : OpR X (binaryOp .Mult) (rRepT0 X.K) := by
  intro pins s σ H x y v u Q I rx ry h
  obtain ⟨l, k, xs, rfl, rfl, hT, hne, h1, h2, q⟩ := h
  cases rx
  obtain ⟨t, rfl⟩ := ry
  obtain ⟨its, r, ⟨⟨cls, dd, data, sl⟩, ho, hc, n, hd⟩, hs⟩ := I.tuple hT
  simp only at hc hd
  subst hc hd
  have hle : its.length = xs.length := r.length.symm
  have hi : its.toArray.isEmpty = false := by
    cases its with
    | nil => exact absurd (List.eq_nil_of_length_eq_zero hle.symm) hne
    | cons a b => rfl
  have c0 : (decide (k < -(2 ^ 63)) || decide (k ≥ 2 ^ 63)) = false := by
    rw [decide_eq_false (by omega), decide_eq_false (by omega)] <;> rfl
  have c1 : (its.toArray.isEmpty || k == 1) = false := by
    rw [hi, Bool.false_or]
    exact beq_eq_false_iff_ne.mpr (by omega)
  have c2 : (decide (k ≤ 0) || its.toArray.isEmpty) = true := by
    rw [hi, Bool.or_false]
    exact decide_eq_true h1
  refine wpAny_binaryOp_repeat_ref (T := "tuple") (U := "int") (by decide) ⟨_, ho, rfl⟩ (fun s' => typeIs_int s' k t) noFill_tuple_mul PySem.F.fills_int_mul PySem.F.slot_int_rmul repeat_tuple PySem.F.slot_int_index.lookup
    (call_meets PySem.F.slot_int_rmul (typeIs_int s k t) PySem.F.entry_int_rmul (PySem.F.args_int_rmul_2 _ _) (int_rmul_tuple k t l its.toArray n dd sl)
      ⟨ho, rfl, ⟨_, ho, rfl⟩, call_meets PySem.F.slot_tuple_mul ⟨_, ho, rfl⟩ PySem.F.entry_tuple_mul (PySem.F.args_tuple_mul_2 _ _) (tuple_mul0 l its.toArray n dd sl k t c0 c1 c2) ⟨ho, ?_⟩⟩)
  refine ⟨.ref s.heap.objs.size, _, I.laid (t' := s.toks) (o := .tup []) (fun b ob q => Heap.get?_push_of_some _ q) (Nat.le_refl _) ?_, rfl, q _ (I.hok.fresh (Nat.le_refl _))⟩
  exact ⟨Nat.zero_le _, [], .nil, IsTup.new s.heap #[]⟩
end
def mulTV : Val → Val → Option EV
  | .tup xs, .int k => if xs.isEmpty || k == 1 then (if decide (-(9223372036854775808) ≤ k) && decide (k < 9223372036854775808) then some (.p (.tup xs)) else none)
      else if k ≤ 0 then (if -(9223372036854775808) ≤ k then some (.p (.tup [])) else none)
      else if decide (k ≤ 1000) && decide (xs.length ≤ 1000) then some (.p (.tup (List.replicate k.toNat xs).flatten)) else none
  | v, w => mulV v w
theorem d_mulT {X : Cx} {c : Ct} (G : Soft X c) : OpR X (binaryOp .Mult) (rB c mulTV) := by
  intro pins s σ H x y v u Q I rx ry hq
  obtain ⟨g, st, σ0, v', w', res, R, hx, hy, e, q⟩ := hq
  have old : mulV v' w' = some res → wpAny (model X.prog X.w) X.A (binaryOp .Mult v u) (EP X pins σ Q) X.xe s := fun e => d_mul pins s σ H x y v u Q I rx ry ⟨g, st, σ0, v', w', res, R, hx, hy, e, q⟩
  cases v' with
  | tup xs =>
    cases w' with
    | int k =>
      obtain ⟨a, us, rfl, h1, r1⟩ := tup_at hx
      obtain rfl := int_of hy
      unfold mulTV at e
      dsimp only at e
      split at e
      · rename_i hc
        split at e
        · rename_i hk
          cases e
          simp only [Bool.and_eq_true, decide_eq_true_eq] at hk
          refine op_repT1 pins s σ H _ _ v u Q I rx ry ⟨a, k, us, rfl, rfl, SqT.of h1, ?_, by omega, by omega, q g H _ Ext.refl R (.tup h1 r1)⟩
          rw [Bool.or_eq_true] at hc
          rcases hc with hc | hc
          · left
            cases r1 with
            | nil => rfl
            | cons _ _ => cases hc
          · exact .inr (by simpa using hc)
        · cases e
      · rename_i hc
        have hne : us ≠ [] := fun z => by
          subst z
          cases r1
          exact hc rfl
        split at e
        · rename_i hk
          split at e
          · rename_i hk2
            cases e
            exact op_repT0 pins s σ H _ _ v u Q I rx ry ⟨a, k, us, rfl, rfl, SqT.of h1, hne, hk, by omega, new_tup R .nil q⟩
          · cases e
        · rename_i hk
          split at e
          · rename_i hk2
            cases e
            simp only [Bool.and_eq_true, decide_eq_true_eq] at hk2
            simp only [Bool.or_eq_true, beq_iff_eq, not_or] at hc
            exact op_repT pins s σ H _ _ v u Q I rx ry ⟨a, k, us, rfl, rfl, SqT.of h1, hne, by have := hc.2; omega, hk2.1, by rw [← r1.length]; exact hk2.2, new_tup R (r1.rep _) q⟩
          · cases e
    | _ => exact old e
  | _ => exact old e
/-! ## max, min of a list or a tuple -/
def maxL : List Int → Int
  | [] => 0
  | [x] => x
  | x :: y :: r => let m := maxL (y :: r); if x ≤ m then m else x
def minL : List Int → Int
  | [] => 0
  | [x] => x
  | x :: y :: r => let m := minL (y :: r); if m ≤ x then m else x
theorem maxL_mem : ∀ {l : List Int}, l ≠ [] → maxL l ∈ l
  | [], h => absurd rfl h
  | [x], _ => List.mem_cons_self
  | x :: y :: r, _ => by
    unfold maxL
    dsimp only
    split
    · exact List.mem_cons_of_mem _ (maxL_mem (fun z => nomatch z))
    · exact List.mem_cons_self
theorem maxL_le : ∀ {l : List Int} {y : Int}, y ∈ l → y ≤ maxL l
  | [x], y, h => by simp at h; subst h; exact Int.le_refl _
  | x :: z :: r, y, h => by
    unfold maxL
    dsimp only
    rcases List.mem_cons.mp h with rfl | h
    · split <;> omega
    · have := maxL_le h
      split <;> omega
theorem minL_mem : ∀ {l : List Int}, l ≠ [] → minL l ∈ l
  | [], h => absurd rfl h
  | [x], _ => List.mem_cons_self
  | x :: y :: r, _ => by
    unfold minL
    dsimp only
    split
    · exact List.mem_cons_of_mem _ (minL_mem (fun z => nomatch z))
    · exact List.mem_cons_self
theorem minL_le : ∀ {l : List Int} {y : Int}, y ∈ l → minL l ≤ y
  | [x], y, h => by simp at h; subst h; exact Int.le_refl _
  | x :: z :: r, y, h => by
    unfold minL
    dsimp only
    rcases List.mem_cons.mp h with rfl | h
    · split <;> omega
    · have := minL_le h
      split <;> omega
def maxV1 : Val → Option EV
  | .lst xs => match ints? xs with
    | some ns => if ns.isEmpty then none else some (.p (.int (maxL ns)))
    | none => none
  | _ => none
def minV1 : Val → Option EV
  | .lst xs => match ints? xs with
    | some ns => if ns.isEmpty then none else some (.p (.int (minL ns)))
    | none => none
  | _ => none
section
variable {X : Cx} {c : Ct} {k : Nat}
theorem d_max1 (G : Good X c k) : CallR X (.builtin "max") (rC1 c maxV1) := by
  intro pins s σ H xs us Q I r hq
  obtain ⟨x, g, st, σ0, v, res, rfl, R, hx, e, q⟩ := hq
  cases v with
  | lst vs =>
    unfold maxV1 at e
    dsimp only at e
    cases e2 : ints? vs with
    | none => rw [e2] at e; cases e
    | some ns =>
      rw [e2] at e
      dsimp only at e
      split at e
      · cases e
      · rename_i hne
        cases e
        obtain ⟨a, us', rfl, h1, r1⟩ := lst_of hx
        have := ints_reps r1 e2
        subst this
        have hn : ns ≠ [] := fun z => hne (by rw [z]; rfl)
        refine cr_max G.calm pins s σ H _ us Q I r ⟨a, ns, rfl, SqL.of h1, List.length_pos_iff.mpr hn, fun m hm h2 => ?_⟩
        have : m = maxL ns := Int.le_antisymm (maxL_le hm) (h2 _ (maxL_mem hn))
        subst this
        exact q g H _ Ext.refl R (.int _)
  | _ => cases e
theorem d_min1 (G : Good X c k) : CallR X (.builtin "min") (rC1 c minV1) := by
  intro pins s σ H xs us Q I r hq
  obtain ⟨x, g, st, σ0, v, res, rfl, R, hx, e, q⟩ := hq
  cases v with
  | lst vs =>
    unfold minV1 at e
    dsimp only at e
    cases e2 : ints? vs with
    | none => rw [e2] at e; cases e
    | some ns =>
      rw [e2] at e
      dsimp only at e
      split at e
      · cases e
      · rename_i hne
        cases e
        obtain ⟨a, us', rfl, h1, r1⟩ := lst_of hx
        have := ints_reps r1 e2
        subst this
        have hn : ns ≠ [] := fun z => hne (by rw [z]; rfl)
        refine cr_min G.calm pins s σ H _ us Q I r ⟨a, ns, rfl, SqL.of h1, List.length_pos_iff.mpr hn, fun m hm h2 => ?_⟩
        have : m = minL ns := Int.le_antisymm (h2 _ (minL_mem hn)) (minL_le hm)
        subst this
        exact q g H _ Ext.refl R (.int _)
  | _ => cases e
end
end Y
end

section
set_option Elab.async false
set_option linter.all false
set_option maxRecDepth 100000
set_option maxHeartbeats 1000000
namespace Y
open PySem PySem.Spec PyProof.Rows L2
/-! ## a call of a value: [f, g][i](..) -/
abbrev VTab := List (Str × (Nat × FD))
def eVCall (t : VTab) (df : S → R EV) (da : S → R AR) : S → R EV := fun st => (df st).bind fun v st1 => match v with
  | .p (.fn x) => match t.lookup x with
    | some (n, d) => eCall n d da st1
    | none => .bad
  | _ => .bad
section
variable {X : Cx} {c : Ct} {W : WXs} {k n : Nat} {pos p : Pos} {fe e : Expr} {es : List Expr} {df : S → R EV} {da : S → R AR} {t : VTab}
theorem eCall_bind {g : Gh} {H : Hp} {σ : Sig} {st : S} {d : FD} {kk : EV → S → Gh → Hp → Prop} (q : Post c W g H σ (eCall n d da st) kk) : Post c W g H σ (da st) fun p st1 _ _ => Post c W g H σ (if p.1.length = n then callD d p st1 else .bad) kk := bind0 q
theorem se_vcall (G : Good X c k) (tk : L2N.Takes X W) (ht : ∀ x n d, t.lookup x = some (n, d) → Fn c k x n d) (hf : SE X c W fe df) (ha : SB X c W (e :: es) da)
    (he : starEach (e :: es) X.env = (false, eval e X.env) :: starEach es X.env := by rfl) (hpl : (backTo pos (starEach es X.env)).any (·.1) = false := by rfl)
    (hcall : eval (.Call fe (e :: es) [] pos) X.env = (do callWith pos (← eval fe X.env) [] (backTo pos (starEach (e :: es) X.env)) (backToKw pos (keywordEach [] X.env))) := by rfl) : SE X c W (.Call fe (e :: es) [] pos) (eVCall t df da) := by
  refine ⟨fun pins s σ H Q I ⟨g, st, R, q⟩ => ?_⟩
  refine Call_ (thn (hf.run pins s σ H (fun x H1 => ∃ xn f n d g1 st1, x = .ref f ∧ c.mg xn = some (.ref f) ∧ t.lookup xn = some (n, d) ∧ Rel c g1 st1 σ H1 ∧ Ext c g H g1 H1 ∧ Post c W g1 H1 σ (eCall n d da st1) (kE c g σ Q)) I ⟨g, st, R, q.bind.mono fun v st1 g1 H1 e1 R1 q1 x rx => ?_⟩) fun fv s1 hh => ?_) hcall
  · have key : ∀ xn, v = .p (.fn xn) → ∃ xn f n d g1 st1, x = .ref f ∧ c.mg xn = some (.ref f) ∧ t.lookup xn = some (n, d) ∧ Rel c g1 st1 σ H1 ∧ Ext c g H g1 H1 ∧ Post c W g1 H1 σ (eCall n d da st1) (kE c g σ Q) := by
      intro xn hv
      subst hv
      have rx : Rep c g1 H1 (.fn xn) x := rx
      cases rx with
      | fn hm =>
      dsimp only at q1
      cases hl : t.lookup xn with
      | none => rw [hl] at q1; exact q1.elim
      | some nd =>
        rw [hl] at q1
        exact ⟨xn, _, nd.1, nd.2, g1, st1, rfl, hm, hl, R1, e1, q1⟩
    cases v with
    | p w =>
      cases w with
      | fn xn => exact key xn rfl
      | _ => exact q1.elim
    | _ => exact q1.elim
  · obtain ⟨x, H1, I1, rx, xn, f, n, d, g1, st1, rfl, hm, hl, R1, E1, q1⟩ := hh
    obtain rfl : fv = Value.ref f := rx
    obtain ⟨f', fd, ps, Fo, hm', hk, hb⟩ := (ht xn n d hl).ex
    rw [hm] at hm'
    cases hm'
    have Fo' : FnOk X.prog X.w X.K X.mg X.base (L2N.CX X.prog X.w) k f fd ps (spF c n d) := by
      rw [G.P, G.w, G.K, G.mg, G.base]; exact Fo
    refine PySem.W.callWith_K (h₀ := X.base) I1.ok.mod.kin (by rw [G.K]; exact hk) (thn (ha.run pos pins s1 σ H1 (fun vs H2 => spF c n d vs H2 Q (WE W σ)) I1 ?_) fun us s2 ⟨vs, H2, I2, r, qq⟩ => ⟨I2.kIn, ?_⟩) he hpl
    · refine ⟨g1, st1, R1, (bind0 q1).mono fun pr st2 g2 H2 e2 R2 q2 xs rs => ?_⟩
      revert q2
      by_cases hlen : pr.1.length = n
      · rw [if_pos hlen]
        intro q2
        refine call_ok e2 R2 rs (rs.len.symm.trans hlen) (?_ : Post c W g1 H1 σ (callD d pr st2) (kE c g1 σ Q))
        exact q2.mono fun v st3 g3 H3 e3 R3 h x rx => h x (RepE.start E1 rx)
      · rw [if_neg hlen]; exact fun z => z.elim
    · exact run_fnS Fo' G.hr (by rw [G.K]; exact hb) (L2N.passAt tk σ) I2 r qq
theorem tab_nil {c : Ct} {k : Nat} : ∀ x n d, ([] : VTab).lookup x = some (n, d) → Fn c k x n d := fun _ _ _ h => nomatch h
theorem tab_cons {c : Ct} {j k n : Nat} {x : Str} {d : FD} {t : VTab} (F : Fn c j x n d) (hj : j ≤ k) (h : ∀ x n d, t.lookup x = some (n, d) → Fn c k x n d) : ∀ y m b, ((x, (n, d)) :: t : VTab).lookup y = some (m, b) → Fn c k y m b := by
  intro y m b hl
  rw [List.lookup_cons] at hl
  by_cases e : (y == x) = true
  · rw [e] at hl
    cases hl
    have := eq_of_beq e
    subst this
    obtain ⟨f, fd, ps, F1, F2, F3, F4⟩ := F.ex
    exact ⟨f, fd, ps, F1.mono hj, F2, F3, F4⟩
  · rw [Bool.not_eq_true] at e
    rw [e] at hl
    exact h y m b hl
end
/-! ## {k: v, ..} -/
def kNil : S → R (List (Val × Val)) := fun st => .ok [] st
def kCons (a b : S → R EV) (r : S → R (List (Val × Val))) : S → R (List (Val × Val)) := fun st => (keep1 a st).bind fun v st1 => (keep1 b st1).bind fun w st2 => (r st2).bind fun ps st3 => .ok ((v, w) :: ps) st3
def mergeL : List Key → List Val → List (Val × Val) → Option (List Key × List Val)
  | ks, vs, [] => some (ks, vs)
  | ks, vs, (a, b) :: r => (keyOf a).bind fun k => let p := putL ks vs k b; mergeL p.1 p.2 r
def eDict (d : S → R (List (Val × Val))) : S → R EV := fun st => (d st).bind fun ps st1 => if ps.length ≤ 15 then match mergeL [] [] ps with
  | some (ks, vs) => .ok (.f (.dk ks vs)) st1
  | none => .bad else .bad
/-- pairs that are kept, beside a new dict at D -/
def tK (c : Ct) (W : WXs) (d : S → R (List (Val × Val))) (trs : List (TE × TE)) : Prop := ∀ (g : Gh) (st : S) (σ : Sig) (H : Hp) (Q : List (V × V) → Hp → Prop), Rel c g st σ H →
  Post c W g H σ (d st) (fun ps st' g' H' => ∀ xs : List (V × V), xs.length = ps.length → (∀ (i : Nat) (p : Val × Val) (x : V × V), ps[i]? = some p → xs[i]? = some x → Rep c g' H' p.1 x.1 ∧ Rep c g' H' p.2 x.2) → Q xs H') → tPairs trs σ H Q
structure SK (X : Cx) (c : Ct) (W : WXs) (pos : Pos) (ks : List (Option Expr)) (vs : List Expr) (d : S → R (List (Val × Val))) : Prop where
  ex : ∃ trs, PPs X pos ks vs trs ∧ tK c W d trs
section
variable {X : Cx} {c : Ct} {W : WXs} {k n : Nat} {pos p : Pos} {a b : Expr} {ks : List (Option Expr)} {vs : List Expr} {da db : S → R EV} {dr : S → R (List (Val × Val))}
theorem sdk_nil : SK X c W pos [] [] kNil := ⟨[], pps_nil, fun g st σ H Q R q => q g H Ext.refl R [] rfl fun _ _ _ h => by simp at h⟩
theorem sdk_cons (ha : SE X c W a da) (hb : SE X c W b db) (hr : SK X c W pos ks vs dr) : SK X c W pos (some a :: ks) (b :: vs) (kCons da db dr) := by
  obtain ⟨trs, h1, h2⟩ := hr.ex
  refine ⟨_, pps_cons ha hb h1, fun g st σ H Q R q => ?_⟩
  refine ⟨g, st, R, (keep_step q.bind).mono fun v st1 g1 H1 _ _ h x rx => ?_⟩
  obtain ⟨w, st2, g2, e2, R2, r2, q2⟩ := h x rx
  refine ⟨g2, st2, R2, (keep_step q2.bind).mono fun v3 st3 g3 H3 e3 R3 h y ry => ?_⟩
  obtain ⟨w', st4, g4, e4, R4, r4, q4⟩ := h y ry
  refine h2 g4 st4 σ H3 _ R4 (q4.bind.mono fun ps st5 g5 H5 e5 R5 q5 xs hl hx => ?_)
  refine q5 g5 H5 Ext.refl R5 ((x, y) :: xs) (by rw [List.length_cons, List.length_cons, hl]) fun i p z h1 h2 => ?_
  cases i with
  | zero => cases h1; cases h2; exact ⟨Rep.ext (e4.trans e5) r2, Rep.ext e5 r4⟩
  | succ i => exact hx i p z h1 h2
/-- keys of pairs -/
theorem merge_rep {c : Ct} {g : Gh} {H : Hp} : ∀ {ps : List (Val × Val)} {xs : List (V × V)} {ks0 : List Key} {vs0 : List Val} {us0 : List V} {ks : List Key} {vs : List Val}, xs.length = ps.length →
    (∀ (i : Nat) (p : Val × Val) (x : V × V), ps[i]? = some p → xs[i]? = some x → Rep c g H p.1 x.1 ∧ Rep c g H p.2 x.2) → ks0.length = us0.length → Reps c g H vs0 us0 → mergeL ks0 vs0 ps = some (ks, vs) →
    ∃ kvs : List (Key × V), xs = kvs.map (fun kv => (kV kv.1, kv.2)) ∧ ∃ us, mergeK (ks0.zip us0) kvs = ks.zip us ∧ ks.length = us.length ∧ Reps c g H vs us
  | [], [], ks0, vs0, us0, ks, vs, _, _, h1, h2, h => by cases h; exact ⟨[], rfl, us0, rfl, h1, h2⟩
  | [], _ :: _, _, _, _, _, _, hl, _, _, _, _ => by cases hl
  | _ :: _, [], _, _, _, _, _, hl, _, _, _, _ => by cases hl
  | (a, b) :: ps, (x, y) :: xs, ks0, vs0, us0, ks, vs, hl, hx, h1, h2, h => by
    unfold mergeL at h
    cases e : keyOf a with
    | none => rw [e] at h; cases h
    | some k =>
      rw [e] at h
      obtain ⟨ra, rb⟩ := hx 0 (a, b) (x, y) rfl rfl
      obtain ⟨us', e1, e2, e3⟩ := put_rep (k := k) h1 h2 rb
      obtain ⟨kvs, f1, us, f2, f3, f4⟩ := merge_rep (ps := ps) (xs := xs) (Nat.succ.inj hl) (fun i p z p1 p2 => hx (i + 1) p z p1 p2) e2 e3 h
      refine ⟨(k, y) :: kvs, ?_, us, ?_, f3, f4⟩
      · rw [List.map_cons, ← f1, ← key_rep ra.peek e]
      · show mergeK (putK (ks0.zip us0) k y) kvs = _
        rw [e1]; exact f2
theorem se_dict {keys : List (Option Expr)} {values : List Expr} {d : S → R (List (Val × Val))} (h : SK X c W pos keys values d) (hall : keys.all (·.isSome) = true := by rfl) (hl : keys.length = values.length := by rfl) (h0 : keys ≠ [] := by exact fun z => nomatch z) (h15 : keys.length ≤ 15 := by decide) :
    SE X c W (.Dict keys values pos) (eDict d) := by
  obtain ⟨trs, h1, h2⟩ := h.ex
  refine impE (pe_disp h1 hall hl h0 h15) fun σ H Q ⟨g, st, R, q⟩ p hp => ?_
  obtain ⟨R', e⟩ := R.new hp (.dK []) .tmp (fun z => nomatch z) (.inl rfl)
  have g0 : g p = .none := by
    by_cases z : g p = .none
    · exact z
    · exact absurd hp (R.dom p z)
  refine h2 _ st σ _ _ R' ((Post.start e (bind0 q)).mono fun ps st1 g2 H2 e2 R2 q2 xs hlen hx => ?_)
  obtain ⟨t1, t2⟩ := e2.tmp mark_same
  have hD : H2 p = some (.dK []) := t2.trans upd_same
  refine ⟨hD, ?_⟩
  by_cases hps : ps.length ≤ 15
  · rw [if_pos hps] at q2
    cases hm : mergeL [] [] ps with
    | none => rw [hm] at q2; exact q2.elim
    | some kv =>
      obtain ⟨ks, vs⟩ := kv
      rw [hm] at q2
      obtain ⟨kvs, f1, us, f2, f3, f4⟩ := merge_rep (us0 := []) hlen hx rfl .nil hm
      refine ⟨kvs, f1, ?_, ?_⟩
      · have := hlen
        rw [f1, List.length_map] at this
        omega
      · have f2 : mergeK [] kvs = ks.zip us := f2
        rw [f2]
        obtain ⟨R3, m3⟩ := R2.writeT t1 hD (o' := .dK (ks.zip us)) rfl
        refine q2 g2 _ ((e.trans e2).writeT t1 g0 hD rfl) R3 _ ⟨p, rfl, t1, g0, us, upd_same, f3, ?_⟩
        have : ∀ {vs : List Val} {us' : List V}, Reps c g2 H2 vs us' → Reps c g2 (upd H2 p (.dK (ks.zip us))) vs us' := by
          intro vs us' r
          induction vs generalizing us' with
          | nil => cases r; exact .nil
          | cons v vs ih => cases r with | cons r1 r2 => exact .cons (m3 r1) (ih r2)
        exact this f4
  · rw [if_neg hps] at q2; exact q2.elim
end
end Y
end

section
set_option Elab.async false
set_option linter.all false
set_option maxRecDepth 100000
set_option maxHeartbeats 1000000
namespace Y
open PySem PySem.Spec PyProof.Rows L2
/-! ## the law's own promise -/
def spLaw (K : PySem.W.Frag) : Sp := fun vs H Q _ => ∃ (a : Addr) (ns : List Int), vs = [.ref a] ∧ SqL K H a (ns.map V.int) ∧ ns.length ≤ 63 ∧ (∀ H', Q (.bl true) H')
theorem law_spF (c : Ct) {d : FD} (LT : ∀ ns : List Int, ns.length ≤ 63 → d [.p (.scr ns)] .none = .ok (.p (.bl true)) .none) : ∀ vs H Q E, spLaw c.K vs H Q E → spF c 1 d vs H Q E := by
  intro vs H Q E ⟨a, ns, e, hS, hl, hQ⟩
  subst e
  refine ⟨rfl, ?_⟩
  have fin : ∀ g, Rel (c.at H) g ⟨[.p (.scr ns)], .none⟩ (([V.ref a] : List V).map some) H → ∃ g svs rf, Rel (c.at H) g ⟨svs, rf⟩ (([V.ref a] : List V).map some) H ∧ svs.all argOk = true ∧ match d svs rf with
    | .ok v rf' => ∀ g' H' x, Ext (c.at H) g H g' H' → Fin (c.at H) g' H' rf' → RepR (c.at H) g' H' v x → Q x H'
    | .ex e rf' => ∀ g' H' cls dx, Ext (c.at H) g H g' H' → Fin (c.at H) g' H' rf' → RepX (c.at H) H' e cls dx → E cls dx H'
    | .bad => False := by
    intro g R
    refine ⟨g, _, _, R, rfl, ?_⟩
    rw [LT ns hl]
    intro g' H' x _ _ rx
    have rx : Rep (c.at H) g' H' (.bl true) x := rx
    cases rx
    exact hQ H'
  rcases hS with hS | hS
  · -- the script is tracked
    refine fin (fun b => if b = a then .frz else .none) ⟨rfl, fun i sv x h1 h2 => ?_, .inl rfl, fun b b' h => ?_, fun b h => ?_, fun b h => ?_, fun b i h => ?_, fun b h => h⟩
    · cases i with
      | zero => cases h1; cases h2; exact .scr (.inl (if_pos rfl)) (.inl hS)
      | succ i => cases i <;> cases h1
    · split at h <;> cases h
    · by_cases z : b = a
      · rw [z]
        rcases hS with h' | ⟨o, h'⟩ <;> rw [h'] <;> exact fun z => nomatch z
      · rw [if_neg z] at h; exact absurd rfl h
    · rcases h with h | ⟨i, h⟩ | ⟨i, h⟩ <;> · split at h <;> cases h
    · split at h <;> cases h
  · -- the script is a constant
    refine fin (fun _ => .none) ⟨rfl, fun i sv x h1 h2 => ?_, .inl rfl, fun b b' h => (nomatch h), fun b h => absurd rfl h, fun b h => ?_, fun b i h => (nomatch h), fun b h => h⟩
    · cases i with
      | zero => cases h1; cases h2; exact .scr (.inr fun _ => .inr hS) (.inr hS)
      | succ i => cases i <;> cases h1
    · rcases h with h | ⟨i, h⟩ | ⟨i, h⟩ <;> cases h
end Y
end

section
set_option Elab.async false
set_option linter.all false
set_option maxRecDepth 100000
set_option maxHeartbeats 1000000
namespace Y
open PySem PySem.Spec PyProof.Rows L2
/-! ## a dict that is walked: it is locked -/
structure Sw (d : Addr) (kvs : List (Key × V)) (H H' : Hp) : Prop where
  other : ∀ a, a ≠ d → H' a = H a
  a : Rd H d (.dK kvs)
  b : Rd H' d (.dK kvs)
theorem Sw.symm {d : Addr} {kvs : List (Key × V)} {H H' : Hp} (s : Sw d kvs H H') : Sw d kvs H' H := ⟨fun a h => (s.other a h).symm, s.b, s.a⟩
section
variable {c : Ct} {g g' g0 : Gh} {H H' H1 H2 : Hp} {d : Addr} {kvs : List (Key × V)} {st : S} {σ : Sig}
theorem Sw.ne (s : Sw d kvs H H') {a : Addr} {u : HO} (h : H a = some u) (h1 : u ≠ .dK kvs) (h2 : ∀ o, u ≠ .frz o (.dK kvs)) : a ≠ d := fun z => by
  subst z
  rcases s.a with q | ⟨o, q⟩
  · rw [q] at h; cases h; exact h1 rfl
  · rw [q] at h; cases h; exact h2 o rfl
theorem Sw.get (s : Sw d kvs H H') {a : Addr} {u : HO} (h : H a = some u) (h1 : u ≠ .dK kvs := by exact fun z => nomatch z) (h2 : ∀ o, u ≠ .frz o (.dK kvs) := by exact fun _ z => nomatch z) : H' a = some u := (s.other a (s.ne h h1 h2)).trans h
theorem Sw.rd (s : Sw d kvs H H') {a : Addr} {ks : List (Key × V)} (h : Rd H a (.dK ks)) : Rd H' a (.dK ks) := by
  by_cases z : a = d
  · subst z
    have : ks = kvs := by
      rcases s.a with q | ⟨o, q⟩ <;> rcases h with h | ⟨o', h⟩ <;> rw [q] at h <;> cases h <;> rfl
    subst this
    exact s.b
  · unfold Rd at h ⊢
    rw [s.other a z]; exact h
theorem Sw.sqL (s : Sw d kvs H H') {K : PySem.W.Frag} {a : Addr} {us : List V} (h : SqL K H a us) : SqL K H' a us := by
  rcases h with (h | ⟨o, h⟩) | h
  · exact .inl (.inl (s.get h))
  · exact .inl (.inr ⟨o, s.get h⟩)
  · exact .inr h
theorem Sw.rep (s : Sw d kvs H H') {v : Val} {x : V} (h : Rep c g H v x) : Rep c g H' v x := by
  refine Rep.rec (motive_1 := fun v x _ => Rep c g H' v x) (motive_2 := fun vs xs _ => Reps c g H' vs xs) ?_ ?_ ?_ ?_ ?_ ?_ ?_ ?_ ?_ ?_ ?_ ?_ ?_ h
  · exact .non
  · intro b; exact .bl b
  · intro b; exact .int b
  · intro b; exact .str b
  · intro b; exact .ty b
  · intro _ _ h; exact .fn h
  · intro _ _ _ h _ r; exact .tup (s.get h) r
  · intro _ _ _ h1 h2 _ r; exact .lst h1 (s.get h2) r
  · intro _ _ h1 h2; exact .scr h1 (s.sqL h2)
  · intro _ _ _ _ h1 h2 h3 _ r; exact .dk h1 (s.rd h2) h3 r
  · intro _ _ _ _ h1 h2 h3 _ r; exact .dt h1 (s.get h2) h3 r
  · exact .nil
  · intro _ _ _ _ _ _ h t; exact .cons h t
theorem Sw.reps (s : Sw d kvs H H') : ∀ {vs : List Val} {xs : List V}, Reps c g H vs xs → Reps c g H' vs xs
  | _, _, .nil => .nil
  | _, _, .cons h t => .cons (s.rep h) (Sw.reps s t)
theorem Sw.repO (s : Sw d kvs H H') {b : Ob} {a : Addr} (ha : a ≠ d) (h : RepO c g H b a) : RepO c g H' b a := by
  cases b with
  | none => exact h
  | lst vs => obtain ⟨us, h1, h2⟩ := h; exact ⟨us, (s.other a ha).trans h1, s.reps h2⟩
  | dk ks vs => obtain ⟨us, h1, h2, h3⟩ := h; exact ⟨us, (s.other a ha).trans h1, h2, s.reps h3⟩
  | dt ks vs => obtain ⟨us, h1, h2, h3⟩ := h; exact ⟨us, (s.other a ha).trans h1, h2, s.reps h3⟩
theorem Sw.some (s : Sw d kvs H H') {a : Addr} (h : H a ≠ none) : H' a ≠ none := by
  by_cases z : a = d
  · subst z
    rcases s.b with q | ⟨o, q⟩ <;> rw [q] <;> exact fun z => nomatch z
  · rw [s.other a z]; exact h
theorem Sw.rel (s : Sw d kvs H H') (hg : g d = .frz) (R : Rel c g st σ H) : Rel c g st σ H' := by
  have ne : ∀ {a : Addr} {t : Tag}, g a = t → t ≠ .frz → a ≠ d := fun {a t} h n z => n (by rw [← h, z, hg])
  refine ⟨R.len, fun i sv x h1 h2 => ?_, ?_, R.rfu, fun b q => s.some (R.dom b q), R.young, R.lkd, fun b q => s.some (R.grow b q)⟩
  · have q := R.sl i sv x h1 h2
    cases sv with
    | p v => cases x with | none => exact q | some x => exact s.rep q
    | o b => cases x with | none => exact q | some x => obtain ⟨a, e1, e2, e3⟩ := q; exact ⟨a, e1, e2, s.repO (ne e2 fun z => nomatch z) e3⟩
    | l b => cases x with | none => exact q | some x => obtain ⟨a, e1, e2, e3⟩ := q; exact ⟨a, e1, e2, s.repO (ne e2 fun z => nomatch z) e3⟩
    | r => cases x with | none => exact q | some x => exact q
    | u => cases x <;> exact trivial
    | x => cases x with | none => exact q | some x => exact q
  · rcases R.rf with e | ⟨a, e1, e2⟩
    · exact .inl e
    · exact .inr ⟨a, e1, s.repO (ne e1 fun z => nomatch z) e2⟩
theorem Sw.repE (s : Sw d kvs H H') (hg : g d = .frz) {v : EV} {x : V} (h : RepE c g0 g H σ v x) : RepE c g0 g H' σ v x := by
  cases v with
  | p v => exact s.rep h
  | f b => obtain ⟨a, e1, e2, e3, e4⟩ := h; exact ⟨a, e1, e2, e3, s.repO (fun z => by subst z; rw [hg] at e2; cases e2) e4⟩
  | s i => exact h
  | r => exact h
/-- from before the lock to behind it -/
theorem Ext.sw (s1 : Sw d kvs H H1) (s2 : Sw d kvs H2 H') (hd : H' d = H d) (E : Ext c g H1 g' H2) : Ext c g H g' H' := by
  refine ⟨fun a h => ?_, E.rft, E.some, fun a us h => s2.get (E.tups a us (s1.get h)), fun a h => s2.some (E.grow a (s1.some h))⟩
  obtain ⟨k1, k2⟩ := E.keep a h
  refine ⟨k1, ?_⟩
  by_cases z : a = d
  · rw [z]; exact hd
  · rw [s2.other a z, k2, s1.other a z]
end
/-! ### the walk -/
inductive DKind where
  | keys | values | items
def itemsL (kd : DKind) (ks : List Key) (vs : List Val) : List Val := match kd with
  | .keys => ks.map keyV
  | .values => vs
  | .items => (ks.zip vs).map fun p => .tup [keyV p.1, p.2]
def SR.calmS : SR → SR
  | .ex _ _ => .bad
  | r => r
def sForD (kd : DKind) (i : Nat) (t : Tgt) (body : S → SR) : S → SR := fun st => match take st (.s i) with
  | some (.dk ks vs, st1) => (forL t body (itemsL kd ks vs) st1).calmS
  | _ => .bad
def wiK (kd : DKind) (td : TE) : TI := match kd with
  | .keys => iKeys td
  | .values => iVals td
  | .items => iItems td
section
variable {X : Cx} {c : Ct} {W : WXs} {k : Nat} {pos : Pos} {e tg : Expr} {ss : List Stmt} {tt : Tgt} {body : S → SR}
/-- the turns of a loop over what stands still -/
theorem for_body {D : Ends} {g0 g1 : Gh} {H H1 : Hp} {σ : Sig} {st1 : S} {items : List Val} {J : It} (ht : SG X c tg tt) (hb : SSs X c W ss body) (I : Iter c J g1 H1 items) (R1 : Rel c g1 st1 σ H1) (e1 : Ext c g0 H g1 H1)
    (q1 : PostS c W D g0 H (forL tt body items st1)) : ∃ Wv : Nat → Nat → L2.St → Hp → Prop, (∃ m, Wv 0 m σ H1) ∧ ∀ i m σ H, Wv i m σ H →
  (J.stop i H ∧ D.nx σ H) ∨ (J.go i H ∧ ∃ N : L2.St → Hp → Prop, (∀ σ' H', N σ' H' → ∃ m', m' < m ∧ Wv (i + 1) m' σ' H') ∧ ∀ x H', J.yld i H x H' → tG c tt x σ H' fun σ2 H2 => tS c W body { D with nx := N, ct := N, bk := D.nx } σ2 H2) := by
  refine ⟨fun i m σ' H' => ∃ g st, Rel c g st σ' H' ∧ Ext c g1 H1 g H' ∧ m = items.length - i ∧ i ≤ items.length ∧ PostS c W D g0 H (forL tt body (items.drop i) st), ⟨items.length, g1, st1, R1, Ext.refl, by simp, Nat.zero_le _, q1⟩, ?_⟩
  rintro i m σ2 H2 ⟨g2, st2, R2, E2, rfl, hi', q2⟩
  by_cases hlt : i < items.length
  · refine .inr ⟨I.go i g2 H2 E2 hlt, fun σ' H' => ∃ g st, Rel c g st σ' H' ∧ Ext c g1 H1 g H' ∧ PostS c W D g0 H (forL tt body (items.drop (i + 1)) st), fun σ' H' ⟨g, st, R, E, q⟩ => ⟨items.length - (i + 1), by omega, g, st, R, E, rfl, hlt, q⟩, fun x H' y => ?_⟩
    obtain ⟨g3, E3, R3, r3⟩ := I.yld i g2 H2 st2 σ2 x H' items[i] E2 R2 (List.getElem?_eq_getElem hlt) y
    have ed : items.drop i = items[i] :: items.drop (i + 1) := List.drop_eq_getElem_cons hlt
    rw [ed, forL] at q2
    cases ha : asg tt items[i] st2 with
    | none => rw [ha] at q2; exact q2.elim
    | some st3 =>
      rw [ha] at q2
      dsimp only at q2
      refine ⟨g3, st2, items[i], st3, R3, r3, ha, fun σ' R' _ => ⟨g3, st3, R', ?_⟩⟩
      have E4 := E2.trans E3
      have E5 := e1.trans E4
      revert q2
      cases body st3 with
      | nx st4 => exact fun q g' σ' H' e' R' => ⟨g', st4, R', E4.trans e', q⟩
      | ct st4 => exact fun q g' σ' H' e' R' => ⟨g', st4, R', E4.trans e', q⟩
      | bk st4 => exact fun q g' σ' H' e' R' => q g' σ' H' (E5.trans e') R'
      | rt v st4 => exact fun q g' σ' H' x e' R' rx => q g' σ' H' x (E5.trans e') R' (RepE.start E5 rx)
      | ex x st4 => exact fun q g' σ' H' cls dx e' R' rx => q g' σ' H' cls dx (E5.trans e') R' rx
      | bad => exact fun z => z
  · have ei : i = items.length := by omega
    subst ei
    refine .inl ⟨I.stop _ g2 H2 E2 (Nat.le_refl _), ?_⟩
    rw [List.drop_length, forL] at q2
    exact q2 g2 σ2 H2 (e1.trans E2) R2
def itK (kd : DKind) (d : Addr) (o : Obj) (kvs : List (Key × V)) : It := match kd with
  | .keys => Itk d o kvs
  | .values => Itd d o kvs
  | .items => Iti d o kvs
theorem wi_of {kd : DKind} {td : TE} {σ : L2.St} {H : Hp} {Rk : It → Hp → Prop} {d : Addr} {o : Obj} {kvs : List (Key × V)} (h : td σ H fun x H1 => x = .ref d ∧ H1 d = some (.frz o (.dK kvs)) ∧ Rk (itK kd d o kvs) H1)
    (hm : ∀ {P Q : V → Hp → Prop}, (∀ x H, P x H → Q x H) → td σ H P → td σ H Q) : wiK kd td σ H Rk := by
  cases kd with
  | keys => exact hm (fun x H1 ⟨e, h1, h2⟩ => ⟨d, o, e, .inl ⟨kvs, h1, h2⟩⟩) h
  | values => exact hm (fun x H1 ⟨e, h1, h2⟩ => ⟨d, o, kvs, e, h1, h2⟩) h
  | items => exact hm (fun x H1 ⟨e, h1, h2⟩ => ⟨d, o, kvs, e, h1, h2⟩) h
theorem zip_get' {ks : List Key} {us : List V} {i : Nat} {k' : Key} {x : V} (h : (ks.zip us)[i]? = some (k', x)) : ks[i]? = some k' ∧ us[i]? = some x := by
  rw [List.getElem?_zip_eq_some] at h; exact h
theorem iter_dk {kd : DKind} {d : Addr} {o : Obj} {g : Gh} {H : Hp} {ks : List Key} {vs : List Val} {us : List V} (hg : g d = .frz) (hd : H d = some (.frz o (.dK (ks.zip us)))) (hl : ks.length = us.length) (r : Reps c g H vs us) :
    Iter c (itK kd d o (ks.zip us)) g H (itemsL kd ks vs) := by
  have at_ : ∀ {g' : Gh} {H' : Hp}, Ext c g H g' H' → H' d = some (.frz o (.dK (ks.zip us))) := fun E => (E.frz hg).2.trans hd
  have len : (ks.zip us).length = (itemsL kd ks vs).length := by
    have := r.length
    cases kd <;> simp [itemsL, List.length_zip, hl, this]
  refine ⟨fun i g' H' E hi => ?_, fun i g' H' E hi => ?_, fun i g' H' st σ x H'' v E R hv y => ?_⟩
  · rw [← len] at hi
    cases kd <;> exact ⟨at_ E, hi⟩
  · rw [← len] at hi
    cases kd <;> exact ⟨at_ E, hi⟩
  · cases kd with
    | keys =>
      obtain ⟨e, k', w, h1, rfl⟩ := y
      subst e
      have h2 : (ks.map keyV)[i]? = some v := hv
      rw [List.getElem?_map, (zip_get' h1).1] at h2
      cases h2
      exact ⟨g', Ext.refl, R, keyV_rep _⟩
    | values =>
      obtain ⟨e, k', h1⟩ := y
      subst e
      obtain ⟨z, h3, h4⟩ := r.get (show vs[i]? = some v from hv)
      rw [(zip_get' h1).2] at h3
      cases h3
      exact ⟨g', Ext.refl, R, Rep.ext E h4⟩
    | items =>
      obtain ⟨T, k', w, h1, rfl, hT, rfl⟩ := y
      have h2 : ((ks.zip vs).map fun p => Val.tup [keyV p.1, p.2])[i]? = some v := hv
      rw [List.getElem?_map] at h2
      cases h5 : (ks.zip vs)[i]? with
      | none => rw [h5] at h2; cases h2
      | some p =>
        rw [h5] at h2
        cases h2
        obtain ⟨h6, h7⟩ := List.getElem?_zip_eq_some.mp h5
        rw [(zip_get' h1).1] at h6
        obtain ⟨z, h8, h9⟩ := r.get h7
        rw [(zip_get' h1).2] at h8
        cases h8
        cases h6
        exact pair_new R hT (keyV_rep _) (Rep.ext E h9)
theorem calm_ok {D : Ends} {g : Gh} {H : Hp} {r : SR} (q : PostS c W D g H r.calmS) : PostS c W D g H r := by
  cases r with
  | ex e st => exact q.elim
  | nx st => exact q
  | rt v st => exact q
  | bk st => exact q
  | ct st => exact q
  | bad => exact q
/-- what is wished behind the loop, wished within the lock -/
theorem lock_post {D : Ends} {g : Gh} {H : Hp} {d : Addr} {kvs : List (Key × V)} {od : Obj} {r : SR} (hg : g d = .frz) (hd : H d = some (.dK kvs)) (q : PostS c W D g H r.calmS) :
    PostS c W ⟨fun σ' H' => H' d = some (.frz od (.dK kvs)) ∧ D.nx σ' (upd H' d (.dK kvs)), fun v H' => H' d = some (.frz od (.dK kvs)) ∧ D.rt v (upd H' d (.dK kvs)), fun σ' H' => H' d = some (.frz od (.dK kvs)) ∧ D.bk σ' (upd H' d (.dK kvs)), fun σ' H' => H' d = some (.frz od (.dK kvs)) ∧ D.ct σ' (upd H' d (.dK kvs))⟩ g (upd H d (.frz od (.dK kvs))) r := by
  have s1 : Sw d kvs H (upd H d (.frz od (.dK kvs))) := ⟨fun a h => upd_ne h, .inl hd, .inr ⟨od, upd_same⟩⟩
  have bk : ∀ {g' : Gh} {H' : Hp}, Ext c g (upd H d (.frz od (.dK kvs))) g' H' → g' d = .frz ∧ H' d = some (.frz od (.dK kvs)) := fun e => ⟨(e.frz hg).1, (e.frz hg).2.trans upd_same⟩
  have s2 : ∀ {H' : Hp}, H' d = some (.frz od (.dK kvs)) → Sw d kvs H' (upd H' d (.dK kvs)) := fun h => ⟨fun a h => upd_ne h, .inr ⟨od, h⟩, .inl upd_same⟩
  have ex : ∀ {g' : Gh} {H' : Hp}, Ext c g (upd H d (.frz od (.dK kvs))) g' H' → Ext c g H g' (upd H' d (.dK kvs)) := fun e => Ext.sw s1 (s2 (bk e).2) (upd_same.trans hd.symm) e
  cases r with
  | ex e st => exact q.elim
  | bad => exact q
  | nx st => exact fun g' σ' H' e R' => ⟨(bk e).2, q g' σ' _ (ex e) ((s2 (bk e).2).rel (bk e).1 R')⟩
  | bk st => exact fun g' σ' H' e R' => ⟨(bk e).2, q g' σ' _ (ex e) ((s2 (bk e).2).rel (bk e).1 R')⟩
  | ct st => exact fun g' σ' H' e R' => ⟨(bk e).2, q g' σ' _ (ex e) ((s2 (bk e).2).rel (bk e).1 R')⟩
  | rt v st => exact fun g' σ' H' x e R' rx => ⟨(bk e).2, q g' σ' _ x (ex e) ((s2 (bk e).2).rel (bk e).1 R') ((s2 (bk e).2).repE (bk e).1 rx)⟩
theorem s_forD {kd : DKind} {i : Nat} (G : Good X c k) (po : PassesOwn (model X.prog X.w) X.A X.env X.xe) (hpi : PI X tg e (wiK kd (tVar i))) (ht : SG X c tg tt) (hb : SSs X c W ss body)
    (hs : ∀ x, foldedSetIterable e X.env x = pure x := by intro _; rfl) : SS X c W (.For tg e ss [] pos) (sForD kd i tt body) := by
  have P1 : PS X (.For tg e ss [] pos) (tFor (wiK kd (tVar i)) (tG c tt) (tS c W body)) := ps_for po G.calm hpi ht hb hs
  have P2 := ps_lock P1
  refine ⟨fun pins s σ H D I ⟨g, st, R, q⟩ => ?_⟩
  unfold sForD at q
  cases htk : take st (.s i) with
  | none => rw [htk] at q; exact q.elim
  | some p =>
    obtain ⟨w, st1⟩ := p
    have hx : ∃ x, σ[i]? = some (some x) := by
      have : ∃ sv, st.get i = sv ∧ ((∃ v, sv = .p v) ∨ ∃ b, sv = .o b) := by
        unfold take at htk
        dsimp only at htk
        cases e : st.get i with
        | p v => exact ⟨_, rfl, .inl ⟨v, rfl⟩⟩
        | o b => exact ⟨_, rfl, .inr ⟨b, rfl⟩⟩
        | l b => rw [e] at htk; cases htk
        | r => rw [e] at htk; cases htk
        | u => rw [e] at htk; cases htk
        | x => rw [e] at htk; cases htk
      obtain ⟨sv, e1, e2⟩ := this
      obtain ⟨x, h1, h2⟩ := R.at e1 (by rcases e2 with ⟨v, rfl⟩ | ⟨b, rfl⟩ <;> exact fun z => nomatch z)
      cases x with
      | none => rcases e2 with ⟨v, rfl⟩ | ⟨b, rfl⟩ <;> exact h2.elim
      | some x => exact ⟨x, h1⟩
    obtain ⟨x, hx⟩ := hx
    obtain ⟨g1, E1, R1, rep⟩ := take_ok (Ext.refl) R (v := .s i) (x := x) (show RepE c g g H σ (.s i) x from hx) htk
    cases w with
    | dk ks vs =>
      rw [htk] at q
      dsimp only at q
      have q1 := PostS.start E1 q
      cases rep with
      | @dk d us _ _ h1 h2 h3 r =>
      rcases h2 with h2 | ⟨od, h2⟩
      · refine P2.run pins s σ H D I ⟨d, _, h2, trivial, fun od => ?_⟩
        have s1 : Sw d (ks.zip us) H (upd H d (.frz od (.dK (ks.zip us)))) := ⟨fun a h => upd_ne h, .inl h2, .inr ⟨od, upd_same⟩⟩
        exact wi_of (td := tVar i) (d := d) (o := od) (kvs := ks.zip us) ⟨_, hx, rfl, upd_same, for_body ht hb (iter_dk h1 upd_same h3 (s1.reps r)) (s1.rel h1 R1) Ext.refl (lock_post h1 h2 q1)⟩ (fun m ⟨v, e1, e2⟩ => ⟨v, e1, m _ _ e2⟩)
      · exact P1.run pins s σ H D I (wi_of (td := tVar i) (d := d) (o := od) (kvs := ks.zip us) ⟨_, hx, rfl, h2, for_body ht hb (iter_dk h1 h2 h3 r) R1 Ext.refl (calm_ok q1)⟩ (fun m ⟨v, e1, e2⟩ => ⟨v, e1, m _ _ e2⟩))
    | _ => rw [htk] at q; exact q.elim
/-- for x in a name: a list or a dict -/
def isDk : SV → Bool
  | .p (.dk _ _) => true
  | .o (.dk _ _) => true
  | _ => false
def sForN (i : Nat) (t : Tgt) (body : S → SR) : S → SR := fun st => if isDk (st.get i) then sForD .keys i t body st else sFor (iterD (eVar i)) t body st
theorem s_forN {i : Nat} {x : Str} {p : Pos} (G : Good X c k) (po : PassesOwn (model X.prog X.w) X.A X.env X.xe) (hN : X.N[i]? = some x := by rfl) (hv : Vis X.env.scope x := by first | exact Or.inl rfl | exact Or.inr (Or.inl rfl) | exact Or.inr (Or.inr rfl)) (ht : SG X c tg tt) (hb : SSs X c W ss body)
    (hd : (x == ("__debug__" : Str)) = false := by decide) (hcd : (x == ("__classdict__" : Str)) = false := by decide) (hs : ∀ y, foldedSetIterable (.Name x p) X.env y = pure y := by intro _; rfl) : SS X c W (.For tg (.Name x p) ss [] pos) (sForN i tt body) := by
  refine ⟨fun pins s σ H D I ⟨g, st, R, q⟩ => ?_⟩
  unfold sForN at q
  by_cases h : isDk (st.get i) = true
  · rw [if_pos h] at q
    exact (s_forD (kd := .keys) G po (pi_keys (pe_var hN hv hd hcd)) ht hb hs).run pins s σ H D I ⟨g, st, R, q⟩
  · rw [if_neg h] at q
    exact (s_for G po (si_seq G (se_var i hN hv hd hcd)) ht hb hs).run pins s σ H D I ⟨g, st, R, q⟩
end
end Y
end

section
set_option Elab.async false
set_option linter.all false
set_option maxRecDepth 100000
set_option maxHeartbeats 1000000
namespace Y
open PySem PySem.Spec PyProof.Rows L2
/-! ## slots that are not needed any more are forgotten -/
def fgS : List Nat → S → S
  | [], st => st
  | v :: r, st => fgS r (if locked st v then st else st.set v .u)
def SR.fg (vs : List Nat) : SR → SR
  | .nx st => .nx (fgS vs st)
  | .bk st => .bk (fgS vs st)
  | .ct st => .ct (fgS vs st)
  | r => r
def sFg (vs : List Nat) (d : S → SR) : S → SR := fun st => (d st).fg vs
section
variable {X : Cx} {c : Ct} {W : WXs} {s : Stmt} {ss : List Stmt} {d : S → SR}
theorem Rel.forget {g : Gh} {H : Hp} {st : S} {σ : Sig} (R : Rel c g st σ H) {i : Nat} (hl : ∀ b, st.get i ≠ .l b) : Rel c g (st.set i .u) σ H := by
  refine ⟨by show (st.sl.set i .u).length = _; rw [List.length_set]; exact R.len, fun j sv x h1 h2 => ?_, R.rf, R.rfu, R.dom, R.young, fun b j q => ?_, R.grow⟩
  · have h1 : (st.sl.set i .u)[j]? = some sv := h1
    by_cases hj : i = j
    · subst hj
      have hlt : i < st.sl.length := by have := (List.getElem?_eq_some_iff.mp h1).1; rwa [List.length_set] at this
      rw [List.getElem?_set_self hlt] at h1
      cases h1
      cases x <;> exact trivial
    · rw [List.getElem?_set_ne hj] at h1
      exact R.sl j sv x h1 h2
  · obtain ⟨ob, h1, h2⟩ := R.lkd b j q
    refine ⟨ob, ?_, h2⟩
    by_cases hj : i = j
    · subst hj
      exact absurd (by unfold S.get; rw [h1]) (hl ob)
    · show (st.sl.set i .u)[j]? = _
      rw [List.getElem?_set_ne hj]; exact h1
theorem Rel.fg {g : Gh} {H : Hp} {σ : Sig} : ∀ (vs : List Nat) {st : S}, Rel c g st σ H → Rel c g (fgS vs st) σ H
  | [], _, R => R
  | v :: r, st, R => by
    unfold fgS
    by_cases hl : locked st v = true
    · rw [if_pos hl]; exact Rel.fg r R
    · rw [if_neg hl]; exact Rel.fg r (R.forget (locked_no hl))
theorem fg_ok {D : Ends} {g : Gh} {H : Hp} {vs : List Nat} {r : SR} (q : PostS c W D g H (r.fg vs)) : PostS c W D g H r := by
  cases r with
  | nx st => exact fun g' σ' H' e R => q g' σ' H' e (R.fg vs)
  | bk st => exact fun g' σ' H' e R => q g' σ' H' e (R.fg vs)
  | ct st => exact fun g' σ' H' e R => q g' σ' H' e (R.fg vs)
  | rt v st => exact q
  | ex e st => exact q
  | bad => exact q
theorem s_fg (vs : List Nat) (h : SS X c W s d) : SS X c W s (sFg vs d) := impS h fun D σ H ⟨g, st, R, q⟩ => ⟨g, st, R, fg_ok q⟩
theorem ss_fg (vs : List Nat) (h : SSs X c W ss d) : SSs X c W ss (sFg vs d) := impSs h fun D σ H ⟨g, st, R, q⟩ => ⟨g, st, R, fg_ok q⟩
end
end Y
end

section
set_option Elab.async false
set_option linter.all false
set_option maxRecDepth 100000
set_option maxHeartbeats 1000000
namespace Y
open PySem PySem.Spec PyProof.Rows L2
/-! ## try: .. except X: .. except Y: .. (no names) -/
def pickH (isa : Isa) (e : Exc) (st : S) : List (Str × (S → SR)) → SR
  | [] => .ex e st
  | (n, d) :: r => match isa e.nm n with
    | some true => (d st).calmS
    | some false => pickH isa e st r
    | none => .bad
def sTryMany (isa : Isa) (body : S → SR) (hs : List (Str × (S → SR))) : S → SR := fun st => match body st with
  | .ex e st1 => pickH isa e st1 hs
  | r => r
section
variable {X : Cx} {c : Ct} {W : WXs} {k : Nat} {pos : Pos} {isa : Isa}
/-- the handlers, each with its suite -/
inductive SHs (X : Cx) (c : Ct) : List ExceptHandler → List (Str × (S → SR)) → Prop
  | nil : SHs X c [] []
  | cons {x : Str} {b : Stmt} {suite : List Stmt} {np pos' : Pos} {hds : List ExceptHandler} {l : List (Str × (S → SR))} {ds : S → SR} (hg : Gl X x) (hdb : (x == ("__debug__" : Str)) = false) (hx : ∃ C, c.mg x = some (.ref C))
      (hsu : ∀ (X' : Cx), Soft X' c → SSs X' c WF (b :: suite) ds) (r : SHs X c hds l) : SHs X c (.ExceptHandler (some (.Name x np)) none (b :: suite) pos' :: hds) ((x, ds) :: l)
theorem shs_ok (G : Good X c k) (T : XT c isa) : ∀ {hds : List ExceptHandler} {l : List (Str × (S → SR))}, SHs X c hds l → ∃ L, L2N.HdsOk X hds L ∧
    ∀ (W : WXs) (D : Ends) (g0 : Gh) (H0 : Hp) (e : Exc) (st : S), PostS c W D g0 H0 (pickH isa e st l) → ∀ g' σ' H' cls dx, Ext c g0 H0 g' H' → Rel c g' st σ' H' → RepX c H' e cls dx → wMany X.K W D L cls dx σ' H'
  | _, _, .nil => ⟨[], .nil, fun W D g0 H0 e st q g' σ' H' cls dx E R rx => q g' σ' H' cls dx E R rx⟩
  | _, _, .cons (x := x) (ds := ds) (l := l) hg hdb hx hsu r => by
    obtain ⟨L, h1, h2⟩ := shs_ok G T r
    obtain ⟨C, hC⟩ := hx
    refine ⟨(.ref C, fun _ _ _ => tS c WF ds) :: L, .cons ⟨hg, hdb, .inl (by rw [G.mg]; exact hC)⟩ (fun a oe cls d pn _ _ => hsu _ ⟨G.K, G.mg⟩) h1, fun W D g0 H0 e st q g' σ' H' cls dx E R rx => ?_⟩
    obtain ⟨C1, hC1, rfl⟩ := rx.1
    unfold pickH at q
    cases hI : isa e.nm x with
    | none => rw [hI] at q; exact q.elim
    | some b =>
      obtain ⟨C2, D2, m1, m2, _, _, m5⟩ := T.kit _ _ _ hI
      rw [hC1] at m1; cases m1
      rw [hC] at m2; cases m2
      rw [hI] at q
      refine ⟨b, by rw [G.K]; exact m5, fun hb a _ => ?_, fun hb => ?_⟩
      · subst hb
        refine ⟨g', st, R, ?_⟩
        have q : PostS c W D g0 H0 ((ds st).calmS) := q
        have q := PostS.start E q
        revert q
        cases hd : ds st with
        | ex e2 st2 => exact fun q => q.elim
        | nx st2 => exact fun q => q
        | rt v st2 => exact fun q => q
        | bk st2 => exact fun q => q
        | ct st2 => exact fun q => q
        | bad => exact fun q => q.elim
      · subst hb
        exact h2 W D g0 H0 e st q g' σ' H' _ dx E R rx
theorem s_try_many {body : List Stmt} {h0 : ExceptHandler} {hds : List ExceptHandler} {db : S → SR} {l : List (Str × (S → SR))} (G : Good X c k) (T : XT c isa) (tk : L2N.Takes X W) (hh : SHs X c (h0 :: hds) l)
    (hb : ∀ (W' : WXs) (pn : List (Addr × Obj)) (xe : Value → Shared → Prop), Good (X.tr pn xe) c k → L2N.Takes (X.tr pn xe) W' → PassesOwn (model X.prog X.w) X.A X.env xe → SSs (X.tr pn xe) c W' body db)
    (hs : X.stack = X.env :: X.outer := by rfl) (hf : X.env.frame = some X.env.locals := by rfl) :
    SS X c W (.Try body (h0 :: hds) [] [] pos) (sTryMany isa db l) := by
  obtain ⟨L, h1, h2⟩ := shs_ok G T hh
  refine impS (L2N.ps_try_many (tb := fun W' => tS c W' db) (Wout := W) hs hf tk (fun W' pn xe t p => hb W' pn xe ⟨G.P, G.w, G.base, G.K, G.mg, G.calm, G.nd, G.hr⟩ t p) h1) fun D σ H ⟨g, st, R, q⟩ => ⟨g, st, R, ?_⟩
  unfold sTryMany at q
  cases hd : db st with
  | nx st1 => rw [hd] at q; exact q
  | rt v st1 => rw [hd] at q; exact q
  | bk st1 => rw [hd] at q; exact q
  | ct st1 => rw [hd] at q; exact q
  | bad => rw [hd] at q; exact q
  | ex e st1 =>
    rw [hd] at q
    exact fun g1 σ1 H1 cls dx e1 R1 rx => h2 W D g H e st1 q g1 σ1 H1 cls dx e1 R1 rx
end
end Y
end

section
set_option Elab.async false
set_option linter.all false
set_option maxRecDepth 100000
set_option maxHeartbeats 1000000
namespace Y
open PySem PySem.Spec PyProof.Rows L2 HT
/-! ## t[::-1] of a tuple -/
section
variable {prog : Program} {w : World} {A : Around} {E : Value → Shared → Prop} {s : Shared}
theorem back_parts {sl : Addr} {vs : Value} {n : Nat} {Q : Int × Int × Nat → Shared → Prop} (hs : s.heap.IsSliceOf sl .none .none vs) (ps : IsPart vs (some (-1))) (h : Q ((n : Int) - 1, -1, n) s) :
    wpAny (model prog w) A (Builtin.Slice.sliceApplied (.ref sl) (pure (n : Int))) Q E s := by
  obtain ⟨os, hos, _, hds⟩ := id hs
  have adj : Builtin.Slice.sliceAdjust none none (-1) (n : Int) = ((n : Int) - 1, -1) := rfl
  have pl : Builtin.Slice.slicePlaces ((n : Int) - 1) (-1) (-1) = n := by
    unfold Builtin.Slice.slicePlaces
    rw [if_neg (by decide)]
    by_cases h0 : (n : Int) - 1 > -1
    · rw [if_pos h0]; simp
    · rw [if_neg h0]; omega
  unfold Builtin.Slice.sliceApplied Builtin.Slice.sliceFields
  have fin : wpAny (model prog w) A (pure ((n : Int) - 1, (-1 : Int), Builtin.Slice.slicePlaces ((n : Int) - 1) (-1) (-1))) Q E s := by rw [pl]; exact wpAny_pure h
  refine wpAny_bind (wpAny_bind (wpAny_field hos hds (x := .none) rfl (wpAny_bind (wpAny_field hos hds (x := .none) rfl (wpAny_bind (wpAny_field hos hds (x := vs) rfl (wpAny_pure ?_)))))))
  refine wpAny_bind (slicePart_ ps ?_)
  exact wpAny_bind (slicePart_none (wpAny_bind (slicePart_none (wpAny_bind (wpAny_pure fin)))))
theorem pick_back (xs : Array Value) : ((List.range xs.size).filterMap fun (k : Nat) => xs[(((xs.size : Int) - 1) + (k : Int) * (-1)).toNat]?) = xs.toList.reverse := by
  refine List.ext_getElem? fun i => ?_
  have key : ∀ (l : List Nat) (f : Nat → Option Value) (g : Nat → Value), (∀ k ∈ l, f k = some (g k)) → l.filterMap f = l.map g := by
    intro l f g h
    induction l with
    | nil => rfl
    | cons x l ih => rw [List.filterMap_cons, h x List.mem_cons_self, ih fun k hk => h k (List.mem_cons_of_mem _ hk)]; rfl
  rw [key _ _ (fun k => xs.toList.reverse.getD k .none) fun k hk => ?_]
  · by_cases hi : i < xs.size
    · simp [hi]
    · simp [hi]
  · have hk : k < xs.size := List.mem_range.mp hk
    have e : (((xs.size : Int) - 1) + (k : Int) * (-1)).toNat = xs.size - 1 - k := by omega
    rw [e]
    simp [hk]
theorem getItem_back {t sl : Addr} {items : Array Value} {vs : Value} {Q : Value → Shared → Prop} (ht : IsTup s.heap t items) (hs : s.heap.IsSliceOf sl .none .none vs) (ps : IsPart vs (some (-1))) (hsz : items.size ≤ sizeLine)
    (h : Q (.ref s.heap.objs.size) { s with heap := s.heap.push { cls := .type "tuple", data := .seq items.toList.reverse.toArray } }) : wpAny (model prog w) A (getItem (.ref t) (.ref sl)) Q E s := by
  have size_rev : sizeOk (.seq items.toList.reverse.toArray) := by
    show items.toList.reverse.toArray.size ≤ sizeLine
    rw [List.size_toArray, List.length_reverse, Array.length_toList]; exact hsz
  have isSl : s.TypeIs (.ref sl) "slice" := by obtain ⟨os, hos, hcs, _⟩ := hs; exact ⟨os, hos, hcs⟩
  have body : ∀ (A' : Around) (R : PySem.Fin → Shared → Prop), R (.done (.ret (.ref s.heap.objs.size))) { s with heap := s.heap.push { cls := .type "tuple", data := .seq items.toList.reverse.toArray } } → wpAny (model prog w) A' (Builtin.«tuple.__getitem__» ⟨[.ref t, .ref sl], []⟩) R E s := by
    intro A' R h
    show wpAny _ _ (Builtin.Tuple.tupleItemsOf (.ref t) >>= _) _ _ s
    refine wpAny_bind (tupleItemsOf_ ht (wpAny_bind (wpAny_typeOf isSl ?_)))
    rw [if_pos (by decide)]
    refine wpAny_bind (back_parts hs ps ?_)
    show wpAny _ _ (if (((items.size : Int) - 1) == 0 && (-1 : Int) == 1 && items.size == items.size) = true then _ else _) _ _ s
    rw [if_neg (by simp), pick_back]
    first
      | exact wpAny_bind (m := Builtin.Tuple.tupleExact _) (wpAny_newObj_type (wpAny_pure h) size_rev)
      | exact wpAny_bind (wpAny_bind (m := Builtin.Tuple.tupleExact _) (wpAny_newObj_type (wpAny_pure (wpAny_pure h)) size_rev))
      | exact wpAny_bind (wpAny_bind (m := Builtin.Tuple.tupleExact _) (wpAny_newObj_type (wpAny_pure h) size_rev))
      | exact wpAny_bind (m := Builtin.Tuple.tupleExact _) (wpAny_newObj_type (wpAny_bind (wpAny_pure (wpAny_pure h))) size_rev)
  unfold getItem
  try with_reducible refine wpAny_holding ?_
  first | refine wpAny_bind (wpAny_pure ?_) | skip
  exact wpAny_bind (wpAny_sequenceKey ht.typeIs (by decide) (wpAny_bind (wpAny_callSpecial?_slot (name := Str.ofString "__getitem__") ht.typeIs PyProof.Rows.slot_tuple_getitem (wpAny_call_entry PyProof.Rows.slot_tuple_getitem ht.typeIs entry_tuple_getitem (body _ _ ⟨_, rfl, wpAny_pure h⟩) (args_tuple_getitem _ _)))))
end
section
variable {X : Cx} {c : Ct} {W : WXs} {k : Nat} {p2 pos : Pos} {e : Expr} {d : S → R EV} {z : Expr}
/-- e[::z] -/
def tRevT (K : PySem.W.Frag) (te : TE) (tt : TO) : TE := fun σ H Q => te σ H fun x H1 => tt σ H1 fun o H2 => ∃ a xs, x = .ref a ∧ SqT K H2 a xs ∧ o = some (-1) ∧ ∀ p, H2 p = none → Q (.ref p) (upd H2 p (.tup xs.reverse))
theorem vals_reverse : ∀ {us : List V} {vs : List Value}, Vals us vs → ∀ {us2 : List V} {vs2 : List Value}, Vals us2 vs2 → Vals (us.reverse ++ us2) (vs.reverse ++ vs2)
  | _, _, .nil, _, _, h => h
  | _, _, .cons r t, _, _, h => by
    rw [List.reverse_cons, List.reverse_cons, List.append_assoc, List.append_assoc]
    exact vals_reverse t (.cons r h)
theorem pe_revT {te : TE} {tt : TO} (he : PE X e te) (ht : PO X (some z) tt)
    (hops : ∀ (a b : Addr), subscripted (.Slice none none (some z) p2) false (.ref a) (.ref b) = operate [.ref a, .ref b] (getItem (.ref a) (.ref b)) := by intro _ _; with_unfolding_all rfl) : PE X (.Subscript e (.Slice none none (some z) p2) pos) (tRevT X.K te tt) := by
  refine ⟨fun pins s σ H Q I h => Subscript_ (thn (he.run pins s σ H _ I h) fun v s1 ⟨x, H1, I1, r1, q1⟩ => ?_)⟩
  refine wpAny_Slice (thn (po_none.run pins s1 σ H1 (fun o H2 => o = none ∧ H2 = H1) I1 ⟨rfl, rfl⟩) fun vl s2 ⟨l, H2, I2, pl, e1, e2⟩ => ?_)
  subst e1 e2
  refine thn (po_none.run pins s2 σ H2 (fun o H3 => o = none ∧ H3 = H2) I2 ⟨rfl, rfl⟩) fun vu s3 ⟨u, H3, I3, pu, e1, e2⟩ => ?_
  subst e1 e2
  refine thn (ht.run pins s3 σ H3 _ I3 q1) fun vs s4 ⟨o, H4, I4, ps, a, xs, ex, hx, h0, q⟩ => ?_
  subst ex h0
  cases r1
  cases pl
  cases pu
  have I5 : Inv X pins σ H4 { s4 with heap := s4.heap.push { cls := .type "slice", data := .fields #[.none, .none, vs] } } := I4.kept (t' := s4.toks) fun b ob q => Heap.get?_push_of_some _ q
  obtain ⟨its, r, ht, hz⟩ := I5.tuple hx
  have hlen := r.length
  show wpAny (model X.prog X.w) X.A (subscriptTail e (.Slice none none (some z) p2) (.ref a) (.ref s4.heap.objs.size)) (EP X pins σ Q) X.xe { s4 with heap := s4.heap.push { cls := .type "slice", data := .fields #[.none, .none, vs] } }
  have tT : ({ s4 with heap := s4.heap.push { cls := .type "slice", data := .fields #[.none, .none, vs] } } : Shared).TypeIs (.ref a) "tuple" := IsTup.typeIs ht
  refine tail_any (ops := [.ref a, .ref s4.heap.objs.size]) tT (PyProof.Rows.slot_tuple_getitem.lookup) ?_ (hops _ _)
  refine getItem_back ht (Heap.IsSliceOf.new _ .none .none vs) ps (by rw [List.size_toArray]; omega) ?_
  refine ⟨.ref _, _, I5.laid (t' := s4.toks) (o := .tup xs.reverse) (fun b ob q => Heap.get?_push_of_some _ q) (Nat.le_refl _) ?_, rfl, q _ (I5.hok.fresh (Nat.le_refl _))⟩
  have rr := vals_reverse r (.nil : Vals [] [])
  rw [List.append_nil, List.append_nil] at rr
  exact ⟨by rw [List.length_reverse]; exact hz, its.reverse, rr, IsTup.new _ _⟩
/-- e[::z], of a list or a tuple -/
def rvR (st : S) (s : Option Int) : Option Val → R EV
  | some (.tup xs) => if s = some (-1) then .ok (.p (.tup xs.reverse)) st else .bad
  | some (.lst xs) => if decide (s ≠ some 0) && decide ((sliceL xs none none s).length ≤ LINE) then .ok (.f (.lst (sliceL xs none none s))) st else .bad
  | _ => .bad
def eRv (d : S → R EV) (t : S → R (Option Int)) : S → R EV := fun st => (d st).bind fun v st1 => (t st1).bind fun s st2 => rvR st2 s (peek st2 v)
def isTupV : Option Val → Bool
  | some (.tup _) => true
  | _ => false
def rvTup (d : S → R EV) (t : S → R (Option Int)) (st : S) : Bool := match d st with
  | .ok v st1 => match t st1 with
    | .ok _ st2 => isTupV (peek st2 v)
    | _ => false
  | _ => false
theorem se_rv {dt : S → R (Option Int)} {k : Nat} (G : Good X c k) (h : SE X c W e d) (ht : SO X c W (some z) dt)
    (hops : ∀ (a b : Addr), subscripted (.Slice none none (some z) p2) false (.ref a) (.ref b) = operate [.ref a, .ref b] (getItem (.ref a) (.ref b)) := by intro _ _; with_unfolding_all rfl) : SE X c W (.Subscript e (.Slice none none (some z) p2) pos) (eRv d dt) := by
  refine ⟨fun pins s σ H Q I ⟨g, st, R, q⟩ => ?_⟩
  by_cases hT : rvTup d dt st = true
  · refine (pe_revT h ht hops).run pins s σ H Q I ⟨g, st, R, ?_⟩
    unfold eRv at q
    unfold rvTup at hT
    cases hd : d st with
    | bad => rw [hd] at hT; cases hT
    | ex x st1 => rw [hd] at hT; cases hT
    | ok v st1 =>
      rw [hd] at hT q
      dsimp only at hT
      intro g1 H1 e1 R1 x rx
      refine ⟨g1, st1, R1, ?_⟩
      have q : Post c W g H σ ((dt st1).bind fun s st2 => rvR st2 s (peek st2 v)) (kE c g σ Q) := q
      have q := Post.start e1 q
      revert q
      cases ht2 : dt st1 with
      | bad => rw [ht2] at hT; cases hT
      | ex x st2 => rw [ht2] at hT; cases hT
      | ok o st2 =>
        rw [ht2] at hT
        dsimp only at hT
        intro q g2 H2 e2 R2
        cases pv : peek st2 v with
        | none => rw [pv] at hT; cases hT
        | some w =>
          cases w with
          | tup xs =>
            have q : Post c W g1 H1 σ (rvR st2 o (peek st2 v)) (kE c g σ Q) := q
            rw [pv] at q
            unfold rvR at q
            dsimp only at q
            by_cases ho : o = some (-1)
            · rw [if_pos ho] at q
              obtain ⟨a, us, rfl, h1, r1⟩ := tup_of (peek_ok R2 (RepE.ext e2 rx) pv)
              refine ⟨a, us, rfl, by rw [G.K]; exact h1, ho, ?_⟩
              exact new_tup R2 r1.reverse fun g' H' y e3 R3 ry => q g' H' (e2.trans e3) R3 y (RepE.start (e1.trans e2) ry)
            · rw [if_neg ho] at q; exact q.elim
          | _ => rw [pv] at hT; cases hT
  · refine (se_slice3 G h (so_none) (so_none) ht hops).run pins s σ H Q I ⟨g, st, R, ?_⟩
    have key : eSl3' d oN oN dt st = eRv d dt st := by
      unfold eSl3' eRv
      unfold rvTup at hT
      cases hd : d st with
      | bad => rfl
      | ex x st1 => rfl
      | ok v st1 =>
        rw [hd] at hT
        show (dt st1).bind _ = (dt st1).bind _
        dsimp only at hT
        cases ht2 : dt st1 with
        | bad => rfl
        | ex x st2 => rfl
        | ok o st2 =>
          rw [ht2] at hT
          dsimp only at hT
          show (match peek st2 v with | some (.lst xs) => _ | _ => _) = rvR st2 o (peek st2 v)
          cases pv : peek st2 v with
          | none => rfl
          | some w =>
            rw [pv] at hT
            cases w with
            | tup xs => exact absurd rfl hT
            | _ => rfl
    rw [key]
    exact q
end
end Y
end

section
set_option Elab.async false
set_option linter.all false
set_option maxRecDepth 100000
namespace Z
open PySem Y
/-! # plain: what the combinators compute -/
theorem toD_int (i : Int) : toD (.int i) = some (.int i) := by unfold toD; rfl
theorem eqV_int (i j : Int) : eqV (.int i) (.int j) = some (.p (.bl (decide (i = j)))) := by
  unfold eqV eqV?
  rw [toD_int, toD_int]
  rfl
def isL : SV → Bool
  | .l _ => true
  | _ => false
theorem locked_isL (st : S) (i : Nat) : locked st i = isL (st.get i) := by
  unfold locked
  cases st.get i <;> rfl
theorem isL_p (v : Val) : isL (.p v) = false := rfl
theorem isL_o (v : Ob) : isL (.o v) = false := rfl
theorem isL_u : isL .u = false := rfl
theorem isL_r : isL .r = false := rfl
/-- a slot that may be set -/
def ul : SV → Prop
  | .l _ => False
  | _ => True
theorem ul_isL {f : SV} (h : ul f) : isL f = false := by cases f <;> first | rfl | exact h.elim
theorem seq_nx {a b : S → SR} {st st1 : S} {r : SR} (h : a st = .nx st1) (h2 : b st1 = r) : sSeq a b st = r := by
  unfold sSeq; rw [h]; exact h2
theorem seq_rt {a b : S → SR} {st st1 : S} {v : EV} (h : a st = .rt v st1) : sSeq a b st = .rt v st1 := by
  unfold sSeq; rw [h]; rfl
theorem forL_inv {t : Tgt} {body : S → SR} (P : Nat → S → Prop) : ∀ (items : List Val) (k : Nat) (st : S), P k st →
    (∀ i v st, items[i]? = some v → P (k + i) st → ∃ st1, asg t v st = some st1 ∧ ∃ st2, (body st1 = .nx st2 ∨ body st1 = .ct st2) ∧ P (k + i + 1) st2) → ∃ st', forL t body items st = .nx st' ∧ P (k + items.length) st'
  | [], k, st, h0, _ => ⟨st, rfl, h0⟩
  | v :: items, k, st, h0, hs => by
    obtain ⟨st1, h1, st2, h2, h3⟩ := hs 0 v st rfl h0
    obtain ⟨st', e1, e2⟩ := forL_inv P items (k + 1) st2 h3 (fun i w st hw hp => by
      have := hs (i + 1) w st hw (by rw [show k + (i + 1) = k + 1 + i by omega]; exact hp)
      rw [show k + (i + 1) + 1 = k + 1 + i + 1 by omega] at this
      exact this)
    refine ⟨st', ?_, ?_⟩
    · unfold forL
      rw [h1]
      rcases h2 with h2 | h2 <;> (dsimp only; rw [h2]; exact e1)
    · rw [List.length_cons, show k + (items.length + 1) = k + 1 + items.length by omega]; exact e2
theorem sFor_inv {it : S → ItR} {t : Tgt} {body : S → SR} {st st1 : S} {items : List Val} (hit : it st = .ok (items, none) st1) (P : Nat → S → Prop) (h0 : P 0 st1)
    (hs : ∀ i v st, items[i]? = some v → P i st → ∃ st1, asg t v st = some st1 ∧ ∃ st2, (body st1 = .nx st2 ∨ body st1 = .ct st2) ∧ P (i + 1) st2) : ∃ st', sFor it t body st = .nx st' ∧ P items.length st' := by
  obtain ⟨st', h1, h2⟩ := forL_inv P items 0 st1 h0 (by simpa using hs)
  refine ⟨st', ?_, by simpa using h2⟩
  unfold sFor
  rw [hit]
  show ((forL t body items st1).seq (unlock none)) = _
  rw [h1]; rfl
/-! ## the draws -/
theorem mulT_int (i j : Int) (h : small64 i = true ∨ small64 j = true) : mulTV (.int i) (.int j) = some (.p (.int (i * j))) := by
  show (if (small64 i || small64 j) = true then some (EV.p (.int (i * j))) else none) = _
  rw [if_pos (by simpa using h)]
end Z
end

section
set_option Elab.async false
set_option linter.all false
set_option maxRecDepth 100000
namespace Z
open PySem Y
/-! # what holds behind a piece: a calculus over the combinators -/
structure Tk {α : Sort _} (a : α) : Type where
  k ::
@[irreducible] def wR {α : Type} (r : R α) (Q : α → S → Prop) (E : Exc → S → Prop) (_t : Tk Q := .k) (_u : Tk E := .k) : Prop := match r with
  | .ok a st => Q a st
  | .ex e st => E e st
  | .bad => False
structure Po where
  nx : S → Prop := fun _ => False
  rt : EV → S → Prop := fun _ _ => False
  bk : S → Prop := fun _ => False
  ct : S → Prop := fun _ => False
  ex : Exc → S → Prop := fun _ _ => False
@[irreducible] def wS (r : SR) (P : Po) (_t : Tk P := .k) : Prop := match r with
  | .nx st => P.nx st
  | .rt v st => P.rt v st
  | .bk st => P.bk st
  | .ct st => P.ct st
  | .ex e st => P.ex e st
  | .bad => False
@[irreducible] def wF (r : FR) (Q : EV → Ob → Prop) (E : Exc → Ob → Prop) (_t : Tk Q := .k) (_u : Tk E := .k) : Prop := match r with
  | .ok v b => Q v b
  | .ex e b => E e b
  | .bad => False
/-! the same as the combinators' own, but what comes after is not looked into ahead of time -/
def lb {α β : Type} (r : R α) (f : α → S → R β) (_t : Tk f := .k) : R β := r.bind f
def ls {α : Type} (r : R α) (f : α → S → SR) (_t : Tk f := .k) : SR := r.stm f
def lq (r : SR) (f : S → SR) (_t : Tk f := .k) : SR := r.seq f
section
variable {α β : Type} {r : R α} {s : SR} {Q : α → S → Prop} {Qb : β → S → Prop} {E : Exc → S → Prop} {P : Po} {st : S} {a : α} {f : α → S → R β} {e : Exc} {v : EV} {QE : EV → S → Prop}
theorem wR_ok : wR (.ok a st) Q E = Q a st := by unfold wR; rfl
theorem wR_ex : wR (.ex e st : R α) Q E = E e st := by unfold wR; rfl
theorem wR_bad : wR (.bad : R α) Q E = False := by unfold wR; rfl
theorem wR_bind : wR (lb r f) Qb E = wR r (fun a st => wR (f a st) Qb E) E := by unfold wR; cases r <;> rfl
theorem bind_ok : lb (R.ok a st) f = f a st := rfl
theorem bind_ex : lb (R.ex e st : R α) f = .ex e st := rfl
theorem bind_bad : lb (R.bad : R α) f = .bad := rfl
theorem stm_ok {g : α → S → SR} : ls (R.ok a st) g = g a st := rfl
theorem stm_ex {g : α → S → SR} : ls (R.ex e st : R α) g = .ex e st := rfl
theorem stm_bad {g : α → S → SR} : ls (R.bad : R α) g = .bad := rfl
theorem wS_stm {g : α → S → SR} : wS (ls r g) P = wR r (fun a st => wS (g a st) P) P.ex := by unfold wR wS; cases r <;> rfl
theorem wS_seq {d : S → SR} : wS (lq s d) P = wS s { P with nx := fun st => wS (d st) P } := by unfold wS; cases s <;> rfl
theorem wS_nx : wS (.nx st) P = P.nx st := by unfold wS; rfl
theorem wS_rt : wS (.rt v st) P = P.rt v st := by unfold wS; rfl
theorem wS_bk : wS (.bk st) P = P.bk st := by unfold wS; rfl
theorem wS_ct : wS (.ct st) P = P.ct st := by unfold wS; rfl
theorem wS_ex : wS (.ex e st) P = P.ex e st := by unfold wS; rfl
theorem wS_bad : wS .bad P = False := by unfold wS; rfl
theorem wR_ite {c : Prop} [Decidable c] {x y : R α} : wR (if c then x else y) Q E = ((c → wR x Q E) ∧ (¬ c → wR y Q E)) := by by_cases h : c <;> simp [h]
theorem wR_itebad {c : Prop} [Decidable c] {x : R α} : wR (if c then x else .bad) Q E = (c ∧ wR x Q E) := by by_cases h : c <;> simp [h, wR]
theorem wS_ite {c : Prop} [Decidable c] {x y : SR} : wS (if c then x else y) P = ((c → wS x P) ∧ (¬ c → wS y P)) := by by_cases h : c <;> simp [h]
theorem wS_itebad {c : Prop} [Decidable c] {y : SR} : wS (if c then .bad else y) P = (¬ c ∧ wS y P) := by by_cases h : c <;> simp [h, wS]
theorem wS_fg {vs : List Nat} : wS (s.fg vs) P = wS s { P with nx := fun st => P.nx (fgS vs st), bk := fun st => P.bk (fgS vs st), ct := fun st => P.ct (fgS vs st) } := by unfold wS; cases s <;> rfl
theorem wR.mono {Q' : α → S → Prop} {E' : Exc → S → Prop} (h : wR r Q E) (hq : ∀ a st, Q a st → Q' a st) (he : ∀ e st, E e st → E' e st) : wR r Q' E' := by
  unfold wR at h ⊢
  cases r with
  | ok a st => exact hq _ _ h
  | ex e st => exact he _ _ h
  | bad => exact h
theorem wS.mono {P' : Po} (h : wS s P) (h1 : ∀ st, P.nx st → P'.nx st) (h2 : ∀ v st, P.rt v st → P'.rt v st) (h3 : ∀ st, P.bk st → P'.bk st) (h4 : ∀ st, P.ct st → P'.ct st) (h5 : ∀ e st, P.ex e st → P'.ex e st) : wS s P' := by
  unfold wS at h ⊢
  cases s with
  | nx st => exact h1 _ h
  | rt v st => exact h2 _ _ h
  | bk st => exact h3 _ h
  | ct st => exact h4 _ h
  | ex e st => exact h5 _ _ h
  | bad => exact h
end
section
variable {r : FR} {Q Q' : EV → Ob → Prop} {E E' : Exc → Ob → Prop}
theorem wF.mono (h : wF r Q E) (hq : ∀ v b, Q v b → Q' v b) (he : ∀ e b, E e b → E' e b) : wF r Q' E' := by
  unfold wF at h ⊢
  cases r with
  | ok a st => exact hq _ _ h
  | ex e st => exact he _ _ h
  | bad => exact h
abbrev noE {α : Type} : Exc → α → Prop := fun _ _ => False
theorem wF.mono' (h : wF r Q noE) (hq : ∀ v b, Q v b → Q' v b) : wF r Q' E' := h.mono hq fun _ _ z => z.elim
theorem wF_ok {v : EV} {b : Ob} : wF (.ok v b) Q E = Q v b := by unfold wF; rfl
theorem wF_ex {e : Exc} {b : Ob} : wF (.ex e b) Q E = E e b := by unfold wF; rfl
theorem wF_eq {v : EV} {b : Ob} : wF r (fun v' b' => v' = v ∧ b' = b) noE ↔ r = .ok v b := by
  unfold wF
  cases r with
  | ok a st => exact ⟨fun ⟨h1, h2⟩ => by rw [h1, h2], fun h => by cases h; exact ⟨rfl, rfl⟩⟩
  | ex e st => exact ⟨fun h => h.elim, fun h => by cases h⟩
  | bad => exact ⟨fun h => h.elim, fun h => by cases h⟩
theorem wF_of {v : EV} {b : Ob} (h : r = .ok v b) (q : Q v b) : wF r Q E := by rw [h, wF_ok]; exact q
/-- what a def gives back -/
def retV (st : S) : EV → Option EV
  | .p w => some (.p w)
  | .f b => some (.f b)
  | .s i => match st.get i with
    | .o b => some (.f b)
    | .p w => some (.p w)
    | _ => none
  | .r => none
theorem wF_end {s : SR} : wF (fnEnd s) Q E = wS s { nx := fun st => Q (.p .non) st.rf, rt := fun v st => ∃ v', retV st v = some v' ∧ Q v' st.rf, ex := fun e st => E e st.rf } := by
  unfold wS
  cases s with
  | nx st => unfold wF; rfl
  | rt v st =>
    unfold wF
    cases v with
    | p w => exact propext ⟨fun h => ⟨_, rfl, h⟩, fun ⟨_, h1, h⟩ => by cases h1; exact h⟩
    | f w => exact propext ⟨fun h => ⟨_, rfl, h⟩, fun ⟨_, h1, h⟩ => by cases h1; exact h⟩
    | r => exact propext ⟨fun h => h.elim, fun ⟨_, h1, h⟩ => by cases h1⟩
    | s i =>
      show (match (match st.get i with | .o b => FR.ok (.f b) st.rf | .p w => .ok (.p w) st.rf | _ => .bad) with | .ok v b => Q v b | .ex e b => E e b | .bad => False) = (∃ v', (match st.get i with | .o b => some (EV.f b) | .p w => some (EV.p w) | _ => none) = some v' ∧ Q v' st.rf)
      cases st.get i with
      | p w => exact propext ⟨fun h => ⟨_, rfl, h⟩, fun ⟨_, h1, h⟩ => by cases h1; exact h⟩
      | o w => exact propext ⟨fun h => ⟨_, rfl, h⟩, fun ⟨_, h1, h⟩ => by cases h1; exact h⟩
      | _ => exact propext ⟨fun h => h.elim, fun ⟨_, h1, h⟩ => by cases h1⟩
  | bk st => unfold wF; rfl
  | ct st => unfold wF; rfl
  | ex e st => unfold wF; rfl
  | bad => unfold wF; rfl
end
/-! ## slots -/
section
variable {st : S} {rf : Ob} {v w : Val} {i : Nat} {l : List SV} {ob : Ob}
def retS : SV → Option EV
  | .o b => some (.f b)
  | .p w => some (.p w)
  | _ => none
theorem retV_p : retV st (.p v) = some (.p v) := rfl
theorem retV_f : retV st (.f ob) = some (.f ob) := rfl
theorem retV_s : retV st (.s i) = retS (st.get i) := by
  show (match st.get i with | .o b => some (EV.f b) | .p w => some (EV.p w) | _ => none) = _
  cases st.get i <;> rfl
theorem retS_p : retS (.p v) = some (.p v) := rfl
theorem retS_o : retS (.o ob) = some (.f ob) := rfl
def eVarS (i : Nat) (st : S) : SV → R EV
  | .p v => .ok (.p v) st
  | .o _ => .ok (.s i) st
  | .l _ => .ok (.s i) st
  | .r => .ok .r st
  | _ => .bad
theorem eVar_eq : eVar i st = eVarS i st (st.get i) := by
  unfold eVar; cases st.get i <;> rfl
theorem eVarS_p : eVarS i st (.p v) = .ok (.p v) st := rfl
theorem eVarS_o : eVarS i st (.o ob) = .ok (.s i) st := rfl
theorem eVarS_l : eVarS i st (.l ob) = .ok (.s i) st := rfl
theorem eVarS_r : eVarS i st .r = .ok .r st := rfl
def peekS (rf : Ob) : SV → Option Val
  | .p v => some v
  | .o b => b.val
  | .l b => b.val
  | .r => rf.val
  | _ => none
theorem peek_p : peek st (.p v) = some v := rfl
theorem peek_f : peek st (.f ob) = ob.val := rfl
theorem peek_r : peek st .r = st.rf.val := rfl
theorem peek_s : peek st (.s i) = peekS st.rf (st.get i) := by
  unfold peek; dsimp only; cases st.get i <;> rfl
theorem peekS_p : peekS rf (.p v) = some v := rfl
theorem peekS_o : peekS rf (.o ob) = ob.val := rfl
theorem peekS_l : peekS rf (.l ob) = ob.val := rfl
theorem peekS_r : peekS rf .r = rf.val := rfl
theorem val_lst {xs : List Val} : Ob.val (.lst xs) = some (.lst xs) := rfl
theorem val_dk {ks : List L2.Key} {xs : List Val} : Ob.val (.dk ks xs) = some (.dk ks xs) := rfl
theorem val_dt {ks : List (List L2.Key)} {xs : List Val} : Ob.val (.dt ks xs) = some (.dt ks xs) := rfl
/-- what is kept -/
def takeR (v : EV) (st : S) : R Val := match take st v with
  | some (w, st2) => .ok w st2
  | none => .bad
def takeB (i : Nat) (st : S) : Option Val → R Val
  | some v => .ok v (st.set i (.p v))
  | none => .bad
def takeS (i : Nat) (st : S) : SV → R Val
  | .p v => .ok v st
  | .o b => takeB i st b.val
  | _ => .bad
def takeF (st : S) : Option Val → R Val
  | some v => .ok v st
  | none => .bad
theorem takeR_p : takeR (.p v) st = .ok v st := rfl
theorem takeR_f : takeR (.f ob) st = takeF st ob.val := by cases ob <;> rfl
theorem takeR_r : takeR .r st = .bad := rfl
theorem takeR_s : takeR (.s i) st = takeS i st (st.get i) := by
  unfold takeR take
  dsimp only
  cases st.get i with
  | o b => cases b <;> rfl
  | _ => rfl
theorem takeS_p : takeS i st (.p v) = .ok v st := rfl
theorem takeS_o : takeS i st (.o ob) = takeB i st ob.val := rfl
theorem takeB_some : takeB i st (some v) = .ok v (st.set i (.p v)) := rfl
theorem takeF_some : takeF st (some v) = .ok v st := rfl
theorem keep1_eq {d : S → R EV} : keep1 d st = lb (d st) takeR := rfl
theorem locked_eq : locked st i = isL (st.get i) := locked_isL st i
end

theorem get_0 {a0 : SV} {l : List SV} {rf : Ob} : S.get ⟨a0 :: l, rf⟩ 0 = a0 := rfl
theorem set_0 {a0 v : SV} {l : List SV} {rf : Ob} : S.set ⟨a0 :: l, rf⟩ 0 v = ⟨v :: l, rf⟩ := rfl
theorem get_1 {a0 a1 : SV} {l : List SV} {rf : Ob} : S.get ⟨a0 :: a1 :: l, rf⟩ 1 = a1 := rfl
theorem set_1 {a0 a1 v : SV} {l : List SV} {rf : Ob} : S.set ⟨a0 :: a1 :: l, rf⟩ 1 v = ⟨a0 :: v :: l, rf⟩ := rfl
theorem get_2 {a0 a1 a2 : SV} {l : List SV} {rf : Ob} : S.get ⟨a0 :: a1 :: a2 :: l, rf⟩ 2 = a2 := rfl
theorem set_2 {a0 a1 a2 v : SV} {l : List SV} {rf : Ob} : S.set ⟨a0 :: a1 :: a2 :: l, rf⟩ 2 v = ⟨a0 :: a1 :: v :: l, rf⟩ := rfl
theorem get_3 {a0 a1 a2 a3 : SV} {l : List SV} {rf : Ob} : S.get ⟨a0 :: a1 :: a2 :: a3 :: l, rf⟩ 3 = a3 := rfl
theorem set_3 {a0 a1 a2 a3 v : SV} {l : List SV} {rf : Ob} : S.set ⟨a0 :: a1 :: a2 :: a3 :: l, rf⟩ 3 v = ⟨a0 :: a1 :: a2 :: v :: l, rf⟩ := rfl
theorem get_4 {a0 a1 a2 a3 a4 : SV} {l : List SV} {rf : Ob} : S.get ⟨a0 :: a1 :: a2 :: a3 :: a4 :: l, rf⟩ 4 = a4 := rfl
theorem set_4 {a0 a1 a2 a3 a4 v : SV} {l : List SV} {rf : Ob} : S.set ⟨a0 :: a1 :: a2 :: a3 :: a4 :: l, rf⟩ 4 v = ⟨a0 :: a1 :: a2 :: a3 :: v :: l, rf⟩ := rfl
theorem get_5 {a0 a1 a2 a3 a4 a5 : SV} {l : List SV} {rf : Ob} : S.get ⟨a0 :: a1 :: a2 :: a3 :: a4 :: a5 :: l, rf⟩ 5 = a5 := rfl
theorem set_5 {a0 a1 a2 a3 a4 a5 v : SV} {l : List SV} {rf : Ob} : S.set ⟨a0 :: a1 :: a2 :: a3 :: a4 :: a5 :: l, rf⟩ 5 v = ⟨a0 :: a1 :: a2 :: a3 :: a4 :: v :: l, rf⟩ := rfl
theorem get_6 {a0 a1 a2 a3 a4 a5 a6 : SV} {l : List SV} {rf : Ob} : S.get ⟨a0 :: a1 :: a2 :: a3 :: a4 :: a5 :: a6 :: l, rf⟩ 6 = a6 := rfl
theorem set_6 {a0 a1 a2 a3 a4 a5 a6 v : SV} {l : List SV} {rf : Ob} : S.set ⟨a0 :: a1 :: a2 :: a3 :: a4 :: a5 :: a6 :: l, rf⟩ 6 v = ⟨a0 :: a1 :: a2 :: a3 :: a4 :: a5 :: v :: l, rf⟩ := rfl
theorem get_7 {a0 a1 a2 a3 a4 a5 a6 a7 : SV} {l : List SV} {rf : Ob} : S.get ⟨a0 :: a1 :: a2 :: a3 :: a4 :: a5 :: a6 :: a7 :: l, rf⟩ 7 = a7 := rfl
theorem set_7 {a0 a1 a2 a3 a4 a5 a6 a7 v : SV} {l : List SV} {rf : Ob} : S.set ⟨a0 :: a1 :: a2 :: a3 :: a4 :: a5 :: a6 :: a7 :: l, rf⟩ 7 v = ⟨a0 :: a1 :: a2 :: a3 :: a4 :: a5 :: a6 :: v :: l, rf⟩ := rfl
theorem get_8 {a0 a1 a2 a3 a4 a5 a6 a7 a8 : SV} {l : List SV} {rf : Ob} : S.get ⟨a0 :: a1 :: a2 :: a3 :: a4 :: a5 :: a6 :: a7 :: a8 :: l, rf⟩ 8 = a8 := rfl
theorem set_8 {a0 a1 a2 a3 a4 a5 a6 a7 a8 v : SV} {l : List SV} {rf : Ob} : S.set ⟨a0 :: a1 :: a2 :: a3 :: a4 :: a5 :: a6 :: a7 :: a8 :: l, rf⟩ 8 v = ⟨a0 :: a1 :: a2 :: a3 :: a4 :: a5 :: a6 :: a7 :: v :: l, rf⟩ := rfl
theorem get_9 {a0 a1 a2 a3 a4 a5 a6 a7 a8 a9 : SV} {l : List SV} {rf : Ob} : S.get ⟨a0 :: a1 :: a2 :: a3 :: a4 :: a5 :: a6 :: a7 :: a8 :: a9 :: l, rf⟩ 9 = a9 := rfl
theorem set_9 {a0 a1 a2 a3 a4 a5 a6 a7 a8 a9 v : SV} {l : List SV} {rf : Ob} : S.set ⟨a0 :: a1 :: a2 :: a3 :: a4 :: a5 :: a6 :: a7 :: a8 :: a9 :: l, rf⟩ 9 v = ⟨a0 :: a1 :: a2 :: a3 :: a4 :: a5 :: a6 :: a7 :: a8 :: v :: l, rf⟩ := rfl
theorem get_10 {a0 a1 a2 a3 a4 a5 a6 a7 a8 a9 a10 : SV} {l : List SV} {rf : Ob} : S.get ⟨a0 :: a1 :: a2 :: a3 :: a4 :: a5 :: a6 :: a7 :: a8 :: a9 :: a10 :: l, rf⟩ 10 = a10 := rfl
theorem set_10 {a0 a1 a2 a3 a4 a5 a6 a7 a8 a9 a10 v : SV} {l : List SV} {rf : Ob} : S.set ⟨a0 :: a1 :: a2 :: a3 :: a4 :: a5 :: a6 :: a7 :: a8 :: a9 :: a10 :: l, rf⟩ 10 v = ⟨a0 :: a1 :: a2 :: a3 :: a4 :: a5 :: a6 :: a7 :: a8 :: a9 :: v :: l, rf⟩ := rfl
theorem get_11 {a0 a1 a2 a3 a4 a5 a6 a7 a8 a9 a10 a11 : SV} {l : List SV} {rf : Ob} : S.get ⟨a0 :: a1 :: a2 :: a3 :: a4 :: a5 :: a6 :: a7 :: a8 :: a9 :: a10 :: a11 :: l, rf⟩ 11 = a11 := rfl
theorem set_11 {a0 a1 a2 a3 a4 a5 a6 a7 a8 a9 a10 a11 v : SV} {l : List SV} {rf : Ob} : S.set ⟨a0 :: a1 :: a2 :: a3 :: a4 :: a5 :: a6 :: a7 :: a8 :: a9 :: a10 :: a11 :: l, rf⟩ 11 v = ⟨a0 :: a1 :: a2 :: a3 :: a4 :: a5 :: a6 :: a7 :: a8 :: a9 :: a10 :: v :: l, rf⟩ := rfl
theorem get_12 {a0 a1 a2 a3 a4 a5 a6 a7 a8 a9 a10 a11 a12 : SV} {l : List SV} {rf : Ob} : S.get ⟨a0 :: a1 :: a2 :: a3 :: a4 :: a5 :: a6 :: a7 :: a8 :: a9 :: a10 :: a11 :: a12 :: l, rf⟩ 12 = a12 := rfl
theorem set_12 {a0 a1 a2 a3 a4 a5 a6 a7 a8 a9 a10 a11 a12 v : SV} {l : List SV} {rf : Ob} : S.set ⟨a0 :: a1 :: a2 :: a3 :: a4 :: a5 :: a6 :: a7 :: a8 :: a9 :: a10 :: a11 :: a12 :: l, rf⟩ 12 v = ⟨a0 :: a1 :: a2 :: a3 :: a4 :: a5 :: a6 :: a7 :: a8 :: a9 :: a10 :: a11 :: v :: l, rf⟩ := rfl
theorem get_13 {a0 a1 a2 a3 a4 a5 a6 a7 a8 a9 a10 a11 a12 a13 : SV} {l : List SV} {rf : Ob} : S.get ⟨a0 :: a1 :: a2 :: a3 :: a4 :: a5 :: a6 :: a7 :: a8 :: a9 :: a10 :: a11 :: a12 :: a13 :: l, rf⟩ 13 = a13 := rfl
theorem set_13 {a0 a1 a2 a3 a4 a5 a6 a7 a8 a9 a10 a11 a12 a13 v : SV} {l : List SV} {rf : Ob} : S.set ⟨a0 :: a1 :: a2 :: a3 :: a4 :: a5 :: a6 :: a7 :: a8 :: a9 :: a10 :: a11 :: a12 :: a13 :: l, rf⟩ 13 v = ⟨a0 :: a1 :: a2 :: a3 :: a4 :: a5 :: a6 :: a7 :: a8 :: a9 :: a10 :: a11 :: a12 :: v :: l, rf⟩ := rfl
theorem get_14 {a0 a1 a2 a3 a4 a5 a6 a7 a8 a9 a10 a11 a12 a13 a14 : SV} {l : List SV} {rf : Ob} : S.get ⟨a0 :: a1 :: a2 :: a3 :: a4 :: a5 :: a6 :: a7 :: a8 :: a9 :: a10 :: a11 :: a12 :: a13 :: a14 :: l, rf⟩ 14 = a14 := rfl
theorem set_14 {a0 a1 a2 a3 a4 a5 a6 a7 a8 a9 a10 a11 a12 a13 a14 v : SV} {l : List SV} {rf : Ob} : S.set ⟨a0 :: a1 :: a2 :: a3 :: a4 :: a5 :: a6 :: a7 :: a8 :: a9 :: a10 :: a11 :: a12 :: a13 :: a14 :: l, rf⟩ 14 v = ⟨a0 :: a1 :: a2 :: a3 :: a4 :: a5 :: a6 :: a7 :: a8 :: a9 :: a10 :: a11 :: a12 :: a13 :: v :: l, rf⟩ := rfl
theorem get_15 {a0 a1 a2 a3 a4 a5 a6 a7 a8 a9 a10 a11 a12 a13 a14 a15 : SV} {l : List SV} {rf : Ob} : S.get ⟨a0 :: a1 :: a2 :: a3 :: a4 :: a5 :: a6 :: a7 :: a8 :: a9 :: a10 :: a11 :: a12 :: a13 :: a14 :: a15 :: l, rf⟩ 15 = a15 := rfl
theorem set_15 {a0 a1 a2 a3 a4 a5 a6 a7 a8 a9 a10 a11 a12 a13 a14 a15 v : SV} {l : List SV} {rf : Ob} : S.set ⟨a0 :: a1 :: a2 :: a3 :: a4 :: a5 :: a6 :: a7 :: a8 :: a9 :: a10 :: a11 :: a12 :: a13 :: a14 :: a15 :: l, rf⟩ 15 v = ⟨a0 :: a1 :: a2 :: a3 :: a4 :: a5 :: a6 :: a7 :: a8 :: a9 :: a10 :: a11 :: a12 :: a13 :: a14 :: v :: l, rf⟩ := rfl
theorem get_16 {a0 a1 a2 a3 a4 a5 a6 a7 a8 a9 a10 a11 a12 a13 a14 a15 a16 : SV} {l : List SV} {rf : Ob} : S.get ⟨a0 :: a1 :: a2 :: a3 :: a4 :: a5 :: a6 :: a7 :: a8 :: a9 :: a10 :: a11 :: a12 :: a13 :: a14 :: a15 :: a16 :: l, rf⟩ 16 = a16 := rfl
theorem set_16 {a0 a1 a2 a3 a4 a5 a6 a7 a8 a9 a10 a11 a12 a13 a14 a15 a16 v : SV} {l : List SV} {rf : Ob} : S.set ⟨a0 :: a1 :: a2 :: a3 :: a4 :: a5 :: a6 :: a7 :: a8 :: a9 :: a10 :: a11 :: a12 :: a13 :: a14 :: a15 :: a16 :: l, rf⟩ 16 v = ⟨a0 :: a1 :: a2 :: a3 :: a4 :: a5 :: a6 :: a7 :: a8 :: a9 :: a10 :: a11 :: a12 :: a13 :: a14 :: a15 :: v :: l, rf⟩ := rfl
theorem get_17 {a0 a1 a2 a3 a4 a5 a6 a7 a8 a9 a10 a11 a12 a13 a14 a15 a16 a17 : SV} {l : List SV} {rf : Ob} : S.get ⟨a0 :: a1 :: a2 :: a3 :: a4 :: a5 :: a6 :: a7 :: a8 :: a9 :: a10 :: a11 :: a12 :: a13 :: a14 :: a15 :: a16 :: a17 :: l, rf⟩ 17 = a17 := rfl
theorem set_17 {a0 a1 a2 a3 a4 a5 a6 a7 a8 a9 a10 a11 a12 a13 a14 a15 a16 a17 v : SV} {l : List SV} {rf : Ob} : S.set ⟨a0 :: a1 :: a2 :: a3 :: a4 :: a5 :: a6 :: a7 :: a8 :: a9 :: a10 :: a11 :: a12 :: a13 :: a14 :: a15 :: a16 :: a17 :: l, rf⟩ 17 v = ⟨a0 :: a1 :: a2 :: a3 :: a4 :: a5 :: a6 :: a7 :: a8 :: a9 :: a10 :: a11 :: a12 :: a13 :: a14 :: a15 :: a16 :: v :: l, rf⟩ := rfl
theorem get_18 {a0 a1 a2 a3 a4 a5 a6 a7 a8 a9 a10 a11 a12 a13 a14 a15 a16 a17 a18 : SV} {l : List SV} {rf : Ob} : S.get ⟨a0 :: a1 :: a2 :: a3 :: a4 :: a5 :: a6 :: a7 :: a8 :: a9 :: a10 :: a11 :: a12 :: a13 :: a14 :: a15 :: a16 :: a17 :: a18 :: l, rf⟩ 18 = a18 := rfl
theorem set_18 {a0 a1 a2 a3 a4 a5 a6 a7 a8 a9 a10 a11 a12 a13 a14 a15 a16 a17 a18 v : SV} {l : List SV} {rf : Ob} : S.set ⟨a0 :: a1 :: a2 :: a3 :: a4 :: a5 :: a6 :: a7 :: a8 :: a9 :: a10 :: a11 :: a12 :: a13 :: a14 :: a15 :: a16 :: a17 :: a18 :: l, rf⟩ 18 v = ⟨a0 :: a1 :: a2 :: a3 :: a4 :: a5 :: a6 :: a7 :: a8 :: a9 :: a10 :: a11 :: a12 :: a13 :: a14 :: a15 :: a16 :: a17 :: v :: l, rf⟩ := rfl
theorem get_19 {a0 a1 a2 a3 a4 a5 a6 a7 a8 a9 a10 a11 a12 a13 a14 a15 a16 a17 a18 a19 : SV} {l : List SV} {rf : Ob} : S.get ⟨a0 :: a1 :: a2 :: a3 :: a4 :: a5 :: a6 :: a7 :: a8 :: a9 :: a10 :: a11 :: a12 :: a13 :: a14 :: a15 :: a16 :: a17 :: a18 :: a19 :: l, rf⟩ 19 = a19 := rfl
theorem set_19 {a0 a1 a2 a3 a4 a5 a6 a7 a8 a9 a10 a11 a12 a13 a14 a15 a16 a17 a18 a19 v : SV} {l : List SV} {rf : Ob} : S.set ⟨a0 :: a1 :: a2 :: a3 :: a4 :: a5 :: a6 :: a7 :: a8 :: a9 :: a10 :: a11 :: a12 :: a13 :: a14 :: a15 :: a16 :: a17 :: a18 :: a19 :: l, rf⟩ 19 v = ⟨a0 :: a1 :: a2 :: a3 :: a4 :: a5 :: a6 :: a7 :: a8 :: a9 :: a10 :: a11 :: a12 :: a13 :: a14 :: a15 :: a16 :: a17 :: a18 :: v :: l, rf⟩ := rfl
theorem get_20 {a0 a1 a2 a3 a4 a5 a6 a7 a8 a9 a10 a11 a12 a13 a14 a15 a16 a17 a18 a19 a20 : SV} {l : List SV} {rf : Ob} : S.get ⟨a0 :: a1 :: a2 :: a3 :: a4 :: a5 :: a6 :: a7 :: a8 :: a9 :: a10 :: a11 :: a12 :: a13 :: a14 :: a15 :: a16 :: a17 :: a18 :: a19 :: a20 :: l, rf⟩ 20 = a20 := rfl
theorem set_20 {a0 a1 a2 a3 a4 a5 a6 a7 a8 a9 a10 a11 a12 a13 a14 a15 a16 a17 a18 a19 a20 v : SV} {l : List SV} {rf : Ob} : S.set ⟨a0 :: a1 :: a2 :: a3 :: a4 :: a5 :: a6 :: a7 :: a8 :: a9 :: a10 :: a11 :: a12 :: a13 :: a14 :: a15 :: a16 :: a17 :: a18 :: a19 :: a20 :: l, rf⟩ 20 v = ⟨a0 :: a1 :: a2 :: a3 :: a4 :: a5 :: a6 :: a7 :: a8 :: a9 :: a10 :: a11 :: a12 :: a13 :: a14 :: a15 :: a16 :: a17 :: a18 :: a19 :: v :: l, rf⟩ := rfl
theorem get_21 {a0 a1 a2 a3 a4 a5 a6 a7 a8 a9 a10 a11 a12 a13 a14 a15 a16 a17 a18 a19 a20 a21 : SV} {l : List SV} {rf : Ob} : S.get ⟨a0 :: a1 :: a2 :: a3 :: a4 :: a5 :: a6 :: a7 :: a8 :: a9 :: a10 :: a11 :: a12 :: a13 :: a14 :: a15 :: a16 :: a17 :: a18 :: a19 :: a20 :: a21 :: l, rf⟩ 21 = a21 := rfl
theorem set_21 {a0 a1 a2 a3 a4 a5 a6 a7 a8 a9 a10 a11 a12 a13 a14 a15 a16 a17 a18 a19 a20 a21 v : SV} {l : List SV} {rf : Ob} : S.set ⟨a0 :: a1 :: a2 :: a3 :: a4 :: a5 :: a6 :: a7 :: a8 :: a9 :: a10 :: a11 :: a12 :: a13 :: a14 :: a15 :: a16 :: a17 :: a18 :: a19 :: a20 :: a21 :: l, rf⟩ 21 v = ⟨a0 :: a1 :: a2 :: a3 :: a4 :: a5 :: a6 :: a7 :: a8 :: a9 :: a10 :: a11 :: a12 :: a13 :: a14 :: a15 :: a16 :: a17 :: a18 :: a19 :: a20 :: v :: l, rf⟩ := rfl
theorem get_22 {a0 a1 a2 a3 a4 a5 a6 a7 a8 a9 a10 a11 a12 a13 a14 a15 a16 a17 a18 a19 a20 a21 a22 : SV} {l : List SV} {rf : Ob} : S.get ⟨a0 :: a1 :: a2 :: a3 :: a4 :: a5 :: a6 :: a7 :: a8 :: a9 :: a10 :: a11 :: a12 :: a13 :: a14 :: a15 :: a16 :: a17 :: a18 :: a19 :: a20 :: a21 :: a22 :: l, rf⟩ 22 = a22 := rfl
theorem set_22 {a0 a1 a2 a3 a4 a5 a6 a7 a8 a9 a10 a11 a12 a13 a14 a15 a16 a17 a18 a19 a20 a21 a22 v : SV} {l : List SV} {rf : Ob} : S.set ⟨a0 :: a1 :: a2 :: a3 :: a4 :: a5 :: a6 :: a7 :: a8 :: a9 :: a10 :: a11 :: a12 :: a13 :: a14 :: a15 :: a16 :: a17 :: a18 :: a19 :: a20 :: a21 :: a22 :: l, rf⟩ 22 v = ⟨a0 :: a1 :: a2 :: a3 :: a4 :: a5 :: a6 :: a7 :: a8 :: a9 :: a10 :: a11 :: a12 :: a13 :: a14 :: a15 :: a16 :: a17 :: a18 :: a19 :: a20 :: a21 :: v :: l, rf⟩ := rfl
theorem get_23 {a0 a1 a2 a3 a4 a5 a6 a7 a8 a9 a10 a11 a12 a13 a14 a15 a16 a17 a18 a19 a20 a21 a22 a23 : SV} {l : List SV} {rf : Ob} : S.get ⟨a0 :: a1 :: a2 :: a3 :: a4 :: a5 :: a6 :: a7 :: a8 :: a9 :: a10 :: a11 :: a12 :: a13 :: a14 :: a15 :: a16 :: a17 :: a18 :: a19 :: a20 :: a21 :: a22 :: a23 :: l, rf⟩ 23 = a23 := rfl
theorem set_23 {a0 a1 a2 a3 a4 a5 a6 a7 a8 a9 a10 a11 a12 a13 a14 a15 a16 a17 a18 a19 a20 a21 a22 a23 v : SV} {l : List SV} {rf : Ob} : S.set ⟨a0 :: a1 :: a2 :: a3 :: a4 :: a5 :: a6 :: a7 :: a8 :: a9 :: a10 :: a11 :: a12 :: a13 :: a14 :: a15 :: a16 :: a17 :: a18 :: a19 :: a20 :: a21 :: a22 :: a23 :: l, rf⟩ 23 v = ⟨a0 :: a1 :: a2 :: a3 :: a4 :: a5 :: a6 :: a7 :: a8 :: a9 :: a10 :: a11 :: a12 :: a13 :: a14 :: a15 :: a16 :: a17 :: a18 :: a19 :: a20 :: a21 :: a22 :: v :: l, rf⟩ := rfl
theorem get_24 {a0 a1 a2 a3 a4 a5 a6 a7 a8 a9 a10 a11 a12 a13 a14 a15 a16 a17 a18 a19 a20 a21 a22 a23 a24 : SV} {l : List SV} {rf : Ob} : S.get ⟨a0 :: a1 :: a2 :: a3 :: a4 :: a5 :: a6 :: a7 :: a8 :: a9 :: a10 :: a11 :: a12 :: a13 :: a14 :: a15 :: a16 :: a17 :: a18 :: a19 :: a20 :: a21 :: a22 :: a23 :: a24 :: l, rf⟩ 24 = a24 := rfl
theorem set_24 {a0 a1 a2 a3 a4 a5 a6 a7 a8 a9 a10 a11 a12 a13 a14 a15 a16 a17 a18 a19 a20 a21 a22 a23 a24 v : SV} {l : List SV} {rf : Ob} : S.set ⟨a0 :: a1 :: a2 :: a3 :: a4 :: a5 :: a6 :: a7 :: a8 :: a9 :: a10 :: a11 :: a12 :: a13 :: a14 :: a15 :: a16 :: a17 :: a18 :: a19 :: a20 :: a21 :: a22 :: a23 :: a24 :: l, rf⟩ 24 v = ⟨a0 :: a1 :: a2 :: a3 :: a4 :: a5 :: a6 :: a7 :: a8 :: a9 :: a10 :: a11 :: a12 :: a13 :: a14 :: a15 :: a16 :: a17 :: a18 :: a19 :: a20 :: a21 :: a22 :: a23 :: v :: l, rf⟩ := rfl
theorem get_25 {a0 a1 a2 a3 a4 a5 a6 a7 a8 a9 a10 a11 a12 a13 a14 a15 a16 a17 a18 a19 a20 a21 a22 a23 a24 a25 : SV} {l : List SV} {rf : Ob} : S.get ⟨a0 :: a1 :: a2 :: a3 :: a4 :: a5 :: a6 :: a7 :: a8 :: a9 :: a10 :: a11 :: a12 :: a13 :: a14 :: a15 :: a16 :: a17 :: a18 :: a19 :: a20 :: a21 :: a22 :: a23 :: a24 :: a25 :: l, rf⟩ 25 = a25 := rfl
theorem set_25 {a0 a1 a2 a3 a4 a5 a6 a7 a8 a9 a10 a11 a12 a13 a14 a15 a16 a17 a18 a19 a20 a21 a22 a23 a24 a25 v : SV} {l : List SV} {rf : Ob} : S.set ⟨a0 :: a1 :: a2 :: a3 :: a4 :: a5 :: a6 :: a7 :: a8 :: a9 :: a10 :: a11 :: a12 :: a13 :: a14 :: a15 :: a16 :: a17 :: a18 :: a19 :: a20 :: a21 :: a22 :: a23 :: a24 :: a25 :: l, rf⟩ 25 v = ⟨a0 :: a1 :: a2 :: a3 :: a4 :: a5 :: a6 :: a7 :: a8 :: a9 :: a10 :: a11 :: a12 :: a13 :: a14 :: a15 :: a16 :: a17 :: a18 :: a19 :: a20 :: a21 :: a22 :: a23 :: a24 :: v :: l, rf⟩ := rfl
/-! ## expressions -/
section
variable {st : S} {v w : Val} {i n : Nat} {a b d e f t : S → R EV} {op op' : Val → Val → Option EV} {da : S → R (List Val)} {ev : EV} {Q : EV → S → Prop} {E : Exc → S → Prop} {vs ws : List Val} {ob : Ob} {o1 o2 : Option Val}
def optR (st : S) : Option EV → R EV
  | some r => .ok r st
  | none => .bad
theorem optR_some : optR st (some ev) = .ok ev st := rfl
theorem wR_optR {o : Option EV} : wR (optR st o) Q E = ∃ r, o = some r ∧ Q r st := by
  unfold wR
  cases o with
  | some r => exact propext ⟨fun h => ⟨r, rfl, h⟩, fun ⟨_, h1, h⟩ => by cases h1; exact h⟩
  | none => exact propext ⟨fun h => h.elim, fun ⟨_, h1, h⟩ => by cases h1⟩
def opR (op : Val → Val → Option EV) (st : S) : Option Val → Option Val → R EV
  | some v, some w => optR st (op v w)
  | _, _ => .bad
def op1 (fn : Val → Option EV) (st : S) : Option Val → R EV
  | some v => optR st (fn v)
  | none => .bad
theorem opR_some : opR op st (some v) (some w) = optR st (op v w) := rfl
theorem op1_some {fn : Val → Option EV} : op1 fn st (some v) = optR st (fn v) := rfl
theorem eC_eq : eC v st = .ok (.p v) st := rfl
theorem eB2_eq : eB2 op a b st = lb (a st) fun x st1 => lb (b st1) fun y st2 => opR op st2 (peek st2 x) (peek st2 y) := by
  unfold eB2; congr 1
theorem eC1_eq {fn : Val → Option EV} : eC1 fn d st = lb (d st) fun x st1 => op1 fn st1 (peek st1 x) := by
  unfold eC1; congr 1
def boolR (st : S) : EV → R Bool
  | .p (.bl b) => .ok b st
  | _ => .bad
theorem asB_eq : asB d st = lb (d st) fun v st' => boolR st' v := by
  unfold asB; congr 1
theorem boolR_bl {k : Bool} : boolR st (.p (.bl k)) = .ok k st := rfl
def truR (st : S) : Option Val → R Bool
  | some w => match truth w with
    | some b => .ok b st
    | none => .bad
  | none => .bad
def truB (st : S) : Option Bool → R Bool
  | some b => .ok b st
  | none => .bad
theorem truR_some : truR st (some v) = truB st (truth v) := rfl
theorem truB_some {k : Bool} : truB st (some k) = .ok k st := rfl
theorem asT_eq : asT d st = lb (d st) fun v st' => truR st' (peek st' v) := by
  unfold asT; congr 1
def eNegR (st : S) : EV → R EV
  | .p (.int i) => .ok (.p (.int (-i))) st
  | _ => .bad
theorem eNeg_eq : eNeg d st = lb (d st) fun v st' => eNegR st' v := by
  unfold eNeg; congr 1
theorem eNegR_int {i : Int} : eNegR st (.p (.int i)) = .ok (.p (.int (-i))) st := rfl
theorem tyes_eq : tyes st = .ok true st := rfl
theorem bAnd_eq {a b : S → R Bool} : bAnd a b st = lb (a st) fun k st1 => if k then b st1 else .ok false st1 := rfl
theorem bOr_eq {a b : S → R Bool} : bOr a b st = lb (a st) fun k st1 => if k then .ok true st1 else b st1 := rfl
theorem bNot_eq {a : S → R Bool} : bNot a st = lb (a st) fun k st1 => .ok (!k) st1 := rfl
theorem eB_eq {a : S → R Bool} : eB a st = lb (a st) fun k st1 => .ok (.p (.bl k)) st1 := rfl
theorem eIf_eq {t : S → R Bool} : eIf t a b st = lb (t st) fun k st1 => if k then a st1 else b st1 := rfl
theorem eAnd_eq : eAnd a b st = lb (asB a st) fun k st1 => if k then b st1 else .ok (.p (.bl false)) st1 := rfl
theorem eOr_eq : eOr a b st = lb (asB a st) fun k st1 => if k then .ok (.p (.bl true)) st1 else b st1 := rfl
theorem eNot_eq : eNot a st = lb (asB a st) fun k st1 => .ok (.p (.bl (!k))) st1 := rfl
theorem aNil_eq : aNil st = .ok [] st := rfl
theorem aCons_eq : aCons d da st = lb (keep1 d st) fun v st1 => lb (da st1) fun vs st2 => .ok (v :: vs) st2 := rfl
theorem eTup_eq : eTup da st = lb (da st) fun vs st1 => if vs.length ≤ 16777216 then .ok (.p (.tup vs)) st1 else .bad := rfl
theorem eLst_eq : eLst da st = lb (da st) fun vs st1 => if vs.length ≤ 16777216 then .ok (.f (.lst vs)) st1 else .bad := rfl
/-- a chain of two comparisons -/
def chB (st : S) (f : S → R EV) : EV → R EV
  | .p (.bl true) => f st
  | .p (.bl false) => .ok (.p (.bl false)) st
  | _ => .bad
theorem chB_bl {k : Bool} : chB st f (.p (.bl k)) = if k then f st else .ok (.p (.bl false)) st := by cases k <;> rfl
theorem eChain_eq : eChain op op' a b d st = lb (a st) fun x st1 => lb (b st1) fun y st2 => lb (opR op st2 (peek st2 x) (peek st2 y)) fun k st2' => chB st2' (fun st2'' => lb (d st2'') fun z st3 => opR op' st3 (peek st3 y) (peek st3 z)) k := by
  unfold eChain
  congr 1; funext x st1; congr 1; funext y st2
  cases peek st2 x with
  | none => rfl
  | some v => cases peek st2 y with
    | none => rfl
    | some w =>
      cases ho : op v w with
      | none => simp [opR, optR, ho, R.bind, lb]
      | some r =>
        have e0 : opR op st2 (some v) (some w) = R.ok r st2 := by show optR st2 (op v w) = _; rw [ho]; rfl
        rw [e0]
        cases r with
        | p v' => cases v' with
          | bl k => cases k with
            | true =>
              dsimp only
              rw [ho]
              show (d st2).bind _ = (d st2).bind _
              congr 1
            | false => dsimp only; rw [ho]; rfl
          | _ => dsimp only; rw [ho]; rfl
        | _ => dsimp only; rw [ho]; rfl
end
end Z
end

section
set_option Elab.async false
set_option linter.all false
set_option maxRecDepth 100000
namespace Z
open PySem Y
section
variable {st : S} {v w : Val} {i j n : Nat} {a b d e f t : S → R EV} {da : S → R (List Val)} {ev : EV} {Q : EV → S → Prop} {E : Exc → S → Prop} {vs ws : List Val} {ob : Ob} {P : Po} {r : SR} {s s2 : S → SR}
/-! ## calls -/
theorem bNil_eq : bNil st = .ok ([], none) st := rfl
theorem bCons_eq {r : S → R AR} : bCons d r st = lb (keep1 d st) fun v st1 => lb (r st1) fun p st2 => .ok (.p v :: p.1, p.2) st2 := rfl
def refR (v : EV) (l : List SV) (st : S) : Option EV → R AR
  | none => .ok (.r :: l, some v) st
  | some _ => .bad
theorem refR_none {l : List SV} : refR ev l st none = .ok (.r :: l, some ev) st := rfl
theorem bRef_eq {r : S → R AR} : bRef d r st = lb (d st) fun v st1 => lb (r st1) fun p st2 => refR v p.1 st2 p.2 := by unfold bRef; congr 1
/-- a value or a new object -/
def pf : EV → Prop
  | .p _ => True
  | .f _ => True
  | _ => False
theorem pf_p : pf (.p v) = True := rfl
theorem pf_f : pf (.f ob) = True := rfl
def pfR (f : Ob → S) : FR → R EV
  | .ok (.p v) b => .ok (.p v) (f b)
  | .ok (.f v) b => .ok (.f v) (f b)
  | .ex e b => .ex e (f b)
  | _ => .bad
theorem pfR_p {f : Ob → S} : pfR f (.ok (.p v) ob) = .ok (.p v) (f ob) := rfl
theorem pfR_f {f : Ob → S} {o2 : Ob} : pfR f (.ok (.f o2) ob) = .ok (.f o2) (f ob) := rfl
theorem pfR_ex {f : Ob → S} {e : Exc} : pfR f (.ex e ob) = .ex e (f ob) := rfl
theorem wR_pfR {f : Ob → S} {r : FR} : wR (pfR f r) Q E = wF r (fun v b => pf v ∧ Q v (f b)) (fun e b => E e (f b)) := by
  unfold wR wF
  cases r with
  | ok v b => cases v <;> simp [pfR, pf]
  | ex e b => rfl
  | bad => rfl
def bkR (f : Ob → S) (r : FR) : R EV := back r f
theorem bkR_p {f : Ob → S} (h : isObj ob = true) : bkR f (.ok (.p v) ob) = .ok (.p v) (f ob) := by unfold bkR back; dsimp only; rw [if_pos h]
theorem bkR_f {f : Ob → S} {o2 : Ob} (h : isObj ob = true) : bkR f (.ok (.f o2) ob) = .ok (.f o2) (f ob) := by unfold bkR back; dsimp only; rw [if_pos h]
theorem wR_bkR {f : Ob → S} {r : FR} : wR (bkR f r) Q E = wF r (fun v b => pf v ∧ isObj b = true ∧ Q v (f b)) (fun e b => isObj b = true ∧ E e (f b)) := by
  cases r with
  | ok v b =>
    by_cases hb : isObj b = true
    · cases v <;> simp [bkR, back, hb, wR, wF, pf]
    · cases v <;> simp [bkR, back, hb, wR, wF, pf]
  | ex e b =>
    by_cases hb : isObj b = true
    · simp [bkR, back, hb, wR, wF]
    · simp [bkR, back, hb, wR, wF]
  | bad => simp [bkR, back, wR, wF]
def calS (d : FD) (l : List SV) (i : Nat) (st : S) : SV → R EV
  | .o b => bkR (fun b' => st.set i (.o b')) (d l b)
  | _ => .bad
def calE (d : FD) (l : List SV) (st : S) : Option EV → R EV
  | none => pfR (fun _ => st) (d l .none)
  | some (.s i) => calS d l i st (st.get i)
  | some .r => if isObj st.rf then bkR (fun b' => ⟨st.sl, b'⟩) (d l st.rf) else .bad
  | _ => .bad
theorem callD_eq {d : FD} {p : AR} : callD d p st = calE d p.1 st p.2 := by
  obtain ⟨l, o⟩ := p
  cases o with
  | none =>
    unfold callD calE
    dsimp only
    cases d l .none with
    | ok v b => cases v <;> rfl
    | _ => rfl
  | some ev => cases ev with
    | s i => unfold callD calE calS; dsimp only; cases st.get i <;> rfl
    | _ => rfl
theorem calE_none {d : FD} {l : List SV} : calE d l st none = pfR (fun _ => st) (d l .none) := rfl
theorem calE_s {d : FD} {l : List SV} : calE d l st (some (.s i)) = calS d l i st (st.get i) := rfl
theorem calE_r {d : FD} {l : List SV} : calE d l st (some .r) = if isObj st.rf then bkR (fun b' => ⟨st.sl, b'⟩) (d l st.rf) else .bad := rfl
theorem calS_o {d : FD} {l : List SV} : calS d l i st (.o ob) = bkR (fun b' => st.set i (.o b')) (d l ob) := rfl
theorem isObj_lst {xs : List Val} : isObj (.lst xs) = true := rfl
theorem isObj_dk {ks : List L2.Key} {xs : List Val} : isObj (.dk ks xs) = true := rfl
theorem eCall_eq {d : FD} {a : S → R AR} : eCall n d a st = lb (a st) fun p st1 => if p.1.length = n then callD d p st1 else .bad := rfl
def vcR (t : VTab) (da : S → R AR) (st : S) : EV → R EV
  | .p (.fn x) => match t.lookup x with
    | some (n, d) => eCall n d da st
    | none => .bad
  | _ => .bad
def vcT (da : S → R AR) (st : S) : Option (Nat × FD) → R EV
  | some p => eCall p.1 p.2 da st
  | none => .bad
theorem vcT_some {da : S → R AR} {p : Nat × FD} : vcT da st (some p) = eCall p.1 p.2 da st := rfl
theorem vcR_fn {t : VTab} {da : S → R AR} {x : Str} : vcR t da st (.p (.fn x)) = vcT da st (t.lookup x) := by
  unfold vcR vcT
  dsimp only
  cases t.lookup x <;> rfl
theorem eVCall_eq {t : VTab} {df : S → R EV} {da : S → R AR} : eVCall t df da st = lb (df st) fun v st1 => vcR t da st1 v := by unfold eVCall; congr 1
/-! ## changes in place -/
def muO {α : Type} (i : Nat) (st : S) (k : α → S → R EV) : Option (α × Ob) → R EV
  | some p => k p.1 (st.set i (.o p.2))
  | none => .bad
def muR {α : Type} (st : S) (k : α → S → R EV) : Option (α × Ob) → R EV
  | some p => k p.1 ⟨st.sl, p.2⟩
  | none => .bad
theorem muO_some {α : Type} {k : α → S → R EV} {p : α × Ob} : muO i st k (some p) = k p.1 (st.set i (.o p.2)) := rfl
theorem muR_some {α : Type} {k : α → S → R EV} {p : α × Ob} : muR st k (some p) = k p.1 ⟨st.sl, p.2⟩ := rfl
theorem wR_muO {α : Type} {k : α → S → R EV} {o : Option (α × Ob)} : wR (muO i st k o) Q E = ∃ p, o = some p ∧ wR (k p.1 (st.set i (.o p.2))) Q E := by
  unfold wR
  cases o with
  | some r => exact propext ⟨fun h => ⟨r, rfl, h⟩, fun ⟨_, h1, h⟩ => by cases h1; exact h⟩
  | none => exact propext ⟨fun h => h.elim, fun ⟨_, h1, h⟩ => by cases h1⟩
theorem wR_muR {α : Type} {k : α → S → R EV} {o : Option (α × Ob)} : wR (muR st k o) Q E = ∃ p, o = some p ∧ wR (k p.1 ⟨st.sl, p.2⟩) Q E := by
  unfold wR
  cases o with
  | some r => exact propext ⟨fun h => ⟨r, rfl, h⟩, fun ⟨_, h1, h⟩ => by cases h1; exact h⟩
  | none => exact propext ⟨fun h => h.elim, fun ⟨_, h1, h⟩ => by cases h1⟩
def muS {α : Type} (i : Nat) (st : S) (f : Ob → Option (α × Ob)) (k : α → S → R EV) : SV → R EV
  | .o b => muO i st k (f b)
  | _ => .bad
theorem muS_o {α : Type} {f : Ob → Option (α × Ob)} {k : α → S → R EV} : muS i st f k (.o ob) = muO i st k (f ob) := rfl
theorem mutAt_s {α : Type} {f : Ob → Option (α × Ob)} {k : α → S → R EV} : mutAt (.s i) st f k = muS i st f k (st.get i) := by
  unfold mutAt muS
  dsimp only
  cases st.get i with
  | o b => dsimp only; cases f b <;> rfl
  | _ => rfl
theorem mutAt_r {α : Type} {f : Ob → Option (α × Ob)} {k : α → S → R EV} : mutAt .r st f k = muR st k (f st.rf) := by
  unfold mutAt muR
  dsimp only
  cases f st.rf <;> rfl
theorem eMut_eq {T : String} {f : List Val → Ob → Option (Val × Ob)} : eMut T f d da st = lb (d st) fun v st1 => if (peek st1 v).bind tyName = some T then lb (da st1) fun vs st2 => mutAt v st2 (f vs) fun r st3 => .ok (.p r) st3 else .bad := rfl
theorem obind_some {α β : Type} {x : α} {f : α → Option β} : (some x).bind f = f x := rfl
theorem omap_some {α β : Type} {x : α} {f : α → β} : (some x).map f = some (f x) := rfl
theorem omap_none {α β : Type} {f : α → β} : (none : Option α).map f = none := rfl
theorem appF_eq {xs : List Val} : appF [v] (.lst xs) = if xs.length < 16777216 then some (.non, .lst (xs ++ [v])) else none := rfl
theorem popAtF_eq {xs : List Val} {k : Nat} (h : k < xs.length) (hl : xs.length ≤ 16777216) : popAtF [.int (k : Int)] (.lst xs) = some (xs[k], .lst (xs.eraseIdx k)) := by
  unfold popAtF
  dsimp only
  have h1 : (decide (-(9223372036854775808) ≤ (k : Int)) && decide ((k : Int) < 9223372036854775808)) = true := by simp; omega
  rw [if_pos h1]
  have h2 : seqIndex? (k : Int) xs.length = some k := by
    unfold seqIndex?
    simp
    omega
  rw [h2]
  dsimp only
  rw [List.getElem?_eq_getElem h]
theorem tyName_lst {xs : List Val} : tyName (.lst xs) = some "list" := rfl
def meR (st : S) (f : Val → List Val → Option EV) (vs : List Val) : Option Val → R EV
  | some w => optR st (f w vs)
  | none => .bad
theorem meR_some {f : Val → List Val → Option EV} : meR st f vs (some v) = optR st (f v vs) := rfl
theorem eMeth_eq {T : String} {f : Val → List Val → Option EV} : eMeth T f d da st = lb (d st) fun v st1 => if (peek st1 v).bind tyName = some T then lb (da st1) fun vs st2 => meR st2 f vs (peek st2 v) else .bad := by
  unfold eMeth
  congr 1
/-! ## ranges, slices -/
theorem rgOk_of {m n : Int} (h1 : -1000000 ≤ m) (h2 : m ≤ 16000000) (h3 : -1000000 ≤ n) (h4 : n ≤ 15000000) : rgOkB m n = true := by
  unfold rgOkB
  simp only [Bool.and_eq_true, decide_eq_true_eq]
  omega
def rgR (tup : Bool) (st : S) : Option Val → R EV
  | some (.int n) => if rgOkB 0 n then .ok (mkSeq tup (rgL 0 n)) st else .bad
  | _ => .bad
def rgR2 (tup : Bool) (st : S) : Option Val → Option Val → R EV
  | some (.int m), some (.int n) => if rgOkB m n then .ok (mkSeq tup (rgL m n)) st else .bad
  | _, _ => .bad
theorem rgR_int {tup : Bool} {n : Int} : rgR tup st (some (.int n)) = if rgOkB 0 n then .ok (mkSeq tup (rgL 0 n)) st else .bad := rfl
theorem rgR2_int {tup : Bool} {m n : Int} : rgR2 tup st (some (.int m)) (some (.int n)) = if rgOkB m n then .ok (mkSeq tup (rgL m n)) st else .bad := rfl
theorem eRg1_eq {tup : Bool} : eRg1 tup d st = lb (d st) fun v st1 => rgR tup st1 (peek st1 v) := by unfold eRg1; congr 1
theorem eRg2_eq {tup : Bool} : eRg2 tup d e st = lb (d st) fun v st1 => lb (e st1) fun w st2 => rgR2 tup st2 (peek st2 v) (peek st2 w) := by unfold eRg2; congr 1
theorem mkSeq_t {xs : List Val} : mkSeq true xs = .p (.tup xs) := rfl
theorem mkSeq_f {xs : List Val} : mkSeq false xs = .f (.lst xs) := rfl
def revR (st : S) : Option Val → R EV
  | some (.lst xs) => .ok (.f (.lst xs.reverse)) st
  | _ => .bad
theorem revR_lst {xs : List Val} : revR st (some (.lst xs)) = .ok (.f (.lst xs.reverse)) st := rfl
theorem eListRev_eq : eListRev d st = lb (d st) fun v st1 => revR st1 (peek st1 v) := by unfold eListRev; congr 1
theorem oN_eq : oN st = .ok none st := rfl
def oR (st : S) : EV → R (Option Int)
  | .p (.int i) => .ok (some i) st
  | _ => .bad
theorem oR_int {i : Int} : oR st (.p (.int i)) = .ok (some i) st := rfl
theorem oI_eq : oI d st = lb (d st) fun v st1 => oR st1 v := by unfold oI; congr 1
def slR (st : S) (lo hi : Option Int) : Option Val → R EV
  | some w => optR st (cutVal w lo hi)
  | none => .bad
theorem slR_some {lo hi : Option Int} : slR st lo hi (some v) = optR st (cutVal v lo hi) := rfl
theorem eSl_eq {l h : S → R (Option Int)} : eSl d l h st = lb (d st) fun v st1 => lb (l st1) fun lo st2 => lb (h st2) fun hi st3 => slR st3 lo hi (peek st3 v) := by
  unfold eSl
  congr 1
theorem cutVal_lst {xs : List Val} {lo hi : Option Int} : cutVal (.lst xs) lo hi = some (.f (.lst (cutL xs lo hi))) := rfl
theorem cutVal_tup {xs : List Val} {lo hi : Option Int} : cutVal (.tup xs) lo hi = some (.p (.tup (cutL xs lo hi))) := rfl
def sl3R (st : S) (lo hi s : Option Int) : Option Val → R EV
  | some (.lst xs) => if decide (s ≠ some 0) && decide ((sliceL xs lo hi s).length ≤ LINE) then .ok (.f (.lst (sliceL xs lo hi s))) st else .bad
  | _ => .bad
theorem sl3R_lst {xs : List Val} {lo hi s : Option Int} : sl3R st lo hi s (some (.lst xs)) = if decide (s ≠ some 0) && decide ((sliceL xs lo hi s).length ≤ LINE) then .ok (.f (.lst (sliceL xs lo hi s))) st else .bad := rfl
theorem eSl3_eq {l h t : S → R (Option Int)} : eSl3' d l h t st = lb (d st) fun v st1 => lb (l st1) fun lo st2 => lb (h st2) fun hi st3 => lb (t st3) fun s st4 => sl3R st4 lo hi s (peek st4 v) := by unfold eSl3'; congr 1
/-! ## dicts -/
theorem eDict0_eq : eDict0 st = .ok (.f (.dk [] [])) st := rfl
theorem kNil_eq : kNil st = .ok [] st := rfl
theorem kCons_eq {r : S → R (List (Val × Val))} : kCons a b r st = lb (keep1 a st) fun v st1 => lb (keep1 b st1) fun w st2 => lb (r st2) fun ps st3 => .ok ((v, w) :: ps) st3 := rfl
def dkR (st : S) : Option (List L2.Key × List Val) → R EV
  | some p => .ok (.f (.dk p.1 p.2)) st
  | none => .bad
theorem dkR_some {p : List L2.Key × List Val} : dkR st (some p) = .ok (.f (.dk p.1 p.2)) st := rfl
theorem eDict_eq {d : S → R (List (Val × Val))} : eDict d st = lb (d st) fun ps st1 => if ps.length ≤ 15 then dkR st1 (mergeL [] [] ps) else .bad := by
  unfold eDict
  congr 1; funext ps st1
  split
  · cases mergeL [] [] ps <;> rfl
  · rfl
def gtR (z : EV) (st : S) : Option (Option Val) → R EV
  | some (some r) => .ok (.p r) st
  | some none => .ok z st
  | none => .bad
def gtR2 (z : EV) (st : S) : Option Val → Option Val → R EV
  | some dv, some kv => gtR z st (lookV dv kv)
  | _, _ => .bad
theorem gtR_s {z : EV} : gtR z st (some (some v)) = .ok (.p v) st := rfl
theorem gtR_n {z : EV} : gtR z st (some none) = .ok z st := rfl
theorem gtR2_some {z : EV} : gtR2 z st (some v) (some w) = gtR z st (lookV v w) := rfl
theorem eGet2_eq : eGet2 d e f st = lb (d st) fun v st1 => if (peek st1 v).map isDict = some true then lb (e st1) fun w st2 => lb (f st2) fun z st3 => gtR2 z st3 (peek st3 v) (peek st3 w) else .bad := by
  unfold eGet2
  congr 1
/-! ## statements -/
theorem sPass_eq : sPass st = .nx st := rfl
theorem sBrk_eq : sBrk st = .bk st := rfl
theorem sCnt_eq : sCnt st = .ct st := rfl
theorem sSeq_eq : sSeq s s2 st = lq (s st) s2 := rfl
theorem sIf_eq {t : S → R Bool} : sIf t s s2 st = ls (t st) fun k st1 => if k then s st1 else s2 st1 := rfl
theorem sRet_eq : sRet d st = ls (d st) .rt := rfl
theorem sRetN_eq : sRetN st = .rt (.p .non) st := rfl
theorem sExpr_eq : sExpr d st = ls (d st) fun _ st1 => .nx st1 := rfl
theorem sRaise_eq {x : Str} : sRaise x st = .ex ⟨x, none⟩ st := rfl
theorem sSet_eq : sSet i d st = ls (d st) (store i) := rfl
theorem sFg_eq {vs : List Nat} : sFg vs s st = (s st).fg vs := rfl
theorem store_eq : store i ev st = if isL (st.get i) then .bad else store0 i ev st := by unfold store; rw [locked_eq]
theorem store0_p : store0 i (.p v) st = .nx (st.set i (.p v)) := rfl
theorem store0_f : store0 i (.f ob) st = .nx (st.set i (.o ob)) := rfl
theorem store0_r : store0 i .r st = .nx (st.set i .r) := rfl
theorem store0_s : store0 i (.s j) st = ls (takeR (.s j) st) fun w st' => if isL (st'.get i) then .bad else .nx (st'.set i (.p w)) := by
  unfold store0 takeR
  dsimp only
  cases h : take st (.s j) with
  | none => rfl
  | some p => obtain ⟨w, st'⟩ := p; show (if locked st' i then SR.bad else _) = _; rw [locked_eq]; rfl
def asgR (k : S → SR) : Option S → SR
  | some st2 => k st2
  | none => .bad
theorem asgR_some {k : S → SR} : asgR k (some st) = k st := rfl
theorem sAsg_eq {t : Tgt} : sAsg t d st = ls (keep1 d st) fun w st1 => asgR .nx (asg t w st1) := by
  unfold sAsg
  congr 1
theorem asg_nm : asg (.nm i) v st = if isL (st.get i) then none else some (st.set i (.p v)) := by
  unfold asg
  cases st.get i <;> rfl
theorem asg_tp {ts : List Tgt} : asg (.tp ts) (.tup vs) st = asgs ts vs st := by unfold asg; rfl
theorem asgs_nil : asgs [] [] st = some st := by unfold asgs; rfl
def asgC (ts : List Tgt) (vs : List Val) : Option S → Option S
  | some st1 => asgs ts vs st1
  | none => none
theorem asgC_some {ts : List Tgt} : asgC ts vs (some st) = asgs ts vs st := rfl
theorem asgs_cons {t : Tgt} {ts : List Tgt} : asgs (t :: ts) (v :: vs) st = asgC ts vs (asg t v st) := by
  conv => lhs; unfold asgs
  cases asg t v st <;> rfl
theorem sPar_eq : sPar i j a b st = ls (a st) fun v st1 => ls (b st1) fun w st2 => par2 i j v w st2 := rfl
def isS : EV → Bool
  | .s _ => true
  | _ => false
theorem par2_eq {x y : EV} : par2 i j x y st = if isS x || isS y then .bad else lq (store i x st) (store j y) := by
  cases x <;> cases y <;> rfl
theorem isS_p : isS (.p v) = false := rfl
theorem isS_f : isS (.f ob) = false := rfl
theorem isS_r : isS .r = false := rfl
theorem isS_s : isS (.s i) = true := rfl
def augR (st : S) (i : Nat) : Option EV → SR
  | some (.p r) => store i (.p r) st
  | _ => .bad
def augO (op : Val → Val → Option EV) (v : Val) (st : S) (i : Nat) : Option Val → SR
  | some w => augR st i (op v w)
  | none => .bad
def augS (op : Val → Val → Option EV) (i : Nat) (d : S → R EV) (st : S) : SV → SR
  | .p v => ls (d st) fun w st1 => augO op v st1 i (peek st1 w)
  | _ => .bad
theorem augR_p : augR st i (some (.p v)) = store i (.p v) st := rfl
theorem augO_some {op : Val → Val → Option EV} : augO op v st i (some w) = augR st i (op v w) := rfl
theorem augS_p {op : Val → Val → Option EV} : augS op i d st (.p v) = ls (d st) fun w st1 => augO op v st1 i (peek st1 w) := rfl
theorem sAug_eq {op : Val → Val → Option EV} : sAug op i d st = augS op i d st (st.get i) := by
  unfold sAug augS
  cases st.get i with
  | p v =>
    dsimp only
    congr 1
  | _ => rfl
theorem lone_nx : (SR.nx st).lone = .nx st := rfl
theorem wS_lone : wS r.lone P = wS r { nx := P.nx, ex := P.ex } := by unfold wS; cases r <;> rfl
theorem sAsgX_eq {f : TF} : sAsgX f d st = ls (keep1 d st) fun w st1 => (f w st1).lone := rfl
theorem sAsgX2_eq {f f2 : TF} : sAsgX2 f f2 d st = ls (keep1 d st) fun w st1 => lq ((f w st1).lone) fun st2 => (f2 w st2).lone := rfl
theorem tfN_eq : tfN i v st = if isL (st.get i) then .bad else .nx (st.set i (.p v)) := by unfold tfN; rw [locked_eq]
theorem tfS_eq {f : Val → Val → Ob → Option Ob} : tfS f a b v st = ls (a st) fun o st2 => ls (keep1 b st2) fun i st3 => mutS o st3 (f i v) := rfl
theorem tfT_eq {fs : List TF} : tfT fs (.tup vs) st = if vs.length = fs.length then tfs fs vs st else .bad := rfl
theorem tfs_nil : tfs [] [] st = .nx st := rfl
theorem tfs_cons {f : TF} {fs : List TF} : tfs (f :: fs) (v :: vs) st = lq (f v st) (tfs fs vs) := rfl
def muO2 (i : Nat) (st : S) : Option Ob → SR
  | some b => .nx (st.set i (.o b))
  | none => .bad
theorem muO2_some : muO2 i st (some ob) = .nx (st.set i (.o ob)) := rfl
def muS2 (i : Nat) (st : S) (f : Ob → Option Ob) : SV → SR
  | .o b => muO2 i st (f b)
  | _ => .bad
theorem muS2_o {f : Ob → Option Ob} : muS2 i st f (.o ob) = muO2 i st (f ob) := rfl
theorem mutS_s {f : Ob → Option Ob} : mutS (.s i) st f = muS2 i st f (st.get i) := by
  unfold mutS muS2
  dsimp only
  cases st.get i with
  | o b => dsimp only; cases f b <;> rfl
  | _ => rfl
theorem fgS_nil : fgS [] st = st := rfl
theorem fgS_cons {l : List Nat} : fgS (i :: l) st = fgS l (if isL (st.get i) then st else st.set i .u) := by
  conv => lhs; unfold fgS
  rw [locked_eq]
theorem fg_nx {l : List Nat} : (SR.nx st).fg l = .nx (fgS l st) := rfl
theorem fg_rt {l : List Nat} : (SR.rt ev st).fg l = .rt ev st := rfl
theorem fg_bk {l : List Nat} : (SR.bk st).fg l = .bk (fgS l st) := rfl
theorem fg_ct {l : List Nat} : (SR.ct st).fg l = .ct (fgS l st) := rfl
theorem fg_ex {l : List Nat} {x : Exc} : (SR.ex x st).fg l = .ex x st := rfl
theorem seq_nx' : lq (SR.nx st) s = s st := rfl
theorem seq_rt' : lq (SR.rt ev st) s = .rt ev st := rfl
theorem seq_bk' : lq (SR.bk st) s = .bk st := rfl
theorem seq_ct' : lq (SR.ct st) s = .ct st := rfl
theorem seq_ex' {x : Exc} : lq (SR.ex x st) s = .ex x st := rfl
/-! ## loops -/
def lqu (r : SR) (o : Option Nat) : SR := lq r (unlock o)
theorem lqu_none : lqu r none = r := by cases r <;> rfl
theorem lqu_some : lqu r (some i) = lq r (unlock (some i)) := rfl
theorem sFor_eq {it : S → ItR} {t : Tgt} : sFor it t s st = ls (it st) fun p st1 => lqu (forL t s p.1 st1) p.2 := rfl
theorem unlock_none : unlock none st = .nx st := rfl
def unlS (i : Nat) (st : S) : SV → SR
  | .l b => .nx (st.set i (.o b))
  | _ => .bad
theorem unlS_l : unlS i st (.l ob) = .nx (st.set i (.o ob)) := rfl
theorem unlock_some : unlock (some i) st = unlS i st (st.get i) := by
  unfold unlock unlS
  dsimp only
  all_goals (cases st.get i <;> rfl)
def itO (st : S) : Option (List Val) → ItR
  | some xs => .ok (xs, none) st
  | none => .bad
theorem itO_some : itO st (some vs) = .ok (vs, none) st := rfl
theorem wR_itO {o : Option (List Val)} {Q : List Val × Option Nat → S → Prop} : wR (itO st o) Q E = ∃ xs, o = some xs ∧ Q (xs, none) st := by
  unfold wR
  cases o with
  | some r => exact propext ⟨fun h => ⟨r, rfl, h⟩, fun ⟨_, h1, h⟩ => by cases h1; exact h⟩
  | none => exact propext ⟨fun h => h.elim, fun ⟨_, h1, h⟩ => by cases h1⟩
theorem argIt_eq {f : List Val → Option (List Val)} : argIt f da st = lb (da st) fun vs st1 => itO st1 (f vs) := by
  unfold argIt
  congr 1
theorem a1_eq {f : Val → Option (List Val)} : a1 f [v] = f v := rfl
theorem a2_eq {f : Val → Val → Option (List Val)} : a2 f [v, w] = f v w := rfl
theorem a3_eq {u : Val} {f : Val → Val → Val → Option (List Val)} : a3 f [u, v, w] = f u v w := rfl
def itS (i : Nat) (st : S) : SV → ItR
  | .o (.lst xs) => .ok (xs, some i) (st.set i (.l (.lst xs)))
  | .l (.lst xs) => .ok (xs, none) st
  | _ => .bad
def itR (st : S) : EV → ItR
  | .p w => itO st (seqItems w)
  | .f (.lst xs) => .ok (xs, none) st
  | .s i => itS i st (st.get i)
  | _ => .bad
theorem iterD_eq : iterD d st = lb (d st) fun v st1 => itR st1 v := by
  unfold iterD
  congr 1
theorem itR_p : itR st (.p v) = itO st (seqItems v) := rfl
theorem itR_f : itR st (.f (.lst vs)) = .ok (vs, none) st := rfl
theorem itR_s : itR st (.s i) = itS i st (st.get i) := rfl
theorem itS_o : itS i st (.o (.lst vs)) = .ok (vs, some i) (st.set i (.l (.lst vs))) := rfl
theorem itS_l : itS i st (.l (.lst vs)) = .ok (vs, none) st := rfl
theorem seqItems_lst : seqItems (.lst vs) = some vs := rfl
theorem seqItems_tup : seqItems (.tup vs) = some vs := rfl
theorem seqItems_scr {ns : List Int} : seqItems (.scr ns) = some (ns.map .int) := rfl
theorem rg1_nat {n : Nat} (h : n < 4000000000000000000) : rg1 (.int (n : Int)) = some ((List.range n).map fun (k : Nat) => Val.int (k : Int)) := by
  unfold rg1
  have : bound62 (n : Int) = true := by unfold bound62; simp; omega
  dsimp only
  rw [if_pos this]
  unfold rgL
  simp
end
/-- a loop: what holds ahead of each turn -/
theorem w_forD {t : Tgt} {body : S → SR} {P : Po} (I : Nat → S → Prop) (items : List Val) (he : ∀ st, I items.length st → P.nx st)
    (hs : ∀ k v st, items[k]? = some v → I k st → ∃ st1, asg t v st = some st1 ∧ wS (body st1) { P with nx := I (k + 1), ct := I (k + 1), bk := P.nx }) : ∀ (l : List Val) (k : Nat) (st : S), items.drop k = l → k ≤ items.length → I k st → wS (forL t body l st) P
  | [], k, st, hd, hk, hi => by
    have : items.length ≤ k := by
      have := congrArg List.length hd
      rw [List.length_drop] at this
      simp at this; omega
    have e : k = items.length := by omega
    subst e
    show wS (.nx st) P
    rw [wS_nx]; exact he st hi
  | v :: l, k, st, hd, hk, hi => by
    have hlt : k < items.length := by
      have := congrArg List.length hd
      rw [List.length_drop, List.length_cons] at this
      omega
    have hv : items[k]? = some v := by
      have := congrArg (·[0]?) hd
      simpa using this
    have hd2 : items.drop (k + 1) = l := by
      rw [← List.drop_drop, hd]; rfl
    obtain ⟨st1, h1, h2⟩ := hs k v st hv hi
    unfold forL
    rw [h1]
    dsimp only
    cases hb : body st1 with
    | nx st2 => rw [hb, wS_nx] at h2; exact w_forD I items he hs l (k + 1) st2 hd2 hlt h2
    | ct st2 => rw [hb, wS_ct] at h2; exact w_forD I items he hs l (k + 1) st2 hd2 hlt h2
    | bk st2 => rw [hb, wS_bk] at h2; dsimp only; rw [wS_nx]; exact h2
    | rt v st2 => rw [hb, wS_rt] at h2; dsimp only; rw [wS_rt]; exact h2
    | ex e st2 => rw [hb, wS_ex] at h2; dsimp only; rw [wS_ex]; exact h2
    | bad => rw [hb, wS_bad] at h2; exact h2.elim
theorem w_for {t : Tgt} {body : S → SR} {P : Po} (I : Nat → S → Prop) {items : List Val} {st : S} (h0 : I 0 st)
    (hs : ∀ k v st, items[k]? = some v → I k st → ∃ st1, asg t v st = some st1 ∧ wS (body st1) { P with nx := I (k + 1), ct := I (k + 1), bk := P.nx }) (he : ∀ st, I items.length st → P.nx st) : wS (forL t body items st) P :=
  w_forD I items he hs items 0 st rfl (Nat.zero_le _) h0
/-- .. over a list of one kind -/
theorem w_forM {α : Type} {t : Tgt} {body : S → SR} {P : Po} (g : α → Val) (xs : List α) (I : Nat → S → Prop) {st : S} (h0 : I 0 st)
    (hs : ∀ k (hk : k < xs.length) st, I k st → ∃ st1, asg t (g xs[k]) st = some st1 ∧ wS (body st1) { P with nx := I (k + 1), ct := I (k + 1), bk := P.nx }) (he : ∀ st, I xs.length st → P.nx st) : wS (forL t body (xs.map g) st) P :=
  w_for I h0 (fun k v st hv hi => by
    rw [List.getElem?_map] at hv
    by_cases hk : k < xs.length
    · rw [List.getElem?_eq_getElem hk] at hv
      cases hv
      exact hs k hk st hi
    · rw [List.getElem?_eq_none (by omega)] at hv
      cases hv) (fun st h => he st (by rwa [List.length_map] at h))
/-- .. over range(n) -/
theorem w_forR {t : Tgt} {body : S → SR} {P : Po} (n : Nat) (I : Nat → S → Prop) {st : S} (h0 : I 0 st)
    (hs : ∀ k, k < n → ∀ st, I k st → ∃ st1, asg t (.int (k : Int)) st = some st1 ∧ wS (body st1) { P with nx := I (k + 1), ct := I (k + 1), bk := P.nx }) (he : ∀ st, I n st → P.nx st) : wS (forL t body ((List.range n).map fun (k : Nat) => Val.int (k : Int)) st) P :=
  w_forM (fun (k : Nat) => Val.int (k : Int)) (List.range n) I h0 (fun k hk st hi => by rw [List.getElem_range]; exact hs k (by simpa using hk) st hi) fun st h => he st (by rwa [List.length_range] at h)
/-- a while: a measure falls -/
theorem w_whileN {t : S → R Bool} {body : S → SR} {P : Po} (I : Nat → S → Prop)
    (hs : ∀ m st, I m st → wR (t st) (fun k st1 => if k then wS (body st1) { P with nx := fun st2 => ∃ m', m' < m ∧ I m' st2, ct := fun st2 => ∃ m', m' < m ∧ I m' st2, bk := P.nx } else P.nx st1) P.ex) : ∀ (n m : Nat) (st : S), m < n → I m st → wS (whileL t body n st) P
  | 0, m, st, h, _ => by omega
  | n + 1, m, st, h, hi => by
    have := hs m st hi
    unfold whileL
    revert this
    cases ht : t st with
    | ok k st1 =>
      intro h1
      rw [wR_ok] at h1
      show wS (if k then _ else SR.nx st1) P
      cases k with
      | false => show wS (.nx st1) P; rw [wS_nx]; exact h1
      | true =>
        have h1 : wS (body st1) { P with nx := fun st2 => ∃ m', m' < m ∧ I m' st2, ct := fun st2 => ∃ m', m' < m ∧ I m' st2, bk := P.nx } := h1
        show wS (match body st1 with | .nx st2 => whileL t body n st2 | .ct st2 => whileL t body n st2 | .bk st2 => .nx st2 | r => r) P
        cases hb : body st1 with
        | nx st2 => rw [hb, wS_nx] at h1; obtain ⟨m', hm, h2⟩ := h1; exact w_whileN I hs n m' st2 (by omega) h2
        | ct st2 => rw [hb, wS_ct] at h1; obtain ⟨m', hm, h2⟩ := h1; exact w_whileN I hs n m' st2 (by omega) h2
        | bk st2 => rw [hb, wS_bk] at h1; dsimp only; rw [wS_nx]; exact h1
        | rt v st2 => rw [hb, wS_rt] at h1; dsimp only; rw [wS_rt]; exact h1
        | ex e st2 => rw [hb, wS_ex] at h1; dsimp only; rw [wS_ex]; exact h1
        | bad => rw [hb, wS_bad] at h1; exact h1.elim
    | ex e st1 => intro h1; rw [wR_ex] at h1; show wS (.ex e st1) P; rw [wS_ex]; exact h1
    | bad => intro h1; rw [wR_bad] at h1; exact h1.elim
theorem w_while {n : Nat} {t : S → R Bool} {body : S → SR} {P : Po} {st : S} (I : Nat → S → Prop) (m : Nat) (hm : m < n) (h0 : I m st)
    (hs : ∀ m st, I m st → wR (t st) (fun k st1 => if k then wS (body st1) { P with nx := fun st2 => ∃ m', m' < m ∧ I m' st2, ct := fun st2 => ∃ m', m' < m ∧ I m' st2, bk := P.nx } else P.nx st1) P.ex) : wS (sWhile n t body st) P := w_whileN I hs n m st hm h0
/-! ## comprehensions -/
theorem wipe_nil {st : S} : wipeS [] st = st := rfl
theorem wipe_cons {st : S} {v : Nat} {vs : List Nat} : wipeS (v :: vs) st = (wipeS vs st).set v .u := rfl
theorem rest_nil {st0 st : S} : rest st0 [] st = st := rfl
theorem rest_cons {st0 st : S} {v : Nat} {vs : List Nat} : rest st0 (v :: vs) st = (rest st0 vs st).set v (st0.get v) := rfl
theorem unlk_nil {st : S} : unlkAll [] st = true := rfl
theorem unlk_cons {st : S} {v : Nat} {vs : List Nat} : unlkAll (v :: vs) st = (!isL (st.get v) && unlkAll vs st) := by
  unfold unlkAll
  rw [List.all_cons, locked_eq]
theorem lend_nil {st : S} : lendAll [] st = true := rfl
theorem lend_cons {st : S} {v : Nat} {vs : List Nat} : lendAll (v :: vs) st = (lend (st.get v) && lendAll vs st) := rfl
theorem lend_p {v : Val} : lend (.p v) = true := rfl
theorem lend_u : lend .u = true := rfl
theorem lend_r : lend .r = true := rfl
theorem finC_none {acc : List Val} {st : S} : finC none acc st = .ok (.f (.lst acc)) st := rfl
def finS (i : Nat) (acc : List Val) (st : S) : SV → R EV
  | .l b => .ok (.f (.lst acc)) (st.set i (.o b))
  | _ => .bad
theorem finS_l {i : Nat} {acc : List Val} {st : S} {b : Ob} : finS i acc st (.l b) = .ok (.f (.lst acc)) (st.set i (.o b)) := rfl
theorem finC_some {i : Nat} {acc : List Val} {st : S} : finC (some i) acc st = finS i acc st (st.get i) := by
  unfold finC unl finS
  dsimp only
  cases st.get i <;> rfl
theorem noex_ok {α : Type} {a : α} {st : S} : (R.ok a st).noex = .ok a st := rfl
theorem wR_noex {α : Type} {r : R α} {Q : α → S → Prop} {E : Exc → S → Prop} : wR r.noex Q E = wR r Q noE := by unfold wR; cases r <;> rfl
/-- a comprehension: what holds of the list so far -/
theorem w_compD {t : Tgt} {cond : S → R Bool} {elt : S → R EV} {vs : List Nat} {Q : List Val → S → Prop} {E : Exc → S → Prop} (I : Nat → List Val → S → Prop) (items : List Val) (hn : items.length ≤ 16777216)
    (he : ∀ acc st, I items.length acc st → Q acc st)
    (hs : ∀ k v acc st, items[k]? = some v → I k acc st → ∃ st1, asg t v (wipeS vs st) = some st1 ∧ wR (cond st1) (fun b st2 => if b then wR (keep1 elt st2) (fun w st3 => unlkAll vs st3 = true ∧ I (k + 1) (acc ++ [w]) (rest st vs st3)) noE else unlkAll vs st2 = true ∧ I (k + 1) acc (rest st vs st2)) noE) :
    ∀ (l : List Val) (k : Nat) (acc : List Val) (st : S), items.drop k = l → k ≤ items.length → acc.length ≤ k → I k acc st → wR (compL t cond elt vs l acc st) Q E
  | [], k, acc, st, hd, hk, ha, hi => by
    have : items.length ≤ k := by
      have := congrArg List.length hd
      rw [List.length_drop] at this
      simp at this; omega
    have e : k = items.length := by omega
    subst e
    unfold compL
    rw [wR_ok]
    exact he acc st hi
  | v :: l, k, acc, st, hd, hk, ha, hi => by
    have hlt : k < items.length := by
      have := congrArg List.length hd
      rw [List.length_drop, List.length_cons] at this
      omega
    have hv : items[k]? = some v := by
      have := congrArg (·[0]?) hd
      simpa using this
    have hd2 : items.drop (k + 1) = l := by
      rw [← List.drop_drop, hd]; rfl
    obtain ⟨st1, h1, h2⟩ := hs k v acc st hv hi
    have hlen : decide (acc.length < LINE) = true := decide_eq_true (show acc.length < 16777216 by omega)
    unfold compL
    rw [h1]
    show wR (lb ((cond st1).noex) _) Q E
    rw [wR_bind, wR_noex]
    refine h2.mono (fun b st2 hb => ?_) fun _ _ z => z.elim
    cases b with
    | true =>
      have hb : wR (keep1 elt st2) (fun w st3 => unlkAll vs st3 = true ∧ I (k + 1) (acc ++ [w]) (rest st vs st3)) noE := hb
      show wR (lb ((keep1 elt st2).noex) _) Q E
      rw [wR_bind, wR_noex]
      refine hb.mono (fun w st3 hw => ?_) fun _ _ z => z.elim
      obtain ⟨hu, hI⟩ := hw
      rw [hlen, hu]
      exact w_compD I items hn he hs l (k + 1) (acc ++ [w]) _ hd2 hlt (by simp; omega) hI
    | false =>
      obtain ⟨hu, hI⟩ := hb
      show wR (if unlkAll vs st2 then _ else _) Q E
      rw [if_pos hu]
      exact w_compD I items hn he hs l (k + 1) acc _ hd2 hlt (by omega) hI
theorem w_comp {t : Tgt} {cond : S → R Bool} {elt : S → R EV} {vs : List Nat} {Q : List Val → S → Prop} {E : Exc → S → Prop} {items : List Val} {st : S} (I : Nat → List Val → S → Prop) (hn : items.length ≤ 16777216) (h0 : I 0 [] st)
    (hs : ∀ k v acc st, items[k]? = some v → I k acc st → ∃ st1, asg t v (wipeS vs st) = some st1 ∧ wR (cond st1) (fun b st2 => if b then wR (keep1 elt st2) (fun w st3 => unlkAll vs st3 = true ∧ I (k + 1) (acc ++ [w]) (rest st vs st3)) noE else unlkAll vs st2 = true ∧ I (k + 1) acc (rest st vs st2)) noE)
    (he : ∀ acc st, I items.length acc st → Q acc st) : wR (compL t cond elt vs items [] st) Q E :=
  w_compD I items hn he hs items 0 [] st rfl (Nat.zero_le _) (Nat.le_refl _) h0
/-- what one element gives -/
def elt1 (t : Tgt) (cond : S → R Bool) (elt : S → R EV) (vs : List Nat) (v : Val) (st : S) (o : Option Val) : Prop :=
  ∃ st1, asg t v (wipeS vs st) = some st1 ∧ wR (cond st1) (fun b st2 => if b then wR (keep1 elt st2) (fun w st3 => o = some w ∧ unlkAll vs st3 = true ∧ rest st vs st3 = st) noE else o = none ∧ unlkAll vs st2 = true ∧ rest st vs st2 = st) noE
theorem compL_pure {α : Type} {t : Tgt} {cond : S → R Bool} {elt : S → R EV} {vs : List Nat} {g : α → Val} {xs : List α} {st : S} (f : α → Option Val) (hn : xs.length ≤ 16777216) (h : ∀ x ∈ xs, elt1 t cond elt vs (g x) st (f x)) :
    compL t cond elt vs (xs.map g) [] st = .ok (xs.filterMap f) st := by
  have key : wR (compL t cond elt vs (xs.map g) [] st) (fun a s => a = xs.filterMap f ∧ s = st) noE := by
    refine w_comp (fun k acc s => acc = (xs.take k).filterMap f ∧ s = st) (by rwa [List.length_map]) ⟨rfl, rfl⟩ (fun k v acc s hv hi => ?_) (fun acc s hi => ?_)
    · obtain ⟨rfl, rfl⟩ := hi
      rw [List.getElem?_map] at hv
      by_cases hk : k < xs.length
      · rw [List.getElem?_eq_getElem hk] at hv
        cases hv
        obtain ⟨st1, h1, h2⟩ := h _ (List.getElem_mem hk)
        refine ⟨st1, h1, h2.mono (fun b st2 hb => ?_) fun _ _ z => z⟩
        rw [List.take_succ, List.getElem?_eq_getElem hk, List.filterMap_append]
        cases b with
        | true =>
          have hb : wR (keep1 elt st2) (fun w st3 => f xs[k] = some w ∧ unlkAll vs st3 = true ∧ rest s vs st3 = s) noE := hb
          refine hb.mono (fun w st3 hw => ⟨hw.2.1, ?_, hw.2.2⟩) fun _ _ z => z
          simp [hw.1]
        | false =>
          obtain ⟨e1, e2, e3⟩ := hb
          exact ⟨e2, by simp [e1], e3⟩
      · rw [List.getElem?_eq_none (by omega)] at hv
        cases hv
    · obtain ⟨rfl, rfl⟩ := hi
      rw [List.length_map, List.take_length]
      exact ⟨rfl, rfl⟩
  revert key
  cases compL t cond elt vs (xs.map g) [] st with
  | ok a s => rw [wR_ok]; rintro ⟨rfl, rfl⟩; rfl
  | ex e s => rw [wR_ex]; exact fun z => z.elim
  | bad => rw [wR_bad]; exact fun z => z.elim
theorem filterMap_some' {α β : Type} (f : α → β) (l : List α) : l.filterMap (fun x => some (f x)) = l.map f := by induction l with
  | nil => rfl
  | cons x l ih => rw [List.filterMap_cons, ih]; rfl
theorem compL_map {α : Type} {t : Tgt} {cond : S → R Bool} {elt : S → R EV} {vs : List Nat} {g : α → Val} {xs : List α} {st : S} (f : α → Val) (hn : xs.length ≤ 16777216) (h : ∀ x ∈ xs, elt1 t cond elt vs (g x) st (some (f x))) :
    compL t cond elt vs (xs.map g) [] st = .ok (xs.map f) st := by
  rw [compL_pure (fun x => some (f x)) hn h, filterMap_some']
def lbf (r : R (List Val)) (o : Option Nat) : R EV := lb r (finC o)
theorem lbf_none {r : R (List Val)} : lbf r none = lb r fun acc st => .ok (.f (.lst acc)) st := rfl
theorem lbf_some {r : R (List Val)} {i : Nat} : lbf r (some i) = lb r fun acc st => finS i acc st (st.get i) := by
  unfold lbf
  rw [show finC (some i) = (fun acc st => finS i acc st (st.get i)) from funext fun acc => funext fun st => finC_some]
theorem eComp_eq {it : S → ItR} {t : Tgt} {cond : S → R Bool} {elt : S → R EV} {vs : List Nat} {st : S} : eComp it t cond elt vs st = lb (it st) fun p st1 => if lendAll vs st1 then lbf (compL t cond elt vs p.1 [] st1) p.2 else .bad := rfl
end Z
end

section
set_option Elab.async false
set_option linter.all false
set_option maxRecDepth 100000
namespace Z
open PySem Y
/-! # values -/
section
variable {i j : Int} {v w : Val} {xs ys : List Val} {k : Bool} {ns : List Int}
theorem addV_int : addV (.int i) (.int j) = some (.p (.int (i + j))) := rfl
theorem addV_lst : addV (.lst xs) (.lst ys) = if xs.length + ys.length ≤ 16777216 then some (.f (.lst (xs ++ ys))) else none := rfl
theorem addV_tup : addV (.tup xs) (.tup ys) = if xs.length + ys.length ≤ 16777216 then some (.p (.tup (xs ++ ys))) else none := rfl
theorem subV_int : subV (.int i) (.int j) = some (.p (.int (i - j))) := rfl
theorem iaddV_int : iaddV (.int i) (.int j) = some (.p (.int (i + j))) := rfl
theorem small_of (h : -1000000000000 < i ∧ i < 1000000000000) : small64 i = true := by
  unfold small64
  rw [Bool.and_eq_true, decide_eq_true_eq, decide_eq_true_eq]
  omega
theorem mulT_int1 (h : -1000000000000 < i ∧ i < 1000000000000) : mulTV (.int i) (.int j) = some (.p (.int (i * j))) := mulT_int i j (.inl (small_of h))
theorem mulT_int2 (h : -1000000000000 < j ∧ j < 1000000000000) : mulTV (.int i) (.int j) = some (.p (.int (i * j))) := mulT_int i j (.inr (small_of h))
theorem imul_int1 (h : -1000000000000 < i ∧ i < 1000000000000) : imulV (.int i) (.int j) = some (.p (.int (i * j))) := by
  show (if (small64 i || small64 j) = true then some (EV.p (.int (i * j))) else none) = _
  rw [small_of h]; rfl
theorem imul_int2 (h : -1000000000000 < j ∧ j < 1000000000000) : imulV (.int i) (.int j) = some (.p (.int (i * j))) := by
  show (if (small64 i || small64 j) = true then some (EV.p (.int (i * j))) else none) = _
  rw [small_of h, Bool.or_true]; rfl
/-- [..] * n for n of 0 and 1 -/
theorem mulT_lst {n : Int} (h0 : 0 ≤ n) (h1 : xs.length * n.toNat ≤ 16777216) (h2 : n < 1000000000000) : mulTV (.lst xs) (.int n) = some (.f (.lst (List.replicate n.toNat xs).flatten)) := by
  show (if (decide (-(9223372036854775808) ≤ n) && decide (n < 9223372036854775808) && decide (xs.length * n.toNat ≤ LINE)) = true then some (EV.f (.lst (List.replicate n.toNat xs).flatten)) else none) = _
  rw [if_pos]
  simp only [Bool.and_eq_true, decide_eq_true_eq]
  refine ⟨⟨by omega, by omega⟩, h1⟩
theorem fdivV_int (h : 0 < j ∧ j < 1000000000) : fdivV (.int i) (.int j) = some (.p (.int (i / j))) := by
  unfold fdivV
  dsimp only
  have : (decide (j ≠ 0) && decide (j.natAbs < 1073741824)) = true := by simp; omega
  rw [if_pos this, Int.fdiv_eq_ediv_of_nonneg _ (by omega)]
theorem modV_int (h : 0 < j) : modV (.int i) (.int j) = some (.p (.int (i % j))) := by
  unfold modV
  dsimp only
  rw [if_pos (by omega), Int.fmod_eq_emod_of_nonneg _ (by omega)]
theorem ltV_int : ltV (.int i) (.int j) = some (.p (.bl (decide (i < j)))) := rfl
theorem leV_int : leV (.int i) (.int j) = some (.p (.bl (decide (i ≤ j)))) := rfl
theorem gtV_int : gtV (.int i) (.int j) = some (.p (.bl (decide (j < i)))) := rfl
theorem geV_int : geV (.int i) (.int j) = some (.p (.bl (decide (j ≤ i)))) := rfl
theorem isV_non : isV v .non = some (.p (.bl (isN v))) := rfl
theorem isnV_non : isnV v .non = some (.p (.bl (!isN v))) := rfl
theorem len_lst : lenDV (.lst xs) = some (.p (.int (xs.length : Nat))) := rfl
theorem len_tup : lenDV (.tup xs) = some (.p (.int (xs.length : Nat))) := rfl
theorem len_scr : lenDV (.scr ns) = some (.p (.int (ns.length : Nat))) := rfl
theorem abs_int : absV' (.int i) = some (.p (.int (if i < 0 then -i else i))) := rfl
theorem int_int : intV' (.int i) = some (.p (.int i)) := rfl
theorem int_bl : intV' (.bl k) = some (.p (.int (if k then 1 else 0))) := rfl
theorem max2_int : maxV2 (.int i) (.int j) = some (.p (.int (if j > i then j else i))) := rfl
theorem min2_int : minV2 (.int i) (.int j) = some (.p (.int (if j < i then j else i))) := rfl
theorem list_lst : listDV (.lst xs) = some (.f (.lst xs)) := rfl
theorem list_tup : listDV (.tup xs) = some (.f (.lst xs)) := rfl
theorem tuple_lst : tupleV (.lst xs) = some (.p (.tup xs)) := rfl
theorem tuple_tup : tupleV (.tup xs) = some (.p (.tup xs)) := rfl
theorem tru_non : truth .non = some false := rfl
theorem tru_bl : truth (.bl k) = some k := rfl
theorem tru_int : truth (.int i) = some (i != 0) := rfl
theorem tru_lst : truth (.lst xs) = some (!xs.isEmpty) := rfl
theorem tru_tup : truth (.tup xs) = some (!xs.isEmpty) := rfl
theorem bls_map {α : Type} {f : α → Bool} : ∀ l : List α, bls? (l.map fun x => Val.bl (f x)) = some (l.map f)
  | [] => rfl
  | x :: l => by show (bls? (l.map fun x => Val.bl (f x))).map (f x :: ·) = _; rw [bls_map l]; rfl
theorem ints_map {α : Type} {f : α → Int} : ∀ l : List α, ints? (l.map fun x => Val.int (f x)) = some (l.map f)
  | [] => rfl
  | x :: l => by show (ints? (l.map fun x => Val.int (f x))).map (f x :: ·) = _; rw [ints_map l]; rfl
theorem ints_iv (l : List Int) : ints? (l.map Val.int) = some l := by
  have := ints_map (f := fun x : Int => x) l
  simpa using this
theorem all_map {α : Type} {f : α → Bool} {l : List α} : allV (.lst (l.map fun x => Val.bl (f x))) = some (.p (.bl (l.all f))) := by
  show (bls? _).map _ = _
  rw [bls_map]
  simp [Function.comp_def]
theorem all_1 {a : Bool} : allV (.lst [.bl a]) = some (.p (.bl a)) := by cases a <;> rfl
theorem all_2 {a b : Bool} : allV (.lst [.bl a, .bl b]) = some (.p (.bl (a && b))) := by cases a <;> cases b <;> rfl
theorem all_3 {a b c : Bool} : allV (.lst [.bl a, .bl b, .bl c]) = some (.p (.bl (a && (b && c)))) := by cases a <;> cases b <;> cases c <;> rfl
theorem any_map {α : Type} {f : α → Bool} {l : List α} : anyV (.lst (l.map fun x => Val.bl (f x))) = some (.p (.bl (l.any f))) := by
  show (bls? _).map _ = _
  rw [bls_map]
  simp [Function.comp_def]
theorem sum_map {α : Type} {f : α → Int} {l : List α} : sumV (.lst (l.map fun x => Val.int (f x))) = some (.p (.int (l.map f).sum)) := by
  show (ints? _).map _ = _
  rw [ints_map]; rfl
theorem sum_iv {l : List Int} : sumV (.lst (l.map Val.int)) = some (.p (.int l.sum)) := by
  show (ints? _).map _ = _
  rw [ints_iv]; rfl
theorem sorted_iv {l : List Int} : sortedDV (.lst (l.map Val.int)) = some (.f (.lst ((sortI l).map Val.int))) := by
  unfold sortedDV
  dsimp only
  unfold sortedV
  dsimp only
  rw [ints_iv]; rfl
theorem sorted_tiv {l : List Int} (h : l.length ≤ 16777216) : sortedDV (.tup (l.map Val.int)) = some (.f (.lst ((sortI l).map Val.int))) := by
  show (match ints? (l.map Val.int) with | some is => if is.length ≤ 16777216 then some (EV.f (.lst ((sortI is).map .int))) else none | none => none) = _
  rw [ints_iv]
  dsimp only
  rw [if_pos h]
/-! items -/
theorem atI_nat {α : Type} {l : List α} {n : Nat} (h : n < l.length) : L2.atI l (n : Int) = some l[n] := by
  unfold L2.atI L2.ixN
  rw [if_pos (by omega), if_pos (by simpa using h)]
  show l[n]? = _
  exact List.getElem?_eq_getElem h
theorem ixD_lst : ixDV (.lst xs) (.int i) = (L2.atI xs i).map .p := rfl
theorem ixD_tup : ixDV (.tup xs) (.int i) = (L2.atI xs i).map .p := rfl
theorem ixD_scr : ixDV (.scr ns) (.int i) = (L2.atI ns i).map fun n => .p (.int n) := rfl
theorem ix_lm {α : Type} {f : α → Val} {l : List α} {n : Nat} (h : n < l.length) : ixDV (.lst (l.map f)) (.int (n : Int)) = some (.p (f l[n])) := by
  rw [ixD_lst, atI_nat (by simpa using h)]
  simp
theorem ix_tm {α : Type} {f : α → Val} {l : List α} {n : Nat} (h : n < l.length) : ixDV (.tup (l.map f)) (.int (n : Int)) = some (.p (f l[n])) := by
  rw [ixD_tup, atI_nat (by simpa using h)]
  simp
theorem ix_t0 : ixDV (.tup (v :: xs)) (.int 0) = some (.p v) := by rw [ixD_tup]; exact congrArg (Option.map EV.p) (atI_nat (l := v :: xs) (n := 0) (by simp))
theorem ix_t1 {u : Val} : ixDV (.tup (u :: v :: xs)) (.int 1) = some (.p v) := by rw [ixD_tup]; exact congrArg (Option.map EV.p) (atI_nat (l := u :: v :: xs) (n := 1) (by simp))
theorem ix_t2 {u z : Val} : ixDV (.tup (u :: z :: v :: xs)) (.int 2) = some (.p v) := by rw [ixD_tup]; exact congrArg (Option.map EV.p) (atI_nat (l := u :: z :: v :: xs) (n := 2) (by simp))
theorem ix_l0 : ixDV (.lst (v :: xs)) (.int 0) = some (.p v) := by rw [ixD_lst]; exact congrArg (Option.map EV.p) (atI_nat (l := v :: xs) (n := 0) (by simp))
theorem ix_l1 {u : Val} : ixDV (.lst (u :: v :: xs)) (.int 1) = some (.p v) := by rw [ixD_lst]; exact congrArg (Option.map EV.p) (atI_nat (l := u :: v :: xs) (n := 1) (by simp))
/-! ranges -/
theorem rgL_nat {n : Nat} : rgL 0 (n : Int) = (List.range n).map fun (k : Nat) => Val.int (k : Int) := by
  unfold rgL
  simp
theorem rgL_iv {n : Nat} : ((List.range n).map fun (k : Nat) => Val.int (k : Int)) = ((List.range n).map fun (k : Nat) => (k : Int)).map Val.int := by simp
theorem rg2_nat {m n : Nat} (h1 : m < 4000000000000000000) (h : n < 4000000000000000000) : rg2 (.int (m : Int)) (.int (n : Int)) = some ((List.range' m (n - m)).map fun (k : Nat) => Val.int (k : Int)) := by
  have h1 : bound62 (m : Int) = true := by unfold bound62; simp; omega
  have h2 : bound62 (n : Int) = true := by unfold bound62; simp; omega
  have h3 : rg2 (.int (m : Int)) (.int (n : Int)) = some (rgL (m : Int) (n : Int)) := by
    unfold rg2
    dsimp only
    rw [h1, h2]
    rfl
  rw [h3]
  have h5 : ((n : Int) - (m : Int)).toNat = n - m := by omega
  have h6 : rgL (m : Int) (n : Int) = (List.range (n - m)).map fun (i : Nat) => Val.int ((m : Int) + (i : Int)) := by unfold rgL; rw [h5]
  rw [h6, List.range'_eq_map_range, List.map_map]
  refine congrArg some (List.map_congr_left fun a _ => ?_)
  exact congrArg Val.int (Int.natCast_add m a).symm
theorem seq_scr : seqItems (.scr ns) = some (ns.map .int) := rfl
theorem zip_lst : zipV (.lst xs) (.lst ys) = some ((xs.zip ys).map fun p => .tup [p.1, p.2]) := rfl
theorem zip_tup : zipV (.tup xs) (.tup ys) = some ((xs.zip ys).map fun p => .tup [p.1, p.2]) := rfl
theorem enum_lst : enumV (.lst xs) = some (enumFrom 0 xs) := rfl
theorem setL_lst : setLD (.int i) w (.lst xs) = (L2.ixN xs.length i).map fun j => .lst (xs.set j w) := rfl
theorem ixN_nat {n m : Nat} (h : n < m) : L2.ixN m (n : Int) = some n := by
  unfold L2.ixN
  rw [if_pos (by omega), if_pos (by simpa using h)]
  simp
end
/-! ## the types that are told -/
section
variable {i : Int} {xs : List Val} {k : Bool} {ns : List Int} {x : Str} {ks : List L2.Key} {kt : List (List L2.Key)}
theorem isi_non_int : isiV .non (.ty "int") = some (.p (.bl false)) := rfl
theorem isi_non_bool : isiV .non (.ty "bool") = some (.p (.bl false)) := rfl
theorem isi_non_str : isiV .non (.ty "str") = some (.p (.bl false)) := rfl
theorem isi_non_tuple : isiV .non (.ty "tuple") = some (.p (.bl false)) := rfl
theorem isi_non_list : isiV .non (.ty "list") = some (.p (.bl false)) := rfl
theorem isi_non_dict : isiV .non (.ty "dict") = some (.p (.bl false)) := rfl
theorem isi_bl_int : isiV (.bl k) (.ty "int") = some (.p (.bl true)) := rfl
theorem isi_bl_bool : isiV (.bl k) (.ty "bool") = some (.p (.bl true)) := rfl
theorem isi_bl_str : isiV (.bl k) (.ty "str") = some (.p (.bl false)) := rfl
theorem isi_bl_tuple : isiV (.bl k) (.ty "tuple") = some (.p (.bl false)) := rfl
theorem isi_bl_list : isiV (.bl k) (.ty "list") = some (.p (.bl false)) := rfl
theorem isi_bl_dict : isiV (.bl k) (.ty "dict") = some (.p (.bl false)) := rfl
theorem isi_int_int : isiV (.int i) (.ty "int") = some (.p (.bl true)) := rfl
theorem isi_int_bool : isiV (.int i) (.ty "bool") = some (.p (.bl false)) := rfl
theorem isi_int_str : isiV (.int i) (.ty "str") = some (.p (.bl false)) := rfl
theorem isi_int_tuple : isiV (.int i) (.ty "tuple") = some (.p (.bl false)) := rfl
theorem isi_int_list : isiV (.int i) (.ty "list") = some (.p (.bl false)) := rfl
theorem isi_int_dict : isiV (.int i) (.ty "dict") = some (.p (.bl false)) := rfl
theorem isi_str_int : isiV (.str x) (.ty "int") = some (.p (.bl false)) := rfl
theorem isi_str_bool : isiV (.str x) (.ty "bool") = some (.p (.bl false)) := rfl
theorem isi_str_str : isiV (.str x) (.ty "str") = some (.p (.bl true)) := rfl
theorem isi_str_tuple : isiV (.str x) (.ty "tuple") = some (.p (.bl false)) := rfl
theorem isi_str_list : isiV (.str x) (.ty "list") = some (.p (.bl false)) := rfl
theorem isi_str_dict : isiV (.str x) (.ty "dict") = some (.p (.bl false)) := rfl
theorem isi_tup_int : isiV (.tup xs) (.ty "int") = some (.p (.bl false)) := rfl
theorem isi_tup_bool : isiV (.tup xs) (.ty "bool") = some (.p (.bl false)) := rfl
theorem isi_tup_str : isiV (.tup xs) (.ty "str") = some (.p (.bl false)) := rfl
theorem isi_tup_tuple : isiV (.tup xs) (.ty "tuple") = some (.p (.bl true)) := rfl
theorem isi_tup_list : isiV (.tup xs) (.ty "list") = some (.p (.bl false)) := rfl
theorem isi_tup_dict : isiV (.tup xs) (.ty "dict") = some (.p (.bl false)) := rfl
theorem isi_lst_int : isiV (.lst xs) (.ty "int") = some (.p (.bl false)) := rfl
theorem isi_lst_bool : isiV (.lst xs) (.ty "bool") = some (.p (.bl false)) := rfl
theorem isi_lst_str : isiV (.lst xs) (.ty "str") = some (.p (.bl false)) := rfl
theorem isi_lst_tuple : isiV (.lst xs) (.ty "tuple") = some (.p (.bl false)) := rfl
theorem isi_lst_list : isiV (.lst xs) (.ty "list") = some (.p (.bl true)) := rfl
theorem isi_lst_dict : isiV (.lst xs) (.ty "dict") = some (.p (.bl false)) := rfl
theorem isi_scr_int : isiV (.scr ns) (.ty "int") = some (.p (.bl false)) := rfl
theorem isi_scr_bool : isiV (.scr ns) (.ty "bool") = some (.p (.bl false)) := rfl
theorem isi_scr_str : isiV (.scr ns) (.ty "str") = some (.p (.bl false)) := rfl
theorem isi_scr_tuple : isiV (.scr ns) (.ty "tuple") = some (.p (.bl false)) := rfl
theorem isi_scr_list : isiV (.scr ns) (.ty "list") = some (.p (.bl true)) := rfl
theorem isi_scr_dict : isiV (.scr ns) (.ty "dict") = some (.p (.bl false)) := rfl
theorem isi_dk_int : isiV (.dk ks xs) (.ty "int") = some (.p (.bl false)) := rfl
theorem isi_dk_bool : isiV (.dk ks xs) (.ty "bool") = some (.p (.bl false)) := rfl
theorem isi_dk_str : isiV (.dk ks xs) (.ty "str") = some (.p (.bl false)) := rfl
theorem isi_dk_tuple : isiV (.dk ks xs) (.ty "tuple") = some (.p (.bl false)) := rfl
theorem isi_dk_list : isiV (.dk ks xs) (.ty "list") = some (.p (.bl false)) := rfl
theorem isi_dk_dict : isiV (.dk ks xs) (.ty "dict") = some (.p (.bl true)) := rfl
theorem isi_dt_int : isiV (.dt kt xs) (.ty "int") = some (.p (.bl false)) := rfl
theorem isi_dt_bool : isiV (.dt kt xs) (.ty "bool") = some (.p (.bl false)) := rfl
theorem isi_dt_str : isiV (.dt kt xs) (.ty "str") = some (.p (.bl false)) := rfl
theorem isi_dt_tuple : isiV (.dt kt xs) (.ty "tuple") = some (.p (.bl false)) := rfl
theorem isi_dt_list : isiV (.dt kt xs) (.ty "list") = some (.p (.bl false)) := rfl
theorem isi_dt_dict : isiV (.dt kt xs) (.ty "dict") = some (.p (.bl true)) := rfl
theorem isN_non : isN .non = true := rfl
theorem isN_bl : isN (.bl k) = false := rfl
theorem isN_int : isN (.int i) = false := rfl
theorem isN_str : isN (.str x) = false := rfl
theorem isN_tup : isN (.tup xs) = false := rfl
theorem isN_lst : isN (.lst xs) = false := rfl
theorem isN_scr : isN (.scr ns) = false := rfl
theorem isN_dk : isN (.dk ks xs) = false := rfl
theorem isN_dt : isN (.dt kt xs) = false := rfl
end
/-! ## what == tells -/
def flatP (k : Nat) (d : PyData) : Prop := d.canLay0 = true ∧ d.depth ≤ k
theorem flat_all {k : Nat} : ∀ {ds : List PyData}, (∀ d ∈ ds, flatP k d) → PyData.canLayAll0 ds = true ∧ PyData.depthAll ds ≤ k
  | [], _ => ⟨by unfold PyData.canLayAll0; rfl, by unfold PyData.depthAll; exact Nat.zero_le _⟩
  | d :: ds, h => by
    obtain ⟨h1, h2⟩ := h d List.mem_cons_self
    obtain ⟨h3, h4⟩ := flat_all fun x hx => h x (List.mem_cons_of_mem _ hx)
    refine ⟨by unfold PyData.canLayAll0; rw [h1, h3]; rfl, ?_⟩
    unfold PyData.depthAll
    exact Nat.max_le.mpr ⟨h2, h4⟩
theorem flat_tuple {k : Nat} {ds : List PyData} (h : ∀ d ∈ ds, flatP k d) : flatP (k + 1) (.tuple ds) := by
  obtain ⟨h1, h2⟩ := flat_all h
  exact ⟨by unfold PyData.canLay0; exact h1, by unfold PyData.depth; omega⟩
theorem flat_list {k : Nat} {ds : List PyData} (h : ∀ d ∈ ds, flatP k d) : flatP (k + 1) (.list ds) := by
  obtain ⟨h1, h2⟩ := flat_all h
  exact ⟨by unfold PyData.canLay0; exact h1, by unfold PyData.depth; omega⟩
theorem flatP.mono {k k' : Nat} {d : PyData} (h : flatP k d) (hk : k ≤ k') : flatP k' d := ⟨h.1, Nat.le_trans h.2 hk⟩
theorem shaped_of {k : Nat} {d : PyData} (h : flatP k d) (hk : k ≤ 64) : SeqAt.shaped d = true := by
  unfold SeqAt.shaped
  rw [h.1, decide_eq_true (Nat.le_trans h.2 hk)]; rfl
/-- values that == compares as they are -/
structure Eqs {α : Type} (e : α → Val) (k : Nat) : Prop where
  ex : ∃ f : α → PyData, (∀ a, toD (e a) = some (f a)) ∧ (∀ a, flatP k (f a)) ∧ ∀ a b, PyData.eqv (f a) (f b) = true ↔ a = b
theorem eqv_nn : PyData.eqv .none .none = true := by unfold PyData.eqv; rfl
theorem eqv_int {i j : Int} : PyData.eqv (.int i) (.int j) = (i == j) := by unfold PyData.eqv; rfl
theorem eqv_bl {i j : Bool} : PyData.eqv (.bool i) (.bool j) = (i == j) := by unfold PyData.eqv; rfl
theorem eqv_str {i j : Str} : PyData.eqv (.str i) (.str j) = (i == j) := by unfold PyData.eqv; rfl
theorem eqv_lst {i j : List PyData} : PyData.eqv (.list i) (.list j) = PyData.eqvAll i j := by rw [PyData.eqv]
theorem eqv_tup {i j : List PyData} : PyData.eqv (.tuple i) (.tuple j) = PyData.eqvAll i j := by rw [PyData.eqv]
theorem eqvAll_nil : PyData.eqvAll [] [] = true := by unfold PyData.eqvAll; rfl
theorem eqvAll_nc {d : PyData} {ds : List PyData} : PyData.eqvAll [] (d :: ds) = false := by unfold PyData.eqvAll; rfl
theorem eqvAll_cn {d : PyData} {ds : List PyData} : PyData.eqvAll (d :: ds) [] = false := by unfold PyData.eqvAll; rfl
theorem eqvAll_cc {d d' : PyData} {ds ds' : List PyData} : PyData.eqvAll (d :: ds) (d' :: ds') = (PyData.eqv d d' && PyData.eqvAll ds ds') := by rw [PyData.eqvAll]
theorem toD_bl (i : Bool) : toD (.bl i) = some (.bool i) := by unfold toD; rfl
theorem toD_str (i : Str) : toD (.str i) = some (.str i) := by unfold toD; rfl
theorem toD_non : toD .non = some .none := by unfold toD; rfl
theorem toDs_nil : toDs [] = some [] := by unfold toDs; rfl
theorem toDs_cons {v : Val} {vs : List Val} {d : PyData} {ds : List PyData} (h : toD v = some d) (hs : toDs vs = some ds) : toDs (v :: vs) = some (d :: ds) := by
  unfold toDs; rw [h, hs]
theorem toD_tup {vs : List Val} {ds : List PyData} (h : toDs vs = some ds) : toD (.tup vs) = some (.tuple ds) := by unfold toD; rw [h]; rfl
theorem toD_lst {vs : List Val} {ds : List PyData} (h : toDs vs = some ds) : toD (.lst vs) = some (.list ds) := by unfold toD; rw [h]; rfl
theorem toDs_map {α : Type} {e : α → Val} {f : α → PyData} (h : ∀ a, toD (e a) = some (f a)) : ∀ l : List α, toDs (l.map e) = some (l.map f)
  | [] => toDs_nil
  | a :: l => toDs_cons (h a) (toDs_map h l)
theorem Eqs.int : Eqs Val.int 0 := ⟨fun i => .int i, fun i => toD_int i, fun i => ⟨by unfold PyData.canLay0; rfl, by unfold PyData.depth; exact Nat.le_refl _⟩, fun a b => by rw [eqv_int]; simp⟩
theorem Eqs.bl : Eqs Val.bl 0 := ⟨fun i => .bool i, fun i => toD_bl i, fun i => ⟨by unfold PyData.canLay0; rfl, by unfold PyData.depth; exact Nat.le_refl _⟩, fun a b => by rw [eqv_bl]; simp⟩
theorem Eqs.non : Eqs (fun _ : Unit => Val.non) 0 := ⟨fun i => .none, fun i => toD_non, fun i => ⟨by unfold PyData.canLay0; rfl, by unfold PyData.depth; exact Nat.le_refl _⟩, fun a b => by rw [eqv_nn]; simp⟩
theorem eqvAll_map {α : Type} {f : α → PyData} (h : ∀ a b, PyData.eqv (f a) (f b) = true ↔ a = b) : ∀ l m : List α, PyData.eqvAll (l.map f) (m.map f) = true ↔ l = m
  | [], [] => by simp [eqvAll_nil]
  | [], b :: m => by simp [eqvAll_nc]
  | a :: l, [] => by simp [eqvAll_cn]
  | a :: l, b :: m => by
    rw [List.map_cons, List.map_cons, eqvAll_cc, Bool.and_eq_true, h a b, eqvAll_map h l m, List.cons.injEq]
theorem Eqs.lst {α : Type} {e : α → Val} {k : Nat} (h : Eqs e k) : Eqs (fun l : List α => .lst (l.map e)) (k + 1) := by
  obtain ⟨f, h1, h2, h3⟩ := h
  refine ⟨fun l => .list (l.map f), fun l => toD_lst (toDs_map h1 l), fun l => flat_list fun d hd => ?_, fun a b => by rw [eqv_lst, eqvAll_map h3]⟩
  obtain ⟨a, _, rfl⟩ := List.mem_map.mp hd
  exact h2 a
theorem Eqs.tup {α : Type} {e : α → Val} {k : Nat} (h : Eqs e k) : Eqs (fun l : List α => .tup (l.map e)) (k + 1) := by
  obtain ⟨f, h1, h2, h3⟩ := h
  refine ⟨fun l => .tuple (l.map f), fun l => toD_tup (toDs_map h1 l), fun l => flat_tuple fun d hd => ?_, fun a b => by rw [eqv_tup, eqvAll_map h3]⟩
  obtain ⟨a, _, rfl⟩ := List.mem_map.mp hd
  exact h2 a
theorem Eqs.pair {α β : Type} {e : α → Val} {g : β → Val} {k : Nat} (h : Eqs e k) (hg : Eqs g k) : Eqs (fun p : α × β => .tup [e p.1, g p.2]) (k + 1) := by
  obtain ⟨f, h1, h2, h3⟩ := h
  obtain ⟨f', h1', h2', h3'⟩ := hg
  refine ⟨fun p => .tuple [f p.1, f' p.2], fun p => toD_tup (toDs_cons (h1 _) (toDs_cons (h1' _) toDs_nil)), fun l => flat_tuple fun d hd => ?_, fun a b => ?_⟩
  · rcases List.mem_cons.mp hd with rfl | hd
    · exact h2 _
    · rcases List.mem_cons.mp hd with rfl | hd
      · exact h2' _
      · cases hd
  · rw [eqv_tup, eqvAll_cc, eqvAll_cc, eqvAll_nil, Bool.and_true, Bool.and_eq_true, h3, h3', Prod.ext_iff]
theorem Eqs.trip {α β γ : Type} {e : α → Val} {g : β → Val} {g2 : γ → Val} {k : Nat} (h : Eqs e k) (hg : Eqs g k) (hg2 : Eqs g2 k) : Eqs (fun p : α × β × γ => .tup [e p.1, g p.2.1, g2 p.2.2]) (k + 1) := by
  obtain ⟨f, h1, h2, h3⟩ := h
  obtain ⟨f', h1', h2', h3'⟩ := hg
  obtain ⟨f2, h12, h22, h32⟩ := hg2
  refine ⟨fun p => .tuple [f p.1, f' p.2.1, f2 p.2.2], fun p => toD_tup (toDs_cons (h1 _) (toDs_cons (h1' _) (toDs_cons (h12 _) toDs_nil))), fun l => flat_tuple fun d hd => ?_, fun a b => ?_⟩
  · rcases List.mem_cons.mp hd with rfl | hd
    · exact h2 _
    · rcases List.mem_cons.mp hd with rfl | hd
      · exact h2' _
      · rcases List.mem_cons.mp hd with rfl | hd
        · exact h22 _
        · cases hd
  · rw [eqv_tup, eqvAll_cc, eqvAll_cc, eqvAll_cc, eqvAll_nil, Bool.and_true, Bool.and_eq_true, Bool.and_eq_true, h3, h3', h32, Prod.ext_iff, Prod.ext_iff]
theorem Eqs.mono {α : Type} {e : α → Val} {k k' : Nat} (h : Eqs e k) (hk : k ≤ k') : Eqs e k' := by
  obtain ⟨f, h1, h2, h3⟩ := h
  exact ⟨f, h1, fun a => (h2 a).mono hk, h3⟩
theorem Eqs.eq {α : Type} {e : α → Val} {k : Nat} (h : Eqs e k) (hk : k ≤ 64) (a b : α) [Decidable (a = b)] : eqV (e a) (e b) = some (.p (.bl (decide (a = b)))) := by
  obtain ⟨f, h1, h2, h3⟩ := h
  unfold eqV eqV?
  rw [h1, h1]
  dsimp only
  rw [shaped_of (h2 a) hk, shaped_of (h2 b) hk]
  have : PyData.eqv (f a) (f b) = decide (a = b) := by
    by_cases hab : a = b
    · rw [decide_eq_true hab, (h3 a b).mpr hab]
    · rw [decide_eq_false hab]
      cases hh : PyData.eqv (f a) (f b) with
      | false => rfl
      | true => exact absurd ((h3 a b).mp hh) hab
  rw [this]; rfl
theorem Eqs.ne {α : Type} {e : α → Val} {k : Nat} (h : Eqs e k) (hk : k ≤ 64) (a b : α) [Decidable (a = b)] : neV (e a) (e b) = some (.p (.bl (!decide (a = b)))) := by
  have := h.eq hk a b
  unfold eqV at this
  unfold neV
  cases hh : eqV? (e a) (e b) with
  | none => rw [hh] at this; cases this
  | some q => rw [hh] at this; cases this; rfl
abbrev eqI : Eqs (fun l : List Int => .lst (l.map Val.int)) 1 := Eqs.int.lst
abbrev pairV (p : Int × Int) : Val := .tup [.int p.1, .int p.2]
theorem eqPair : Eqs pairV 1 := Eqs.int.pair Eqs.int
theorem eqV_int' {i j : Int} : eqV (.int i) (.int j) = some (.p (.bl (decide (i = j)))) := eqV_int i j
theorem neV_int {i j : Int} : neV (.int i) (.int j) = some (.p (.bl (!decide (i = j)))) := Eqs.int.ne (by decide) i j
theorem eqV_bl {i j : Bool} : eqV (.bl i) (.bl j) = some (.p (.bl (decide (i = j)))) := Eqs.bl.eq (by decide) i j
theorem neV_bl {i j : Bool} : neV (.bl i) (.bl j) = some (.p (.bl (!decide (i = j)))) := Eqs.bl.ne (by decide) i j
theorem eqV_pair {p q : Int × Int} : eqV (pairV p) (pairV q) = some (.p (.bl (decide (p = q)))) := eqPair.eq (by decide) p q
end Z
end

section
set_option Elab.async false
set_option linter.all false
set_option maxRecDepth 100000
namespace Z
open PySem Y
theorem wS_of {r r' : SR} {P : Po} (h : r = r') (q : wS r' P) : wS r P := by rw [h]; exact q
theorem wR_of {α : Type} {r r' : R α} {Q : α → S → Prop} {E : Exc → S → Prop} (h : r = r') (q : wR r' Q E) : wR r Q E := by rw [h]; exact q
theorem wF_iff {r : FR} {v : EV} {b : Ob} (h : wF r (fun v' b' => v' = v ∧ b' = b) noE) : r = .ok v b := wF_eq.mp h
theorem wF.ex {r : FR} {Q : EV → Ob → Prop} (h : wF r Q noE) : ∃ v b, r = .ok v b ∧ Q v b := by
  unfold wF at h
  cases r with
  | ok v b => exact ⟨v, b, rfl, h⟩
  | ex e b => exact h.elim
  | bad => exact h.elim
theorem wF.exI {r : FR} {v : EV} (h : wF r (fun v' b => v' = v ∧ ∃ D : List Int, b = .lst (D.map Val.int)) noE) : ∃ D : List Int, r = .ok v (.lst (D.map Val.int)) := by
  obtain ⟨_, _, h1, rfl, D, rfl⟩ := wF.ex h
  exact ⟨D, h1⟩
theorem w_nil {t : Tgt} {body : S → SR} {P : Po} {st : S} (h : P.nx st) : wS (forL t body [] st) P := by show wS (.nx st) P; rw [wS_nx]; exact h
theorem w_cons {t : Tgt} {body : S → SR} {P : Po} {st : S} {v : Val} {vs : List Val} (h : ∃ st1, asg t v st = some st1 ∧ wS (body st1) { P with nx := fun st2 => wS (forL t body vs st2) P, ct := fun st2 => wS (forL t body vs st2) P, bk := P.nx }) : wS (forL t body (v :: vs) st) P := by
  obtain ⟨st1, h1, h2⟩ := h
  unfold forL
  rw [h1]
  dsimp only
  cases hb : body st1 with
  | nx st2 => rw [hb, wS_nx] at h2; exact h2
  | ct st2 => rw [hb, wS_ct] at h2; exact h2
  | bk st2 => rw [hb, wS_bk] at h2; dsimp only; rw [wS_nx]; exact h2
  | rt v st2 => rw [hb, wS_rt] at h2; dsimp only; rw [wS_rt]; exact h2
  | ex e st2 => rw [hb, wS_ex] at h2; dsimp only; rw [wS_ex]; exact h2
  | bad => rw [hb, wS_bad] at h2; exact h2.elim
theorem compL_nil {t : Tgt} {cond : S → R Bool} {elt : S → R EV} {vs : List Nat} {acc : List Val} {st : S} : compL t cond elt vs [] acc st = .ok acc st := by unfold compL; rfl
def compA (t : Tgt) (cond : S → R Bool) (elt : S → R EV) (vs : List Nat) (rst acc : List Val) (st : S) : Option S → R (List Val)
  | none => .bad
  | some st1 => lb (cond st1).noex fun b st2 => if b then lb (keep1 elt st2).noex fun w st3 => if decide (acc.length < LINE) && unlkAll vs st3 then compL t cond elt vs rst (acc ++ [w]) (rest st vs st3) else .bad
      else if unlkAll vs st2 then compL t cond elt vs rst acc (rest st vs st2) else .bad
theorem compA_some {t : Tgt} {cond : S → R Bool} {elt : S → R EV} {vs : List Nat} {rst acc : List Val} {st st1 : S} : compA t cond elt vs rst acc st (some st1) = lb (cond st1).noex fun b st2 => if b then lb (keep1 elt st2).noex fun w st3 => if decide (acc.length < 16777216) && unlkAll vs st3 then compL t cond elt vs rst (acc ++ [w]) (rest st vs st3) else .bad
      else if unlkAll vs st2 then compL t cond elt vs rst acc (rest st vs st2) else .bad := rfl
theorem compL_cons {t : Tgt} {cond : S → R Bool} {elt : S → R EV} {vs : List Nat} {v : Val} {rst acc : List Val} {st : S} : compL t cond elt vs (v :: rst) acc st = compA t cond elt vs rst acc st (asg t v (wipeS vs st)) := by
  conv => lhs; unfold compL
  cases asg t v (wipeS vs st) <;> rfl
theorem lend_isL {f : SV} (h : lend f = true) : isL f = false := by cases f <;> first | rfl | cases h
theorem iv_snoc {D : List Int} {a : Int} : D.map Val.int ++ [.int a] = (D ++ [a]).map Val.int := by simp
theorem isDict_dk {ks : List L2.Key} {xs : List Val} : isDict (.dk ks xs) = true := rfl
theorem isDict_lst {xs : List Val} : isDict (.lst xs) = false := rfl
theorem isDk_p {xs : List Val} : isDk (.p (.lst xs)) = false := rfl
theorem isDk_t {xs : List Val} : isDk (.p (.tup xs)) = false := rfl
theorem isDk_s {ns : List Int} : isDk (.p (.scr ns)) = false := rfl
theorem isDk_o {xs : List Val} : isDk (.o (.lst xs)) = false := rfl
theorem sForN_eq {i : Nat} {t : Tgt} {s : S → SR} {st : S} : sForN i t s st = if isDk (st.get i) = true then sForD .keys i t s st else sFor (iterD (eVar i)) t s st := rfl
theorem min_if {a b : Int} : (if b < a then b else a) = min a b := by
  rw [Int.min_def]
  split <;> split <;> omega
theorem max_if {a b : Int} : (if b > a then b else a) = max a b := by
  rw [Int.max_def]
  split <;> split <;> omega
/-! ## slices by a step; try with many handlers -/
section
variable {st : S} {o : Option Int} {xs : List Val} {d : S → R EV} {t : S → R (Option Int)} {isa : Isa} {hs : List (Str × (S → SR))} {r : SR} {P : Po} {e : Exc}
theorem eRv_eq : eRv d t st = lb (d st) fun v st1 => lb (t st1) fun s st2 => rvR st2 s (peek st2 v) := rfl
theorem rvR_tup : rvR st o (some (.tup xs)) = if o = some (-1) then .ok (.p (.tup xs.reverse)) st else .bad := rfl
theorem rvR_lst : rvR st o (some (.lst xs)) = if decide (o ≠ some 0) && decide ((sliceL xs none none o).length ≤ 16777216) then .ok (.f (.lst (sliceL xs none none o))) st else .bad := rfl
def tmR (isa : Isa) (hs : List (Str × (S → SR))) : SR → SR
  | .ex e st1 => pickH isa e st1 hs
  | r => r
theorem sTryMany_eq {b : S → SR} : sTryMany isa b hs st = tmR isa hs (b st) := by
  unfold sTryMany tmR
  cases b st <;> rfl
theorem tmR_nx : tmR isa hs (.nx st) = .nx st := rfl
theorem tmR_rt {v : EV} : tmR isa hs (.rt v st) = .rt v st := rfl
theorem tmR_ex : tmR isa hs (.ex e st) = pickH isa e st hs := rfl
theorem wS_tmR : wS (tmR isa hs r) P = wS r { P with ex := fun e st => wS (pickH isa e st hs) P } := by
  unfold wS
  cases r <;> rfl
end
end Z
end

section
set_option linter.all false
namespace M45
/-! # merging by odd and even places -/
def ev {α : Type} : List α → List α
  | [] => []
  | [x] => [x]
  | x :: _ :: r => x :: ev r
def od {α : Type} : List α → List α
  | [] => []
  | [_] => []
  | _ :: y :: r => y :: od r
def turn {α : Type} : List α → List α → List α
  | [], _ => []
  | e :: E, [] => e :: turn E []
  | e :: E, o :: O => e :: o :: turn E O
def pr {α : Type} : List α → List (α × α)
  | x :: y :: r => (x, y) :: pr r
  | _ => []
abbrev G := List (Int × Int)
def mg : Nat → List Int → List Int → G × List Int
  | 0, _, _ => ([], [])
  | n + 1, A, B => if A.length = 0 ∨ B.length = 0 then ([], A ++ B) else if A.length = 1 ∧ B.length = 1 then ([(A.headD 0, B.headD 0)], A ++ B)
    else ((mg n (ev A) (ev B)).1 ++ (mg n (od A) (od B)).1 ++ pr (turn (mg n (ev A) (ev B)).2 (mg n (od A) (od B)).2).tail, turn (mg n (ev A) (ev B)).2 (mg n (od A) (od B)).2)
/-! ## bits -/
abbrev Bits := Int → Bool
def apB (b : Bits) (g : Int × Int) : Bits := fun x => if x = g.1 then b g.1 || b g.2 else if x = g.2 then b g.1 && b g.2 else b x
def runB (b : Bits) (gs : G) : Bits := gs.foldl apB b
theorem runB_app (b : Bits) (g h : G) : runB b (g ++ h) = runB (runB b g) h := List.foldl_append ..
theorem runB_out {x : Int} : ∀ {gs : G} {b : Bits}, (∀ g ∈ gs, g.1 ≠ x ∧ g.2 ≠ x) → runB b gs x = b x
  | [], _, _ => rfl
  | g :: gs, b, h => by
    show runB (apB b g) gs x = _
    rw [runB_out (fun g' h' => h g' (List.mem_cons_of_mem _ h'))]
    obtain ⟨h1, h2⟩ := h g List.mem_cons_self
    unfold apB
    rw [if_neg h1.symm, if_neg h2.symm]
def srt (k n : Nat) : List Bool := List.replicate k true ++ List.replicate (n - k) false
theorem srt_len {k n : Nat} (h : k ≤ n) : (srt k n).length = n := by simp [srt]; omega
theorem srt_cons_t {k n : Nat} : srt (k + 1) (n + 1) = true :: srt k n := by simp [srt, List.replicate_succ]
theorem srt_cons_f {n : Nat} : srt 0 (n + 1) = false :: srt 0 n := by simp [srt, List.replicate_succ]
theorem srt_nil : srt 0 0 = [] := rfl
theorem ev_srt : ∀ (n k : Nat), k ≤ n → ev (srt k n) = srt ((k + 1) / 2) ((n + 1) / 2)
  | 0, k, h => by have : k = 0 := by omega
                  subst this; rfl
  | 1, 0, _ => rfl
  | 1, 1, _ => rfl
  | n + 2, 0, _ => by
    rw [srt_cons_f, srt_cons_f]
    show false :: ev (srt 0 n) = _
    rw [ev_srt n 0 (by omega), show (n + 2 + 1) / 2 = (n + 1) / 2 + 1 by omega]
    exact srt_cons_f.symm
  | n + 2, 1, _ => by
    rw [srt_cons_t, srt_cons_f]
    show true :: ev (srt 0 n) = _
    rw [ev_srt n 0 (by omega), show (n + 2 + 1) / 2 = (n + 1) / 2 + 1 by omega]
    exact srt_cons_t.symm
  | n + 2, k + 2, h => by
    rw [srt_cons_t, srt_cons_t]
    show true :: ev (srt k n) = _
    rw [ev_srt n k (by omega), show (n + 2 + 1) / 2 = (n + 1) / 2 + 1 by omega, show (k + 2 + 1) / 2 = (k + 1) / 2 + 1 by omega]
    exact srt_cons_t.symm
theorem od_srt : ∀ (n k : Nat), k ≤ n → od (srt k n) = srt (k / 2) (n / 2)
  | 0, k, h => by have : k = 0 := by omega
                  subst this; rfl
  | 1, 0, _ => rfl
  | 1, 1, _ => rfl
  | n + 2, 0, _ => by
    rw [srt_cons_f, srt_cons_f]
    show false :: od (srt 0 n) = _
    rw [od_srt n 0 (by omega), show (n + 2) / 2 = n / 2 + 1 by omega]
    exact srt_cons_f.symm
  | n + 2, 1, _ => by
    rw [srt_cons_t, srt_cons_f]
    show false :: od (srt 0 n) = _
    rw [od_srt n 0 (by omega), show (n + 2) / 2 = n / 2 + 1 by omega]
    exact srt_cons_f.symm
  | n + 2, k + 2, h => by
    rw [srt_cons_t, srt_cons_t]
    show true :: od (srt k n) = _
    rw [od_srt n k (by omega), show (n + 2) / 2 = n / 2 + 1 by omega, show (k + 2) / 2 = k / 2 + 1 by omega]
    exact srt_cons_t.symm
theorem ev_map {α β : Type} (f : α → β) : ∀ l : List α, ev (l.map f) = (ev l).map f
  | [] => rfl
  | [_] => rfl
  | _ :: _ :: r => by simp [ev, ev_map f r]
theorem od_map {α β : Type} (f : α → β) : ∀ l : List α, od (l.map f) = (od l).map f
  | [] => rfl
  | [_] => rfl
  | _ :: _ :: r => by simp [od, od_map f r]
theorem ev_len {α : Type} : ∀ l : List α, (ev l).length = (l.length + 1) / 2
  | [] => by simp [ev]
  | [_] => by simp [ev]
  | _ :: _ :: r => by simp [ev, ev_len r]; omega
theorem od_len {α : Type} : ∀ l : List α, (od l).length = l.length / 2
  | [] => by simp [od]
  | [_] => by simp [od]
  | _ :: _ :: r => by simp [od, od_len r]; omega
theorem ev_od_perm {α : Type} : ∀ l : List α, (ev l ++ od l).Perm l
  | [] => .nil
  | [_] => .refl _
  | x :: y :: r => by
    show (x :: (ev r ++ y :: od r)).Perm (x :: y :: r)
    exact .cons _ (List.perm_middle.trans (.cons _ (ev_od_perm r)))
theorem turn_nil {α : Type} : ∀ E : List α, turn E [] = E
  | [] => rfl
  | e :: E => by rw [turn, turn_nil E]
theorem turn_perm {α : Type} : ∀ (E O : List α), O.length ≤ E.length → (turn E O).Perm (E ++ O)
  | [], [], _ => .nil
  | [], _ :: _, h => by simp at h
  | e :: E, [], _ => by rw [turn_nil, List.append_nil]
  | e :: E, o :: O, h => by
    show (e :: o :: turn E O).Perm (e :: (E ++ o :: O))
    exact .cons _ ((List.Perm.cons _ (turn_perm E O (by simpa using h))).trans List.perm_middle.symm)
/-- the bits behind the last gates -/
def fin' : List Bool → List Bool → List Bool
  | xs, [] => xs
  | [], y :: _ => [y]
  | x :: xs, y :: ys => (y || x) :: (y && x) :: fin' xs ys
theorem fin_srt : ∀ (l m p q : Nat), q ≤ l → p ≤ m → q ≤ p + 1 → p ≤ q + 1 → l ≤ m + 1 → fin' (srt p m) (srt q l) = srt (p + q) (m + l)
  | 0, m, p, q, h1, h2, h3, h4, h5 => by
    have : q = 0 := by omega
    subst this
    rw [srt_nil, fin']; rfl
  | l + 1, 0, p, q, h1, h2, h3, h4, h5 => by
    have hp : p = 0 := by omega
    have hl : l = 0 := by omega
    subst hp hl
    rcases (show q = 0 ∨ q = 1 by omega) with rfl | rfl <;> rfl
  | l + 1, m + 1, p, 0, h1, h2, h3, h4, h5 => by
    rcases (show p = 0 ∨ p = 1 by omega) with rfl | rfl
    · rw [srt_cons_f, srt_cons_f, fin', fin_srt l m 0 0 (by omega) (by omega) (by omega) (by omega) (by omega), show m + 1 + (l + 1) = (m + l) + 1 + 1 by omega, srt_cons_f, srt_cons_f]
      rfl
    · rw [srt_cons_f, srt_cons_t, fin', fin_srt l m 0 0 (by omega) (by omega) (by omega) (by omega) (by omega), show m + 1 + (l + 1) = (m + l) + 1 + 1 by omega, srt_cons_t, srt_cons_f]
      rfl
  | l + 1, m + 1, 0, q + 1, h1, h2, h3, h4, h5 => by
    have : q = 0 := by omega
    subst this
    rw [srt_cons_f, srt_cons_t, fin', fin_srt l m 0 0 (by omega) (by omega) (by omega) (by omega) (by omega), show m + 1 + (l + 1) = (m + l) + 1 + 1 by omega, show 0 + (0 + 1) = 0 + 1 by omega, srt_cons_t, srt_cons_f]
    rfl
  | l + 1, m + 1, p + 1, q + 1, h1, h2, h3, h4, h5 => by
    rw [srt_cons_t, srt_cons_t, fin', fin_srt l m p q (by omega) (by omega) (by omega) (by omega) (by omega), show m + 1 + (l + 1) = (m + l) + 1 + 1 by omega, show p + 1 + (q + 1) = (p + q) + 1 + 1 by omega, srt_cons_t, srt_cons_t]
    rfl
theorem pr_mem : ∀ {l : List Int} {g : Int × Int}, g ∈ pr l → g.1 ∈ l ∧ g.2 ∈ l
  | [], _, h => by simp [pr] at h
  | [_], _, h => by simp [pr] at h
  | x :: y :: r, g, h => by
    rcases List.mem_cons.mp (show g ∈ (x, y) :: pr r from h) with rfl | h
    · simp
    · obtain ⟨h1, h2⟩ := pr_mem h
      exact ⟨by simp [h1], by simp [h2]⟩
theorem turn_len {α : Type} (E O : List α) (h : O.length ≤ E.length) : (turn E O).length = E.length + O.length := by
  rw [(turn_perm E O h).length_eq, List.length_append]
theorem turn_cons {α : Type} (x : α) (xs O : List α) : turn (x :: xs) O = x :: (turn (x :: xs) O).tail := by cases O <;> rfl
theorem last_bits : ∀ (O xs : List Int) (e : Int) (b : Bits), (e :: xs ++ O).Nodup → O.length ≤ xs.length + 1 → xs.length ≤ O.length + 1 →
    (turn (e :: xs) O).map (runB b (pr (turn (e :: xs) O).tail)) = b e :: fin' (xs.map b) (O.map b)
  | [], [], e, b, _, _, _ => rfl
  | [], [x], e, b, _, _, _ => rfl
  | [], _ :: _ :: _, _, _, _, _, h => by simp at h
  | [o], [], e, b, _, _, _ => rfl
  | _ :: _ :: _, [], _, _, _, h, _ => by simp at h
  | o :: O, x :: xs, e, b, hn, h1, h2 => by
    have hT : turn (x :: xs) O = x :: (turn (x :: xs) O).tail := turn_cons x xs O
    generalize hTT : (turn (x :: xs) O).tail = T at hT
    have e1 : turn (e :: x :: xs) (o :: O) = e :: o :: turn (x :: xs) O := rfl
    have e2 : pr (turn (e :: x :: xs) (o :: O)).tail = (o, x) :: pr T := by
      rw [e1]
      show pr (o :: turn (x :: xs) O) = _
      rw [hT]; rfl
    have hp : (turn (x :: xs) O).Perm (x :: xs ++ O) := turn_perm _ _ (by simp at h1 ⊢; omega)
    rw [hT] at hp
    have hp' : T.Perm (xs ++ O) := List.Perm.cons_inv hp
    have nd : (e :: (x :: xs ++ o :: O)).Nodup := hn
    have nd2 : (e :: o :: x :: (xs ++ O)).Nodup := by
      refine nd.perm ?_
      refine .cons _ ?_
      exact (List.perm_middle (l₁ := x :: xs)).trans (.refl _)
    rw [List.nodup_cons, List.nodup_cons, List.nodup_cons] at nd2
    obtain ⟨n1, n2, n3, n4⟩ := nd2
    have mem : ∀ g ∈ pr T, g.1 ∈ xs ++ O ∧ g.2 ∈ xs ++ O := fun g hg => by
      obtain ⟨m1, m2⟩ := pr_mem hg
      exact ⟨hp'.mem_iff.mp m1, hp'.mem_iff.mp m2⟩
    have IH := last_bits O xs x (apB b (o, x)) (by rw [List.cons_append, List.nodup_cons]; exact ⟨n3, n4⟩) (by simp at h1; omega) (by simp at h2; omega)
    rw [hTT] at IH
    rw [e2, e1]
    show (runB b ((o, x) :: pr T)) e :: (runB b ((o, x) :: pr T)) o :: (turn (x :: xs) O).map (runB (apB b (o, x)) (pr T)) = _
    rw [IH]
    have k1 : runB b ((o, x) :: pr T) e = b e := runB_out fun g hg => by
      rcases List.mem_cons.mp hg with rfl | hg
      · exact ⟨fun z => n1 (by rw [← z]; simp), fun z => n1 (by rw [← z]; simp)⟩
      · obtain ⟨m1, m2⟩ := mem g hg
        exact ⟨fun z => n1 (by rw [← z]; exact List.mem_cons_of_mem _ (List.mem_cons_of_mem _ m1)), fun z => n1 (by rw [← z]; exact List.mem_cons_of_mem _ (List.mem_cons_of_mem _ m2))⟩
    have k2 : runB b ((o, x) :: pr T) o = (b o || b x) := by
      show runB (apB b (o, x)) (pr T) o = _
      rw [runB_out fun g hg => by
        obtain ⟨m1, m2⟩ := mem g hg
        exact ⟨fun z => n2 (by rw [← z]; exact List.mem_cons_of_mem _ m1), fun z => n2 (by rw [← z]; exact List.mem_cons_of_mem _ m2)⟩]
      simp [apB]
    have hox : ¬ x = o := fun z => n2 (by rw [z]; simp)
    have k3 : apB b (o, x) x = (b o && b x) := by simp [apB, hox]
    have k4 : ∀ l : List Int, (∀ y ∈ l, y ∈ xs ++ O) → l.map (apB b (o, x)) = l.map b := fun l hl => by
      refine List.map_congr_left fun y hy => ?_
      have hy' := hl y hy
      have y1 : ¬ y = o := fun z => n2 (by rw [← z]; exact List.mem_cons_of_mem _ hy')
      have y2 : ¬ y = x := fun z => n3 (by rw [← z]; exact hy')
      simp [apB, y1, y2]
    rw [k1, k2, k3, k4 xs (by intro y hy; simp [hy]), k4 O (by intro y hy; simp [hy])]
    rfl
/-! ## the merging -/
def okf : Nat → Nat → Prop
  | 0, _ => False
  | n + 1, s => s ≤ 2 ^ n + 1
theorem okf_down {n a b : Nat} (h : okf (n + 1) (a + b)) (h2 : ¬ (a = 0 ∨ b = 0)) (h3 : ¬ (a = 1 ∧ b = 1)) : okf n ((a + 1) / 2 + (b + 1) / 2) ∧ okf n (a / 2 + b / 2) := by
  cases n with
  | zero => simp [okf] at h; omega
  | succ n =>
    have h : a + b ≤ 2 ^ (n + 1) + 1 := h
    rw [Nat.pow_succ] at h
    exact ⟨show _ ≤ 2 ^ n + 1 by omega, show _ ≤ 2 ^ n + 1 by omega⟩
theorem nodup_sub {α : Type} {A B A' B' : List α} (h : (A ++ B).Nodup) (a : List.Sublist A' A) (b : List.Sublist B' B) : (A' ++ B').Nodup := h.sublist (a.append b)
theorem ev_sub {α : Type} : ∀ l : List α, (ev l).Sublist l
  | [] => .slnil
  | [_] => .refl _
  | _ :: _ :: r => ((ev_sub r).cons _).cons₂ _
theorem od_sub {α : Type} : ∀ l : List α, (od l).Sublist l
  | [] => .slnil
  | [_] => .cons _ .slnil
  | _ :: _ :: r => ((od_sub r).cons₂ _).cons _
/-- the lines: what the gates use, what the row is -/
theorem mg_lines : ∀ (n : Nat) (A B : List Int), okf n (A.length + B.length) → (A ++ B).Nodup → (mg n A B).2.Perm (A ++ B) ∧ ∀ g ∈ (mg n A B).1, g.1 ∈ A ++ B ∧ g.2 ∈ A ++ B ∧ g.1 ≠ g.2
  | 0, _, _, h, _ => h.elim
  | n + 1, A, B, h, hn => by
    unfold mg
    by_cases h1 : A.length = 0 ∨ B.length = 0
    · rw [if_pos h1]; exact ⟨.refl _, fun g hg => by simp at hg⟩
    · rw [if_neg h1]
      by_cases h2 : A.length = 1 ∧ B.length = 1
      · rw [if_pos h2]
        obtain ⟨x, rfl⟩ := List.length_eq_one_iff.mp h2.1
        obtain ⟨y, rfl⟩ := List.length_eq_one_iff.mp h2.2
        refine ⟨.refl _, fun g hg => ?_⟩
        simp at hg
        subst hg
        simp at hn ⊢
        exact hn
      · rw [if_neg h2]
        obtain ⟨o1, o2⟩ := okf_down h h1 h2
        obtain ⟨p1, m1⟩ := mg_lines n (ev A) (ev B) (by rw [ev_len, ev_len]; exact o1) (nodup_sub hn (ev_sub A) (ev_sub B))
        obtain ⟨p2, m2⟩ := mg_lines n (od A) (od B) (by rw [od_len, od_len]; exact o2) (nodup_sub hn (od_sub A) (od_sub B))
        generalize mg n (ev A) (ev B) = P at p1 m1
        generalize mg n (od A) (od B) = Q at p2 m2
        have l1 := p1.length_eq
        have l2 := p2.length_eq
        rw [List.length_append, ev_len, ev_len] at l1
        rw [List.length_append, od_len, od_len] at l2
        have all : (turn P.2 Q.2).Perm (A ++ B) := by
          refine (turn_perm _ _ (by omega)).trans ((p1.append p2).trans ?_)
          have e1 : (ev A ++ ev B ++ (od A ++ od B)).Perm (ev A ++ od A ++ (ev B ++ od B)) := by
            rw [List.append_assoc, List.append_assoc]
            refine List.Perm.append_left _ ?_
            rw [← List.append_assoc, ← List.append_assoc]
            exact List.Perm.append_right _ List.perm_append_comm
          exact e1.trans ((ev_od_perm A).append (ev_od_perm B))
        refine ⟨all, fun g hg => ?_⟩
        have sub : ∀ {x : Int}, (x ∈ ev A ++ ev B → x ∈ A ++ B) ∧ (x ∈ od A ++ od B → x ∈ A ++ B) := fun {x} => ⟨fun h => ((ev_sub A).append (ev_sub B)).subset h, fun h => ((od_sub A).append (od_sub B)).subset h⟩
        rcases List.mem_append.mp hg with hg | hg
        · rcases List.mem_append.mp hg with hg | hg
          · obtain ⟨a, b, c⟩ := m1 g hg; exact ⟨sub.1 a, sub.1 b, c⟩
          · obtain ⟨a, b, c⟩ := m2 g hg; exact ⟨sub.2 a, sub.2 b, c⟩
        · obtain ⟨a, b⟩ := pr_mem hg
          have nd : (turn P.2 Q.2).Nodup := all.nodup_iff.mpr hn
          have nt : (turn P.2 Q.2).tail.Nodup := nd.sublist (List.tail_sublist _)
          refine ⟨all.mem_iff.mp (List.mem_of_mem_tail a), all.mem_iff.mp (List.mem_of_mem_tail b), ?_⟩
          have : ∀ {l : List Int} {g : Int × Int}, l.Nodup → g ∈ pr l → g.1 ≠ g.2 := by
            intro l
            induction l using pr.induct with
            | case1 x y r ih =>
              intro g hl hg
              rcases List.mem_cons.mp (show g ∈ (x, y) :: pr r from hg) with rfl | hg
              · intro z
                simp at z
                subst z
                simp at hl
              · rw [List.nodup_cons, List.nodup_cons] at hl
                exact ih hl.2.2 hg
            | case2 l hh => intro g hl hg; exact absurd hg (by
                cases l with
                | nil => simp [pr]
                | cons a l => cases l with
                  | nil => simp [pr]
                  | cons b l => exact absurd rfl (hh a b l))
          exact this nt hg
theorem disj_ev_od {A B : List Int} (h : (A ++ B).Nodup) {x : Int} (h1 : x ∈ ev A ++ ev B) (h2 : x ∈ od A ++ od B) : False := by
  have p : (ev A ++ ev B ++ (od A ++ od B)).Perm (A ++ B) := by
    have e1 : (ev A ++ ev B ++ (od A ++ od B)).Perm (ev A ++ od A ++ (ev B ++ od B)) := by
      rw [List.append_assoc, List.append_assoc]
      refine List.Perm.append_left _ ?_
      rw [← List.append_assoc, ← List.append_assoc]
      exact List.Perm.append_right _ List.perm_append_comm
    exact e1.trans ((ev_od_perm A).append (ev_od_perm B))
  have nd := p.nodup_iff.mpr h
  exact (List.nodup_append.mp nd).2.2 x h1 x h2 rfl
theorem mg_bits : ∀ (n : Nat) (A B : List Int) (b : Bits) (a c : Nat), okf n (A.length + B.length) → (A ++ B).Nodup → A.map b = srt a A.length → B.map b = srt c B.length → a ≤ A.length → c ≤ B.length →
    (mg n A B).2.map (runB b (mg n A B).1) = srt (a + c) (A.length + B.length)
  | 0, _, _, _, _, _, h, _, _, _, _, _ => h.elim
  | n + 1, A, B, b, a, c, h, hn, hA, hB, ha, hc => by
    by_cases h1 : A.length = 0 ∨ B.length = 0
    · unfold mg
      rw [if_pos h1]
      show (A ++ B).map b = _
      rw [List.map_append, hA, hB]
      rcases h1 with h1 | h1
      · have : a = 0 := by omega
        rw [h1, this, Nat.zero_add, Nat.zero_add]; rfl
      · have : c = 0 := by omega
        rw [h1, this, Nat.add_zero, Nat.add_zero, srt_nil, List.append_nil]
    · by_cases h2 : A.length = 1 ∧ B.length = 1
      · unfold mg
        rw [if_neg h1, if_pos h2]
        obtain ⟨x, rfl⟩ := List.length_eq_one_iff.mp h2.1
        obtain ⟨y, rfl⟩ := List.length_eq_one_iff.mp h2.2
        have hxy : ¬ y = x := fun z => by subst z; simp at hn
        show [runB b [(x, y)] x, runB b [(x, y)] y] = _
        have r1 : runB b [(x, y)] x = (b x || b y) := by simp [runB, apB]
        have r2 : runB b [(x, y)] y = (b x && b y) := by simp [runB, apB, hxy]
        rw [r1, r2]
        have ba : [b x] = srt a 1 := hA
        have bc : [b y] = srt c 1 := hB
        rcases (show a = 0 ∨ a = 1 by simp at ha; omega) with rfl | rfl <;> rcases (show c = 0 ∨ c = 1 by simp at hc; omega) with rfl | rfl <;>
          (simp [srt] at ba bc; rw [ba, bc]; rfl)
      · obtain ⟨o1, o2⟩ := okf_down h h1 h2
        have n1 := nodup_sub hn (ev_sub A) (ev_sub B)
        have n2 := nodup_sub hn (od_sub A) (od_sub B)
        have k1 : okf n ((ev A).length + (ev B).length) := by rw [ev_len, ev_len]; exact o1
        have k2 : okf n ((od A).length + (od B).length) := by rw [od_len, od_len]; exact o2
        obtain ⟨p1, m1⟩ := mg_lines n (ev A) (ev B) k1 n1
        obtain ⟨p2, m2⟩ := mg_lines n (od A) (od B) k2 n2
        have E1 := mg_bits n (ev A) (ev B) b ((a + 1) / 2) ((c + 1) / 2) k1 n1 (by rw [← ev_map, hA, ev_srt _ _ ha, ev_len]) (by rw [← ev_map, hB, ev_srt _ _ hc, ev_len]) (by rw [ev_len]; omega) (by rw [ev_len]; omega)
        have out1 : ∀ x ∈ od A ++ od B, runB b (mg n (ev A) (ev B)).1 x = b x := fun x hx => runB_out fun g hg => by
          obtain ⟨q1, q2, _⟩ := m1 g hg
          exact ⟨fun z => disj_ev_od hn (z ▸ q1) hx, fun z => disj_ev_od hn (z ▸ q2) hx⟩
        have oA : (od A).map (runB b (mg n (ev A) (ev B)).1) = srt (a / 2) (od A).length := by
          rw [List.map_congr_left fun x hx => out1 x (List.mem_append_left _ hx), ← od_map, hA, od_srt _ _ ha, od_len]
        have oB : (od B).map (runB b (mg n (ev A) (ev B)).1) = srt (c / 2) (od B).length := by
          rw [List.map_congr_left fun x hx => out1 x (List.mem_append_right _ hx), ← od_map, hB, od_srt _ _ hc, od_len]
        have O1 := mg_bits n (od A) (od B) (runB b (mg n (ev A) (ev B)).1) (a / 2) (c / 2) k2 n2 oA oB (by rw [od_len]; omega) (by rw [od_len]; omega)
        have hm : (mg (n + 1) A B) = ((mg n (ev A) (ev B)).1 ++ (mg n (od A) (od B)).1 ++ pr (turn (mg n (ev A) (ev B)).2 (mg n (od A) (od B)).2).tail, turn (mg n (ev A) (ev B)).2 (mg n (od A) (od B)).2) := by
          rw [mg, if_neg h1, if_neg h2]
        rw [hm]
        generalize mg n (ev A) (ev B) = P at *
        generalize mg n (od A) (od B) = Q at *
        show (turn P.2 Q.2).map (runB b (P.1 ++ Q.1 ++ pr (turn P.2 Q.2).tail)) = _
        rw [runB_app, runB_app]
        generalize hb2 : runB (runB b P.1) Q.1 = b2 at *
        have l1 := p1.length_eq
        have l2 := p2.length_eq
        rw [List.length_append, ev_len, ev_len] at l1
        rw [List.length_append, od_len, od_len] at l2
        have E2 : P.2.map b2 = srt ((a + 1) / 2 + (c + 1) / 2) P.2.length := by
          rw [l1, ← ev_len, ← ev_len B, ← E1, ← hb2]
          refine List.map_congr_left fun x hx => runB_out fun g hg => ?_
          obtain ⟨q1, q2, _⟩ := m2 g hg
          have hx' := p1.mem_iff.mp hx
          exact ⟨fun z => disj_ev_od hn hx' (z ▸ q1), fun z => disj_ev_od hn hx' (z ▸ q2)⟩
        have O2 : Q.2.map b2 = srt (a / 2 + c / 2) Q.2.length := by rw [O1, l2, od_len, od_len]
        have nd : (P.2 ++ Q.2).Nodup := by
          have p : (P.2 ++ Q.2).Perm (A ++ B) := by
            refine (p1.append p2).trans ?_
            have e1 : (ev A ++ ev B ++ (od A ++ od B)).Perm (ev A ++ od A ++ (ev B ++ od B)) := by
              rw [List.append_assoc, List.append_assoc]
              refine List.Perm.append_left _ ?_
              rw [← List.append_assoc, ← List.append_assoc]
              exact List.Perm.append_right _ List.perm_append_comm
            exact e1.trans ((ev_od_perm A).append (ev_od_perm B))
          exact p.nodup_iff.mpr hn
        cases hP : P.2 with
        | nil => rw [hP] at l1; simp at l1; omega
        | cons e xs =>
          rw [hP] at nd E2 l1
          have hl1 : xs.length + 1 = (A.length + 1) / 2 + (B.length + 1) / 2 := by simpa using l1
          rw [last_bits Q.2 xs e b2 nd (by omega) (by omega), O2]
          have E2 : b2 e :: xs.map b2 = srt ((a + 1) / 2 + (c + 1) / 2) (xs.length + 1) := E2
          cases hp : (a + 1) / 2 + (c + 1) / 2 with
          | zero =>
            rw [hp, srt_cons_f] at E2
            obtain ⟨e1, e2⟩ := List.cons.inj E2
            rw [e1, e2, show a / 2 + c / 2 = 0 by omega, fin_srt Q.2.length xs.length 0 0 (by omega) (by omega) (by omega) (by omega) (by omega), show a + c = 0 by omega, show A.length + B.length = xs.length + Q.2.length + 1 by omega, srt_cons_f]
          | succ p =>
            rw [hp, srt_cons_t] at E2
            obtain ⟨e1, e2⟩ := List.cons.inj E2
            rw [e1, e2, fin_srt Q.2.length xs.length p (a / 2 + c / 2) (by omega) (by omega) (by omega) (by omega) (by omega), show a + c = p + (a / 2 + c / 2) + 1 by omega, show A.length + B.length = xs.length + Q.2.length + 1 by omega, srt_cons_t]
/-! ## values -/
def ap (f : Int → Int) (g : Int × Int) : Int → Int := fun x => if x = g.1 then min (f g.1) (f g.2) else if x = g.2 then max (f g.1) (f g.2) else f x
def run (f : Int → Int) (gs : G) : Int → Int := gs.foldl ap f
def low (f : Int → Int) (t : Int) : Bits := fun x => decide (f x ≤ t)
theorem low_ap (f : Int → Int) (g : Int × Int) (t : Int) : low (ap f g) t = apB (low f t) g := by
  funext x
  unfold low ap apB
  by_cases h1 : x = g.1
  · rw [if_pos h1, if_pos h1, ← Bool.decide_or]
    exact decide_eq_decide.mpr (by omega)
  · by_cases h2 : x = g.2
    · rw [if_neg h1, if_pos h2, if_neg h1, if_pos h2, ← Bool.decide_and]
      exact decide_eq_decide.mpr (by omega)
    · rw [if_neg h1, if_neg h2, if_neg h1, if_neg h2]
theorem low_run (t : Int) : ∀ (gs : G) (f : Int → Int), low (run f gs) t = runB (low f t) gs
  | [], _ => rfl
  | g :: gs, f => by
    show low (run (ap f g) gs) t = runB (apB (low f t) g) gs
    rw [low_run t gs, low_ap]
theorem low_sorted (f : Int → Int) (t : Int) : ∀ l : List Int, l.Pairwise (fun x y => f x ≤ f y) → ∃ k, k ≤ l.length ∧ l.map (low f t) = srt k l.length
  | [], _ => ⟨0, Nat.le_refl _, rfl⟩
  | x :: r, h => by
    obtain ⟨h1, h2⟩ := List.pairwise_cons.mp h
    by_cases hx : f x ≤ t
    · obtain ⟨k, h3, h4⟩ := low_sorted f t r h2
      refine ⟨k + 1, by simp; omega, ?_⟩
      rw [List.map_cons, h4, List.length_cons, srt_cons_t]
      show decide (f x ≤ t) :: _ = _
      rw [decide_eq_true hx]
    · refine ⟨0, Nat.zero_le _, ?_⟩
      have : ∀ m, srt 0 m = List.replicate m false := fun m => by simp [srt]
      rw [this, List.eq_replicate_iff]
      refine ⟨by simp, fun b hb => ?_⟩
      obtain ⟨y, hy, rfl⟩ := List.mem_map.mp hb
      unfold low
      refine decide_eq_false ?_
      rcases List.mem_cons.mp hy with rfl | hy
      · exact hx
      · have := h1 y hy; omega
/-- a list of bits that are true first, at every bound: it is sorted -/
theorem sorted_low (f : Int → Int) (l : List Int) (h : ∀ t, ∃ k, l.map (low f t) = srt k l.length) : l.Pairwise (fun x y => f x ≤ f y) := by
  rw [List.pairwise_iff_getElem]
  intro i j hi hj hij
  obtain ⟨k, hk⟩ := h (f l[j])
  have b : ∀ (m : Nat) (hm : m < l.length), low f (f l[j]) l[m] = decide (m < k) := fun m hm => by
    have e : (l.map (low f (f l[j])))[m]? = some (low f (f l[j]) l[m]) := by
      rw [List.getElem?_map, List.getElem?_eq_getElem hm]; rfl
    rw [hk] at e
    unfold srt at e
    by_cases hmk : m < k
    · rw [List.getElem?_append_left (by simpa using hmk), List.getElem?_replicate, if_pos hmk] at e
      rw [← Option.some.inj e, decide_eq_true hmk]
    · rw [List.getElem?_append_right (by simp; omega), List.getElem?_replicate] at e
      split at e
      · rw [← Option.some.inj e, decide_eq_false hmk]
      · cases e
  have bj := b j hj
  have bi := b i hi
  unfold low at bj bi
  rw [decide_eq_true (Int.le_refl _)] at bj
  have hjk : j < k := of_decide_eq_true bj.symm
  rw [decide_eq_true (by omega : i < k)] at bi
  exact of_decide_eq_true bi
/-- behind the merging net the row is sorted -/
theorem mg_sorted (n : Nat) (A B : List Int) (f : Int → Int) (h : okf n (A.length + B.length)) (hn : (A ++ B).Nodup) (hA : A.Pairwise fun x y => f x ≤ f y) (hB : B.Pairwise fun x y => f x ≤ f y) :
    (mg n A B).2.Pairwise fun x y => run f (mg n A B).1 x ≤ run f (mg n A B).1 y := by
  refine sorted_low _ _ fun t => ?_
  obtain ⟨a, a1, a2⟩ := low_sorted f t A hA
  obtain ⟨c, c1, c2⟩ := low_sorted f t B hB
  refine ⟨a + c, ?_⟩
  rw [low_run, mg_bits n A B (low f t) a c h hn a2 c2 a1 c1, ((mg_lines n A B h hn).1).length_eq, List.length_append]
/-! ## upright -/
def swp (pl : Int → Int) (i j : Int) : Int → Int := fun x => if x = i then pl j else if x = j then pl i else pl x
def nxt (pl : Int → Int) (i j : Int) : Int → Int := if pl i > pl j then swp pl i j else pl
def up (pl : Int → Int) : G → G
  | [] => []
  | (i, j) :: gs => (min (pl i) (pl j), max (pl i) (pl j)) :: up (nxt pl i j) gs
def upl (pl : Int → Int) : G → (Int → Int)
  | [] => pl
  | (i, j) :: gs => upl (nxt pl i j) gs
def inj (pl : Int → Int) : Prop := ∀ x y, pl x = pl y → x = y
theorem swp_inj {pl : Int → Int} (h : inj pl) (i j : Int) : inj (swp pl i j) := by
  intro x y e
  unfold swp at e
  by_cases x1 : x = i
  · rw [if_pos x1] at e
    by_cases y1 : y = i
    · omega
    · rw [if_neg y1] at e
      by_cases y2 : y = j
      · rw [if_pos y2] at e
        have := h _ _ e; omega
      · rw [if_neg y2] at e
        have := h _ _ e; omega
  · rw [if_neg x1] at e
    by_cases x2 : x = j
    · rw [if_pos x2] at e
      by_cases y1 : y = i
      · rw [if_pos y1] at e
        have := h _ _ e; omega
      · rw [if_neg y1] at e
        by_cases y2 : y = j
        · omega
        · rw [if_neg y2] at e
          have := h _ _ e; omega
    · rw [if_neg x2] at e
      by_cases y1 : y = i
      · rw [if_pos y1] at e
        have := h _ _ e; omega
      · rw [if_neg y1] at e
        by_cases y2 : y = j
        · rw [if_pos y2] at e
          have := h _ _ e; omega
        · rw [if_neg y2] at e
          exact h _ _ e
theorem nxt_inj {pl : Int → Int} (h : inj pl) (i j : Int) : inj (nxt pl i j) := by
  unfold nxt; split
  · exact swp_inj h i j
  · exact h
/-- the upright net does the same, at the places -/
theorem up_run : ∀ (gs : G) (pl f h : Int → Int), inj pl → (∀ g ∈ gs, g.1 ≠ g.2) → (∀ x, h (pl x) = f x) → ∀ x, run h (up pl gs) (upl pl gs x) = run f gs x
  | [], _, _, _, _, _, e, x => e x
  | (i, j) :: gs, pl, f, h, hi, hg, e, x => by
    show run (ap h (min (pl i) (pl j), max (pl i) (pl j))) (up (nxt pl i j) gs) (upl (nxt pl i j) gs x) = run (ap f (i, j)) gs x
    refine up_run gs (nxt pl i j) _ _ (nxt_inj hi i j) (fun g hg' => hg g (List.mem_cons_of_mem _ hg')) (fun y => ?_) x
    have hij : i ≠ j := hg (i, j) List.mem_cons_self
    have hp : pl i ≠ pl j := fun z => hij (hi _ _ z)
    have ei := e i
    have ej := e j
    have ey := e y
    unfold ap
    dsimp only
    by_cases hlt : pl i > pl j
    · have m1 : min (pl i) (pl j) = pl j := by omega
      have m2 : max (pl i) (pl j) = pl i := by omega
      rw [m1, m2, ei, ej]
      unfold nxt
      rw [if_pos hlt]
      unfold swp
      by_cases h1 : y = i
      · subst h1; simp only [if_true]; omega
      · by_cases h2 : y = j
        · subst h2
          simp only [h1, if_true, if_false, hp]
          omega
        · have y1 : ¬ pl y = pl j := fun z => h2 (hi _ _ z)
          have y2 : ¬ pl y = pl i := fun z => h1 (hi _ _ z)
          simp only [h1, h2, y1, y2, if_false]; exact ey
    · have m1 : min (pl i) (pl j) = pl i := by omega
      have m2 : max (pl i) (pl j) = pl j := by omega
      rw [m1, m2, ei, ej]
      unfold nxt
      rw [if_neg hlt]
      by_cases h1 : y = i
      · subst h1; simp only [if_true]
      · by_cases h2 : y = j
        · subst h2
          simp only [h1, if_true, if_false, hp.symm]
        · have y1 : ¬ pl y = pl j := fun z => h2 (hi _ _ z)
          have y2 : ¬ pl y = pl i := fun z => h1 (hi _ _ z)
          simp only [h1, h2, y1, y2, if_false]; exact ey
/-! ## the other road to the upright net: all gates behind are renamed -/
def nm (i j : Int) : Int → Int := fun x => if x = i then j else if x = j then i else x
def rt : Nat → G → G
  | n + 1, (i, j) :: gs => (min i j, max i j) :: rt n (if i > j then gs.map (fun g => (nm i j g.1, nm i j g.2)) else gs)
  | _, _ => []
theorem nm_nxt {pl : Int → Int} (h : inj pl) (i j x : Int) : nm (pl i) (pl j) (pl x) = swp pl i j x := by
  unfold nm swp
  by_cases h1 : x = i
  · rw [h1, if_pos rfl, if_pos rfl]
  · rw [if_neg fun z => h1 (h _ _ z), if_neg h1]
    by_cases h2 : x = j
    · rw [h2, if_pos rfl, if_pos rfl]
    · rw [if_neg fun z => h2 (h _ _ z), if_neg h2]
theorem rt_up : ∀ (n : Nat) (gs : G) (pl : Int → Int), inj pl → gs.length ≤ n → rt n (gs.map fun g => (pl g.1, pl g.2)) = up pl gs
  | 0, [], _, _, _ => rfl
  | 0, _ :: _, _, _, h => by simp at h
  | n + 1, [], _, _, _ => rfl
  | n + 1, (i, j) :: gs, pl, hi, h => by
    show (min (pl i) (pl j), max (pl i) (pl j)) :: rt n (if pl i > pl j then (gs.map fun g => (pl g.1, pl g.2)).map (fun g => (nm (pl i) (pl j) g.1, nm (pl i) (pl j) g.2)) else gs.map fun g => (pl g.1, pl g.2)) = _ :: up (nxt pl i j) gs
    rw [← rt_up n gs (nxt pl i j) (nxt_inj hi i j) (by simpa using h)]
    congr 2
    unfold nxt
    by_cases hlt : pl i > pl j
    · rw [if_pos hlt, if_pos hlt, List.map_map]
      refine List.map_congr_left fun g _ => ?_
      show (nm (pl i) (pl j) (pl g.1), nm (pl i) (pl j) (pl g.2)) = _
      rw [nm_nxt hi, nm_nxt hi]
    · rw [if_neg hlt, if_neg hlt]
theorem id_inj : inj fun x => x := fun _ _ h => h
/-! ## the lines of the upright net -/
def rg (n : Nat) : List Int := (List.range n).map fun (i : Nat) => (i : Int)
theorem mem_rg {n : Nat} {x : Int} : x ∈ rg n ↔ 0 ≤ x ∧ x < n := by
  unfold rg
  rw [List.mem_map]
  constructor
  · rintro ⟨i, hi, rfl⟩
    have := List.mem_range.mp hi
    omega
  · intro h
    exact ⟨x.toNat, List.mem_range.mpr (by omega), by omega⟩
theorem nxt_in {n : Nat} {pl : Int → Int} {i j : Int} (h : ∀ x ∈ rg n, pl x ∈ rg n) (hi : i ∈ rg n) (hj : j ∈ rg n) : ∀ x ∈ rg n, nxt pl i j x ∈ rg n := by
  intro x hx
  unfold nxt
  split
  · unfold swp
    split
    · exact h _ hj
    · split
      · exact h _ hi
      · exact h _ hx
  · exact h _ hx
theorem up_gates {n : Nat} : ∀ (gs : G) (pl : Int → Int), inj pl → (∀ x ∈ rg n, pl x ∈ rg n) → (∀ g ∈ gs, g.1 ∈ rg n ∧ g.2 ∈ rg n ∧ g.1 ≠ g.2) → (∀ g ∈ up pl gs, g.1 ∈ rg n ∧ g.2 ∈ rg n ∧ g.1 < g.2) ∧ ∀ x ∈ rg n, upl pl gs x ∈ rg n
  | [], pl, _, h, _ => ⟨fun g hg => by simp [up] at hg, h⟩
  | (i, j) :: gs, pl, hi, h, hg => by
    obtain ⟨g1, g2, g3⟩ := hg (i, j) List.mem_cons_self
    obtain ⟨k1, k2⟩ := up_gates gs (nxt pl i j) (nxt_inj hi i j) (nxt_in h g1 g2) fun g hg' => hg g (List.mem_cons_of_mem _ hg')
    refine ⟨fun g hg' => ?_, k2⟩
    rcases List.mem_cons.mp (show g ∈ (min (pl i) (pl j), max (pl i) (pl j)) :: up (nxt pl i j) gs from hg') with rfl | hg'
    · have a := mem_rg.mp (h i g1)
      have b := mem_rg.mp (h j g2)
      have c : pl i ≠ pl j := fun z => g3 (hi _ _ z)
      exact ⟨mem_rg.mpr (by dsimp only; omega), mem_rg.mpr (by dsimp only; omega), by dsimp only; omega⟩
    · exact k1 g hg'
theorem run_id : ∀ (gs : G), (∀ g ∈ gs, g.1 < g.2) → run (fun x => x) gs = fun x => x
  | [], _ => rfl
  | g :: gs, h => by
    show run (ap (fun x => x) g) gs = _
    have : ap (fun x => x) g = fun x => x := by
      funext x
      have := h g List.mem_cons_self
      unfold ap
      by_cases h1 : x = g.1
      · rw [if_pos h1]
        show min g.1 g.2 = x
        omega
      · by_cases h2 : x = g.2
        · rw [if_neg h1, if_pos h2]
          show max g.1 g.2 = x
          omega
        · rw [if_neg h1, if_neg h2]
    rw [this]
    exact run_id gs fun g' h' => h g' (List.mem_cons_of_mem _ h')
/-- a rising list of n numbers of 0 .. n - 1 -/
theorem rising {n : Nat} (L : List Int) (hl : L.length = n) (hp : L.Pairwise (· < ·)) (hm : ∀ x ∈ L, x ∈ rg n) : L = rg n := by
  have step : ∀ (d i : Nat) (h : i + d < L.length), L[i] + d ≤ L[i + d] := by
    intro d
    induction d with
    | zero => intro i h; simp
    | succ d ih =>
      intro i h
      have a := ih i (by omega)
      have b := List.pairwise_iff_getElem.mp hp (i + d) (i + (d + 1)) (by omega) h (by omega)
      omega
  refine List.ext_getElem (by rw [hl]; simp [rg]) fun i h1 h2 => ?_
  have e : (rg n)[i] = (i : Int) := by simp [rg]
  rw [e]
  have a := step i 0 (by omega)
  have b := step (n - 1 - i) i (by omega)
  have c := mem_rg.mp (hm L[0] (List.getElem_mem _))
  have d := mem_rg.mp (hm L[i + (n - 1 - i)] (List.getElem_mem _))
  have e2 : L[0 + i] = L[i] := by congr 1; omega
  rw [e2] at a
  omega
/-- THE UPRIGHT MERGING NET SORTS -/
theorem up_sorted (k n : Nat) (A B : List Int) (f : Int → Int) (h : okf k (A.length + B.length)) (hAB : A ++ B = rg n) (hn : (rg n).Nodup) (hA : A.Pairwise fun x y => f x ≤ f y) (hB : B.Pairwise fun x y => f x ≤ f y)
    (hA' : A.Pairwise (· ≤ ·)) (hB' : B.Pairwise (· ≤ ·)) : (rg n).Pairwise fun x y => run f (up (fun x => x) (mg k A B).1) x ≤ run f (up (fun x => x) (mg k A B).1) y := by
  have nd : (A ++ B).Nodup := by rw [hAB]; exact hn
  obtain ⟨p, m⟩ := mg_lines k A B h nd
  rw [hAB] at p m
  obtain ⟨u1, u2⟩ := up_gates (mg k A B).1 (fun x => x) id_inj (fun x hx => hx) m
  have ne : ∀ g ∈ (mg k A B).1, g.1 ≠ g.2 := fun g hg => (m g hg).2.2
  have S1 := mg_sorted k A B f h nd hA hB
  have S2 := mg_sorted k A B (fun x => x) h nd hA' hB'
  have pl : ∀ x, upl (fun x => x) (mg k A B).1 x = run (fun x => x) (mg k A B).1 x := fun x => by
    have := up_run (mg k A B).1 (fun x => x) (fun x => x) (fun x => x) id_inj ne (fun _ => rfl) x
    rw [run_id _ fun g hg => (u1 g hg).2.2] at this
    exact this
  have ulinj : ∀ (gs : G) (pl : Int → Int), inj pl → inj (upl pl gs) := by
    intro gs
    induction gs with
    | nil => exact fun pl h => h
    | cons g gs ih => exact fun pl h => ih _ (nxt_inj h _ _)
  have ri := ulinj (mg k A B).1 (fun x => x) id_inj
  have row : (mg k A B).2.map (upl (fun x => x) (mg k A B).1) = rg n := by
    refine rising _ (by rw [List.length_map, p.length_eq]; simp [rg]) ?_ fun x hx => ?_
    · rw [List.pairwise_map]
      have nd2 : (mg k A B).2.Nodup := p.nodup_iff.mpr hn
      refine (S2.and (List.nodup_iff_pairwise_ne.mp nd2)).imp fun {x y} ⟨h1, h2⟩ => ?_
      have h3 : upl (fun x => x) (mg k A B).1 x ≤ upl (fun x => x) (mg k A B).1 y := by rw [pl, pl]; exact h1
      have h4 : upl (fun x => x) (mg k A B).1 x ≠ upl (fun x => x) (mg k A B).1 y := fun z => h2 (ri x y z)
      omega
    · obtain ⟨y, hy, rfl⟩ := List.mem_map.mp hx
      exact u2 y (p.mem_iff.mp hy)
  rw [← row, List.pairwise_map]
  refine S1.imp fun {x y} hxy => ?_
  rw [up_run (mg k A B).1 (fun x => x) f f id_inj ne (fun _ => rfl) x, up_run (mg k A B).1 (fun x => x) f f id_inj ne (fun _ => rfl) y]
  exact hxy
end M45
end

section
set_option Elab.async false
set_option linter.all false
set_option maxRecDepth 100000
set_option autoImplicit false
/-! # nets: plain facts, no program in sight -/
namespace Net
open PySem Y Z M45
abbrev iv (l : List Int) : List Val := l.map .int
abbrev gv (gs : G) : List Val := gs.map pairV

theorem nat_of {n : Nat} {x : Int} (h : x ∈ rg n) : ∃ i : Nat, x = i ∧ i < n := by
  have := mem_rg.mp h
  exact ⟨x.toNat, by omega, by omega⟩

theorem rg_set {n : Nat} (f : Int → Int) (i j : Nat) (hi : i < n) (hj : j < n) (hij : i ≠ j) :
    (((rg n).map f).set i (min (f i) (f j))).set j (max (f i) (f j)) = (rg n).map (ap f ((i : Int), (j : Int))) := by
  refine List.ext_getElem (by simp) fun k h1 h2 => ?_
  have hk : k < n := by simpa [rg] using h2
  have e : ((rg n).map (ap f ((i : Int), (j : Int))))[k] = ap f ((i : Int), (j : Int)) (k : Int) := by simp [rg]
  rw [e, List.getElem_set, List.getElem_set]
  unfold ap
  dsimp only
  by_cases k2 : j = k
  · subst k2
    rw [if_pos rfl, if_neg (by omega), if_pos rfl]
  · by_cases k1 : i = k
    · subst k1
      rw [if_neg k2, if_pos rfl, if_pos rfl]
    · rw [if_neg k2, if_neg k1, if_neg (by omega), if_neg (by omega)]
      simp [rg]

theorem rg_len (n : Nat) : (rg n).length = n := by simp [rg]

theorem rg_get (n : Nat) (f : Int → Int) (i : Nat) (h : i < ((rg n).map f).length) : ((rg n).map f)[i] = f i := by simp [rg]

theorem rg_swp {n : Nat} (f : Int → Int) (i j : Nat) (hi : i < n) (hj : j < n) :
    (((rg n).map f).set i (f j)).set j (f i) = (rg n).map (swp f i j) := by
  refine List.ext_getElem (by simp) fun k h1 h2 => ?_
  have hk : k < n := by simpa [rg] using h2
  have e : ((rg n).map (swp f i j))[k] = swp f i j (k : Int) := by simp [rg]
  rw [e, List.getElem_set, List.getElem_set]
  unfold swp
  by_cases k2 : j = k
  · subst k2
    rw [if_pos rfl]
    by_cases k1 : i = j
    · subst k1; rw [if_pos rfl]
    · rw [if_neg (by omega), if_pos rfl]
  · by_cases k1 : i = k
    · subst k1
      rw [if_neg k2, if_pos rfl, if_pos rfl]
    · rw [if_neg k2, if_neg k1, if_neg (by omega), if_neg (by omega)]
      simp [rg]

def surj (n : Nat) (pl : Int → Int) : Prop := ∀ y ∈ rg n, ∃ x ∈ rg n, pl x = y

theorem nxt_surj {n : Nat} {pl : Int → Int} {i j : Int} (h : surj n pl) (hi : i ∈ rg n) (hj : j ∈ rg n) : surj n (nxt pl i j) := by
  unfold nxt
  split
  · intro y hy
    obtain ⟨x, hx, rfl⟩ := h y hy
    by_cases x1 : x = i
    · subst x1
      refine ⟨j, hj, ?_⟩
      unfold swp
      by_cases z : j = x
      · rw [if_pos z, z]
      · rw [if_neg z, if_pos rfl]
    · by_cases x2 : x = j
      · subst x2
        exact ⟨i, hi, by unfold swp; rw [if_pos rfl]⟩
      · exact ⟨x, hx, by unfold swp; rw [if_neg x1, if_neg x2]⟩
  · exact h

theorem up_surj {n : Nat} : ∀ (gs : G) (pl : Int → Int), surj n pl → (∀ g ∈ gs, g.1 ∈ rg n ∧ g.2 ∈ rg n) → surj n (upl pl gs)
  | [], _, h, _ => h
  | (i, j) :: gs, pl, h, hg => up_surj gs (nxt pl i j) (nxt_surj h (hg _ List.mem_cons_self).1 (hg _ List.mem_cons_self).2) fun g h => hg g (List.mem_cons_of_mem _ h)

theorem flat_iv (l : List Int) : (iv l).all flatB = true := by
  rw [List.all_map, List.all_eq_true]
  intro x _; rfl

theorem idx_iv {l : List Int} {x : Int} (h : x ∈ l) : ∃ j : Int, idxF (.lst (iv l)) [.int x] = some (.p (.int j)) := by
  have h1 : idxF (.lst (iv l)) [.int x] = ((iv l).findIdx? fun z => eqF z (.int x)).map fun j => EV.p (.int (j : Nat)) := by
    show (if flatB (.int x) && (iv l).all flatB then _ else none) = _
    rw [flat_iv]; rfl
  rw [h1]
  cases hf : (iv l).findIdx? fun z => eqF z (.int x) with
  | some j => exact ⟨j, rfl⟩
  | none =>
    rw [List.findIdx?_eq_none_iff] at hf
    have := hf (.int x) (List.mem_map.mpr ⟨x, h, rfl⟩)
    have e : eqF (.int x) (.int x) = true := by show (x == x) = true; simp
    rw [e] at this
    cases this

theorem rg_nodup (n : Nat) : (rg n).Nodup := by
  unfold rg List.Nodup
  rw [List.pairwise_map]
  exact List.nodup_range.imp fun h z => h (by omega)

theorem ap_perm {n : Nat} (f : Int → Int) (i j : Nat) (hi : i < n) (hj : j < n) (hij : i ≠ j) : ((rg n).map (ap f ((i : Int), (j : Int)))).Perm ((rg n).map f) := by
  by_cases h : f i ≤ f j
  · have : ap f ((i : Int), (j : Int)) = f := by
      funext x
      unfold ap
      dsimp only
      split
      · subst x; omega
      · split
        · subst x; omega
        · rfl
    rw [this]
  · have : ap f ((i : Int), (j : Int)) = swp f i j := by
      funext x
      unfold ap swp
      dsimp only
      split
      · omega
      · split
        · omega
        · rfl
    have hl : ((rg n).map f).length = n := by rw [List.length_map, rg_len]
    rw [this, ← rg_swp f i j hi hj]
    have := List.set_set_perm (as := (rg n).map f) (i := i) (j := j) (by omega) (by omega)
    rw [rg_get, rg_get] at this
    exact this

theorem run_perm {n : Nat} : ∀ (U : G) (f : Int → Int), (∀ g ∈ U, g.1 ∈ rg n ∧ g.2 ∈ rg n ∧ g.1 ≠ g.2) → ((rg n).map (run f U)).Perm ((rg n).map f)
  | [], f, _ => .refl _
  | (x, y) :: U, f, h => by
    obtain ⟨h1, h2, h3⟩ := h (x, y) List.mem_cons_self
    obtain ⟨i, rfl, hi⟩ := nat_of h1
    obtain ⟨j, rfl, hj⟩ := nat_of h2
    exact (run_perm U (ap f ((i : Int), (j : Int))) fun g hg => h g (List.mem_cons_of_mem _ hg)).trans (ap_perm f i j hi hj fun z => h3 (by rw [z]))

def fnL (L : List Int) : Int → Int := fun x => L.getD x.toNat 0

theorem fnL_map (L : List Int) : (rg L.length).map (fnL L) = L := by
  refine List.ext_getElem (by simp [rg]) fun k h1 h2 => ?_
  simp [rg, fnL, h2]

theorem rg_sorted (n : Nat) : (rg n).Pairwise (· ≤ ·) := by
  unfold rg
  rw [List.pairwise_map]
  refine List.pairwise_le_range.imp fun h => by omega

theorem up_len (pl : Int → Int) : ∀ gs : G, (up pl gs).length = gs.length := by
  intro gs
  induction gs generalizing pl with
  | nil => rfl
  | cons g gs ih => obtain ⟨i, j⟩ := g; exact congrArg (· + 1) (ih _)

/-- the gates lie on n lines -/
def onL (n : Nat) (gs : G) : Prop := ∀ g ∈ gs, g.1 ∈ rg n ∧ g.2 ∈ rg n ∧ g.1 ≠ g.2
theorem run_app (f : Int → Int) (g h : G) : run f (g ++ h) = run (run f g) h := List.foldl_append ..
theorem run_cons (f : Int → Int) (g : Int × Int) (h : G) : run f (g :: h) = run (ap f g) h := rfl
/-- only what stands on the lines counts -/
theorem ap_on {n : Nat} {f f' : Int → Int} {g : Int × Int} (h : ∀ x ∈ rg n, f x = f' x) (h1 : g.1 ∈ rg n) (h2 : g.2 ∈ rg n) : ∀ x ∈ rg n, ap f g x = ap f' g x := by
  intro x hx
  unfold ap
  rw [h _ h1, h _ h2, h x hx]
theorem run_on {n : Nat} : ∀ {gs : G} {f f' : Int → Int}, (∀ x ∈ rg n, f x = f' x) → onL n gs → ∀ x ∈ rg n, run f gs x = run f' gs x
  | [], _, _, h, _, x, hx => h x hx
  | g :: gs, f, f', h, hg, x, hx => by
    rw [run_cons, run_cons]
    exact run_on (ap_on h (hg g List.mem_cons_self).1 (hg g List.mem_cons_self).2.1) (fun g h => hg g (List.mem_cons_of_mem _ h)) x hx
/-- upright gates leave sorted values -/
theorem run_sorted {n : Nat} {f : Int → Int} (hs : ∀ x ∈ rg n, ∀ y ∈ rg n, x ≤ y → f x ≤ f y) : ∀ {gs : G}, (∀ g ∈ gs, g.1 ∈ rg n ∧ g.2 ∈ rg n ∧ g.1 < g.2) → run f gs = f
  | [], _ => rfl
  | g :: gs, h => by
    obtain ⟨h1, h2, h3⟩ := h g List.mem_cons_self
    have e : ap f g = f := by
      have := hs g.1 h1 g.2 h2 (by omega)
      funext x
      unfold ap
      split
      · subst x; omega
      · split
        · subst x; omega
        · rfl
    rw [run_cons, e]
    exact run_sorted hs fun g hg => h g (List.mem_cons_of_mem _ hg)
/-- the mirror -/
def mir (last : Int) (gs : G) : G := gs.map fun g => (last - g.2, last - g.1)
theorem mir_ap (last : Int) (f : Int → Int) (g : Int × Int) (hn : g.1 ≠ g.2) : ap (fun x => -f (last - x)) (last - g.2, last - g.1) = fun x => -(ap f g (last - x)) := by
  funext x
  unfold ap
  dsimp only
  have e1 : last - (last - g.2) = g.2 := by omega
  have e2 : last - (last - g.1) = g.1 := by omega
  rw [e1, e2]
  by_cases h1 : x = last - g.2
  · subst h1
    have : ¬ last - (last - g.2) = g.1 := by omega
    rw [if_pos rfl, if_neg this, if_pos e1]; omega
  · by_cases h2 : x = last - g.1
    · subst h2
      rw [if_neg h1, if_pos rfl, if_pos e2]; omega
    · have k1 : ¬ last - x = g.1 := by omega
      have k2 : ¬ last - x = g.2 := by omega
      rw [if_neg h1, if_neg h2, if_neg k1, if_neg k2]
theorem mir_run (last : Int) : ∀ (gs : G) (f : Int → Int), (∀ g ∈ gs, g.1 ≠ g.2) → run (fun x => -f (last - x)) (mir last gs) = fun x => -(run f gs (last - x))
  | [], f, _ => rfl
  | g :: gs, f, h => by
    show run (ap (fun x => -f (last - x)) (last - g.2, last - g.1)) (mir last gs) = _
    rw [mir_ap last f g (h g List.mem_cons_self), mir_run last gs (ap f g) fun g hg => h g (List.mem_cons_of_mem _ hg)]
    rfl
theorem mir_mir (last : Int) (gs : G) : mir last (mir last gs) = gs := by
  unfold mir
  rw [List.map_map]
  refine (List.map_congr_left fun g _ => ?_).trans (List.map_id _)
  refine Prod.ext ?_ ?_
  · show last - (last - g.1) = g.1; omega
  · show last - (last - g.2) = g.2; omega
/-- further down -/
def shf (k : Int) (gs : G) : G := gs.map fun g => (g.1 + k, g.2 + k)
theorem shf_ap (k : Int) (f : Int → Int) (g : Int × Int) (x : Int) : ap f (g.1 + k, g.2 + k) (x + k) = ap (fun y => f (y + k)) g x := by
  unfold ap
  dsimp only
  by_cases h1 : x = g.1
  · subst h1; rw [if_pos rfl, if_pos rfl]
  · by_cases h2 : x = g.2
    · subst h2; rw [if_neg (by omega), if_pos rfl, if_neg h1, if_pos rfl]
    · rw [if_neg (by omega), if_neg (by omega), if_neg h1, if_neg h2]
theorem shf_run (k : Int) : ∀ (gs : G) (f : Int → Int) (x : Int), run f (shf k gs) (x + k) = run (fun y => f (y + k)) gs x
  | [], f, x => rfl
  | g :: gs, f, x => by
    show run (ap f (g.1 + k, g.2 + k)) (shf k gs) (x + k) = run (ap (fun y => f (y + k)) g) gs x
    rw [shf_run k gs]
    congr 1
    funext y
    exact shf_ap k f g y
theorem shf_out {n : Nat} (k : Int) : ∀ (gs : G) (f : Int → Int) (x : Int), (∀ g ∈ gs, g.1 ∈ rg n ∧ g.2 ∈ rg n) → x < k ∨ k + n ≤ x → run f (shf k gs) x = f x
  | [], f, x, _, _ => rfl
  | g :: gs, f, x, h, hx => by
    obtain ⟨h1, h2⟩ := h g List.mem_cons_self
    have a := mem_rg.mp h1
    have b := mem_rg.mp h2
    show run (ap f (g.1 + k, g.2 + k)) (shf k gs) x = f x
    rw [shf_out k gs _ x (fun g hg => h g (List.mem_cons_of_mem _ hg)) hx]
    unfold ap
    dsimp only
    rw [if_neg (by omega), if_neg (by omega)]
/-- what comes out -/
def outL (gs : G) (L : List Int) : List Int := (rg L.length).map (run (fnL L) gs)
theorem outL_len (gs : G) (L : List Int) : (outL gs L).length = L.length := by unfold outL; rw [List.length_map, rg_len]
theorem fnL_at {L : List Int} {i : Nat} (h : i < L.length) : fnL L i = L[i] := by simp [fnL, h]
theorem outL_at {gs : G} {L : List Int} {i : Nat} (h : i < (outL gs L).length) : (outL gs L)[i] = run (fnL L) gs i := rg_get _ _ _ h
theorem outL_app {g h : G} {L : List Int} (hh : onL L.length h) : outL (g ++ h) L = outL h (outL g L) := by
  unfold outL
  rw [show ((rg L.length).map (run (fnL L) g)).length = L.length by rw [List.length_map, rg_len]]
  refine List.map_congr_left fun x hx => ?_
  rw [run_app]
  refine run_on (fun y hy => ?_) hh x hx
  obtain ⟨i, rfl, hi⟩ := nat_of hy
  have hl : i < ((rg L.length).map (run (fnL L) g)).length := by rw [List.length_map, rg_len]; exact hi
  rw [fnL_at hl, rg_get]
/-! ## values that may be compared part by part -/
inductive DataV : Nat → Val → Prop
  | int (n : Nat) (i : Int) : DataV (n + 1) (.int i)
  | bl (n : Nat) (b : Bool) : DataV (n + 1) (.bl b)
  | non (n : Nat) : DataV (n + 1) .non
  | str (n : Nat) {x : Str} : PyData.canLay0 (.str x) = true → DataV (n + 1) (.str x)
  | tup {n : Nat} {vs : List Val} : vs.length ≤ 1000000 → (∀ v ∈ vs, DataV n v) → DataV (n + 1) (.tup vs)
  | lst {n : Nat} {vs : List Val} : vs.length ≤ 1000000 → (∀ v ∈ vs, DataV n v) → DataV (n + 1) (.lst vs)
theorem DataV.up : ∀ {n : Nat} {v : Val}, DataV n v → DataV (n + 1) v
  | _, _, .int n i => .int _ i
  | _, _, .bl n i => .bl _ i
  | _, _, .non n => .non _
  | _, _, .str n h => .str _ h
  | _, _, .tup h1 h2 => .tup h1 fun v hv => (h2 v hv).up
  | _, _, .lst h1 h2 => .lst h1 fun v hv => (h2 v hv).up
theorem DataV.le {n m : Nat} {v : Val} (h : DataV n v) (hm : n ≤ m) : DataV m v := by
  induction hm with
  | refl => exact h
  | step _ ih => exact ih.up
theorem data_map {α : Type} {n : Nat} {f : α → Val} {l : List α} (h : ∀ a ∈ l, DataV n (f a)) : ∀ v ∈ l.map f, DataV n v := fun v hv => by
  obtain ⟨a, ha, rfl⟩ := List.mem_map.mp hv
  exact h a ha
theorem data_nil {n : Nat} : ∀ v ∈ ([] : List Val), DataV n v := fun v hv => by cases hv
theorem data_cons {n : Nat} {x : Val} {l : List Val} (h : DataV n x) (h2 : ∀ v ∈ l, DataV n v) : ∀ v ∈ x :: l, DataV n v := fun v hv => by
  rcases List.mem_cons.mp hv with rfl | hv
  · exact h
  · exact h2 v hv
theorem data_iv {n : Nat} {L : List Int} : ∀ v ∈ iv L, DataV (n + 1) v := data_map fun a _ => .int _ a
theorem data_pair (n : Nat) (p : Int × Int) : DataV (n + 2) (pairV p) := .tup (by simp) (data_cons (.int _ _) (data_cons (.int _ _) data_nil))
theorem data_gv {n : Nat} {gs : G} : ∀ v ∈ gv gs, DataV (n + 2) v := data_map fun a _ => data_pair _ a
/-- a net as a value -/
abbrev netV (n : Int) (gs : G) : Val := .tup [.int n, .tup (gv gs)]
theorem data_net (k : Nat) (n : Int) (gs : G) (h : gs.length ≤ 1000000) : DataV (k + 4) (netV n gs) :=
  .tup (by simp) (data_cons (.int _ _) (data_cons (.tup (by simpa using h) data_gv) data_nil))
structure okNet (n : Nat) (gs : G) : Prop where
  lo : 1 ≤ n
  hi : n ≤ 32
  few : gs.length ≤ 600
  on : onL n gs
/-! ## where a value stands -/
theorem idx_at {l : List Int} {x : Int} (h : x ∈ l) : ∃ (j : Nat) (hj : j < l.length), l[j] = x ∧ idxF (.lst (iv l)) [.int x] = some (.p (.int (j : Int))) := by
  have h1 : idxF (.lst (iv l)) [.int x] = ((iv l).findIdx? fun z => eqF z (.int x)).map fun j => EV.p (.int (j : Nat)) := by
    show (if flatB (.int x) && (iv l).all flatB then _ else none) = _
    rw [flat_iv]; rfl
  have h2 : (iv l).findIdx? (fun z => eqF z (.int x)) = l.findIdx? fun z => z == x := by
    rw [List.findIdx?_map]; rfl
  rw [h1, h2]
  cases hf : l.findIdx? fun z => z == x with
  | some j =>
    obtain ⟨hj, e, _⟩ := List.findIdx?_eq_some_iff_getElem.mp hf
    exact ⟨j, hj, by simpa using e, rfl⟩
  | none =>
    rw [List.findIdx?_eq_none_iff] at hf
    have := hf x h
    simp at this
def idxI (l : List Int) (x : Int) : Int := match idxF (.lst (iv l)) [.int x] with
  | some (.p (.int j)) => j
  | _ => 0
theorem idxI_ok {l : List Int} {x : Int} (h : x ∈ l) : idxF (.lst (iv l)) [.int x] = some (.p (.int (idxI l x))) ∧ ∃ (j : Nat) (hj : j < l.length), idxI l x = j ∧ l[j] = x := by
  obtain ⟨j, hj, e, hh⟩ := idx_at h
  have : idxI l x = j := by unfold idxI; rw [hh]
  rw [this]
  exact ⟨hh, j, hj, rfl, e⟩
theorem nxt_surj' {n : Nat} : surj n (fun x => x) := fun y hy => ⟨y, hy, rfl⟩
/-- the twist undoes the places -/
structure isTw (n : Nat) (pl : Int → Int) (t : Int → Int) : Prop where
  on : ∀ y ∈ rg n, t y ∈ rg n
  eq : ∀ y ∈ rg n, pl (t y) = y
theorem tw_eq {n : Nat} {pl t t' : Int → Int} (hi : inj pl) (h : isTw n pl t) (h' : isTw n pl t') : (rg n).map t = (rg n).map t' :=
  List.map_congr_left fun y hy => hi _ _ ((h.eq y hy).trans (h'.eq y hy).symm)
theorem upl_inj : ∀ (gs : G) (pl : Int → Int), inj pl → inj (upl pl gs)
  | [], _, h => h
  | (i, j) :: gs, pl, h => upl_inj gs _ (nxt_inj h i j)
theorem up_app : ∀ (g h : G) (pl : Int → Int), up pl (g ++ h) = up pl g ++ up (upl pl g) h
  | [], _, _ => rfl
  | (i, j) :: g, h, pl => by
    show _ :: up (nxt pl i j) (g ++ h) = _ :: (up (nxt pl i j) g ++ up (upl (nxt pl i j) g) h)
    rw [up_app g h]
theorem upl_app : ∀ (g h : G) (pl : Int → Int), upl pl (g ++ h) = upl (upl pl g) h
  | [], _, _ => rfl
  | (i, j) :: g, h, pl => upl_app g h _
theorem upl_in {n : Nat} : ∀ (gs : G) (pl : Int → Int), (∀ x ∈ rg n, pl x ∈ rg n) → onL n gs → ∀ x ∈ rg n, upl pl gs x ∈ rg n
  | [], _, h, _ => h
  | (i, j) :: gs, pl, h, hg => upl_in gs (nxt pl i j) (nxt_in h (hg _ List.mem_cons_self).1 (hg _ List.mem_cons_self).2.1) fun g h => hg g (List.mem_cons_of_mem _ h)
theorem idx_tw {n : Nat} {pl : Int → Int} (hs : surj n pl) : isTw n pl (idxI ((rg n).map pl)) := by
  have key : ∀ y ∈ rg n, ∃ j : Nat, j < n ∧ idxI ((rg n).map pl) y = j ∧ pl j = y := by
    intro y hy
    obtain ⟨x, hx, e⟩ := hs y hy
    obtain ⟨_, j, hj, e1, e2⟩ := idxI_ok (l := (rg n).map pl) (x := y) (List.mem_map.mpr ⟨x, hx, e⟩)
    rw [rg_get] at e2
    exact ⟨j, by rwa [List.length_map, rg_len] at hj, e1, e2⟩
  refine ⟨fun y hy => ?_, fun y hy => ?_⟩
  · obtain ⟨j, hj, e, _⟩ := key y hy
    rw [e]; exact mem_rg.mpr (by omega)
  · obtain ⟨j, hj, e, e2⟩ := key y hy
    rw [e]; exact e2
/-- parts of a list -/
theorem cut_to {α : Type} {xs : List α} {k : Nat} (h : k ≤ xs.length) : cutL xs none (some (k : Int)) = xs.take k := by
  unfold cutL
  rw [HT.sIx_nat, HT.sIx_none, Nat.min_eq_left h]; simp
theorem cut_from {α : Type} {xs : List α} {k : Nat} (h : k ≤ xs.length) : cutL xs (some (k : Int)) none = xs.drop k := by
  unfold cutL
  rw [HT.sIx_nat, HT.sIx_none, Nat.min_eq_left h]
  exact List.take_of_length_le (by simp)
theorem cut_at {α : Type} {xs : List α} {a b : Nat} (h : b ≤ xs.length) (hab : a ≤ b) : cutL xs (some (a : Int)) (some (b : Int)) = (xs.drop a).take (b - a) := by
  unfold cutL
  rw [HT.sIx_nat, HT.sIx_nat, Nat.min_eq_left h, Nat.min_eq_left (by omega)]
/-- the dict that exchanges two lines -/
theorem get_nm (i j x : Int) (h : i ≠ j) : lookV (.dk [.inl i, .inl j] [.int j, .int i]) (.int x) = some (if x = i then some (.int j) else if x = j then some (.int i) else none) := by
  show some (lookL [Sum.inl i, Sum.inl j] [.int j, .int i] (Sum.inl x)) = _
  congr 1
  unfold lookL
  by_cases h1 : x = i
  · subst h1; simp
  · by_cases h2 : x = j
    · subst h2; simp [Ne.symm h1, h1]
    · simp [h1, h2, Ne.symm h1, Ne.symm h2]
theorem gt_nm {st : S} (i j x : Int) (h : i ≠ j) : gtR (.p (.int x)) st (lookV (.dk [.inl i, .inl j] [.int j, .int i]) (.int x)) = .ok (.p (.int (nm i j x))) st := by
  rw [get_nm i j x h]
  unfold nm
  by_cases h1 : x = i
  · rw [if_pos h1, if_pos h1]; rfl
  · rw [if_neg h1, if_neg h1]
    by_cases h2 : x = j
    · rw [if_pos h2, if_pos h2]; rfl
    · rw [if_neg h2, if_neg h2]; rfl
theorem dict_nm (i j : Int) (h : i ≠ j) : mergeL [] [] [(.int i, .int j), (.int j, .int i)] = some ([Sum.inl i, Sum.inl j], [.int j, .int i]) := by
  simp [mergeL, keyOf, putL, h.symm]
/-- range(m, 0, -1) -/
theorem rg3_down (m : Nat) (h : m < 100000) : rg3 (.int (m : Int)) (.int 0) (.int (-1)) = some ((List.range m).map fun (k : Nat) => Val.int ((m : Int) - (k : Int))) := by
  have hr : Builtin.Range.rangeSize (m : Int) 0 (-1) = m := by
    unfold Builtin.Range.rangeSize
    rw [if_neg (by decide)]
    by_cases h0 : (m : Int) > 0
    · rw [if_pos h0, show (-(-1) : Int) = 1 by decide, Int.ediv_one]; omega
    · rw [if_neg h0]; omega
  have hk : rgCOk (m : Int) 0 (-1) = true := by
    have fits : ∀ x : Int, -1000000 ≤ x → x < 1000000 → Builtin.Range.rangeFitsLong x = true := fun x h1 h2 => by
      unfold Builtin.Range.rangeFitsLong
      rw [Bool.and_eq_true]
      exact ⟨decide_eq_true (by omega), decide_eq_true (by omega)⟩
    have hs : Builtin.Range.small (m : Int) 0 (-1) = true := by
      unfold Builtin.Range.small
      rw [fits (m : Int) (by omega) (by omega), fits 0 (by omega) (by omega), fits (-1) (by omega) (by omega), fits _ (by omega) (by omega), if_neg (by decide), fits _ (by omega) (by omega)]
      simp
    unfold rgCOk
    rw [hs, hr]
    simp
  unfold rg3
  dsimp only
  rw [if_pos hk]
  unfold rgC
  rw [hr]
  simp [Int.sub_eq_add_neg]
theorem gv_append (a b : G) : gv (a ++ b) = gv a ++ gv b := List.map_append ..
theorem gv_take (a : G) (k : Nat) : (gv a).take k = gv (a.take k) := List.map_take.symm
theorem gv_drop (a : G) (k : Nat) : (gv a).drop k = gv (a.drop k) := List.map_drop.symm
theorem iv_take (a : List Int) (k : Nat) : (iv a).take k = iv (a.take k) := List.map_take.symm
theorem iv_drop (a : List Int) (k : Nat) : (iv a).drop k = iv (a.drop k) := List.map_drop.symm
theorem iv_set (a : List Int) (k : Nat) (x : Int) : (iv a).set k (.int x) = iv (a.set k x) := List.map_set.symm
theorem mulT_t1 (v : Val) (k : Nat) (h : k ≤ 1000) : mulTV (.tup [v]) (.int (k : Int)) = some (.p (.tup (List.replicate k v))) := by
  unfold mulTV
  dsimp only
  by_cases h1 : k = 1
  · subst h1; rfl
  · by_cases h0 : k = 0
    · subst h0; rfl
    · have c1 : ((k : Int) == 1) = false := by simp; omega
      have c2 : ¬ (k : Int) ≤ 0 := by omega
      have c3 : (k : Int) ≤ 1000 := by omega
      simp [c1, c2, c3, h0]
theorem mulT_l1 (v : Val) (k : Nat) (h : k ≤ 1000000) : mulTV (.lst [v]) (.int (k : Int)) = some (.f (.lst (List.replicate k v))) := by
  rw [Z.mulT_lst (by omega) (by simp; omega) (by omega)]
  simp
/-! ## what comes out, as lists -/
theorem sortI_len (L : List Int) : (sortI L).length = L.length := (sortI_perm L).length_eq
theorem fnL_mono {L : List Int} (h : L.Pairwise (· ≤ ·)) : ∀ x ∈ rg L.length, ∀ y ∈ rg L.length, x ≤ y → fnL L x ≤ fnL L y := by
  intro x hx y hy hxy
  obtain ⟨i, rfl, hi⟩ := nat_of hx
  obtain ⟨j, rfl, hj⟩ := nat_of hy
  rw [fnL_at hi, fnL_at hj]
  by_cases e : i = j
  · subst e; exact Int.le_refl _
  · exact List.pairwise_iff_getElem.mp h i j hi hj (by omega)
theorem outL_sorted {gs : G} {L : List Int} (h : L.Pairwise (· ≤ ·)) (hg : ∀ g ∈ gs, g.1 ∈ rg L.length ∧ g.2 ∈ rg L.length ∧ g.1 < g.2) : outL gs L = L := by
  unfold outL
  rw [run_sorted (fnL_mono h) hg, fnL_map]
theorem outL_mir {gs : G} {L : List Int} (h : onL L.length gs) : ((outL (mir ((L.length : Int) - 1) gs) (L.reverse.map fun x => -x)).reverse.map fun x => -x) = outL gs L := by
  have hl : (L.reverse.map fun x => -x).length = L.length := by simp
  refine List.ext_getElem (by simp [outL, rg]) fun k h1 h2 => ?_
  have hk : k < L.length := by simpa [outL, rg] using h2
  rw [List.getElem_map, List.getElem_reverse, outL_at, outL_at]
  have hlen : (outL (mir ((L.length : Int) - 1) gs) (L.reverse.map fun x => -x)).length = L.length := by rw [outL_len, hl]
  have e0 : ((((outL (mir ((L.length : Int) - 1) gs) (L.reverse.map fun x => -x)).length - 1 - k : Nat)) : Int) = (L.length : Int) - 1 - k := by omega
  rw [e0]
  have on' : onL L.length (mir ((L.length : Int) - 1) gs) := by
    intro g hg
    obtain ⟨g', hg', rfl⟩ := List.mem_map.mp hg
    obtain ⟨a, b, c⟩ := h g' hg'
    have a := mem_rg.mp a
    have b := mem_rg.mp b
    exact ⟨mem_rg.mpr (by dsimp only; omega), mem_rg.mpr (by dsimp only; omega), by dsimp only; omega⟩
  have key := run_on (n := L.length) (f := fnL (L.reverse.map fun x => -x)) (f' := fun x => -fnL L ((L.length : Int) - 1 - x)) (fun x hx => by
    obtain ⟨i, rfl, hi⟩ := nat_of hx
    have e1 : (L.length : Int) - 1 - (i : Int) = ((L.length - 1 - i : Nat) : Int) := by omega
    rw [fnL_at (by rw [hl]; exact hi), e1, fnL_at (by omega), List.getElem_map, List.getElem_reverse]) on' ((L.length : Int) - 1 - k) (mem_rg.mpr (by omega))
  rw [key, mir_run _ _ _ fun g hg => (h g hg).2.2]
  have e2 : (L.length : Int) - 1 - ((L.length : Int) - 1 - k) = k := by omega
  show - -(run (fnL L) gs ((L.length : Int) - 1 - ((L.length : Int) - 1 - k))) = _
  rw [e2, Int.neg_neg]
theorem outL_shf {n k : Nat} {gs : G} {L : List Int} (h : onL n gs) (hk : k + n ≤ L.length) : outL (shf k gs) L = L.take k ++ outL gs ((L.drop k).take n) ++ L.drop (k + n) := by
  have l1 : ((L.drop k).take n).length = n := by rw [List.length_take, List.length_drop]; omega
  have on' : onL L.length (shf k gs) := by
    intro g hg
    obtain ⟨g', hg', rfl⟩ := List.mem_map.mp hg
    obtain ⟨a, b, c⟩ := h g' hg'
    have a := mem_rg.mp a
    have b := mem_rg.mp b
    exact ⟨mem_rg.mpr (by dsimp only; omega), mem_rg.mpr (by dsimp only; omega), by dsimp only; omega⟩
  have l2 : (outL gs ((L.drop k).take n)).length = n := by rw [outL_len, l1]
  refine List.ext_getElem (by simp [outL_len]; omega) fun i h1 h2 => ?_
  have hi : i < L.length := by rwa [outL_len] at h1
  rw [outL_at]
  by_cases a : i < k
  · rw [List.getElem_append_left (by simp [l2]; omega), List.getElem_append_left (by simp; omega), List.getElem_take]
    rw [shf_out (n := n) k gs (fnL L) i (fun g hg => ⟨(h g hg).1, (h g hg).2.1⟩) (.inl (by omega)), fnL_at hi]
  · by_cases b : i < k + n
    · rw [List.getElem_append_left (by simp [l2]; omega), List.getElem_append_right (by simp; omega)]
      have e : ((L.take k).length : Nat) = k := by rw [List.length_take]; omega
      have ei : (i : Int) = ((i - k : Nat) : Int) + (k : Int) := by omega
      rw [outL_at, ei, shf_run]
      have := run_on (n := n) (gs := gs) (f := fun y => fnL L (y + (k : Int))) (f' := fnL ((L.drop k).take n)) (fun x hx => by
        obtain ⟨j, rfl, hj⟩ := nat_of hx
        have e2 : (j : Int) + (k : Int) = ((k + j : Nat) : Int) := by omega
        show fnL L ((j : Int) + (k : Int)) = _
        rw [e2, fnL_at (by omega), fnL_at (by rw [l1]; exact hj), List.getElem_take, List.getElem_drop]) h ((i - k : Nat) : Int) (mem_rg.mpr (by omega))
      rw [this]
      simp only [e]
    · rw [List.getElem_append_right (by simp [l2]; omega), List.getElem_drop]
      rw [shf_out (n := n) k gs (fnL L) i (fun g hg => ⟨(h g hg).1, (h g hg).2.1⟩) (.inr (by omega)), fnL_at hi]
      congr 1
      simp [l2]
      omega
end Net
end

section
set_option Elab.async false
set_option linter.all false
set_option maxRecDepth 100000
set_option maxHeartbeats 0
namespace L_k21
open PySem PySem.Spec PyProof.Rows L2 Y
/-! ## the text -/
def topS (i : Nat) : Stmt := PySem.Challenge.pw_swapnets_k21_whole_upright_nets_joints_a.main.body.getD i (.Pass ⟨0, 0, 0, 0⟩)
abbrev WN : Nat := 1048576
def isaT : IsaT := [("NoAnswer", [("NoAnswer", true), ("NotRight", false), ("SwapError", true), ("TooLarge", false)]), ("NotRight", [("NoAnswer", false), ("NotRight", true), ("SwapError", true), ("TooLarge", false)]), ("TooLarge", [("NoAnswer", false), ("NotRight", false), ("SwapError", true), ("TooLarge", true)])]
def isa : Isa := isaOf isaT
/-! ## the defs, as functions -/
abbrev N__law_draws : List Str := ["script", "draws", "cell", "number", "first", "k", "seed"]
def l__law_draws_1 : S → SR :=
  sFg [5] (sIf (asB (eB2 gtV (eVar 3) (eC (.int 0))))
  (sSeq (sExpr (eMut "list" appF (eVar 1) (aCons (eB2 modV (eC1 intV' (eVar 3)) (eC (.int 997))) (aNil))))
  (sSet 3 (eB2 fdivV (eVar 3) (eC (.int 997)))))
  (sPass))
def l__law_draws_2 : S → SR :=
  sFg [2, 3, 4, 5] (sSeq (sSet 3 (eC1 absV' (eVar 2)))
  (sSeq (sFg [4] (sIf (asB (eB2 ltV (eVar 3) (eB2 powV (eC (.int 10)) (eC (.int 18)))))
  (sSeq (sSet 4 (eB2 modV (eC1 intV' (eB2 addV (eB2 mulTV (eVar 3) (eC (.int 48271))) (eC (.int 11)))) (eC (.int 2147483647))))
  (sSeq (sExpr (eMut "list" appF (eVar 1) (aCons (eB2 modV (eC1 intV' (eB2 addV (eB2 mulTV (eVar 4) (eC (.int 69621))) (eVar 3))) (eC (.int 2147483629))) (aNil))))
  (sSeq (sExpr (eMut "list" appF (eVar 1) (aCons (eB2 modV (eC1 intV' (eB2 addV (eVar 4) (eB2 fdivV (eVar 3) (eC (.int 7))))) (eC (.int 1000003))) (aNil))))
  (sSet 3 (eC (.int 0))))))
  (sPass)))
  (sFg [3, 5] (sFor (argIt (a1 rg1) (aCons (eC (.int 60)) (aNil))) (.nm 5)
  (l__law_draws_1)))))
def l__law_draws_3 : S → SR :=
  sFg [5] (sSeq (sSet 6 (eB2 modV (eC1 intV' (eB2 addV (eB2 mulTV (eVar 6) (eC (.int 48271))) (eC (.int 69621)))) (eC (.int 2147483647))))
  (sExpr (eMut "list" appF (eVar 1) (aCons (eB2 fdivV (eVar 6) (eC (.int 5))) (aNil)))))
def b__law_draws : S → SR :=
  sSeq (sSet 1 (eLst (aNil)))
  (sSeq (sFg [2, 3, 4, 5] (sForN 0 (.nm 2)
  (l__law_draws_2)))
  (sSeq (sSet 6 (eC (.int 1)))
  (sSeq (sIf (asB (eB2 gtV (eC1 lenDV (eVar 0)) (eC (.int 0))))
  (sSet 6 (eB2 addV (eC (.int 1)) (eC1 absV' (eB2 ixDV (eVar 0) (eC (.int 0))))))
  (sPass))
  (sSeq (sFg [5, 6] (sFor (argIt (a1 rg1) (aCons (eC (.int 4000)) (aNil))) (.nm 5)
  (l__law_draws_3)))
  (sRet (eListRev (eVar 1)))))))
def d__law_draws : FD := fnD 7 b__law_draws
theorem e__law_draws {a0 : SV} {rf : Ob} : d__law_draws [a0] rf = fnEnd (b__law_draws ⟨[a0, .u, .u, .u, .u, .u, .u], rf⟩) := rfl
abbrev N__law_same : List Str := ["told", "due", "key", "k"]
def q__law_same_1 (rec : FD) : S → R EV :=
  eCall 2 (rec) (bCons (eB2 ixDV (eVar 0) (eVar 2)) (bCons (eB2 ixDV (eVar 1) (eVar 2)) (bNil)))
def q__law_same_2 (rec : FD) : S → R EV :=
  eCall 2 (rec) (bCons (eB2 ixDV (eVar 0) (eVar 3)) (bCons (eB2 ixDV (eVar 1) (eVar 3)) (bNil)))
def b__law_same (rec : FD) : S → SR :=
  sSeq (sIf (asT (eB2 isiV (eVar 1) (eC (.ty "dict"))))
  (sSeq (sIf (bOr (bNot (asT (eB2 isiV (eVar 0) (eC (.ty "dict"))))) (asB (eB2 neV (eC1 sortedDV (eC1 listDV (eVar 0))) (eC1 sortedDV (eC1 listDV (eVar 1))))))
  (sRet (eC (.bl false)))
  (sPass))
  (sRet (eC1 allV (eComp (iterD (eVar 1)) (.nm 2) (tyes) (q__law_same_1 rec) [2]))))
  (sPass))
  (sSeq (sIf (bOr (asT (eB2 isiV (eVar 1) (eC (.ty "tuple")))) (asT (eB2 isiV (eVar 1) (eC (.ty "list")))))
  (sSeq (sIf (bOr (asB (eB2 neV (eB2 isiV (eVar 1) (eC (.ty "tuple"))) (eB2 isiV (eVar 0) (eC (.ty "tuple"))))) (asB (eB2 neV (eB2 isiV (eVar 1) (eC (.ty "list"))) (eB2 isiV (eVar 0) (eC (.ty "list"))))))
  (sRet (eC (.bl false)))
  (sPass))
  (sRet (eAnd (eB2 eqV (eC1 lenDV (eVar 0)) (eC1 lenDV (eVar 1))) (eC1 allV (eComp (argIt (a1 rg1) (aCons (eC1 lenDV (eVar 1)) (aNil))) (.nm 3) (tyes) (q__law_same_2 rec) [3])))))
  (sPass))
  (sSeq (sIf (asB (eB2 isV (eVar 1) (eC .non)))
  (sRet (eB2 isV (eVar 0) (eC .non)))
  (sPass))
  (sSeq (sIf (asB (eB2 neV (eB2 isiV (eVar 1) (eC (.ty "bool"))) (eB2 isiV (eVar 0) (eC (.ty "bool")))))
  (sRet (eC (.bl false)))
  (sPass))
  (sSeq (sIf (bOr (asB (eB2 neV (eB2 isiV (eVar 1) (eC (.ty "int"))) (eB2 isiV (eVar 0) (eC (.ty "int"))))) (asB (eB2 neV (eB2 isiV (eVar 1) (eC (.ty "str"))) (eB2 isiV (eVar 0) (eC (.ty "str"))))))
  (sRet (eC (.bl false)))
  (sPass))
  (sRet (eB2 eqV (eVar 0) (eVar 1)))))))
def d__law_same : Nat → FD
  | 0 => fun _ _ => .bad
  | n + 1 => fnD 4 (b__law_same (d__law_same n))
theorem e__law_same {F : Nat} {a0 a1 : SV} {rf : Ob} : d__law_same (F + 1) [a0, a1] rf = fnEnd (b__law_same (d__law_same F) ⟨[a0, a1, .u, .u], rf⟩) := rfl
abbrev N__law_take : List Str := ["draws", "bound"]
def b__law_take : S → SR :=
  sSeq (sIf (asB (eB2 eqV (eC1 lenDV (eVar 0)) (eC (.int 0))))
  (sRet (eC (.int 0)))
  (sPass))
  (sRet (eB2 modV (eC1 intV' (eMut "list" popF (eVar 0) aNil)) (eVar 1)))
def d__law_take : FD := fnD 2 b__law_take
theorem e__law_take {a0 a1 : SV} {rf : Ob} : d__law_take [a0, a1] rf = fnEnd (b__law_take ⟨[a0, a1], rf⟩) := rfl
abbrev N__law_net : List Str := ["draws", "n", "most", "kind", "gates", "last", "at", "turn", "i", "j"]
def q__law_net_1 : S → R EV :=
  eTup (aCons (eVar 6) (aCons (eB2 addV (eVar 6) (eC (.int 1))) (aNil)))
def l__law_net_1 : S → SR :=
  sFg [5] (sSet 4 (eB2 addV (eVar 4) (eComp (argIt (a1 rg1) (aCons (eVar 5) (aNil))) (.nm 6) (tyes) (q__law_net_1) [6])))
def l__law_net_2 : S → SR :=
  sFg [7, 8, 9] (sFg [8, 9] (sIf (asB (eB2 gtV (eVar 1) (eC (.int 1))))
  (sSeq (sPar 8 9 (eCall 2 (d__law_take) (bRef (eVar 0) (bCons (eVar 1) (bNil)))) (eCall 2 (d__law_take) (bRef (eVar 0) (bCons (eB2 subV (eVar 1) (eC (.int 1))) (bNil)))))
  (sSeq (sSet 9 (eB2 addV (eVar 9) (eC1 intV' (eB2 geV (eVar 9) (eVar 8)))))
  (sSeq (sIf (asB (eB2 gtV (eVar 3) (eC (.int 0))))
  (sPar 8 9 (eB2 minV2 (eVar 8) (eVar 9)) (eB2 maxV2 (eVar 8) (eVar 9)))
  (sPass))
  (sSeq (sIf (asB (eB2 eqV (eVar 3) (eC (.int 2))))
  (sSet 9 (eB2 addV (eVar 8) (eC (.int 1))))
  (sPass))
  (sExpr (eMut "list" insF (eVar 4) (aCons (eCall 2 (d__law_take) (bRef (eVar 0) (bCons (eB2 addV (eC1 lenDV (eVar 4)) (eC (.int 1))) (bNil)))) (aCons (eTup (aCons (eVar 8) (aCons (eVar 9) (aNil)))) (aNil)))))))))
  (sPass)))
def b__law_net : S → SR :=
  sSeq (sSet 4 (eLst (aNil)))
  (sSeq (sFg [5] (sIf (asB (eB2 eqV (eVar 3) (eC (.int 3))))
  (sFg [5] (sFor (argIt (a3 rg3) (aCons (eB2 subV (eVar 1) (eC (.int 1))) (aCons (eC (.int 0)) (aCons (eNeg (eC (.int 1))) (aNil))))) (.nm 5)
  (l__law_net_1)))
  (sPass)))
  (sSeq (sFg [7, 8, 9] (sFor (argIt (a1 rg1) (aCons (eCall 2 (d__law_take) (bRef (eVar 0) (bCons (eB2 addV (eVar 2) (eC (.int 1))) (bNil)))) (aNil))) (.nm 7)
  (l__law_net_2)))
  (sRet (eTup (aCons (eVar 1) (aCons (eC1 tupleV (eVar 4)) (aNil)))))))
def d__law_net : FD := fnD 10 b__law_net
theorem e__law_net {a0 a1 a2 a3 : SV} {rf : Ob} : d__law_net [a0, a1, a2, a3] rf = fnEnd (b__law_net ⟨[a0, a1, a2, a3, .u, .u, .u, .u, .u, .u], rf⟩) := rfl
abbrev N__law_upright : List Str := ["net", "gates", "names", "at", "i", "j", "swap", "a", "b"]
def q__law_upright_1 : S → R EV :=
  eTup (aCons (eGet2 (eVar 6) (eVar 7) (eVar 7)) (aCons (eGet2 (eVar 6) (eVar 8) (eVar 8)) (aNil)))
def l__law_upright_1 : S → SR :=
  sFg [3, 4, 5, 6] (sSeq (sAsg (.tp [.nm 4, .nm 5]) (eB2 ixDV (eVar 1) (eVar 3)))
  (sFg [6] (sIf (asB (eB2 gtV (eVar 4) (eVar 5)))
  (sSeq (sSet 6 (eDict (kCons (eVar 4) (eVar 5) (kCons (eVar 5) (eVar 4) (kNil)))))
  (sSeq (sSet 1 (eB2 addV (eSl (eVar 1) (oN) (oI (eVar 3))) (eComp (iterD (eSl (eVar 1) (oI (eVar 3)) (oN))) (.tp [.nm 7, .nm 8]) (tyes) (q__law_upright_1) [7, 8])))
  (sAsgX (tfT [tfS setLD (eVar 2) (eVar 4), tfS setLD (eVar 2) (eVar 5)]) (eTup (aCons (eB2 ixDV (eVar 2) (eVar 5)) (aCons (eB2 ixDV (eVar 2) (eVar 4)) (aNil)))))))
  (sPass))))
def b__law_upright : S → SR :=
  sSeq (sPar 1 2 (eC1 listDV (eB2 ixDV (eVar 0) (eC (.int 1)))) (eRg1 false (eB2 ixDV (eVar 0) (eC (.int 0)))))
  (sSeq (sFg [3, 4, 5, 6] (sFor (argIt (a1 rg1) (aCons (eC1 lenDV (eVar 1)) (aNil))) (.nm 3)
  (l__law_upright_1)))
  (sRet (eTup (aCons (eTup (aCons (eB2 ixDV (eVar 0) (eC (.int 0))) (aCons (eC1 tupleV (eVar 1)) (aNil)))) (aCons (eC1 tupleV (eVar 2)) (aNil))))))
def d__law_upright : FD := fnD 9 b__law_upright
theorem e__law_upright {a0 : SV} {rf : Ob} : d__law_upright [a0] rf = fnEnd (b__law_upright ⟨[a0, .u, .u, .u, .u, .u, .u, .u, .u], rf⟩) := rfl
abbrev N__law_pick : List Str := ["draws", "items"]
def b__law_pick : S → SR :=
  sRet (eB2 ixDV (eVar 1) (eCall 2 (d__law_take) (bRef (eVar 0) (bCons (eC1 lenDV (eVar 1)) (bNil)))))
def d__law_pick : FD := fnD 2 b__law_pick
theorem e__law_pick {a0 a1 : SV} {rf : Ob} : d__law_pick [a0, a1] rf = fnEnd (b__law_pick ⟨[a0, a1], rf⟩) := rfl
abbrev N__law_values : List Str := ["draws", "n", "kind", "k"]
def q__law_values_1 : S → R EV :=
  eB2 ixDV (eLst (aCons (eCall 2 (d__law_take) (bRef (eVar 0) (bCons (eC (.int 2)) (bNil)))) (aCons (eCall 2 (d__law_take) (bRef (eVar 0) (bCons (eC (.int 4)) (bNil)))) (aCons (eB2 subV (eCall 2 (d__law_take) (bRef (eVar 0) (bCons (eC (.int 999)) (bNil)))) (eC (.int 500))) (aCons (eB2 mulTV (eB2 subV (eCall 2 (d__law_take) (bRef (eVar 0) (bCons (eC (.int 9)) (bNil)))) (eC (.int 4))) (eB2 powV (eC (.int 10)) (eC (.int 20)))) (aNil)))))) (eVar 2)
def b__law_values : S → SR :=
  sSeq (sSet 2 (eCall 2 (d__law_take) (bRef (eVar 0) (bCons (eC (.int 4)) (bNil)))))
  (sRet (eC1 tupleV (eComp (argIt (a1 rg1) (aCons (eVar 1) (aNil))) (.nm 3) (tyes) (q__law_values_1) [3])))
def d__law_values : FD := fnD 4 b__law_values
theorem e__law_values {a0 a1 : SV} {rf : Ob} : d__law_values [a0, a1] rf = fnEnd (b__law_values ⟨[a0, a1, .u, .u], rf⟩) := rfl
abbrev N__law_bad_net : List Str := ["draws", "two", "bad"]
def b__law_bad_net : S → SR :=
  sSeq (sSet 1 (eTup (aCons (eTup (aCons (eC (.int 0)) (aCons (eC (.int 1)) (aNil)))) (aNil))))
  (sSeq (sSet 2 (eLst (aCons (eC .non) (aCons (eLst (aCons (eC (.int 2)) (aCons (eVar 1) (aNil)))) (aCons (eTup (aCons (eC (.int 2)) (aNil))) (aCons (eTup (aCons (eC (.int 2)) (aCons (eVar 1) (aCons (eTup (aNil)) (aNil))))) (aCons (eTup (aCons (eC (.int 0)) (aCons (eTup (aNil)) (aNil)))) (aCons (eTup (aCons (eC (.int 33)) (aCons (eTup (aNil)) (aNil)))) (aCons (eTup (aCons (eC (.bl true)) (aCons (eTup (aNil)) (aNil)))) (aCons (eTup (aCons (eC (.str "2")) (aCons (eVar 1) (aNil)))) (aCons (eTup (aCons (eC (.int 2)) (aCons (eLst (aCons (eTup (aCons (eC (.int 0)) (aCons (eC (.int 1)) (aNil)))) (aNil))) (aNil)))) (aCons (eTup (aCons (eC (.int 2)) (aCons (eTup (aCons (eTup (aCons (eC (.int 0)) (aCons (eC (.int 2)) (aNil)))) (aNil))) (aNil)))) (aCons (eTup (aCons (eC (.int 2)) (aCons (eTup (aCons (eTup (aCons (eC (.int 0)) (aCons (eC (.int 0)) (aNil)))) (aNil))) (aNil)))) (aNil))))))))))))))
  (sSeq (sSet 2 (eB2 addV (eVar 2) (eLst (aCons (eTup (aCons (eC (.int 2)) (aCons (eTup (aCons (eTup (aCons (eNeg (eC (.int 1))) (aCons (eC (.int 0)) (aNil)))) (aNil))) (aNil)))) (aCons (eTup (aCons (eC (.int 2)) (aCons (eTup (aCons (eTup (aCons (eC (.int 0)) (aCons (eC (.int 1)) (aCons (eC (.int 1)) (aNil))))) (aNil))) (aNil)))) (aCons (eTup (aCons (eC (.int 2)) (aCons (eTup (aCons (eTup (aCons (eC (.int 0)) (aNil))) (aNil))) (aNil)))) (aCons (eTup (aCons (eC (.int 2)) (aCons (eTup (aCons (eLst (aCons (eC (.int 0)) (aCons (eC (.int 1)) (aNil)))) (aNil))) (aNil)))) (aNil))))))))
  (sRet (eCall 2 (d__law_pick) (bRef (eVar 0) (bCons (eB2 addV (eVar 2) (eLst (aCons (eTup (aCons (eC (.int 2)) (aCons (eTup (aCons (eTup (aCons (eC (.int 0)) (aCons (eC (.bl true)) (aNil)))) (aNil))) (aNil)))) (aCons (eTup (aCons (eC (.int 2)) (aCons (eTup (aCons (eTup (aCons (eC (.int 0)) (aCons (eC .non) (aNil)))) (aNil))) (aNil)))) (aCons (eTup (aCons (eC (.int 2)) (aCons (eB2 mulTV (eVar 1) (eC (.int 601))) (aNil)))) (aCons (eTup (aCons (eC (.int 1)) (aCons (eVar 1) (aNil)))) (aCons (eTup (aCons (eC (.int 2)) (aCons (eTup (aCons (eC (.int 0)) (aCons (eC (.int 1)) (aNil)))) (aNil)))) (aNil)))))))) (bNil)))))))
def d__law_bad_net : FD := fnD 3 b__law_bad_net
theorem e__law_bad_net {a0 : SV} {rf : Ob} : d__law_bad_net [a0] rf = fnEnd (b__law_bad_net ⟨[a0, .u, .u], rf⟩) := rfl
abbrev N__law_out : List Str := ["gates", "values", "row", "i", "j"]
def l__law_out_1 : S → SR :=
  sFg [3, 4] (sAsgX (tfT [tfS setLD (eVar 2) (eVar 3), tfS setLD (eVar 2) (eVar 4)]) (eTup (aCons (eB2 minV2 (eB2 ixDV (eVar 2) (eVar 3)) (eB2 ixDV (eVar 2) (eVar 4))) (aCons (eB2 maxV2 (eB2 ixDV (eVar 2) (eVar 3)) (eB2 ixDV (eVar 2) (eVar 4))) (aNil)))))
def b__law_out : S → SR :=
  sSeq (sSet 2 (eC1 listDV (eVar 1)))
  (sSeq (sFg [3, 4] (sForN 0 (.tp [.nm 3, .nm 4])
  (l__law_out_1)))
  (sRet (eC1 tupleV (eVar 2))))
def d__law_out : FD := fnD 5 b__law_out
theorem e__law_out {a0 a1 : SV} {rf : Ob} : d__law_out [a0, a1] rf = fnEnd (b__law_out ⟨[a0, a1, .u, .u, .u], rf⟩) := rfl
abbrev N_check : List Str := ["is_right"]
def b_check : S → SR :=
  sIf (bNot (asT (eVar 0)))
  (sRaise "NotRight")
  (sPass)
def d_check : FD := fnD 1 b_check
theorem e_check {a0 : SV} {rf : Ob} : d_check [a0] rf = fnEnd (b_check ⟨[a0], rf⟩) := rfl
abbrev N_is_integer : List Str := ["value"]
def b_is_integer : S → SR :=
  sRet (eAnd (eB2 isiV (eVar 0) (eC (.ty "int"))) (eNot (eB2 isiV (eVar 0) (eC (.ty "bool")))))
def d_is_integer : FD := fnD 1 b_is_integer
theorem e_is_integer {a0 : SV} {rf : Ob} : d_is_integer [a0] rf = fnEnd (b_is_integer ⟨[a0], rf⟩) := rfl
abbrev N_is_within : List Str := ["value", "low", "high"]
def b_is_within : S → SR :=
  sRet (eAnd (eCall 1 (d_is_integer) (bCons (eVar 0) (bNil))) (eChain leV leV (eVar 1) (eVar 0) (eVar 2)))
def d_is_within : FD := fnD 3 b_is_within
theorem e_is_within {a0 a1 a2 : SV} {rf : Ob} : d_is_within [a0, a1, a2] rf = fnEnd (b_is_within ⟨[a0, a1, a2], rf⟩) := rfl
abbrev N_is_gate : List Str := ["n", "value", "line"]
def q_is_gate_1 : S → R EV :=
  eCall 3 (d_is_within) (bCons (eVar 2) (bCons (eC (.int 0)) (bCons (eB2 subV (eVar 0) (eC (.int 1))) (bNil))))
def b_is_gate : S → SR :=
  sSeq (sIf (bOr (bNot (asT (eB2 isiV (eVar 1) (eC (.ty "tuple"))))) (bOr (asB (eB2 neV (eC1 lenDV (eVar 1)) (eC (.int 2)))) (bNot (asT (eC1 allV (eComp (iterD (eVar 1)) (.nm 2) (tyes) (q_is_gate_1) [2]))))))
  (sRet (eC (.bl false)))
  (sPass))
  (sRet (eB2 neV (eB2 ixDV (eVar 1) (eC (.int 0))) (eB2 ixDV (eVar 1) (eC (.int 1)))))
def d_is_gate : FD := fnD 3 b_is_gate
theorem e_is_gate {a0 a1 : SV} {rf : Ob} : d_is_gate [a0, a1] rf = fnEnd (b_is_gate ⟨[a0, a1, .u], rf⟩) := rfl
abbrev N_is_net : List Str := ["value", "n", "gates", "gate"]
def q_is_net_1 : S → R EV :=
  eCall 2 (d_is_gate) (bCons (eVar 1) (bCons (eVar 3) (bNil)))
def b_is_net : S → SR :=
  sSeq (sIf (bOr (bNot (asT (eB2 isiV (eVar 0) (eC (.ty "tuple"))))) (bOr (asB (eB2 neV (eC1 lenDV (eVar 0)) (eC (.int 2)))) (bNot (asT (eCall 3 (d_is_within) (bCons (eB2 ixDV (eVar 0) (eC (.int 0))) (bCons (eC (.int 1)) (bCons (eC (.int (32))) (bNil)))))))))
  (sRet (eC (.bl false)))
  (sPass))
  (sSeq (sAsg (.tp [.nm 1, .nm 2]) (eVar 0))
  (sRet (eAnd (eB2 isiV (eVar 2) (eC (.ty "tuple"))) (eAnd (eB2 leV (eC1 lenDV (eVar 2)) (eC (.int (600)))) (eC1 allV (eComp (iterD (eVar 2)) (.nm 3) (tyes) (q_is_net_1) [3]))))))
def d_is_net : FD := fnD 4 b_is_net
theorem e_is_net {a0 : SV} {rf : Ob} : d_is_net [a0] rf = fnEnd (b_is_net ⟨[a0, .u, .u, .u], rf⟩) := rfl
abbrev N_check_net : List Str := ["net"]
def b_check_net : S → SR :=
  sExpr (eCall 1 (d_check) (bCons (eCall 1 (d_is_net) (bCons (eVar 0) (bNil))) (bNil)))
def d_check_net : FD := fnD 1 b_check_net
theorem e_check_net {a0 : SV} {rf : Ob} : d_check_net [a0] rf = fnEnd (b_check_net ⟨[a0], rf⟩) := rfl
abbrev N_joint : List Str := ["one", "other"]
def b_joint : S → SR :=
  sSeq (sExpr (eCall 1 (d_check_net) (bCons (eVar 0) (bNil))))
  (sSeq (sExpr (eCall 1 (d_check_net) (bCons (eVar 1) (bNil))))
  (sSeq (sIf (asB (eB2 neV (eB2 ixDV (eVar 0) (eC (.int 0))) (eB2 ixDV (eVar 1) (eC (.int 0)))))
  (sRaise "NoAnswer")
  (sPass))
  (sSeq (sIf (asB (eB2 gtV (eB2 addV (eC1 lenDV (eB2 ixDV (eVar 0) (eC (.int 1)))) (eC1 lenDV (eB2 ixDV (eVar 1) (eC (.int 1))))) (eC (.int (600)))))
  (sRaise "TooLarge")
  (sPass))
  (sRet (eTup (aCons (eB2 ixDV (eVar 0) (eC (.int 0))) (aCons (eB2 addV (eB2 ixDV (eVar 0) (eC (.int 1))) (eB2 ixDV (eVar 1) (eC (.int 1)))) (aNil))))))))
def d_joint : FD := fnD 2 b_joint
theorem e_joint {a0 a1 : SV} {rf : Ob} : d_joint [a0, a1] rf = fnEnd (b_joint ⟨[a0, a1], rf⟩) := rfl
abbrev N_set_out : List Str := ["net", "n", "k", "i", "j"]
def q_set_out_1 : S → R EV :=
  eTup (aCons (eB2 addV (eVar 3) (eVar 2)) (aCons (eB2 addV (eVar 4) (eVar 2)) (aNil)))
def b_set_out : S → SR :=
  sSeq (sExpr (eCall 1 (d_check_net) (bCons (eVar 0) (bNil))))
  (sSeq (sExpr (eCall 1 (d_check) (bCons (eAnd (eCall 3 (d_is_within) (bCons (eVar 1) (bCons (eC (.int 1)) (bCons (eC (.int (32))) (bNil))))) (eCall 3 (d_is_within) (bCons (eVar 2) (bCons (eC (.int 0)) (bCons (eB2 subV (eVar 1) (eB2 ixDV (eVar 0) (eC (.int 0)))) (bNil)))))) (bNil))))
  (sRet (eTup (aCons (eVar 1) (aCons (eC1 tupleV (eComp (iterD (eB2 ixDV (eVar 0) (eC (.int 1)))) (.tp [.nm 3, .nm 4]) (tyes) (q_set_out_1) [3, 4])) (aNil))))))
def d_set_out : FD := fnD 5 b_set_out
theorem e_set_out {a0 a1 a2 : SV} {rf : Ob} : d_set_out [a0, a1, a2] rf = fnEnd (b_set_out ⟨[a0, a1, a2, .u, .u], rf⟩) := rfl
abbrev N_upright_by : List Str := ["n", "gates", "place", "found", "i", "j", "low", "high", "line"]
def l_upright_by_1 : S → SR :=
  sFg [4, 5, 6, 7] (sSeq (sPar 6 7 (eB2 ixDV (eVar 2) (eVar 4)) (eB2 ixDV (eVar 2) (eVar 5)))
  (sSeq (sIf (asB (eB2 gtV (eVar 6) (eVar 7)))
  (sAsgX (tfT [tfS setLD (eVar 2) (eVar 4), tfS setLD (eVar 2) (eVar 5)]) (eTup (aCons (eVar 7) (aCons (eVar 6) (aNil)))))
  (sPass))
  (sExpr (eMut "list" appF (eVar 3) (aCons (eTup (aCons (eB2 minV2 (eVar 6) (eVar 7)) (aCons (eB2 maxV2 (eVar 6) (eVar 7)) (aNil)))) (aNil))))))
def q_upright_by_1 : S → R EV :=
  eMeth "list" idxF (eVar 2) (aCons (eVar 8) (aNil))
def b_upright_by : S → SR :=
  sSeq (sSet 2 (eRg1 false (eVar 0)))
  (sSeq (sSet 3 (eLst (aNil)))
  (sSeq (sFg [4, 5, 6, 7] (sForN 1 (.tp [.nm 4, .nm 5])
  (l_upright_by_1)))
  (sRet (eTup (aCons (eTup (aCons (eVar 0) (aCons (eC1 tupleV (eVar 3)) (aNil)))) (aCons (eC1 tupleV (eComp (argIt (a1 rg1) (aCons (eVar 0) (aNil))) (.nm 8) (tyes) (q_upright_by_1) [8])) (aNil)))))))
def d_upright_by : FD := fnD 9 b_upright_by
theorem e_upright_by {a0 a1 : SV} {rf : Ob} : d_upright_by [a0, a1] rf = fnEnd (b_upright_by ⟨[a0, a1, .u, .u, .u, .u, .u, .u, .u], rf⟩) := rfl
abbrev N_upright : List Str := ["net"]
def b_upright : S → SR :=
  sSeq (sExpr (eCall 1 (d_check_net) (bCons (eVar 0) (bNil))))
  (sRet (eCall 2 (d_upright_by) (bCons (eB2 ixDV (eVar 0) (eC (.int 0))) (bCons (eB2 ixDV (eVar 0) (eC (.int 1))) (bNil)))))
def d_upright : FD := fnD 1 b_upright
theorem e_upright {a0 : SV} {rf : Ob} : d_upright [a0] rf = fnEnd (b_upright ⟨[a0], rf⟩) := rfl
abbrev N_mirror : List Str := ["net", "last", "i", "j"]
def q_mirror_1 : S → R EV :=
  eTup (aCons (eB2 subV (eVar 1) (eVar 3)) (aCons (eB2 subV (eVar 1) (eVar 2)) (aNil)))
def b_mirror : S → SR :=
  sSeq (sExpr (eCall 1 (d_check_net) (bCons (eVar 0) (bNil))))
  (sSeq (sSet 1 (eB2 subV (eB2 ixDV (eVar 0) (eC (.int 0))) (eC (.int 1))))
  (sRet (eTup (aCons (eB2 ixDV (eVar 0) (eC (.int 0))) (aCons (eC1 tupleV (eComp (iterD (eB2 ixDV (eVar 0) (eC (.int 1)))) (.tp [.nm 2, .nm 3]) (tyes) (q_mirror_1) [2, 3])) (aNil))))))
def d_mirror : FD := fnD 4 b_mirror
theorem e_mirror {a0 : SV} {rf : Ob} : d_mirror [a0] rf = fnEnd (b_mirror ⟨[a0, .u, .u, .u], rf⟩) := rfl
abbrev N__law_told : List Str := ["which", "one", "two", "three"]
def b__law_told : S → SR :=
  sTryMany isa
  (sSeq (sIf (asB (eB2 ltV (eVar 0) (eC (.int 2))))
  (sRet (eVCall [("upright", (1, d_upright)), ("mirror", (1, d_mirror))] (eB2 ixDV (eLst (aCons (eC (.fn "upright")) (aCons (eC (.fn "mirror")) (aNil)))) (eVar 0)) (bCons (eVar 1) (bNil))))
  (sPass))
  (sRet (eIf (asB (eB2 eqV (eVar 0) (eC (.int 2)))) (eCall 2 (d_joint) (bCons (eVar 1) (bCons (eVar 2) (bNil)))) (eCall 3 (d_set_out) (bCons (eVar 1) (bCons (eVar 2) (bCons (eVar 3) (bNil))))))))
  (("NotRight", sRet (eTup (aCons (eC (.str "refused")) (aCons (eC (.str "not right")) (aNil))))) :: ("NoAnswer", sRet (eTup (aCons (eC (.str "refused")) (aCons (eC (.str "no answer")) (aNil))))) :: ("TooLarge", sRet (eTup (aCons (eC (.str "refused")) (aCons (eC (.str "too large")) (aNil))))) :: ("SwapError", sRet (eTup (aCons (eC (.str "refused")) (aCons (eC (.str "other")) (aNil))))) :: [])
def d__law_told : FD := fnD 4 b__law_told
theorem e__law_told {a0 a1 a2 a3 : SV} {rf : Ob} : d__law_told [a0, a1, a2, a3] rf = fnEnd (b__law_told ⟨[a0, a1, a2, a3], rf⟩) := rfl
abbrev N_law : List Str := ["script", "draws", "turn", "net", "other", "due", "last", "mirrored", "i", "j", "again", "values", "out", "told", "k", "turned", "one", "n", "wide", "two", "bad", "many"]
def q_law_1 : S → R EV :=
  eTup (aCons (eB2 subV (eVar 6) (eVar 9)) (aCons (eB2 subV (eVar 6) (eVar 8)) (aNil)))
def q_law_2 : S → R EV :=
  eB2 ixDV (eVar 12) (eB2 ixDV (eB2 ixDV (eVar 5) (eC (.int 1))) (eVar 14))
def q_law_3 : S → R EV :=
  eNeg (eVar 16)
def q_law_4 : S → R EV :=
  eNeg (eVar 16)
def l_law_1 : S → SR :=
  sFg [10, 11, 12, 13, 15] (sSeq (sSet 11 (eCall 2 (d__law_values) (bRef (eVar 1) (bCons (eB2 ixDV (eVar 3) (eC (.int 0))) (bNil)))))
  (sSeq (sAsg (.tp [.nm 12, .nm 13]) (eTup (aCons (eCall 2 (d__law_out) (bCons (eB2 ixDV (eVar 3) (eC (.int 1))) (bCons (eVar 11) (bNil)))) (aCons (eCall 2 (d__law_out) (bCons (eB2 ixDV (eB2 ixDV (eVar 5) (eC (.int 0))) (eC (.int 1))) (bCons (eVar 11) (bNil)))) (aNil)))))
  (sSeq (sIf (asB (eB2 neV (eComp (argIt (a1 rg1) (aCons (eB2 ixDV (eVar 3) (eC (.int 0))) (aNil))) (.nm 14) (tyes) (q_law_2) [14]) (eC1 listDV (eVar 13))))
  (sRet (eC (.bl false)))
  (sPass))
  (sSeq (sIf (asB (eB2 neV (eCall 2 (d__law_out) (bCons (eB2 ixDV (eB2 ixDV (eVar 5) (eC (.int 0))) (eC (.int 1))) (bCons (eC1 tupleV (eC1 sortedDV (eVar 11))) (bNil)))) (eC1 tupleV (eC1 sortedDV (eVar 11)))))
  (sRet (eC (.bl false)))
  (sPass))
  (sSeq (sSet 15 (eCall 2 (d__law_out) (bCons (eB2 ixDV (eVar 7) (eC (.int 1))) (bCons (eC1 tupleV (eComp (iterD (eRv (eVar 11) (oI (eNeg (eC (.int 1)))))) (.nm 16) (tyes) (q_law_3) [16])) (bNil)))))
  (sSeq (sIf (asB (eB2 neV (eC1 tupleV (eComp (iterD (eRv (eVar 15) (oI (eNeg (eC (.int 1)))))) (.nm 16) (tyes) (q_law_4) [16])) (eVar 12)))
  (sRet (eC (.bl false)))
  (sPass))
  (sIf (asB (eB2 neV (eCall 2 (d__law_out) (bCons (eB2 ixDV (eCall 4 (d__law_told) (bCons (eC (.int 2)) (bCons (eVar 3) (bCons (eVar 4) (bCons (eC .non) (bNil)))))) (eC (.int 1))) (bCons (eVar 11) (bNil)))) (eCall 2 (d__law_out) (bCons (eB2 ixDV (eVar 4) (eC (.int 1))) (bCons (eVar 12) (bNil))))))
  (sRet (eC (.bl false)))
  (sPass))))))))
def q_law_5 : S → R EV :=
  eTup (aCons (eB2 addV (eVar 8) (eVar 14)) (aCons (eB2 addV (eVar 9) (eVar 14)) (aNil)))
def q_law_6 : S → R EV :=
  eCall 4 (d__law_told) (bCons (eC (.int 3)) (bCons (eVar 3) (bCons (eVar 16) (bCons (eVar 19) (bNil)))))
def l_law_2 : S → SR :=
  sFg [2, 3, 4, 5, 6, 7, 10, 11, 12, 13, 14, 15, 17, 18, 20] (sSeq (sSet 3 (eCall 4 (d__law_net) (bRef (eVar 1) (bCons (eB2 addV (eC (.int 1)) (eCall 2 (d__law_take) (bRef (eVar 1) (bCons (eC (.int 9)) (bNil))))) (bCons (eCall 2 (d__law_pick) (bRef (eVar 1) (bCons (eLst (aCons (eC (.int 3)) (aCons (eC (.int 9)) (aCons (eC (.int 30)) (aNil))))) (bNil)))) (bCons (eCall 2 (d__law_pick) (bRef (eVar 1) (bCons (eLst (aCons (eC (.int 0)) (aCons (eC (.int 0)) (aCons (eC (.int 1)) (aCons (eC (.int 3)) (aNil)))))) (bNil)))) (bNil)))))))
  (sSeq (sSet 4 (eCall 4 (d__law_net) (bRef (eVar 1) (bCons (eB2 ixDV (eVar 3) (eC (.int 0))) (bCons (eC (.int 9)) (bCons (eCall 2 (d__law_take) (bRef (eVar 1) (bCons (eC (.int 2)) (bNil)))) (bNil)))))))
  (sSeq (sSet 5 (eCall 1 (d__law_upright) (bCons (eVar 3) (bNil))))
  (sSeq (sIf (bNot (asT (eCall 2 (d__law_same 12) (bCons (eCall 4 (d__law_told) (bCons (eC (.int 0)) (bCons (eVar 3) (bCons (eC .non) (bCons (eC .non) (bNil)))))) (bCons (eVar 5) (bNil))))))
  (sRet (eC (.bl false)))
  (sPass))
  (sSeq (sSet 6 (eB2 subV (eB2 ixDV (eVar 3) (eC (.int 0))) (eC (.int 1))))
  (sSeq (sSet 7 (eTup (aCons (eB2 ixDV (eVar 3) (eC (.int 0))) (aCons (eC1 tupleV (eComp (iterD (eB2 ixDV (eVar 3) (eC (.int 1)))) (.tp [.nm 8, .nm 9]) (tyes) (q_law_1) [8, 9])) (aNil)))))
  (sSeq (sIf (bNot (asT (eCall 2 (d__law_same 12) (bCons (eLst (aCons (eCall 4 (d__law_told) (bCons (eC (.int 1)) (bCons (eVar 3) (bCons (eC .non) (bCons (eC .non) (bNil)))))) (aCons (eCall 4 (d__law_told) (bCons (eC (.int 1)) (bCons (eVar 7) (bCons (eC .non) (bCons (eC .non) (bNil)))))) (aCons (eCall 4 (d__law_told) (bCons (eC (.int 2)) (bCons (eVar 3) (bCons (eVar 4) (bCons (eC .non) (bNil)))))) (aNil))))) (bCons (eLst (aCons (eVar 7) (aCons (eVar 3) (aCons (eTup (aCons (eB2 ixDV (eVar 3) (eC (.int 0))) (aCons (eB2 addV (eB2 ixDV (eVar 3) (eC (.int 1))) (eB2 ixDV (eVar 4) (eC (.int 1)))) (aNil)))) (aNil))))) (bNil))))))
  (sRet (eC (.bl false)))
  (sPass))
  (sSeq (sFg [10, 11, 12, 13, 15] (sFor (argIt (a1 rg1) (aCons (eC (.int 4)) (aNil))) (.nm 10)
  (l_law_1)))
  (sSeq (sSet 17 (eCall 2 (d__law_pick) (bRef (eVar 1) (bCons (eLst (aCons (eB2 ixDV (eVar 3) (eC (.int 0))) (aCons (eC (.int 32)) (aCons (eB2 addV (eB2 ixDV (eVar 3) (eC (.int 0))) (eCall 2 (d__law_take) (bRef (eVar 1) (bCons (eC (.int 9)) (bNil))))) (aCons (eC (.int 12)) (aNil)))))) (bNil)))))
  (sSeq (sSet 14 (eCall 2 (d__law_take) (bRef (eVar 1) (bCons (eB2 addV (eB2 subV (eVar 17) (eB2 ixDV (eVar 3) (eC (.int 0)))) (eC (.int 1))) (bNil)))))
  (sSeq (sSet 18 (eTup (aCons (eVar 17) (aCons (eC1 tupleV (eComp (iterD (eB2 ixDV (eVar 3) (eC (.int 1)))) (.tp [.nm 8, .nm 9]) (tyes) (q_law_5) [8, 9])) (aNil)))))
  (sSeq (sSet 11 (eCall 2 (d__law_values) (bRef (eVar 1) (bCons (eVar 17) (bNil)))))
  (sSeq (sIf (bOr (bNot (asT (eCall 2 (d__law_same 12) (bCons (eCall 4 (d__law_told) (bCons (eC (.int 3)) (bCons (eVar 3) (bCons (eVar 17) (bCons (eVar 14) (bNil)))))) (bCons (eVar 18) (bNil)))))) (asB (eB2 neV (eCall 2 (d__law_out) (bCons (eB2 ixDV (eVar 18) (eC (.int 1))) (bCons (eVar 11) (bNil)))) (eB2 addV (eB2 addV (eSl (eVar 11) (oN) (oI (eVar 14))) (eCall 2 (d__law_out) (bCons (eB2 ixDV (eVar 3) (eC (.int 1))) (bCons (eSl (eVar 11) (oI (eVar 14)) (oI (eB2 addV (eVar 14) (eB2 ixDV (eVar 3) (eC (.int 0)))))) (bNil))))) (eSl (eVar 11) (oI (eB2 addV (eVar 14) (eB2 ixDV (eVar 3) (eC (.int 0))))) (oN))))))
  (sRet (eC (.bl false)))
  (sPass))
  (sSeq (sSet 13 (eComp (iterD (eLst (aCons (eTup (aCons (eC (.int 33)) (aCons (eC (.int 0)) (aNil)))) (aCons (eTup (aCons (eC (.int 0)) (aCons (eC (.int 0)) (aNil)))) (aCons (eTup (aCons (eVar 17) (aCons (eB2 addV (eB2 subV (eVar 17) (eB2 ixDV (eVar 3) (eC (.int 0)))) (eC (.int 1))) (aNil)))) (aCons (eTup (aCons (eVar 17) (aCons (eNeg (eC (.int 1))) (aNil)))) (aCons (eTup (aCons (eC .non) (aCons (eC (.int 0)) (aNil)))) (aCons (eTup (aCons (eVar 17) (aCons (eC (.bl true)) (aNil)))) (aCons (eTup (aCons (eB2 subV (eB2 ixDV (eVar 3) (eC (.int 0))) (eC (.int 1))) (aCons (eC (.int 0)) (aNil)))) (aCons (eTup (aCons (eC (.str "9")) (aCons (eC (.int 0)) (aNil)))) (aNil))))))))))) (.tp [.nm 16, .nm 19]) (tyes) (q_law_6) [16, 19]))
  (sSeq (sSet 20 (eCall 1 (d__law_bad_net) (bRef (eVar 1) (bNil))))
  (sSeq (sSet 13 (eB2 addV (eVar 13) (eLst (aCons (eCall 4 (d__law_told) (bCons (eC (.int 0)) (bCons (eVar 20) (bCons (eC .non) (bCons (eC .non) (bNil)))))) (aCons (eCall 4 (d__law_told) (bCons (eC (.int 1)) (bCons (eVar 20) (bCons (eC .non) (bCons (eC .non) (bNil)))))) (aCons (eCall 4 (d__law_told) (bCons (eC (.int 2)) (bCons (eVar 20) (bCons (eVar 3) (bCons (eC .non) (bNil)))))) (aCons (eCall 4 (d__law_told) (bCons (eC (.int 2)) (bCons (eVar 3) (bCons (eVar 20) (bCons (eC .non) (bNil)))))) (aCons (eCall 4 (d__law_told) (bCons (eC (.int 3)) (bCons (eVar 20) (bCons (eC (.int 0)) (bCons (eC .non) (bNil)))))) (aNil)))))))))
  (sIf (asB (eB2 neV (eVar 13) (eB2 mulTV (eLst (aCons (eTup (aCons (eC (.str "refused")) (aCons (eC (.str "not right")) (aNil)))) (aNil))) (eC (.int 13)))))
  (sRet (eC (.bl false)))
  (sPass))))))))))))))))))
def b_law : S → SR :=
  sSeq (sSet 1 (eCall 1 (d__law_draws) (bCons (eVar 0) (bNil))))
  (sSeq (sFg [2, 3, 4, 5, 6, 7, 10, 11, 12, 13, 14, 15, 17, 18, 20] (sFor (argIt (a1 rg1) (aCons (eC (.int 6)) (aNil))) (.nm 2)
  (l_law_2)))
  (sSeq (sPar 18 21 (eTup (aCons (eC (.int 3)) (aCons (eB2 mulTV (eTup (aCons (eTup (aCons (eC (.int 0)) (aCons (eC (.int 1)) (aNil)))) (aNil))) (eC (.int 300))) (aNil)))) (eTup (aCons (eC (.int 3)) (aCons (eB2 mulTV (eTup (aCons (eTup (aCons (eC (.int 0)) (aCons (eC (.int 2)) (aNil)))) (aNil))) (eCall 2 (d__law_pick) (bRef (eVar 1) (bCons (eLst (aCons (eC (.int 300)) (aCons (eC (.int 301)) (aNil)))) (bNil))))) (aNil)))))
  (sSeq (sSet 5 (eIf (asB (eB2 eqV (eC1 lenDV (eB2 ixDV (eVar 21) (eC (.int 1)))) (eC (.int 300)))) (eTup (aCons (eC (.int 3)) (aCons (eB2 addV (eB2 ixDV (eVar 18) (eC (.int 1))) (eB2 ixDV (eVar 21) (eC (.int 1)))) (aNil)))) (eTup (aCons (eC (.str "refused")) (aCons (eC (.str "too large")) (aNil))))))
  (sRet (eCall 2 (d__law_same 12) (bCons (eLst (aCons (eCall 4 (d__law_told) (bCons (eC (.int 2)) (bCons (eVar 18) (bCons (eVar 21) (bCons (eC .non) (bNil)))))) (aCons (eCall 4 (d__law_told) (bCons (eC (.int 2)) (bCons (eVar 18) (bCons (eTup (aCons (eC (.int 2)) (aCons (eB2 mulTV (eTup (aCons (eTup (aCons (eC (.int 0)) (aCons (eC (.int 1)) (aNil)))) (aNil))) (eC (.int 600))) (aNil)))) (bCons (eC .non) (bNil)))))) (aNil)))) (bCons (eLst (aCons (eVar 5) (aCons (eTup (aCons (eC (.str "refused")) (aCons (eC (.str "no answer")) (aNil)))) (aNil)))) (bNil))))))))
def d_law : FD := fnD 22 b_law
theorem e_law {a0 : SV} {rf : Ob} : d_law [a0] rf = fnEnd (b_law ⟨[a0, .u, .u, .u, .u, .u, .u, .u, .u, .u, .u, .u, .u, .u, .u, .u, .u, .u, .u, .u, .u, .u], rf⟩) := rfl
/-! ## what the head tells -/
structure Facts (c : Ct) : Prop where
  b_abs : c.mg "abs" = none
  b_all : c.mg "all" = none
  b_bool : c.mg "bool" = none
  b_dict : c.mg "dict" = none
  b_int : c.mg "int" = none
  b_isinstance : c.mg "isinstance" = none
  b_len : c.mg "len" = none
  b_list : c.mg "list" = none
  b_max : c.mg "max" = none
  b_min : c.mg "min" = none
  b_range : c.mg "range" = none
  b_reversed : c.mg "reversed" = none
  b_sorted : c.mg "sorted" = none
  b_str : c.mg "str" = none
  b_tuple : c.mg "tuple" = none
  i_WIDEST : ∃ t, c.mg "WIDEST" = some (.int (32) t)
  i_MOST_GATES : ∃ t, c.mg "MOST_GATES" = some (.int (600) t)
  x_NoAnswer : XC c "NoAnswer"
  x_NotRight : XC c "NotRight"
  x_TooLarge : XC c "TooLarge"
  g_NoAnswer : ∃ C, c.mg "NoAnswer" = some (.ref C)
  g_NotRight : ∃ C, c.mg "NotRight" = some (.ref C)
  g_SwapError : ∃ C, c.mg "SwapError" = some (.ref C)
  g_TooLarge : ∃ C, c.mg "TooLarge" = some (.ref C)
  isa : XT c isa
  f__law_draws : ∃ f fd, FunD c.K "_law_draws" "_law_draws" (defArgs (topS 20)) (defBody (topS 20)) (defScope (topS 20)) [] [] f fd ∧ c.mg "_law_draws" = some (.ref f)
  f__law_same : ∃ f fd, FunD c.K "_law_same" "_law_same" (defArgs (topS 23)) (defBody (topS 23)) (defScope (topS 23)) [] [] f fd ∧ c.mg "_law_same" = some (.ref f)
  f__law_take : ∃ f fd, FunD c.K "_law_take" "_law_take" (defArgs (topS 21)) (defBody (topS 21)) (defScope (topS 21)) [] [] f fd ∧ c.mg "_law_take" = some (.ref f)
  f__law_net : ∃ f fd, FunD c.K "_law_net" "_law_net" (defArgs (topS 24)) (defBody (topS 24)) (defScope (topS 24)) [] [] f fd ∧ c.mg "_law_net" = some (.ref f)
  f__law_upright : ∃ f fd, FunD c.K "_law_upright" "_law_upright" (defArgs (topS 29)) (defBody (topS 29)) (defScope (topS 29)) [] [] f fd ∧ c.mg "_law_upright" = some (.ref f)
  f__law_pick : ∃ f fd, FunD c.K "_law_pick" "_law_pick" (defArgs (topS 22)) (defBody (topS 22)) (defScope (topS 22)) [] [] f fd ∧ c.mg "_law_pick" = some (.ref f)
  f__law_values : ∃ f fd, FunD c.K "_law_values" "_law_values" (defArgs (topS 26)) (defBody (topS 26)) (defScope (topS 26)) [] [] f fd ∧ c.mg "_law_values" = some (.ref f)
  f__law_bad_net : ∃ f fd, FunD c.K "_law_bad_net" "_law_bad_net" (defArgs (topS 27)) (defBody (topS 27)) (defScope (topS 27)) [] [] f fd ∧ c.mg "_law_bad_net" = some (.ref f)
  f__law_out : ∃ f fd, FunD c.K "_law_out" "_law_out" (defArgs (topS 25)) (defBody (topS 25)) (defScope (topS 25)) [] [] f fd ∧ c.mg "_law_out" = some (.ref f)
  f_check : ∃ f fd, FunD c.K "check" "check" (defArgs (topS 7)) (defBody (topS 7)) (defScope (topS 7)) [] [] f fd ∧ c.mg "check" = some (.ref f)
  f_is_integer : ∃ f fd, FunD c.K "is_integer" "is_integer" (defArgs (topS 5)) (defBody (topS 5)) (defScope (topS 5)) [] [] f fd ∧ c.mg "is_integer" = some (.ref f)
  f_is_within : ∃ f fd, FunD c.K "is_within" "is_within" (defArgs (topS 6)) (defBody (topS 6)) (defScope (topS 6)) [] [] f fd ∧ c.mg "is_within" = some (.ref f)
  f_is_gate : ∃ f fd, FunD c.K "is_gate" "is_gate" (defArgs (topS 11)) (defBody (topS 11)) (defScope (topS 11)) [] [] f fd ∧ c.mg "is_gate" = some (.ref f)
  f_is_net : ∃ f fd, FunD c.K "is_net" "is_net" (defArgs (topS 12)) (defBody (topS 12)) (defScope (topS 12)) [] [] f fd ∧ c.mg "is_net" = some (.ref f)
  f_check_net : ∃ f fd, FunD c.K "check_net" "check_net" (defArgs (topS 13)) (defBody (topS 13)) (defScope (topS 13)) [] [] f fd ∧ c.mg "check_net" = some (.ref f)
  f_joint : ∃ f fd, FunD c.K "joint" "joint" (defArgs (topS 16)) (defBody (topS 16)) (defScope (topS 16)) [] [] f fd ∧ c.mg "joint" = some (.ref f)
  f_set_out : ∃ f fd, FunD c.K "set_out" "set_out" (defArgs (topS 18)) (defBody (topS 18)) (defScope (topS 18)) [] [] f fd ∧ c.mg "set_out" = some (.ref f)
  f_upright_by : ∃ f fd, FunD c.K "upright_by" "upright_by" (defArgs (topS 14)) (defBody (topS 14)) (defScope (topS 14)) [] [] f fd ∧ c.mg "upright_by" = some (.ref f)
  f_upright : ∃ f fd, FunD c.K "upright" "upright" (defArgs (topS 15)) (defBody (topS 15)) (defScope (topS 15)) [] [] f fd ∧ c.mg "upright" = some (.ref f)
  f_mirror : ∃ f fd, FunD c.K "mirror" "mirror" (defArgs (topS 17)) (defBody (topS 17)) (defScope (topS 17)) [] [] f fd ∧ c.mg "mirror" = some (.ref f)
  f__law_told : ∃ f fd, FunD c.K "_law_told" "_law_told" (defArgs (topS 28)) (defBody (topS 28)) (defScope (topS 28)) [] [] f fd ∧ c.mg "_law_told" = some (.ref f)
  f_law : ∃ f fd, FunD c.K "law" "law" (defArgs (topS 30)) (defBody (topS 30)) (defScope (topS 30)) [] [] f fd ∧ c.mg "law" = some (.ref f)
theorem Facts.at {c : Ct} (T : Facts c) {H : Hp} : Facts (c.at H) := ⟨T.b_abs, T.b_all, T.b_bool, T.b_dict, T.b_int, T.b_isinstance, T.b_len, T.b_list, T.b_max, T.b_min, T.b_range, T.b_reversed, T.b_sorted, T.b_str, T.b_tuple, T.i_WIDEST, T.i_MOST_GATES, T.x_NoAnswer, T.x_NotRight, T.x_TooLarge, T.g_NoAnswer, T.g_NotRight, T.g_SwapError, T.g_TooLarge, T.isa.at H, T.f__law_draws, T.f__law_same, T.f__law_take, T.f__law_net, T.f__law_upright, T.f__law_pick, T.f__law_values, T.f__law_bad_net, T.f__law_out, T.f_check, T.f_is_integer, T.f_is_within, T.f_is_gate, T.f_is_net, T.f_check_net, T.f_joint, T.f_set_out, T.f_upright_by, T.f_upright, T.f_mirror, T.f__law_told, T.f_law⟩
end L_k21
end

section
set_option Elab.async false
set_option linter.all false
set_option maxRecDepth 100000
set_option autoImplicit false
namespace L_k21
open PySem Y Z M45 Net
local macro_rules
  | `(tactic| simp! [$args,*]) => `(tactic| simp -implicitDefEqProofs -dsimp only [Z.wR_ok, Z.wR_ex, Z.wR_bad, Z.wR_bind, Z.bind_ok, Z.bind_ex, Z.bind_bad, Z.stm_ok, Z.stm_ex, Z.stm_bad, Z.wS_stm, Z.wS_seq, Z.wS_nx, Z.wS_rt, Z.wS_bk, Z.wS_ct, Z.wS_ex, Z.wS_bad, Z.wR_ite, Z.wR_itebad, Z.wS_ite, Z.wS_itebad, Z.wS_fg, Z.wF_ok, Z.wF_ex, Z.retV_p, Z.retV_f, Z.retV_s, Z.retS_p, Z.retS_o, Z.eVar_eq, Z.eVarS_p, Z.eVarS_o, Z.eVarS_l, Z.eVarS_r, Z.peek_p, Z.peek_f, Z.peek_r, Z.peek_s, Z.peekS_p, Z.peekS_o, Z.peekS_l, Z.peekS_r, Z.val_lst, Z.val_dk, Z.val_dt, Z.takeR_p, Z.takeR_f, Z.takeR_r, Z.takeR_s, Z.takeS_p, Z.takeS_o, Z.takeB_some, Z.takeF_some, Z.keep1_eq, Z.locked_eq, Z.get_0, Z.set_0, Z.get_1, Z.set_1, Z.get_2, Z.set_2, Z.get_3, Z.set_3, Z.get_4, Z.set_4, Z.get_5, Z.set_5, Z.get_6, Z.set_6, Z.get_7, Z.set_7, Z.get_8, Z.set_8, Z.get_9, Z.set_9, Z.get_10, Z.set_10, Z.get_11, Z.set_11, Z.get_12, Z.set_12, Z.get_13, Z.set_13, Z.get_14, Z.set_14, Z.get_15, Z.set_15, Z.get_16, Z.set_16, Z.get_17, Z.set_17, Z.get_18, Z.set_18, Z.get_19, Z.set_19, Z.get_20, Z.set_20, Z.get_21, Z.set_21, Z.get_22, Z.set_22, Z.get_23, Z.set_23, Z.get_24, Z.set_24, Z.get_25, Z.set_25, Z.optR_some, Z.wR_optR, Z.opR_some, Z.op1_some, Z.eC_eq, Z.eB2_eq, Z.eC1_eq, Z.asB_eq, Z.boolR_bl, Z.truR_some, Z.truB_some, Z.asT_eq, Z.eNeg_eq, Z.eNegR_int, Z.tyes_eq, Z.bAnd_eq, Z.bOr_eq, Z.bNot_eq, Z.eB_eq, Z.eIf_eq, Z.eAnd_eq, Z.eOr_eq, Z.eNot_eq, Z.aNil_eq, Z.aCons_eq, Z.eTup_eq, Z.eLst_eq, Z.chB_bl, Z.eChain_eq, Z.bNil_eq, Z.bCons_eq, Z.refR_none, Z.bRef_eq, Z.pf_p, Z.pf_f, Z.pfR_p, Z.pfR_f, Z.pfR_ex, Z.wR_pfR, Z.wR_bkR, Z.callD_eq, Z.calE_none, Z.calE_s, Z.calE_r, Z.calS_o, Z.isObj_lst, Z.isObj_dk, Z.eCall_eq, Z.vcT_some, Z.vcR_fn, Z.eVCall_eq, Z.muO_some, Z.muR_some, Z.wR_muO, Z.wR_muR, Z.muS_o, Z.mutAt_s, Z.mutAt_r, Z.eMut_eq, Z.obind_some, Z.omap_some, Z.omap_none, Z.appF_eq, Z.tyName_lst, Z.meR_some, Z.eMeth_eq, Z.rgR_int, Z.rgR2_int, Z.eRg1_eq, Z.eRg2_eq, Z.mkSeq_t, Z.mkSeq_f, Z.revR_lst, Z.eListRev_eq, Z.oN_eq, Z.oR_int, Z.oI_eq, Z.slR_some, Z.eSl_eq, Z.cutVal_lst, Z.cutVal_tup, Z.sl3R_lst, Z.eSl3_eq, Z.eDict0_eq, Z.kNil_eq, Z.kCons_eq, Z.dkR_some, Z.eDict_eq, Z.gtR_s, Z.gtR_n, Z.gtR2_some, Z.eGet2_eq, Z.sPass_eq, Z.sBrk_eq, Z.sCnt_eq, Z.sIf_eq, Z.sRet_eq, Z.sRetN_eq, Z.sExpr_eq, Z.sRaise_eq, Z.sSet_eq, Z.sFg_eq, Z.store_eq, Z.store0_p, Z.store0_f, Z.store0_r, Z.store0_s, Z.asgR_some, Z.sAsg_eq, Z.asg_nm, Z.asgs_nil, Z.asgC_some, Z.asgs_cons, Z.sPar_eq, Z.par2_eq, Z.isS_p, Z.isS_f, Z.isS_r, Z.isS_s, Z.augR_p, Z.augO_some, Z.augS_p, Z.sAug_eq, Z.lone_nx, Z.wS_lone, Z.sAsgX_eq, Z.sAsgX2_eq, Z.tfN_eq, Z.tfS_eq, Z.tfT_eq, Z.tfs_nil, Z.tfs_cons, Z.muO2_some, Z.muS2_o, Z.mutS_s, Z.fgS_nil, Z.fgS_cons, Z.fg_nx, Z.fg_rt, Z.fg_bk, Z.fg_ct, Z.fg_ex, Z.seq_nx', Z.seq_rt', Z.seq_bk', Z.seq_ct', Z.seq_ex', Z.lqu_none, Z.lqu_some, Z.sFor_eq, Z.unlock_none, Z.unlS_l, Z.unlock_some, Z.itO_some, Z.wR_itO, Z.argIt_eq, Z.a1_eq, Z.a2_eq, Z.a3_eq, Z.iterD_eq, Z.itR_p, Z.itR_f, Z.itR_s, Z.itS_o, Z.itS_l, Z.seqItems_lst, Z.seqItems_tup, Z.seqItems_scr, Z.wipe_nil, Z.wipe_cons, Z.rest_nil, Z.rest_cons, Z.unlk_nil, Z.unlk_cons, Z.lend_nil, Z.lend_cons, Z.lend_p, Z.lend_u, Z.lend_r, Z.finC_none, Z.finS_l, Z.finC_some, Z.noex_ok, Z.wR_noex, Z.lbf_none, Z.lbf_some, Z.eComp_eq, Z.isDict_dk, Z.isDict_lst, Z.iv_snoc, Z.eRv_eq, Z.rvR_tup, Z.rvR_lst, Z.sTryMany_eq, Z.tmR_nx, Z.tmR_rt, Z.tmR_ex, Z.compL_nil, Z.compL_cons, Z.compA_some, Z.isDk_p, Z.isDk_t, Z.isDk_s, Z.isDk_o, Z.sForN_eq, Z.modV_int, Z.fdivV_int, Z.mulT_int1, Z.mulT_int2, Z.imul_int1, Z.imul_int2, Z.all_1, Z.all_2, Z.all_3, Z.bkR_p, Z.bkR_f, Z.asg_tp, Z.chB_bl, Z.addV_int, Z.addV_lst, Z.addV_tup, Z.subV_int, Z.iaddV_int, Z.ltV_int, Z.leV_int, Z.gtV_int, Z.geV_int, Z.isV_non, Z.isnV_non, Z.len_lst, Z.len_tup, Z.len_scr, Z.abs_int, Z.int_int, Z.int_bl, Z.max2_int, Z.min2_int, Z.list_lst, Z.list_tup, Z.tuple_lst, Z.tuple_tup, Z.tru_non, Z.tru_bl, Z.tru_int, Z.tru_lst, Z.tru_tup, Z.ix_t0, Z.ix_t1, Z.ix_t2, Z.ix_l0, Z.ix_l1, Z.rgL_nat, Z.seq_scr, Z.zip_lst, Z.zip_tup, Z.enum_lst, Z.setL_lst, Z.eqV_int', Z.neV_int, Z.eqV_bl, Z.neV_bl, Z.isi_non_int, Z.isi_non_bool, Z.isi_non_str, Z.isi_non_tuple, Z.isi_non_list, Z.isi_non_dict, Z.isi_bl_int, Z.isi_bl_bool, Z.isi_bl_str, Z.isi_bl_tuple, Z.isi_bl_list, Z.isi_bl_dict, Z.isi_int_int, Z.isi_int_bool, Z.isi_int_str, Z.isi_int_tuple, Z.isi_int_list, Z.isi_int_dict, Z.isi_str_int, Z.isi_str_bool, Z.isi_str_str, Z.isi_str_tuple, Z.isi_str_list, Z.isi_str_dict, Z.isi_tup_int, Z.isi_tup_bool, Z.isi_tup_str, Z.isi_tup_tuple, Z.isi_tup_list, Z.isi_tup_dict, Z.isi_lst_int, Z.isi_lst_bool, Z.isi_lst_str, Z.isi_lst_tuple, Z.isi_lst_list, Z.isi_lst_dict, Z.isi_scr_int, Z.isi_scr_bool, Z.isi_scr_str, Z.isi_scr_tuple, Z.isi_scr_list, Z.isi_scr_dict, Z.isi_dk_int, Z.isi_dk_bool, Z.isi_dk_str, Z.isi_dk_tuple, Z.isi_dk_list, Z.isi_dk_dict, Z.isi_dt_int, Z.isi_dt_bool, Z.isi_dt_str, Z.isi_dt_tuple, Z.isi_dt_list, Z.isi_dt_dict, Z.isN_non, Z.isN_bl, Z.isN_int, Z.isN_str, Z.isN_tup, Z.isN_lst, Z.isN_scr, Z.isN_dk, Z.isN_dt, Int.natCast_zero, Int.natCast_one, Int.cast_ofNat_Int, reduceCtorEq, List.nil_append, List.cons_append, Z.isL_p, Z.isL_o, Z.isL_u, Z.isL_r, Int.reduceEq, Int.reduceLT, Int.reduceLE, Int.reduceAdd, Int.reduceSub, Int.reduceMul, Int.reduceNe, Int.reduceNeg, implies_true, false_implies, true_implies, and_self, ↓reduceIte, Bool.not_true, Bool.not_false, Bool.and_true, Bool.true_and, Bool.false_and, Bool.and_false, Bool.or_false, Bool.or_true, Bool.false_or, Bool.true_or, List.length_cons, List.length_nil, List.length_map, Option.some.injEq, exists_eq_left', exists_eq_left, true_and, and_true, Nat.reduceAdd, Nat.reduceLT, Nat.reduceMul, Nat.reduceSub, Nat.reduceLeDiff, Nat.reduceEqDiff, Bool.false_eq_true, decide_eq_true_eq, ne_eq, not_false_eq_true, not_true_eq_false, if_true, if_false, eq_self, Option.isSome_some, Option.isSome_none, ite_true, ite_false, decide_true, decide_false, beq_self_eq_true, List.lookup_cons, or_true, true_or, or_false, false_or, and_false, false_and, $args,*])
/-! ## drawing -/
theorem take_ok (D : List Int) (b : Int) (hb : 0 < b) : ∃ (x : Int) (D' : List Int), d__law_take [.r, .p (.int b)] (.lst (iv D)) = .ok (.p (.int x)) (.lst (iv D')) ∧ 0 ≤ x ∧ x < b := by
  cases hD : D.reverse with
  | nil =>
    have : D = [] := by simpa using hD
    subst this
    refine ⟨0, [], ?_, by omega, hb⟩
    refine wF_iff ?_
    rw [e__law_take, wF_end]
    simp! [b__law_take, Z.sSeq_eq, List.map_nil]
  | cons x r =>
    have e : D = r.reverse ++ [x] := by
      have := congrArg List.reverse hD
      simpa using this
    subst e
    refine ⟨x % b, r.reverse, ?_, Int.emod_nonneg _ (by omega), Int.emod_lt_of_pos _ hb⟩
    refine wF_iff ?_
    rw [e__law_take, wF_end]
    have e1 : popF [] (.lst (iv (r.reverse ++ [x]))) = some (.int x, .lst (iv r.reverse)) := by
      simp [popF, iv]
    have e2 : ¬ ((r.reverse ++ [x]).length : Int) = 0 := by simp; omega
    simp! [b__law_take, Z.sSeq_eq, e1, e2, modV_int hb]
theorem ixl_nat {vs : List Val} {k : Nat} (h : k < vs.length) : ixDV (.lst vs) (.int (k : Int)) = some (.p vs[k]) := by
  rw [Z.ixD_lst, atI_nat h]; rfl
theorem ixt_nat {vs : List Val} {k : Nat} (h : k < vs.length) : ixDV (.tup vs) (.int (k : Int)) = some (.p vs[k]) := by
  rw [Z.ixD_tup, atI_nat h]; rfl
theorem draws_ok (ns : List Int) (hn : ns.length ≤ 63) : ∃ D : List Int, D.length ≤ 62 * 63 + 5000 ∧ d__law_draws [.p (.scr ns)] .none = .ok (.f (.lst (iv D))) .none := by
  suffices h : wF (d__law_draws [.p (.scr ns)] .none) (fun v b => b = .none ∧ ∃ D : List Int, D.length ≤ 62 * 63 + 5000 ∧ v = .f (.lst (iv D))) noE by
    obtain ⟨v, b, h1, rfl, D, hD, rfl⟩ := wF.ex h
    exact ⟨D, hD, h1⟩
  rw [e__law_draws, wF_end]
  unfold b__law_draws
  have p18 : powV (.int 10) (.int 18) = some (.p (.int 1000000000000000000)) := by kernel_rfl
  have r60 : rg1 (.int 60) = some ((List.range 60).map fun (k : Nat) => Val.int (k : Int)) := Z.rg1_nat (n := 60) (by omega)
  (try dsimp only); rw [Z.sSeq_eq, Z.wS_seq]
  simp! []
  (try dsimp only); rw [Z.sSeq_eq, Z.wS_seq]
  simp! []
  refine w_forM Val.int ns (fun k st => ∃ D : List Int, D.length ≤ 62 * k ∧ st = ⟨[.p (.scr ns), .o (.lst (iv D)), .u, .u, .u, .u, .u], .none⟩) ⟨[], by simp, rfl⟩ ?_ ?_
  · rintro k hk _ ⟨D, hD, rfl⟩
    simp! []
    unfold l__law_draws_2
    rw [Z.sFg_eq, Z.wS_fg]
    (try dsimp only); rw [Z.sSeq_eq, Z.wS_seq]
    simp! []
    (try dsimp only); rw [Z.sSeq_eq, Z.wS_seq]
    have hl : D.length < 16777216 := by omega
    have hl2 : (D.length + 1) < 16777216 := by omega
    have fin : ∀ (P : Po) (num : Int) (D2 : List Int), D2.length ≤ 62 * k + 2 → (∀ (D : List Int) (num : Int), D.length ≤ 62 * k + 62 → P.nx ⟨[.p (.scr ns), .o (.lst (iv D)), .p (.int ns[k]), .p (.int num), .u, .u, .u], .none⟩) →
        wS (forL (.nm 5) l__law_draws_1 ((List.range 60).map fun (k : Nat) => Val.int (k : Int)) ⟨[.p (.scr ns), .o (.lst (iv D2)), .p (.int ns[k]), .p (.int num), .u, .u, .u], .none⟩) P := by
      intro P num D2 hD2 hP
      refine w_forR 60 (fun j st => ∃ (D3 : List Int) (num : Int), D3.length ≤ 62 * k + 2 + j ∧ st = ⟨[.p (.scr ns), .o (.lst (iv D3)), .p (.int ns[k]), .p (.int num), .u, .u, .u], .none⟩) ⟨D2, num, by omega, rfl⟩ ?_ ?_
      · rintro j hj _ ⟨D3, num, hD3, rfl⟩
        have hl3 : D3.length < 16777216 := by omega
        unfold l__law_draws_1
        by_cases h0 : 0 < num
        · simp! [h0, hl3, Z.sSeq_eq]
          exact ⟨D3 ++ [num % 997], num / 997, by simp; omega, rfl⟩
        · simp! [h0]
          exact ⟨D3, num, by omega, rfl⟩
      · rintro _ ⟨D3, num, hD3, rfl⟩
        exact hP D3 num (by omega)
    have hl3 : ∀ a : Int, (D ++ [a]).length < 16777216 := fun a => by simp; omega
    by_cases hb : (if ns[k] < 0 then -ns[k] else ns[k]) < 1000000000000000000
    · simp! [p18, hb, hl, hl3, Z.sSeq_eq, r60]
      refine fin _ _ _ (by simp; omega) fun D num hD => ?_
      simp! []
      exact ⟨D, by omega, rfl⟩
    · simp! [p18, hb, r60]
      refine fin _ _ _ (by omega) fun D num hD => ?_
      simp! []
      exact ⟨D, by omega, rfl⟩
  · rintro _ ⟨D, hD, rfl⟩
    simp! []
    (try dsimp only); rw [Z.sSeq_eq, Z.wS_seq]
    simp! []
    (try dsimp only); rw [Z.sSeq_eq, Z.wS_seq]
    have last : ∀ (P : Po) (s : Int), (∀ (D2 : List Int) (s : Int), D2.length ≤ 62 * 63 + 5000 → P.nx ⟨[.p (.scr ns), .o (.lst (iv D2)), .u, .u, .u, .u, .p (.int s)], .none⟩) →
        wS (forL (.nm 5) l__law_draws_3 ((List.range 4000).map fun (k : Nat) => Val.int (k : Int)) ⟨[.p (.scr ns), .o (.lst (iv D)), .u, .u, .u, .u, .p (.int s)], .none⟩) P := by
      intro P s hP
      refine w_forR 4000 (fun j st => ∃ (D3 : List Int) (s : Int), D3.length ≤ 62 * 63 + j ∧ st = ⟨[.p (.scr ns), .o (.lst (iv D3)), .u, .u, .u, .u, .p (.int s)], .none⟩) ⟨D, s, by omega, rfl⟩ ?_ ?_
      · rintro j hj _ ⟨D3, s, hD3, rfl⟩
        have hl3 : D3.length < 16777216 := by omega
        unfold l__law_draws_3
        simp! [hl3, Z.sSeq_eq]
        exact ⟨_, _, by simp; omega, rfl⟩
      · rintro _ ⟨D3, s, hD3, rfl⟩
        exact hP D3 s (by omega)
    have rN : rg1 (.int 4000) = some ((List.range 4000).map fun (k : Nat) => Val.int (k : Int)) := Z.rg1_nat (n := 4000) (by omega)
    cases ns with
    | nil =>
      simp! []
      (try dsimp only); rw [Z.sSeq_eq, Z.wS_seq]
      simp! [rN]
      refine last _ _ fun D2 s hD2 => ?_
      simp! [← List.map_reverse]
      exact ⟨D2.reverse, by simpa using hD2, rfl⟩
    | cons n ns =>
      have h1 : (0 : Int) < ((ns.length + 1 : Nat) : Int) := by omega
      have h2 : L2.atI (n :: ns) 0 = some n := atI_nat (l := n :: ns) (n := 0) (by simp)
      simp! [h1, Z.ixD_scr, h2]
      (try dsimp only); rw [Z.sSeq_eq, Z.wS_seq]
      simp! [rN]
      refine last _ _ fun D2 s hD2 => ?_
      simp! [← List.map_reverse]
      exact ⟨D2.reverse, by simpa using hD2, rfl⟩
end L_k21
end

section
set_option Elab.async false
set_option linter.all false
set_option maxRecDepth 100000
set_option autoImplicit false
namespace L_k21
open PySem Y Z M45 Net
local macro_rules
  | `(tactic| simp! [$args,*]) => `(tactic| simp -implicitDefEqProofs -dsimp only [Z.wR_ok, Z.wR_ex, Z.wR_bad, Z.wR_bind, Z.bind_ok, Z.bind_ex, Z.bind_bad, Z.stm_ok, Z.stm_ex, Z.stm_bad, Z.wS_stm, Z.wS_seq, Z.wS_nx, Z.wS_rt, Z.wS_bk, Z.wS_ct, Z.wS_ex, Z.wS_bad, Z.wR_ite, Z.wR_itebad, Z.wS_ite, Z.wS_itebad, Z.wS_fg, Z.wF_ok, Z.wF_ex, Z.retV_p, Z.retV_f, Z.retV_s, Z.retS_p, Z.retS_o, Z.eVar_eq, Z.eVarS_p, Z.eVarS_o, Z.eVarS_l, Z.eVarS_r, Z.peek_p, Z.peek_f, Z.peek_r, Z.peek_s, Z.peekS_p, Z.peekS_o, Z.peekS_l, Z.peekS_r, Z.val_lst, Z.val_dk, Z.val_dt, Z.takeR_p, Z.takeR_f, Z.takeR_r, Z.takeR_s, Z.takeS_p, Z.takeS_o, Z.takeB_some, Z.takeF_some, Z.keep1_eq, Z.locked_eq, Z.get_0, Z.set_0, Z.get_1, Z.set_1, Z.get_2, Z.set_2, Z.get_3, Z.set_3, Z.get_4, Z.set_4, Z.get_5, Z.set_5, Z.get_6, Z.set_6, Z.get_7, Z.set_7, Z.get_8, Z.set_8, Z.get_9, Z.set_9, Z.get_10, Z.set_10, Z.get_11, Z.set_11, Z.get_12, Z.set_12, Z.get_13, Z.set_13, Z.get_14, Z.set_14, Z.get_15, Z.set_15, Z.get_16, Z.set_16, Z.get_17, Z.set_17, Z.get_18, Z.set_18, Z.get_19, Z.set_19, Z.get_20, Z.set_20, Z.get_21, Z.set_21, Z.get_22, Z.set_22, Z.get_23, Z.set_23, Z.get_24, Z.set_24, Z.get_25, Z.set_25, Z.optR_some, Z.wR_optR, Z.opR_some, Z.op1_some, Z.eC_eq, Z.eB2_eq, Z.eC1_eq, Z.asB_eq, Z.boolR_bl, Z.truR_some, Z.truB_some, Z.asT_eq, Z.eNeg_eq, Z.eNegR_int, Z.tyes_eq, Z.bAnd_eq, Z.bOr_eq, Z.bNot_eq, Z.eB_eq, Z.eIf_eq, Z.eAnd_eq, Z.eOr_eq, Z.eNot_eq, Z.aNil_eq, Z.aCons_eq, Z.eTup_eq, Z.eLst_eq, Z.chB_bl, Z.eChain_eq, Z.bNil_eq, Z.bCons_eq, Z.refR_none, Z.bRef_eq, Z.pf_p, Z.pf_f, Z.pfR_p, Z.pfR_f, Z.pfR_ex, Z.wR_pfR, Z.wR_bkR, Z.callD_eq, Z.calE_none, Z.calE_s, Z.calE_r, Z.calS_o, Z.isObj_lst, Z.isObj_dk, Z.eCall_eq, Z.vcT_some, Z.vcR_fn, Z.eVCall_eq, Z.muO_some, Z.muR_some, Z.wR_muO, Z.wR_muR, Z.muS_o, Z.mutAt_s, Z.mutAt_r, Z.eMut_eq, Z.obind_some, Z.omap_some, Z.omap_none, Z.appF_eq, Z.tyName_lst, Z.meR_some, Z.eMeth_eq, Z.rgR_int, Z.rgR2_int, Z.eRg1_eq, Z.eRg2_eq, Z.mkSeq_t, Z.mkSeq_f, Z.revR_lst, Z.eListRev_eq, Z.oN_eq, Z.oR_int, Z.oI_eq, Z.slR_some, Z.eSl_eq, Z.cutVal_lst, Z.cutVal_tup, Z.sl3R_lst, Z.eSl3_eq, Z.eDict0_eq, Z.kNil_eq, Z.kCons_eq, Z.dkR_some, Z.eDict_eq, Z.gtR_s, Z.gtR_n, Z.gtR2_some, Z.eGet2_eq, Z.sPass_eq, Z.sBrk_eq, Z.sCnt_eq, Z.sIf_eq, Z.sRet_eq, Z.sRetN_eq, Z.sExpr_eq, Z.sRaise_eq, Z.sSet_eq, Z.sFg_eq, Z.store_eq, Z.store0_p, Z.store0_f, Z.store0_r, Z.store0_s, Z.asgR_some, Z.sAsg_eq, Z.asg_nm, Z.asgs_nil, Z.asgC_some, Z.asgs_cons, Z.sPar_eq, Z.par2_eq, Z.isS_p, Z.isS_f, Z.isS_r, Z.isS_s, Z.augR_p, Z.augO_some, Z.augS_p, Z.sAug_eq, Z.lone_nx, Z.wS_lone, Z.sAsgX_eq, Z.sAsgX2_eq, Z.tfN_eq, Z.tfS_eq, Z.tfT_eq, Z.tfs_nil, Z.tfs_cons, Z.muO2_some, Z.muS2_o, Z.mutS_s, Z.fgS_nil, Z.fgS_cons, Z.fg_nx, Z.fg_rt, Z.fg_bk, Z.fg_ct, Z.fg_ex, Z.seq_nx', Z.seq_rt', Z.seq_bk', Z.seq_ct', Z.seq_ex', Z.lqu_none, Z.lqu_some, Z.sFor_eq, Z.unlock_none, Z.unlS_l, Z.unlock_some, Z.itO_some, Z.wR_itO, Z.argIt_eq, Z.a1_eq, Z.a2_eq, Z.a3_eq, Z.iterD_eq, Z.itR_p, Z.itR_f, Z.itR_s, Z.itS_o, Z.itS_l, Z.seqItems_lst, Z.seqItems_tup, Z.seqItems_scr, Z.wipe_nil, Z.wipe_cons, Z.rest_nil, Z.rest_cons, Z.unlk_nil, Z.unlk_cons, Z.lend_nil, Z.lend_cons, Z.lend_p, Z.lend_u, Z.lend_r, Z.finC_none, Z.finS_l, Z.finC_some, Z.noex_ok, Z.wR_noex, Z.lbf_none, Z.lbf_some, Z.eComp_eq, Z.isDict_dk, Z.isDict_lst, Z.iv_snoc, Z.eRv_eq, Z.rvR_tup, Z.rvR_lst, Z.sTryMany_eq, Z.tmR_nx, Z.tmR_rt, Z.tmR_ex, Z.compL_nil, Z.compL_cons, Z.compA_some, Z.isDk_p, Z.isDk_t, Z.isDk_s, Z.isDk_o, Z.sForN_eq, Z.modV_int, Z.fdivV_int, Z.mulT_int1, Z.mulT_int2, Z.imul_int1, Z.imul_int2, Z.all_1, Z.all_2, Z.all_3, Z.bkR_p, Z.bkR_f, Z.asg_tp, Z.chB_bl, Z.addV_int, Z.addV_lst, Z.addV_tup, Z.subV_int, Z.iaddV_int, Z.ltV_int, Z.leV_int, Z.gtV_int, Z.geV_int, Z.isV_non, Z.isnV_non, Z.len_lst, Z.len_tup, Z.len_scr, Z.abs_int, Z.int_int, Z.int_bl, Z.max2_int, Z.min2_int, Z.list_lst, Z.list_tup, Z.tuple_lst, Z.tuple_tup, Z.tru_non, Z.tru_bl, Z.tru_int, Z.tru_lst, Z.tru_tup, Z.ix_t0, Z.ix_t1, Z.ix_t2, Z.ix_l0, Z.ix_l1, Z.rgL_nat, Z.seq_scr, Z.zip_lst, Z.zip_tup, Z.enum_lst, Z.setL_lst, Z.eqV_int', Z.neV_int, Z.eqV_bl, Z.neV_bl, Z.isi_non_int, Z.isi_non_bool, Z.isi_non_str, Z.isi_non_tuple, Z.isi_non_list, Z.isi_non_dict, Z.isi_bl_int, Z.isi_bl_bool, Z.isi_bl_str, Z.isi_bl_tuple, Z.isi_bl_list, Z.isi_bl_dict, Z.isi_int_int, Z.isi_int_bool, Z.isi_int_str, Z.isi_int_tuple, Z.isi_int_list, Z.isi_int_dict, Z.isi_str_int, Z.isi_str_bool, Z.isi_str_str, Z.isi_str_tuple, Z.isi_str_list, Z.isi_str_dict, Z.isi_tup_int, Z.isi_tup_bool, Z.isi_tup_str, Z.isi_tup_tuple, Z.isi_tup_list, Z.isi_tup_dict, Z.isi_lst_int, Z.isi_lst_bool, Z.isi_lst_str, Z.isi_lst_tuple, Z.isi_lst_list, Z.isi_lst_dict, Z.isi_scr_int, Z.isi_scr_bool, Z.isi_scr_str, Z.isi_scr_tuple, Z.isi_scr_list, Z.isi_scr_dict, Z.isi_dk_int, Z.isi_dk_bool, Z.isi_dk_str, Z.isi_dk_tuple, Z.isi_dk_list, Z.isi_dk_dict, Z.isi_dt_int, Z.isi_dt_bool, Z.isi_dt_str, Z.isi_dt_tuple, Z.isi_dt_list, Z.isi_dt_dict, Z.isN_non, Z.isN_bl, Z.isN_int, Z.isN_str, Z.isN_tup, Z.isN_lst, Z.isN_scr, Z.isN_dk, Z.isN_dt, Int.natCast_zero, Int.natCast_one, Int.cast_ofNat_Int, reduceCtorEq, List.nil_append, List.cons_append, Z.isL_p, Z.isL_o, Z.isL_u, Z.isL_r, Int.reduceEq, Int.reduceLT, Int.reduceLE, Int.reduceAdd, Int.reduceSub, Int.reduceMul, Int.reduceNe, Int.reduceNeg, implies_true, false_implies, true_implies, and_self, ↓reduceIte, Bool.not_true, Bool.not_false, Bool.and_true, Bool.true_and, Bool.false_and, Bool.and_false, Bool.or_false, Bool.or_true, Bool.false_or, Bool.true_or, List.length_cons, List.length_nil, List.length_map, Option.some.injEq, exists_eq_left', exists_eq_left, true_and, and_true, Nat.reduceAdd, Nat.reduceLT, Nat.reduceMul, Nat.reduceSub, Nat.reduceLeDiff, Nat.reduceEqDiff, Bool.false_eq_true, decide_eq_true_eq, ne_eq, not_false_eq_true, not_true_eq_false, if_true, if_false, eq_self, Option.isSome_some, Option.isSome_none, ite_true, ite_false, decide_true, decide_false, beq_self_eq_true, List.lookup_cons, or_true, true_or, or_false, false_or, and_false, false_and, $args,*])
/-! ## the same -/
theorem eqV_strR {x : Str} (h : PyData.canLay0 (.str x) = true) : eqV (.str x) (.str x) = some (.p (.bl true)) := by
  unfold eqV eqV?
  rw [toD_str]
  have hs : SeqAt.shaped (.str x) = true := shaped_of (k := 0) ⟨h, by unfold PyData.depth; exact Nat.le_refl _⟩ (by omega)
  dsimp only
  rw [hs, eqv_str]
  simp
theorem same_refl : ∀ (n : Nat) (v : Val), DataV n v → d__law_same n [.p v, .p v] .none = .ok (.p (.bl true)) .none
  | 0, _, h => by cases h
  | n + 1, v, h => by
    refine wF_iff ?_
    rw [e__law_same, wF_end]
    unfold b__law_same
    cases h with
    | int _ i => simp! [Z.sSeq_eq]
    | bl _ b => simp! [Z.sSeq_eq]
    | non _ => simp! [Z.sSeq_eq]
    | str _ hx => simp! [Z.sSeq_eq, eqV_strR hx]
    | tup hl hv =>
      rename_i vs
      simp! [Z.sSeq_eq, Z.rg1_nat (show vs.length < 4000000000000000000 by omega)]
      rw [Z.compL_map (fun k => Val.bl true) (by simp; omega) fun k hk => ?_]
      · simp! [List.length_range, Z.all_map]
        simp
      · have hk : k < vs.length := List.mem_range.mp hk
        unfold elt1 q__law_same_2
        simp! [ixt_nat hk, same_refl n vs[k] (hv _ (List.getElem_mem hk))]
    | lst hl hv =>
      rename_i vs
      simp! [Z.sSeq_eq, Z.rg1_nat (show vs.length < 4000000000000000000 by omega)]
      rw [Z.compL_map (fun k => Val.bl true) (by simp; omega) fun k hk => ?_]
      · simp! [List.length_range, Z.all_map]
        simp
      · have hk : k < vs.length := List.mem_range.mp hk
        unfold elt1 q__law_same_2
        simp! [ixl_nat hk, same_refl n vs[k] (hv _ (List.getElem_mem hk))]
theorem same_ok {v : Val} (h : DataV 12 v) : d__law_same 12 [.p v, .p v] .none = .ok (.p (.bl true)) .none := same_refl 12 v h
end L_k21
end

section
set_option Elab.async false
set_option linter.all false
set_option maxRecDepth 100000
set_option autoImplicit false
namespace L_k21
open PySem Y Z M45 Net
local macro_rules
  | `(tactic| simp! [$args,*]) => `(tactic| simp -implicitDefEqProofs -dsimp only [Z.wR_ok, Z.wR_ex, Z.wR_bad, Z.wR_bind, Z.bind_ok, Z.bind_ex, Z.bind_bad, Z.stm_ok, Z.stm_ex, Z.stm_bad, Z.wS_stm, Z.wS_seq, Z.wS_nx, Z.wS_rt, Z.wS_bk, Z.wS_ct, Z.wS_ex, Z.wS_bad, Z.wR_ite, Z.wR_itebad, Z.wS_ite, Z.wS_itebad, Z.wS_fg, Z.wF_ok, Z.wF_ex, Z.retV_p, Z.retV_f, Z.retV_s, Z.retS_p, Z.retS_o, Z.eVar_eq, Z.eVarS_p, Z.eVarS_o, Z.eVarS_l, Z.eVarS_r, Z.peek_p, Z.peek_f, Z.peek_r, Z.peek_s, Z.peekS_p, Z.peekS_o, Z.peekS_l, Z.peekS_r, Z.val_lst, Z.val_dk, Z.val_dt, Z.takeR_p, Z.takeR_f, Z.takeR_r, Z.takeR_s, Z.takeS_p, Z.takeS_o, Z.takeB_some, Z.takeF_some, Z.keep1_eq, Z.locked_eq, Z.get_0, Z.set_0, Z.get_1, Z.set_1, Z.get_2, Z.set_2, Z.get_3, Z.set_3, Z.get_4, Z.set_4, Z.get_5, Z.set_5, Z.get_6, Z.set_6, Z.get_7, Z.set_7, Z.get_8, Z.set_8, Z.get_9, Z.set_9, Z.get_10, Z.set_10, Z.get_11, Z.set_11, Z.get_12, Z.set_12, Z.get_13, Z.set_13, Z.get_14, Z.set_14, Z.get_15, Z.set_15, Z.get_16, Z.set_16, Z.get_17, Z.set_17, Z.get_18, Z.set_18, Z.get_19, Z.set_19, Z.get_20, Z.set_20, Z.get_21, Z.set_21, Z.get_22, Z.set_22, Z.get_23, Z.set_23, Z.get_24, Z.set_24, Z.get_25, Z.set_25, Z.optR_some, Z.wR_optR, Z.opR_some, Z.op1_some, Z.eC_eq, Z.eB2_eq, Z.eC1_eq, Z.asB_eq, Z.boolR_bl, Z.truR_some, Z.truB_some, Z.asT_eq, Z.eNeg_eq, Z.eNegR_int, Z.tyes_eq, Z.bAnd_eq, Z.bOr_eq, Z.bNot_eq, Z.eB_eq, Z.eIf_eq, Z.eAnd_eq, Z.eOr_eq, Z.eNot_eq, Z.aNil_eq, Z.aCons_eq, Z.eTup_eq, Z.eLst_eq, Z.chB_bl, Z.eChain_eq, Z.bNil_eq, Z.bCons_eq, Z.refR_none, Z.bRef_eq, Z.pf_p, Z.pf_f, Z.pfR_p, Z.pfR_f, Z.pfR_ex, Z.wR_pfR, Z.wR_bkR, Z.callD_eq, Z.calE_none, Z.calE_s, Z.calE_r, Z.calS_o, Z.isObj_lst, Z.isObj_dk, Z.eCall_eq, Z.vcT_some, Z.vcR_fn, Z.eVCall_eq, Z.muO_some, Z.muR_some, Z.wR_muO, Z.wR_muR, Z.muS_o, Z.mutAt_s, Z.mutAt_r, Z.eMut_eq, Z.obind_some, Z.omap_some, Z.omap_none, Z.appF_eq, Z.tyName_lst, Z.meR_some, Z.eMeth_eq, Z.rgR_int, Z.rgR2_int, Z.eRg1_eq, Z.eRg2_eq, Z.mkSeq_t, Z.mkSeq_f, Z.revR_lst, Z.eListRev_eq, Z.oN_eq, Z.oR_int, Z.oI_eq, Z.slR_some, Z.eSl_eq, Z.cutVal_lst, Z.cutVal_tup, Z.sl3R_lst, Z.eSl3_eq, Z.eDict0_eq, Z.kNil_eq, Z.kCons_eq, Z.dkR_some, Z.eDict_eq, Z.gtR_s, Z.gtR_n, Z.gtR2_some, Z.eGet2_eq, Z.sPass_eq, Z.sBrk_eq, Z.sCnt_eq, Z.sIf_eq, Z.sRet_eq, Z.sRetN_eq, Z.sExpr_eq, Z.sRaise_eq, Z.sSet_eq, Z.sFg_eq, Z.store_eq, Z.store0_p, Z.store0_f, Z.store0_r, Z.store0_s, Z.asgR_some, Z.sAsg_eq, Z.asg_nm, Z.asgs_nil, Z.asgC_some, Z.asgs_cons, Z.sPar_eq, Z.par2_eq, Z.isS_p, Z.isS_f, Z.isS_r, Z.isS_s, Z.augR_p, Z.augO_some, Z.augS_p, Z.sAug_eq, Z.lone_nx, Z.wS_lone, Z.sAsgX_eq, Z.sAsgX2_eq, Z.tfN_eq, Z.tfS_eq, Z.tfT_eq, Z.tfs_nil, Z.tfs_cons, Z.muO2_some, Z.muS2_o, Z.mutS_s, Z.fgS_nil, Z.fgS_cons, Z.fg_nx, Z.fg_rt, Z.fg_bk, Z.fg_ct, Z.fg_ex, Z.seq_nx', Z.seq_rt', Z.seq_bk', Z.seq_ct', Z.seq_ex', Z.lqu_none, Z.lqu_some, Z.sFor_eq, Z.unlock_none, Z.unlS_l, Z.unlock_some, Z.itO_some, Z.wR_itO, Z.argIt_eq, Z.a1_eq, Z.a2_eq, Z.a3_eq, Z.iterD_eq, Z.itR_p, Z.itR_f, Z.itR_s, Z.itS_o, Z.itS_l, Z.seqItems_lst, Z.seqItems_tup, Z.seqItems_scr, Z.wipe_nil, Z.wipe_cons, Z.rest_nil, Z.rest_cons, Z.unlk_nil, Z.unlk_cons, Z.lend_nil, Z.lend_cons, Z.lend_p, Z.lend_u, Z.lend_r, Z.finC_none, Z.finS_l, Z.finC_some, Z.noex_ok, Z.wR_noex, Z.lbf_none, Z.lbf_some, Z.eComp_eq, Z.isDict_dk, Z.isDict_lst, Z.iv_snoc, Z.eRv_eq, Z.rvR_tup, Z.rvR_lst, Z.sTryMany_eq, Z.tmR_nx, Z.tmR_rt, Z.tmR_ex, Z.compL_nil, Z.compL_cons, Z.compA_some, Z.isDk_p, Z.isDk_t, Z.isDk_s, Z.isDk_o, Z.sForN_eq, Z.modV_int, Z.fdivV_int, Z.mulT_int1, Z.mulT_int2, Z.imul_int1, Z.imul_int2, Z.all_1, Z.all_2, Z.all_3, Z.bkR_p, Z.bkR_f, Z.asg_tp, Z.chB_bl, Z.addV_int, Z.addV_lst, Z.addV_tup, Z.subV_int, Z.iaddV_int, Z.ltV_int, Z.leV_int, Z.gtV_int, Z.geV_int, Z.isV_non, Z.isnV_non, Z.len_lst, Z.len_tup, Z.len_scr, Z.abs_int, Z.int_int, Z.int_bl, Z.max2_int, Z.min2_int, Z.list_lst, Z.list_tup, Z.tuple_lst, Z.tuple_tup, Z.tru_non, Z.tru_bl, Z.tru_int, Z.tru_lst, Z.tru_tup, Z.ix_t0, Z.ix_t1, Z.ix_t2, Z.ix_l0, Z.ix_l1, Z.rgL_nat, Z.seq_scr, Z.zip_lst, Z.zip_tup, Z.enum_lst, Z.setL_lst, Z.eqV_int', Z.neV_int, Z.eqV_bl, Z.neV_bl, Z.isi_non_int, Z.isi_non_bool, Z.isi_non_str, Z.isi_non_tuple, Z.isi_non_list, Z.isi_non_dict, Z.isi_bl_int, Z.isi_bl_bool, Z.isi_bl_str, Z.isi_bl_tuple, Z.isi_bl_list, Z.isi_bl_dict, Z.isi_int_int, Z.isi_int_bool, Z.isi_int_str, Z.isi_int_tuple, Z.isi_int_list, Z.isi_int_dict, Z.isi_str_int, Z.isi_str_bool, Z.isi_str_str, Z.isi_str_tuple, Z.isi_str_list, Z.isi_str_dict, Z.isi_tup_int, Z.isi_tup_bool, Z.isi_tup_str, Z.isi_tup_tuple, Z.isi_tup_list, Z.isi_tup_dict, Z.isi_lst_int, Z.isi_lst_bool, Z.isi_lst_str, Z.isi_lst_tuple, Z.isi_lst_list, Z.isi_lst_dict, Z.isi_scr_int, Z.isi_scr_bool, Z.isi_scr_str, Z.isi_scr_tuple, Z.isi_scr_list, Z.isi_scr_dict, Z.isi_dk_int, Z.isi_dk_bool, Z.isi_dk_str, Z.isi_dk_tuple, Z.isi_dk_list, Z.isi_dk_dict, Z.isi_dt_int, Z.isi_dt_bool, Z.isi_dt_str, Z.isi_dt_tuple, Z.isi_dt_list, Z.isi_dt_dict, Z.isN_non, Z.isN_bl, Z.isN_int, Z.isN_str, Z.isN_tup, Z.isN_lst, Z.isN_scr, Z.isN_dk, Z.isN_dt, Int.natCast_zero, Int.natCast_one, Int.cast_ofNat_Int, reduceCtorEq, List.nil_append, List.cons_append, Z.isL_p, Z.isL_o, Z.isL_u, Z.isL_r, Int.reduceEq, Int.reduceLT, Int.reduceLE, Int.reduceAdd, Int.reduceSub, Int.reduceMul, Int.reduceNe, Int.reduceNeg, implies_true, false_implies, true_implies, and_self, ↓reduceIte, Bool.not_true, Bool.not_false, Bool.and_true, Bool.true_and, Bool.false_and, Bool.and_false, Bool.or_false, Bool.or_true, Bool.false_or, Bool.true_or, List.length_cons, List.length_nil, List.length_map, Option.some.injEq, exists_eq_left', exists_eq_left, true_and, and_true, Nat.reduceAdd, Nat.reduceLT, Nat.reduceMul, Nat.reduceSub, Nat.reduceLeDiff, Nat.reduceEqDiff, Bool.false_eq_true, decide_eq_true_eq, ne_eq, not_false_eq_true, not_true_eq_false, if_true, if_false, eq_self, Option.isSome_some, Option.isSome_none, ite_true, ite_false, decide_true, decide_false, beq_self_eq_true, List.lookup_cons, or_true, true_or, or_false, false_or, and_false, false_and, $args,*])
theorem pick_ok (vs : List Val) (D : List Int) (h : 0 < vs.length) (h2 : vs.length < 1000000) : ∃ (k : Nat) (hk : k < vs.length) (D' : List Int), d__law_pick [.r, .p (.lst vs)] (.lst (iv D)) = .ok (.p vs[k]) (.lst (iv D')) := by
  obtain ⟨x, D', h1, x0, x1⟩ := take_ok D (vs.length : Nat) (by omega)
  obtain ⟨k, rfl⟩ := Int.eq_ofNat_of_zero_le x0
  refine ⟨k, by omega, D', wF_iff ?_⟩
  rw [e__law_pick, wF_end]
  unfold b__law_pick
  simp! [h1, ixl_nat (show k < vs.length by omega)]
/-! ## what integers, gates and nets are -/
theorem isint_ok (i : Int) : d_is_integer [.p (.int i)] .none = .ok (.p (.bl true)) .none := by
  refine wF_iff ?_
  rw [e_is_integer, wF_end]
  simp! [b_is_integer]
theorem within_ok (i a b : Int) : d_is_within [.p (.int i), .p (.int a), .p (.int b)] .none = .ok (.p (.bl (decide (a ≤ i) && decide (i ≤ b)))) .none := by
  refine wF_iff ?_
  rw [e_is_within, wF_end]
  simp! [b_is_within, isint_ok]
  by_cases h : a ≤ i <;> simp! [h]
theorem check_ok : d_check [.p (.bl true)] .none = .ok (.p .non) .none := by
  refine wF_iff ?_
  rw [e_check, wF_end]
  simp! [b_check]
theorem check_no : d_check [.p (.bl false)] .none = .ex ⟨"NotRight", none⟩ .none := rfl
theorem gate_ok (n : Nat) (g : Int × Int) (h1 : g.1 ∈ rg n) (h2 : g.2 ∈ rg n) (h3 : g.1 ≠ g.2) : d_is_gate [.p (.int n), .p (pairV g)] .none = .ok (.p (.bl true)) .none := by
  have a := mem_rg.mp h1
  have b := mem_rg.mp h2
  have c1 : g.1 ≤ (n : Int) - 1 := by omega
  have c2 : g.2 ≤ (n : Int) - 1 := by omega
  refine wF_iff ?_
  rw [e_is_gate, wF_end]
  unfold b_is_gate q_is_gate_1
  simp! [Z.sSeq_eq, within_ok, a.1, b.1, c1, c2, h3]
theorem isnet_ok {n : Nat} {gs : G} (h : okNet n gs) : d_is_net [.p (netV n gs)] .none = .ok (.p (.bl true)) .none := by
  have c1 : (1 : Int) ≤ (n : Int) := by have := h.lo; omega
  have c2 : (n : Int) ≤ 32 := by have := h.hi; omega
  have c3 : (gs.length : Int) ≤ 600 := by have := h.few; omega
  refine wF_iff ?_
  rw [e_is_net, wF_end]
  unfold b_is_net
  simp! [Z.sSeq_eq, within_ok, c1, c2, c3]
  rw [Z.compL_map (fun _ => Val.bl true) (by have := h.few; omega) fun g hg => ?_]
  · simp! [Z.all_map]
    simp
  · unfold elt1 q_is_net_1
    simp! [gate_ok n g (h.on g hg).1 (h.on g hg).2.1 (h.on g hg).2.2]
theorem cn_ok {n : Nat} {gs : G} (h : okNet n gs) : d_check_net [.p (netV n gs)] .none = .ok (.p .non) .none := by
  refine wF_iff ?_
  rw [e_check_net, wF_end]
  unfold b_check_net
  simp! [isnet_ok h, check_ok]
theorem cn_no {v : Val} (h : d_is_net [.p v] .none = .ok (.p (.bl false)) .none) : d_check_net [.p v] .none = .ex ⟨"NotRight", none⟩ .none := by
  show fnEnd (b_check_net ⟨[.p v], .none⟩) = _
  unfold b_check_net
  have : sExpr (eCall 1 (d_check) (bCons (eCall 1 (d_is_net) (bCons (eVar 0) (bNil))) (bNil))) ⟨[.p v], .none⟩ = .ex ⟨"NotRight", none⟩ ⟨[.p v], .none⟩ := by
    simp! [h, check_no]
  rw [this]; rfl
end L_k21
end

section
set_option Elab.async false
set_option linter.all false
set_option maxRecDepth 100000
set_option autoImplicit false
namespace L_k21
open PySem Y Z M45 Net
local macro_rules
  | `(tactic| simp! [$args,*]) => `(tactic| simp -implicitDefEqProofs -dsimp only [Z.wR_ok, Z.wR_ex, Z.wR_bad, Z.wR_bind, Z.bind_ok, Z.bind_ex, Z.bind_bad, Z.stm_ok, Z.stm_ex, Z.stm_bad, Z.wS_stm, Z.wS_seq, Z.wS_nx, Z.wS_rt, Z.wS_bk, Z.wS_ct, Z.wS_ex, Z.wS_bad, Z.wR_ite, Z.wR_itebad, Z.wS_ite, Z.wS_itebad, Z.wS_fg, Z.wF_ok, Z.wF_ex, Z.retV_p, Z.retV_f, Z.retV_s, Z.retS_p, Z.retS_o, Z.eVar_eq, Z.eVarS_p, Z.eVarS_o, Z.eVarS_l, Z.eVarS_r, Z.peek_p, Z.peek_f, Z.peek_r, Z.peek_s, Z.peekS_p, Z.peekS_o, Z.peekS_l, Z.peekS_r, Z.val_lst, Z.val_dk, Z.val_dt, Z.takeR_p, Z.takeR_f, Z.takeR_r, Z.takeR_s, Z.takeS_p, Z.takeS_o, Z.takeB_some, Z.takeF_some, Z.keep1_eq, Z.locked_eq, Z.get_0, Z.set_0, Z.get_1, Z.set_1, Z.get_2, Z.set_2, Z.get_3, Z.set_3, Z.get_4, Z.set_4, Z.get_5, Z.set_5, Z.get_6, Z.set_6, Z.get_7, Z.set_7, Z.get_8, Z.set_8, Z.get_9, Z.set_9, Z.get_10, Z.set_10, Z.get_11, Z.set_11, Z.get_12, Z.set_12, Z.get_13, Z.set_13, Z.get_14, Z.set_14, Z.get_15, Z.set_15, Z.get_16, Z.set_16, Z.get_17, Z.set_17, Z.get_18, Z.set_18, Z.get_19, Z.set_19, Z.get_20, Z.set_20, Z.get_21, Z.set_21, Z.get_22, Z.set_22, Z.get_23, Z.set_23, Z.get_24, Z.set_24, Z.get_25, Z.set_25, Z.optR_some, Z.wR_optR, Z.opR_some, Z.op1_some, Z.eC_eq, Z.eB2_eq, Z.eC1_eq, Z.asB_eq, Z.boolR_bl, Z.truR_some, Z.truB_some, Z.asT_eq, Z.eNeg_eq, Z.eNegR_int, Z.tyes_eq, Z.bAnd_eq, Z.bOr_eq, Z.bNot_eq, Z.eB_eq, Z.eIf_eq, Z.eAnd_eq, Z.eOr_eq, Z.eNot_eq, Z.aNil_eq, Z.aCons_eq, Z.eTup_eq, Z.eLst_eq, Z.chB_bl, Z.eChain_eq, Z.bNil_eq, Z.bCons_eq, Z.refR_none, Z.bRef_eq, Z.pf_p, Z.pf_f, Z.pfR_p, Z.pfR_f, Z.pfR_ex, Z.wR_pfR, Z.wR_bkR, Z.callD_eq, Z.calE_none, Z.calE_s, Z.calE_r, Z.calS_o, Z.isObj_lst, Z.isObj_dk, Z.eCall_eq, Z.vcT_some, Z.vcR_fn, Z.eVCall_eq, Z.muO_some, Z.muR_some, Z.wR_muO, Z.wR_muR, Z.muS_o, Z.mutAt_s, Z.mutAt_r, Z.eMut_eq, Z.obind_some, Z.omap_some, Z.omap_none, Z.appF_eq, Z.tyName_lst, Z.meR_some, Z.eMeth_eq, Z.rgR_int, Z.rgR2_int, Z.eRg1_eq, Z.eRg2_eq, Z.mkSeq_t, Z.mkSeq_f, Z.revR_lst, Z.eListRev_eq, Z.oN_eq, Z.oR_int, Z.oI_eq, Z.slR_some, Z.eSl_eq, Z.cutVal_lst, Z.cutVal_tup, Z.sl3R_lst, Z.eSl3_eq, Z.eDict0_eq, Z.kNil_eq, Z.kCons_eq, Z.dkR_some, Z.eDict_eq, Z.gtR_s, Z.gtR_n, Z.gtR2_some, Z.eGet2_eq, Z.sPass_eq, Z.sBrk_eq, Z.sCnt_eq, Z.sIf_eq, Z.sRet_eq, Z.sRetN_eq, Z.sExpr_eq, Z.sRaise_eq, Z.sSet_eq, Z.sFg_eq, Z.store_eq, Z.store0_p, Z.store0_f, Z.store0_r, Z.store0_s, Z.asgR_some, Z.sAsg_eq, Z.asg_nm, Z.asgs_nil, Z.asgC_some, Z.asgs_cons, Z.sPar_eq, Z.par2_eq, Z.isS_p, Z.isS_f, Z.isS_r, Z.isS_s, Z.augR_p, Z.augO_some, Z.augS_p, Z.sAug_eq, Z.lone_nx, Z.wS_lone, Z.sAsgX_eq, Z.sAsgX2_eq, Z.tfN_eq, Z.tfS_eq, Z.tfT_eq, Z.tfs_nil, Z.tfs_cons, Z.muO2_some, Z.muS2_o, Z.mutS_s, Z.fgS_nil, Z.fgS_cons, Z.fg_nx, Z.fg_rt, Z.fg_bk, Z.fg_ct, Z.fg_ex, Z.seq_nx', Z.seq_rt', Z.seq_bk', Z.seq_ct', Z.seq_ex', Z.lqu_none, Z.lqu_some, Z.sFor_eq, Z.unlock_none, Z.unlS_l, Z.unlock_some, Z.itO_some, Z.wR_itO, Z.argIt_eq, Z.a1_eq, Z.a2_eq, Z.a3_eq, Z.iterD_eq, Z.itR_p, Z.itR_f, Z.itR_s, Z.itS_o, Z.itS_l, Z.seqItems_lst, Z.seqItems_tup, Z.seqItems_scr, Z.wipe_nil, Z.wipe_cons, Z.rest_nil, Z.rest_cons, Z.unlk_nil, Z.unlk_cons, Z.lend_nil, Z.lend_cons, Z.lend_p, Z.lend_u, Z.lend_r, Z.finC_none, Z.finS_l, Z.finC_some, Z.noex_ok, Z.wR_noex, Z.lbf_none, Z.lbf_some, Z.eComp_eq, Z.isDict_dk, Z.isDict_lst, Z.iv_snoc, Z.eRv_eq, Z.rvR_tup, Z.rvR_lst, Z.sTryMany_eq, Z.tmR_nx, Z.tmR_rt, Z.tmR_ex, Z.compL_nil, Z.compL_cons, Z.compA_some, Z.isDk_p, Z.isDk_t, Z.isDk_s, Z.isDk_o, Z.sForN_eq, Z.modV_int, Z.fdivV_int, Z.mulT_int1, Z.mulT_int2, Z.imul_int1, Z.imul_int2, Z.all_1, Z.all_2, Z.all_3, Z.bkR_p, Z.bkR_f, Z.asg_tp, Z.chB_bl, Z.addV_int, Z.addV_lst, Z.addV_tup, Z.subV_int, Z.iaddV_int, Z.ltV_int, Z.leV_int, Z.gtV_int, Z.geV_int, Z.isV_non, Z.isnV_non, Z.len_lst, Z.len_tup, Z.len_scr, Z.abs_int, Z.int_int, Z.int_bl, Z.max2_int, Z.min2_int, Z.list_lst, Z.list_tup, Z.tuple_lst, Z.tuple_tup, Z.tru_non, Z.tru_bl, Z.tru_int, Z.tru_lst, Z.tru_tup, Z.ix_t0, Z.ix_t1, Z.ix_t2, Z.ix_l0, Z.ix_l1, Z.rgL_nat, Z.seq_scr, Z.zip_lst, Z.zip_tup, Z.enum_lst, Z.setL_lst, Z.eqV_int', Z.neV_int, Z.eqV_bl, Z.neV_bl, Z.isi_non_int, Z.isi_non_bool, Z.isi_non_str, Z.isi_non_tuple, Z.isi_non_list, Z.isi_non_dict, Z.isi_bl_int, Z.isi_bl_bool, Z.isi_bl_str, Z.isi_bl_tuple, Z.isi_bl_list, Z.isi_bl_dict, Z.isi_int_int, Z.isi_int_bool, Z.isi_int_str, Z.isi_int_tuple, Z.isi_int_list, Z.isi_int_dict, Z.isi_str_int, Z.isi_str_bool, Z.isi_str_str, Z.isi_str_tuple, Z.isi_str_list, Z.isi_str_dict, Z.isi_tup_int, Z.isi_tup_bool, Z.isi_tup_str, Z.isi_tup_tuple, Z.isi_tup_list, Z.isi_tup_dict, Z.isi_lst_int, Z.isi_lst_bool, Z.isi_lst_str, Z.isi_lst_tuple, Z.isi_lst_list, Z.isi_lst_dict, Z.isi_scr_int, Z.isi_scr_bool, Z.isi_scr_str, Z.isi_scr_tuple, Z.isi_scr_list, Z.isi_scr_dict, Z.isi_dk_int, Z.isi_dk_bool, Z.isi_dk_str, Z.isi_dk_tuple, Z.isi_dk_list, Z.isi_dk_dict, Z.isi_dt_int, Z.isi_dt_bool, Z.isi_dt_str, Z.isi_dt_tuple, Z.isi_dt_list, Z.isi_dt_dict, Z.isN_non, Z.isN_bl, Z.isN_int, Z.isN_str, Z.isN_tup, Z.isN_lst, Z.isN_scr, Z.isN_dk, Z.isN_dt, Int.natCast_zero, Int.natCast_one, Int.cast_ofNat_Int, reduceCtorEq, List.nil_append, List.cons_append, Z.isL_p, Z.isL_o, Z.isL_u, Z.isL_r, Int.reduceEq, Int.reduceLT, Int.reduceLE, Int.reduceAdd, Int.reduceSub, Int.reduceMul, Int.reduceNe, Int.reduceNeg, implies_true, false_implies, true_implies, and_self, ↓reduceIte, Bool.not_true, Bool.not_false, Bool.and_true, Bool.true_and, Bool.false_and, Bool.and_false, Bool.or_false, Bool.or_true, Bool.false_or, Bool.true_or, List.length_cons, List.length_nil, List.length_map, Option.some.injEq, exists_eq_left', exists_eq_left, true_and, and_true, Nat.reduceAdd, Nat.reduceLT, Nat.reduceMul, Nat.reduceSub, Nat.reduceLeDiff, Nat.reduceEqDiff, Bool.false_eq_true, decide_eq_true_eq, ne_eq, not_false_eq_true, not_true_eq_false, if_true, if_false, eq_self, Option.isSome_some, Option.isSome_none, ite_true, ite_false, decide_true, decide_false, beq_self_eq_true, List.lookup_cons, or_true, true_or, or_false, false_or, and_false, false_and, $args,*])
/-! ## the program's own nets -/
theorem mirror_ok {n : Nat} {gs : G} (h : okNet n gs) : d_mirror [.p (netV n gs)] .none = .ok (.p (netV n (mir ((n : Int) - 1) gs))) .none := by
  refine wF_iff ?_
  rw [e_mirror, wF_end]
  unfold b_mirror
  (try dsimp only); rw [Z.sSeq_eq, Z.wS_seq]
  simp! [cn_ok h]
  (try dsimp only); rw [Z.sSeq_eq, Z.wS_seq]
  simp! []
  rw [Z.compL_map (fun g => pairV ((n : Int) - 1 - g.2, (n : Int) - 1 - g.1)) (by have := h.few; omega) fun g hg => ?_]
  · simp! []
    simp [mir]
  · unfold elt1 q_mirror_1
    simp! []
theorem net_no {v : Val} (h : d_is_net [.p v] .none = .ok (.p (.bl false)) .none) : d_mirror [.p v] .none = .ex ⟨"NotRight", none⟩ .none := by
  show fnEnd (b_mirror ⟨[.p v, .u, .u, .u], .none⟩) = _
  have : sExpr (eCall 1 (d_check_net) (bCons (eVar 0) (bNil))) ⟨[.p v, .u, .u, .u], .none⟩ = .ex ⟨"NotRight", none⟩ ⟨[.p v, .u, .u, .u], .none⟩ := by
    simp! [cn_no h]
  unfold b_mirror
  rw [Z.sSeq_eq, this]; rfl
theorem joint_ok {n : Nat} {g1 g2 : G} (h1 : okNet n g1) (h2 : okNet n g2) (hl : g1.length + g2.length ≤ 600) : d_joint [.p (netV n g1), .p (netV n g2)] .none = .ok (.p (netV n (g1 ++ g2))) .none := by
  refine wF_iff ?_
  rw [e_joint, wF_end]
  unfold b_joint
  have c1 : ¬ ((600 : Int) < (g1.length : Int) + (g2.length : Int)) := by omega
  have c2 : g1.length + g2.length ≤ 16777216 := by omega
  (try dsimp only); rw [Z.sSeq_eq, Z.wS_seq]
  simp! [cn_ok h1]
  (try dsimp only); rw [Z.sSeq_eq, Z.wS_seq]
  simp! [cn_ok h2]
  (try dsimp only); rw [Z.sSeq_eq, Z.wS_seq]
  simp! []
  (try dsimp only); rw [Z.sSeq_eq, Z.wS_seq]
  simp! [c1]
  simp! [c2]
  simp
theorem up_loop (n : Nat) (a0 a1 : SV) (P : Po) : ∀ (gs : G) (pl : Int → Int) (F : G), (∀ g ∈ gs, g.1 ∈ rg n ∧ g.2 ∈ rg n) → F.length + gs.length < 16777216 →
    P.nx ⟨[a0, a1, .o (.lst (iv ((rg n).map (upl pl gs)))), .o (.lst (gv (F ++ up pl gs))), .u, .u, .u, .u, .u], .none⟩ →
    wS (forL (.tp [.nm 4, .nm 5]) l_upright_by_1 (gv gs) ⟨[a0, a1, .o (.lst (iv ((rg n).map pl))), .o (.lst (gv F)), .u, .u, .u, .u, .u], .none⟩) P
  | [], pl, F, _, _, hP => by
    rw [show up pl [] = [] from rfl, List.append_nil] at hP
    exact w_nil hP
  | (x, y) :: gs, pl, F, hg, hl, hP => by
    obtain ⟨h1, h2⟩ := hg (x, y) List.mem_cons_self
    obtain ⟨i, rfl, hi⟩ := nat_of h1
    obtain ⟨j, rfl, hj⟩ := nat_of h2
    rw [List.length_cons] at hl
    have i1 : i < ((rg n).map pl).length := by rw [List.length_map, rg_len]; exact hi
    have j1 : j < ((rg n).map pl).length := by rw [List.length_map, rg_len]; exact hj
    have hF : F.length < 16777216 := by omega
    have IH := up_loop n a0 a1 P gs (nxt pl i j) (F ++ [(min (pl i) (pl j), max (pl i) (pl j))]) (fun g h => hg g (List.mem_cons_of_mem _ h)) (by simp; omega) (by
        rw [show up pl (((i : Int), (j : Int)) :: gs) = (min (pl i) (pl j), max (pl i) (pl j)) :: up (nxt pl i j) gs from rfl] at hP
        rw [List.append_assoc]
        exact hP)
    rw [show gv (F ++ [(min (pl i) (pl j), max (pl i) (pl j))]) = gv F ++ [Val.tup [Val.int (min (pl i) (pl j)), Val.int (max (pl i) (pl j))]] by simp] at IH
    have key : ∀ q, q = (rg n).map (nxt pl i j) → wS (forL (.tp [.nm 4, .nm 5]) l_upright_by_1 (gv gs) ⟨[a0, a1, .o (.lst (iv q)), .o (.lst (gv F ++ [Val.tup [Val.int (min (pl i) (pl j)), Val.int (max (pl i) (pl j))]])), .u, .u, .u, .u, .u], .none⟩) P := by
      rintro _ rfl
      exact IH
    refine w_cons ?_
    simp! []
    simp! [l_upright_by_1, Z.sSeq_eq, Z.ix_lm i1, Z.ix_lm j1, rg_get, rg_len, Z.ixN_nat hi, Z.ixN_nat hj, List.length_set, hF, Z.min_if, Z.max_if]
    refine ⟨fun h => ?_, fun h => ?_⟩
    · have := key ((((rg n).map pl).set i (pl j)).set j (pl i)) (by rw [rg_swp pl i j hi hj]; unfold nxt; rw [if_pos h])
      rw [show iv ((((rg n).map pl).set i (pl j)).set j (pl i)) = ((iv ((rg n).map pl)).set i (.int (pl j))).set j (.int (pl i)) by rw [iv, iv, List.map_set, List.map_set]] at this
      exact this
    · exact key _ (by unfold nxt; rw [if_neg h])
/-- the upright net and its twist -/
def twL (n : Nat) (gs : G) : List Int := (rg n).map (idxI ((rg n).map (upl (fun x => x) gs)))
theorem uprby_ok (n : Nat) (gs : G) (hn : n ≤ 1000) (hl : gs.length ≤ 100000) (hg : onL n gs) : d_upright_by [.p (.int n), .p (.tup (gv gs))] .none = .ok (.p (.tup [netV n (up (fun x => x) gs), .tup (iv (twL n gs))])) .none := by
  have hs : surj n (upl (fun x => x) gs) := up_surj gs _ nxt_surj' fun g h => ⟨(hg g h).1, (hg g h).2.1⟩
  refine wF_iff ?_
  rw [e_upright_by, wF_end]
  unfold b_upright_by
  (try dsimp only); rw [Z.sSeq_eq, Z.wS_seq]
  simp! [Z.rgOk_of (m := 0) (n := (n : Int)) (by omega) (by omega) (by omega) (by omega)]
  (try dsimp only); rw [Z.sSeq_eq, Z.wS_seq]
  simp! []
  (try dsimp only); rw [Z.sSeq_eq, Z.wS_seq]
  simp! []
  have e0 : ((List.range n).map fun (k : Nat) => Val.int (k : Int)) = iv ((rg n).map fun x => x) := by simp [rg]
  rw [e0]
  refine up_loop n (.p (.int n)) (.p (.tup (gv gs))) _ gs (fun x => x) [] (fun g h => ⟨(hg g h).1, (hg g h).2.1⟩) (by simp; omega) ?_
  simp! [Z.rg1_nat (show n < 4000000000000000000 by omega)]
  rw [Z.compL_map (fun (k : Nat) => Val.int (idxI ((rg n).map (upl (fun x => x) gs)) (k : Int))) (by simp; omega) fun k hk => ?_]
  · simp! [List.length_range]
    simp [twL, rg, Function.comp_def]
  · have hk : k < n := List.mem_range.mp hk
    obtain ⟨x, hx, e⟩ := hs k (mem_rg.mpr (by omega))
    have hm := (idxI_ok (l := (rg n).map (upl (fun x => x) gs)) (x := (k : Int)) (List.mem_map.mpr ⟨x, hx, e⟩)).1
    unfold elt1 q_upright_by_1
    simp! [hm]
theorem upright_ok {n : Nat} {gs : G} (h : okNet n gs) : d_upright [.p (netV n gs)] .none = .ok (.p (.tup [netV n (up (fun x => x) gs), .tup (iv (twL n gs))])) .none := by
  refine wF_iff ?_
  rw [e_upright, wF_end]
  unfold b_upright
  simp! [Z.sSeq_eq, cn_ok h, uprby_ok n gs (by have := h.hi; omega) (by have := h.few; omega) h.on]
theorem setout_ok {n : Nat} {gs : G} (h : okNet n gs) (m k : Int) (m1 : 1 ≤ m) (m2 : m ≤ 32) (k0 : 0 ≤ k) (k1 : k ≤ m - n) : d_set_out [.p (netV n gs), .p (.int m), .p (.int k)] .none = .ok (.p (netV m (shf k gs))) .none := by
  refine wF_iff ?_
  rw [e_set_out, wF_end]
  unfold b_set_out
  (try dsimp only); rw [Z.sSeq_eq, Z.wS_seq]
  simp! [cn_ok h]
  (try dsimp only); rw [Z.sSeq_eq, Z.wS_seq]
  simp! [within_ok, m1, m2, k0, k1, check_ok]
  rw [Z.compL_map (fun g => pairV (g.1 + k, g.2 + k)) (by have := h.few; omega) fun g hg => ?_]
  · simp! []
    simp [shf]
  · unfold elt1 q_set_out_1
    simp! []
end L_k21
end

section
set_option Elab.async false
set_option linter.all false
set_option maxRecDepth 100000
set_option autoImplicit false
namespace L_k21
open PySem Y Z M45 Net
local macro_rules
  | `(tactic| simp! [$args,*]) => `(tactic| simp -implicitDefEqProofs -dsimp only [Z.wR_ok, Z.wR_ex, Z.wR_bad, Z.wR_bind, Z.bind_ok, Z.bind_ex, Z.bind_bad, Z.stm_ok, Z.stm_ex, Z.stm_bad, Z.wS_stm, Z.wS_seq, Z.wS_nx, Z.wS_rt, Z.wS_bk, Z.wS_ct, Z.wS_ex, Z.wS_bad, Z.wR_ite, Z.wR_itebad, Z.wS_ite, Z.wS_itebad, Z.wS_fg, Z.wF_ok, Z.wF_ex, Z.retV_p, Z.retV_f, Z.retV_s, Z.retS_p, Z.retS_o, Z.eVar_eq, Z.eVarS_p, Z.eVarS_o, Z.eVarS_l, Z.eVarS_r, Z.peek_p, Z.peek_f, Z.peek_r, Z.peek_s, Z.peekS_p, Z.peekS_o, Z.peekS_l, Z.peekS_r, Z.val_lst, Z.val_dk, Z.val_dt, Z.takeR_p, Z.takeR_f, Z.takeR_r, Z.takeR_s, Z.takeS_p, Z.takeS_o, Z.takeB_some, Z.takeF_some, Z.keep1_eq, Z.locked_eq, Z.get_0, Z.set_0, Z.get_1, Z.set_1, Z.get_2, Z.set_2, Z.get_3, Z.set_3, Z.get_4, Z.set_4, Z.get_5, Z.set_5, Z.get_6, Z.set_6, Z.get_7, Z.set_7, Z.get_8, Z.set_8, Z.get_9, Z.set_9, Z.get_10, Z.set_10, Z.get_11, Z.set_11, Z.get_12, Z.set_12, Z.get_13, Z.set_13, Z.get_14, Z.set_14, Z.get_15, Z.set_15, Z.get_16, Z.set_16, Z.get_17, Z.set_17, Z.get_18, Z.set_18, Z.get_19, Z.set_19, Z.get_20, Z.set_20, Z.get_21, Z.set_21, Z.get_22, Z.set_22, Z.get_23, Z.set_23, Z.get_24, Z.set_24, Z.get_25, Z.set_25, Z.optR_some, Z.wR_optR, Z.opR_some, Z.op1_some, Z.eC_eq, Z.eB2_eq, Z.eC1_eq, Z.asB_eq, Z.boolR_bl, Z.truR_some, Z.truB_some, Z.asT_eq, Z.eNeg_eq, Z.eNegR_int, Z.tyes_eq, Z.bAnd_eq, Z.bOr_eq, Z.bNot_eq, Z.eB_eq, Z.eIf_eq, Z.eAnd_eq, Z.eOr_eq, Z.eNot_eq, Z.aNil_eq, Z.aCons_eq, Z.eTup_eq, Z.eLst_eq, Z.chB_bl, Z.eChain_eq, Z.bNil_eq, Z.bCons_eq, Z.refR_none, Z.bRef_eq, Z.pf_p, Z.pf_f, Z.pfR_p, Z.pfR_f, Z.pfR_ex, Z.wR_pfR, Z.wR_bkR, Z.callD_eq, Z.calE_none, Z.calE_s, Z.calE_r, Z.calS_o, Z.isObj_lst, Z.isObj_dk, Z.eCall_eq, Z.vcT_some, Z.vcR_fn, Z.eVCall_eq, Z.muO_some, Z.muR_some, Z.wR_muO, Z.wR_muR, Z.muS_o, Z.mutAt_s, Z.mutAt_r, Z.eMut_eq, Z.obind_some, Z.omap_some, Z.omap_none, Z.appF_eq, Z.tyName_lst, Z.meR_some, Z.eMeth_eq, Z.rgR_int, Z.rgR2_int, Z.eRg1_eq, Z.eRg2_eq, Z.mkSeq_t, Z.mkSeq_f, Z.revR_lst, Z.eListRev_eq, Z.oN_eq, Z.oR_int, Z.oI_eq, Z.slR_some, Z.eSl_eq, Z.cutVal_lst, Z.cutVal_tup, Z.sl3R_lst, Z.eSl3_eq, Z.eDict0_eq, Z.kNil_eq, Z.kCons_eq, Z.dkR_some, Z.eDict_eq, Z.gtR_s, Z.gtR_n, Z.gtR2_some, Z.eGet2_eq, Z.sPass_eq, Z.sBrk_eq, Z.sCnt_eq, Z.sIf_eq, Z.sRet_eq, Z.sRetN_eq, Z.sExpr_eq, Z.sRaise_eq, Z.sSet_eq, Z.sFg_eq, Z.store_eq, Z.store0_p, Z.store0_f, Z.store0_r, Z.store0_s, Z.asgR_some, Z.sAsg_eq, Z.asg_nm, Z.asgs_nil, Z.asgC_some, Z.asgs_cons, Z.sPar_eq, Z.par2_eq, Z.isS_p, Z.isS_f, Z.isS_r, Z.isS_s, Z.augR_p, Z.augO_some, Z.augS_p, Z.sAug_eq, Z.lone_nx, Z.wS_lone, Z.sAsgX_eq, Z.sAsgX2_eq, Z.tfN_eq, Z.tfS_eq, Z.tfT_eq, Z.tfs_nil, Z.tfs_cons, Z.muO2_some, Z.muS2_o, Z.mutS_s, Z.fgS_nil, Z.fgS_cons, Z.fg_nx, Z.fg_rt, Z.fg_bk, Z.fg_ct, Z.fg_ex, Z.seq_nx', Z.seq_rt', Z.seq_bk', Z.seq_ct', Z.seq_ex', Z.lqu_none, Z.lqu_some, Z.sFor_eq, Z.unlock_none, Z.unlS_l, Z.unlock_some, Z.itO_some, Z.wR_itO, Z.argIt_eq, Z.a1_eq, Z.a2_eq, Z.a3_eq, Z.iterD_eq, Z.itR_p, Z.itR_f, Z.itR_s, Z.itS_o, Z.itS_l, Z.seqItems_lst, Z.seqItems_tup, Z.seqItems_scr, Z.wipe_nil, Z.wipe_cons, Z.rest_nil, Z.rest_cons, Z.unlk_nil, Z.unlk_cons, Z.lend_nil, Z.lend_cons, Z.lend_p, Z.lend_u, Z.lend_r, Z.finC_none, Z.finS_l, Z.finC_some, Z.noex_ok, Z.wR_noex, Z.lbf_none, Z.lbf_some, Z.eComp_eq, Z.isDict_dk, Z.isDict_lst, Z.iv_snoc, Z.eRv_eq, Z.rvR_tup, Z.rvR_lst, Z.sTryMany_eq, Z.tmR_nx, Z.tmR_rt, Z.tmR_ex, Z.compL_nil, Z.compL_cons, Z.compA_some, Z.isDk_p, Z.isDk_t, Z.isDk_s, Z.isDk_o, Z.sForN_eq, Z.modV_int, Z.fdivV_int, Z.mulT_int1, Z.mulT_int2, Z.imul_int1, Z.imul_int2, Z.all_1, Z.all_2, Z.all_3, Z.bkR_p, Z.bkR_f, Z.asg_tp, Z.chB_bl, Z.addV_int, Z.addV_lst, Z.addV_tup, Z.subV_int, Z.iaddV_int, Z.ltV_int, Z.leV_int, Z.gtV_int, Z.geV_int, Z.isV_non, Z.isnV_non, Z.len_lst, Z.len_tup, Z.len_scr, Z.abs_int, Z.int_int, Z.int_bl, Z.max2_int, Z.min2_int, Z.list_lst, Z.list_tup, Z.tuple_lst, Z.tuple_tup, Z.tru_non, Z.tru_bl, Z.tru_int, Z.tru_lst, Z.tru_tup, Z.ix_t0, Z.ix_t1, Z.ix_t2, Z.ix_l0, Z.ix_l1, Z.rgL_nat, Z.seq_scr, Z.zip_lst, Z.zip_tup, Z.enum_lst, Z.setL_lst, Z.eqV_int', Z.neV_int, Z.eqV_bl, Z.neV_bl, Z.isi_non_int, Z.isi_non_bool, Z.isi_non_str, Z.isi_non_tuple, Z.isi_non_list, Z.isi_non_dict, Z.isi_bl_int, Z.isi_bl_bool, Z.isi_bl_str, Z.isi_bl_tuple, Z.isi_bl_list, Z.isi_bl_dict, Z.isi_int_int, Z.isi_int_bool, Z.isi_int_str, Z.isi_int_tuple, Z.isi_int_list, Z.isi_int_dict, Z.isi_str_int, Z.isi_str_bool, Z.isi_str_str, Z.isi_str_tuple, Z.isi_str_list, Z.isi_str_dict, Z.isi_tup_int, Z.isi_tup_bool, Z.isi_tup_str, Z.isi_tup_tuple, Z.isi_tup_list, Z.isi_tup_dict, Z.isi_lst_int, Z.isi_lst_bool, Z.isi_lst_str, Z.isi_lst_tuple, Z.isi_lst_list, Z.isi_lst_dict, Z.isi_scr_int, Z.isi_scr_bool, Z.isi_scr_str, Z.isi_scr_tuple, Z.isi_scr_list, Z.isi_scr_dict, Z.isi_dk_int, Z.isi_dk_bool, Z.isi_dk_str, Z.isi_dk_tuple, Z.isi_dk_list, Z.isi_dk_dict, Z.isi_dt_int, Z.isi_dt_bool, Z.isi_dt_str, Z.isi_dt_tuple, Z.isi_dt_list, Z.isi_dt_dict, Z.isN_non, Z.isN_bl, Z.isN_int, Z.isN_str, Z.isN_tup, Z.isN_lst, Z.isN_scr, Z.isN_dk, Z.isN_dt, Int.natCast_zero, Int.natCast_one, Int.cast_ofNat_Int, reduceCtorEq, List.nil_append, List.cons_append, Z.isL_p, Z.isL_o, Z.isL_u, Z.isL_r, Int.reduceEq, Int.reduceLT, Int.reduceLE, Int.reduceAdd, Int.reduceSub, Int.reduceMul, Int.reduceNe, Int.reduceNeg, implies_true, false_implies, true_implies, and_self, ↓reduceIte, Bool.not_true, Bool.not_false, Bool.and_true, Bool.true_and, Bool.false_and, Bool.and_false, Bool.or_false, Bool.or_true, Bool.false_or, Bool.true_or, List.length_cons, List.length_nil, List.length_map, Option.some.injEq, exists_eq_left', exists_eq_left, true_and, and_true, Nat.reduceAdd, Nat.reduceLT, Nat.reduceMul, Nat.reduceSub, Nat.reduceLeDiff, Nat.reduceEqDiff, Bool.false_eq_true, decide_eq_true_eq, ne_eq, not_false_eq_true, not_true_eq_false, if_true, if_false, eq_self, Option.isSome_some, Option.isSome_none, ite_true, ite_false, decide_true, decide_false, beq_self_eq_true, List.lookup_cons, or_true, true_or, or_false, false_or, and_false, false_and, $args,*])
/-! ## the law's own outputs -/
theorem out_loop {n : Nat} {a0 a1 : SV} {P : Po} : ∀ (gs : G) (f : Int → Int), onL n gs → P.nx ⟨[a0, a1, .o (.lst (iv ((rg n).map (run f gs)))), .u, .u], .none⟩ →
    wS (forL (.tp [.nm 3, .nm 4]) l__law_out_1 (gv gs) ⟨[a0, a1, .o (.lst (iv ((rg n).map f))), .u, .u], .none⟩) P
  | [], f, _, hP => w_nil hP
  | (x, y) :: gs, f, h, hP => by
    obtain ⟨h1, h2, h3⟩ := h (x, y) List.mem_cons_self
    obtain ⟨i, rfl, hi⟩ := nat_of h1
    obtain ⟨j, rfl, hj⟩ := nat_of h2
    have hij : i ≠ j := fun z => h3 (by rw [z])
    have i1 : i < ((rg n).map f).length := by rw [List.length_map, rg_len]; exact hi
    have j1 : j < ((rg n).map f).length := by rw [List.length_map, rg_len]; exact hj
    have IH := out_loop gs (ap f ((i : Int), (j : Int))) (fun g h' => h g (List.mem_cons_of_mem _ h')) hP
    rw [← rg_set f i j hi hj hij] at IH
    rw [show iv ((((rg n).map f).set i (min (f i) (f j))).set j (max (f i) (f j))) = ((iv ((rg n).map f)).set i (.int (min (f i) (f j)))).set j (.int (max (f i) (f j))) by rw [iv, iv, List.map_set, List.map_set]] at IH
    refine w_cons ?_
    simp! [l__law_out_1, Z.ix_lm i1, Z.ix_lm j1, rg_get, rg_len, Z.ixN_nat hi, Z.ixN_nat hj, List.length_set, Z.min_if, Z.max_if]
    exact IH
theorem out_ok {gs : G} {L : List Int} (h : onL L.length gs) : d__law_out [.p (.tup (gv gs)), .p (.tup (iv L))] .none = .ok (.p (.tup (iv (outL gs L)))) .none := by
  refine wF_iff ?_
  rw [e__law_out, wF_end]
  unfold b__law_out
  (try dsimp only); rw [Z.sSeq_eq, Z.wS_seq]
  simp! []
  (try dsimp only); rw [Z.sSeq_eq, Z.wS_seq]
  simp! []
  have e : iv L = iv ((rg L.length).map (fnL L)) := by rw [fnL_map]
  rw [e]
  refine out_loop gs (fnL L) h ?_
  simp! []
  rfl
/-! ## drawn values and nets -/
theorem ix4 {a b c d : Val} {k : Int} (h0 : 0 ≤ k) (h1 : k < 4) : ixDV (.lst [a, b, c, d]) (.int k) = some (.p (if k = 0 then a else if k = 1 then b else if k = 2 then c else d)) := by
  have : k = 0 ∨ k = 1 ∨ k = 2 ∨ k = 3 := by omega
  rcases this with rfl | rfl | rfl | rfl <;> rfl
theorem values_ok (n : Nat) (D : List Int) (hn : n ≤ 1000) : ∃ (L D' : List Int), L.length = n ∧ d__law_values [.r, .p (.int n)] (.lst (iv D)) = .ok (.p (.tup (iv L))) (.lst (iv D')) := by
  suffices h : wF (d__law_values [.r, .p (.int n)] (.lst (iv D))) (fun v b => ∃ (L D' : List Int), L.length = n ∧ v = .p (.tup (iv L)) ∧ b = .lst (iv D')) noE by
    obtain ⟨v, b, h1, L, D', hL, rfl, rfl⟩ := wF.ex h
    exact ⟨L, D', hL, h1⟩
  rw [e__law_values, wF_end]
  unfold b__law_values
  obtain ⟨kind, D1, t1, k0, k1⟩ := take_ok D 4 (by decide)
  have p20 : powV (.int 10) (.int 20) = some (.p (.int 100000000000000000000)) := by kernel_rfl
  (try dsimp only); rw [Z.sSeq_eq, Z.wS_seq]
  simp! [t1]
  simp! [Z.rg1_nat (show n < 4000000000000000000 by omega)]
  refine w_comp (fun k acc st => ∃ (L D' : List Int), L.length = k ∧ acc = iv L ∧ st = ⟨[.r, .p (.int n), .p (.int kind), .u], .lst (iv D')⟩) (by simp; omega) ⟨[], D1, rfl, rfl, rfl⟩ ?_ ?_
  · rintro k v acc _ hv ⟨L, D', hL, rfl, rfl⟩
    obtain ⟨a, Da, ta, a0, a1⟩ := take_ok D' 2 (by decide)
    obtain ⟨b, Db, tb, b0, b1⟩ := take_ok Da 4 (by decide)
    obtain ⟨c, Dc, tc, c0, c1⟩ := take_ok Db 999 (by decide)
    obtain ⟨d, Dd, td, d0, d1⟩ := take_ok Dc 9 (by decide)
    have ml : mulTV (.int (d - 4)) (.int 100000000000000000000) = some (.p (.int ((d - 4) * 100000000000000000000))) := Z.mulT_int1 (by omega)
    unfold q__law_values_1
    simp! [Z.asg_nm, ta, tb, tc, td, p20, ml, ix4 k0 k1]
    refine ⟨L ++ [if kind = 0 then a else if kind = 1 then b else if kind = 2 then c - 500 else (d - 4) * 100000000000000000000], Dd, by simp [hL], ?_, rfl⟩
    have : (if kind = 0 then Val.int a else if kind = 1 then Val.int b else if kind = 2 then Val.int (c - 500) else Val.int ((d - 4) * 100000000000000000000)) = Val.int (if kind = 0 then a else if kind = 1 then b else if kind = 2 then c - 500 else (d - 4) * 100000000000000000000) := by
      repeat' split
      all_goals rfl
    rw [this, iv_snoc]
  · rintro acc _ ⟨L, D', hL, rfl, rfl⟩
    simp! []
    exact ⟨L, D', by simpa using hL, rfl, rfl⟩
theorem net_drawn (n most : Nat) (kind : Int) (D : List Int) (h1 : 1 ≤ n) (h9 : n ≤ 32) (hm : most ≤ 400) (hk : kind ≠ 2) (hk3 : kind = 3 → n ≤ 10) :
    ∃ (gs : G) (D' : List Int), onL n gs ∧ gs.length ≤ 100 + most ∧ d__law_net [.r, .p (.int n), .p (.int most), .p (.int kind)] (.lst (iv D)) = .ok (.p (netV n gs)) (.lst (iv D')) := by
  suffices h : wF (d__law_net [.r, .p (.int n), .p (.int most), .p (.int kind)] (.lst (iv D))) (fun v b => ∃ (gs : G) (D' : List Int), onL n gs ∧ gs.length ≤ 100 + most ∧ v = .p (netV n gs) ∧ b = .lst (iv D')) noE by
    obtain ⟨v, b, e, gs, D', a1, a2, rfl, rfl⟩ := wF.ex h
    exact ⟨gs, D', a1, a2, e⟩
  rw [e__law_net, wF_end]
  unfold b__law_net
  (try dsimp only); rw [Z.sSeq_eq, Z.wS_seq]
  simp! []
  (try dsimp only); rw [Z.sSeq_eq, Z.wS_seq]
  have rest : ∀ gs : G, onL n gs → gs.length ≤ 100 → wS ((sSeq (sFg [7, 8, 9] (sFor (argIt (a1 rg1) (aCons (eCall 2 (d__law_take) (bRef (eVar 0) (bCons (eB2 addV (eVar 2) (eC (.int 1))) (bNil)))) (aNil))) (.nm 7)
  (l__law_net_2)))
  (sRet (eTup (aCons (eVar 1) (aCons (eC1 tupleV (eVar 4)) (aNil)))))) ⟨[.r, .p (.int n), .p (.int most), .p (.int kind), .o (.lst (gv gs)), .u, .u, .u, .u, .u], .lst (iv D)⟩)
      { nx := fun st => ∃ (gs : G) (D' : List Int), onL n gs ∧ gs.length ≤ 100 + most ∧ EV.p .non = .p (netV n gs) ∧ st.rf = .lst (iv D'), rt := fun v st => ∃ v', retV st v = some v' ∧ ∃ (gs : G) (D' : List Int), onL n gs ∧ gs.length ≤ 100 + most ∧ v' = .p (netV n gs) ∧ st.rf = .lst (iv D') } := by
    intro gs hg hl
    obtain ⟨x, D1, t1, x0, x1⟩ := take_ok D ((most : Int) + 1) (by omega)
    obtain ⟨x, rfl⟩ := Int.eq_ofNat_of_zero_le x0
    (try dsimp only); rw [Z.sSeq_eq, Z.wS_seq]
    simp! [t1, Z.rg1_nat (show x < 4000000000000000000 by omega)]
    refine w_forR x (fun k st => ∃ (gs : G) (D' : List Int), onL n gs ∧ gs.length ≤ 100 + k ∧ st = ⟨[.r, .p (.int n), .p (.int most), .p (.int kind), .o (.lst (gv gs)), .u, .u, .u, .u, .u], .lst (iv D')⟩) ⟨gs, D1, hg, hl, rfl⟩ ?_ ?_
    · rintro k hk' _ ⟨gs, D', hg, hl, rfl⟩
      unfold l__law_net_2
      by_cases hn : 1 < n
      · have hn' : (1 : Int) < (n : Int) := by omega
        obtain ⟨i, D2, t2, i0, i1⟩ := take_ok D' (n : Int) (by omega)
        obtain ⟨j, D3, t3, j0, j1⟩ := take_ok D2 ((n : Int) - 1) (by omega)
        obtain ⟨p, D4, t4, p0, p1⟩ := take_ok D3 ((gs.length : Int) + 1) (by omega)
        have ins : ∀ a b : Int, insF [.int p, .tup [.int a, .int b]] (.lst (gv gs)) = some (.non, .lst (gv (gs.take p.toNat ++ [(a, b)] ++ gs.drop p.toNat))) := by
          intro a b
          show (if (decide ((gv gs).length < LINE) && decide (0 ≤ p) && decide (p < 9223372036854775808)) = true then some (Val.non, Ob.lst ((gv gs).take p.toNat ++ [.tup [.int a, .int b]] ++ (gv gs).drop p.toNat)) else none) = _
          have c1 : (gv gs).length < 16777216 := by simp; omega
          have c2 : p < 9223372036854775808 := by omega
          rw [if_pos (by simp [p0, c2]; simpa using c1)]
          simp [List.map_take, List.map_drop]
        have fin : ∀ a b : Int, a ∈ rg n → b ∈ rg n → a ≠ b → ∃ (gs' : G) (D' : List Int), onL n gs' ∧ gs'.length ≤ 100 + (k + 1) ∧ (⟨[.r, .p (.int n), .p (.int most), .p (.int kind), .o (.lst (gv (gs.take p.toNat ++ [(a, b)] ++ gs.drop p.toNat))), .u, .u, .u, .u, .u], .lst (iv D4)⟩ : S) = ⟨[.r, .p (.int n), .p (.int most), .p (.int kind), .o (.lst (gv gs')), .u, .u, .u, .u, .u], .lst (iv D')⟩ := by
          intro a b q1 q2 q3
          refine ⟨_, _, ?_, ?_, rfl⟩
          · intro g hg'
            rw [List.mem_append, List.mem_append] at hg'
            rcases hg' with (hg' | hg') | hg'
            · exact hg g (List.mem_of_mem_take hg')
            · rw [List.mem_singleton] at hg'; subst hg'; exact ⟨q1, q2, q3⟩
            · exact hg g (List.mem_of_mem_drop hg')
          · simp only [List.length_append, List.length_take, List.length_drop, List.length_singleton]; omega
        simp! [Z.sSeq_eq, hn', t2, t3, t4, ins, Z.min_if, Z.max_if, hk]
        refine ⟨fun hp => ?_, fun hp => ?_⟩
        · refine fin _ _ (mem_rg.mpr ?_) (mem_rg.mpr ?_) ?_ <;> (split <;> omega)
        · refine fin _ _ (mem_rg.mpr ?_) (mem_rg.mpr ?_) ?_ <;> (try split) <;> omega
      · have hn' : ¬ (1 : Int) < (n : Int) := by omega
        simp! [hn']
        exact ⟨gs, D', hg, by omega, rfl⟩
    · rintro _ ⟨gs, D', hg, hl, rfl⟩
      simp! []
      exact ⟨gs, D', hg, by omega, rfl, rfl⟩
  by_cases h3 : kind = 3
  · have hn10 := hk3 h3
    have e1 : (n : Int) - 1 = ((n - 1 : Nat) : Int) := by omega
    simp! [h3, e1, rg3_down (n - 1) (by omega)]
    refine w_forM (fun (k : Nat) => Val.int (((n - 1 : Nat) : Int) - (k : Int))) (List.range (n - 1)) (fun k st => ∃ gs : G, onL n gs ∧ gs.length ≤ 10 * k ∧ st = ⟨[.r, .p (.int n), .p (.int most), .p (.int kind), .o (.lst (gv gs)), .u, .u, .u, .u, .u], .lst (iv D)⟩) ⟨[], (fun g hg => by cases hg), by simp, by rw [h3]; rfl⟩ ?_ ?_
    · rintro k hk' _ ⟨gs, hg, hl, rfl⟩
      have hk2 : k < n - 1 := by simpa using hk'
      have e2 : ((n - 1 : Nat) : Int) - (k : Int) = ((n - 1 - k : Nat) : Int) := by omega
      unfold l__law_net_1
      simp! [List.getElem_range, e2, Z.rg1_nat (show n - 1 - k < 4000000000000000000 by omega)]
      rw [Z.compL_map (fun (a : Nat) => pairV ((a : Int), (a : Int) + 1)) (by simp; omega) fun a ha => ?_]
      · have c1 : gs.length + (n - 1 - k) ≤ 16777216 := by omega
        simp! [List.length_range, c1]
        refine ⟨gs ++ (List.range (n - 1 - k)).map (fun (a : Nat) => ((a : Int), (a : Int) + 1)), ?_, ?_, by simp [Function.comp_def]⟩
        · intro g hg'
          rcases List.mem_append.mp hg' with hg' | hg'
          · exact hg g hg'
          · obtain ⟨a, ha, rfl⟩ := List.mem_map.mp hg'
            have ha := List.mem_range.mp ha
            exact ⟨mem_rg.mpr (by dsimp only; omega), mem_rg.mpr (by dsimp only; omega), by dsimp only; omega⟩
        · simp; omega
      · unfold elt1 q__law_net_1
        simp! []
    · rintro _ ⟨gs, hg, hl, rfl⟩
      have hl : gs.length ≤ 100 := by simp at hl; omega
      have := rest gs hg hl
      simp! []
      exact this
  · simp! [h3]
    exact rest [] (fun g hg => by cases hg) (by simp)
end L_k21
end

section
set_option Elab.async false
set_option linter.all false
set_option maxRecDepth 100000
set_option autoImplicit false
set_option maxHeartbeats 4000000
namespace L_k21
open PySem Y Z M45 Net
local macro_rules
  | `(tactic| simp! [$args,*]) => `(tactic| simp -implicitDefEqProofs -dsimp only [Z.wR_ok, Z.wR_ex, Z.wR_bad, Z.wR_bind, Z.bind_ok, Z.bind_ex, Z.bind_bad, Z.stm_ok, Z.stm_ex, Z.stm_bad, Z.wS_stm, Z.wS_seq, Z.wS_nx, Z.wS_rt, Z.wS_bk, Z.wS_ct, Z.wS_ex, Z.wS_bad, Z.wR_ite, Z.wR_itebad, Z.wS_ite, Z.wS_itebad, Z.wS_fg, Z.wF_ok, Z.wF_ex, Z.retV_p, Z.retV_f, Z.retV_s, Z.retS_p, Z.retS_o, Z.eVar_eq, Z.eVarS_p, Z.eVarS_o, Z.eVarS_l, Z.eVarS_r, Z.peek_p, Z.peek_f, Z.peek_r, Z.peek_s, Z.peekS_p, Z.peekS_o, Z.peekS_l, Z.peekS_r, Z.val_lst, Z.val_dk, Z.val_dt, Z.takeR_p, Z.takeR_f, Z.takeR_r, Z.takeR_s, Z.takeS_p, Z.takeS_o, Z.takeB_some, Z.takeF_some, Z.keep1_eq, Z.locked_eq, Z.get_0, Z.set_0, Z.get_1, Z.set_1, Z.get_2, Z.set_2, Z.get_3, Z.set_3, Z.get_4, Z.set_4, Z.get_5, Z.set_5, Z.get_6, Z.set_6, Z.get_7, Z.set_7, Z.get_8, Z.set_8, Z.get_9, Z.set_9, Z.get_10, Z.set_10, Z.get_11, Z.set_11, Z.get_12, Z.set_12, Z.get_13, Z.set_13, Z.get_14, Z.set_14, Z.get_15, Z.set_15, Z.get_16, Z.set_16, Z.get_17, Z.set_17, Z.get_18, Z.set_18, Z.get_19, Z.set_19, Z.get_20, Z.set_20, Z.get_21, Z.set_21, Z.get_22, Z.set_22, Z.get_23, Z.set_23, Z.get_24, Z.set_24, Z.get_25, Z.set_25, Z.optR_some, Z.wR_optR, Z.opR_some, Z.op1_some, Z.eC_eq, Z.eB2_eq, Z.eC1_eq, Z.asB_eq, Z.boolR_bl, Z.truR_some, Z.truB_some, Z.asT_eq, Z.eNeg_eq, Z.eNegR_int, Z.tyes_eq, Z.bAnd_eq, Z.bOr_eq, Z.bNot_eq, Z.eB_eq, Z.eIf_eq, Z.eAnd_eq, Z.eOr_eq, Z.eNot_eq, Z.aNil_eq, Z.aCons_eq, Z.eTup_eq, Z.eLst_eq, Z.chB_bl, Z.eChain_eq, Z.bNil_eq, Z.bCons_eq, Z.refR_none, Z.bRef_eq, Z.pf_p, Z.pf_f, Z.pfR_p, Z.pfR_f, Z.pfR_ex, Z.wR_pfR, Z.wR_bkR, Z.callD_eq, Z.calE_none, Z.calE_s, Z.calE_r, Z.calS_o, Z.isObj_lst, Z.isObj_dk, Z.eCall_eq, Z.vcT_some, Z.vcR_fn, Z.eVCall_eq, Z.muO_some, Z.muR_some, Z.wR_muO, Z.wR_muR, Z.muS_o, Z.mutAt_s, Z.mutAt_r, Z.eMut_eq, Z.obind_some, Z.omap_some, Z.omap_none, Z.appF_eq, Z.tyName_lst, Z.meR_some, Z.eMeth_eq, Z.rgR_int, Z.rgR2_int, Z.eRg1_eq, Z.eRg2_eq, Z.mkSeq_t, Z.mkSeq_f, Z.revR_lst, Z.eListRev_eq, Z.oN_eq, Z.oR_int, Z.oI_eq, Z.slR_some, Z.eSl_eq, Z.cutVal_lst, Z.cutVal_tup, Z.sl3R_lst, Z.eSl3_eq, Z.eDict0_eq, Z.kNil_eq, Z.kCons_eq, Z.dkR_some, Z.eDict_eq, Z.gtR_s, Z.gtR_n, Z.gtR2_some, Z.eGet2_eq, Z.sPass_eq, Z.sBrk_eq, Z.sCnt_eq, Z.sIf_eq, Z.sRet_eq, Z.sRetN_eq, Z.sExpr_eq, Z.sRaise_eq, Z.sSet_eq, Z.sFg_eq, Z.store_eq, Z.store0_p, Z.store0_f, Z.store0_r, Z.store0_s, Z.asgR_some, Z.sAsg_eq, Z.asg_nm, Z.asgs_nil, Z.asgC_some, Z.asgs_cons, Z.sPar_eq, Z.par2_eq, Z.isS_p, Z.isS_f, Z.isS_r, Z.isS_s, Z.augR_p, Z.augO_some, Z.augS_p, Z.sAug_eq, Z.lone_nx, Z.wS_lone, Z.sAsgX_eq, Z.sAsgX2_eq, Z.tfN_eq, Z.tfS_eq, Z.tfT_eq, Z.tfs_nil, Z.tfs_cons, Z.muO2_some, Z.muS2_o, Z.mutS_s, Z.fgS_nil, Z.fgS_cons, Z.fg_nx, Z.fg_rt, Z.fg_bk, Z.fg_ct, Z.fg_ex, Z.seq_nx', Z.seq_rt', Z.seq_bk', Z.seq_ct', Z.seq_ex', Z.lqu_none, Z.lqu_some, Z.sFor_eq, Z.unlock_none, Z.unlS_l, Z.unlock_some, Z.itO_some, Z.wR_itO, Z.argIt_eq, Z.a1_eq, Z.a2_eq, Z.a3_eq, Z.iterD_eq, Z.itR_p, Z.itR_f, Z.itR_s, Z.itS_o, Z.itS_l, Z.seqItems_lst, Z.seqItems_tup, Z.seqItems_scr, Z.wipe_nil, Z.wipe_cons, Z.rest_nil, Z.rest_cons, Z.unlk_nil, Z.unlk_cons, Z.lend_nil, Z.lend_cons, Z.lend_p, Z.lend_u, Z.lend_r, Z.finC_none, Z.finS_l, Z.finC_some, Z.noex_ok, Z.wR_noex, Z.lbf_none, Z.lbf_some, Z.eComp_eq, Z.isDict_dk, Z.isDict_lst, Z.iv_snoc, Z.eRv_eq, Z.rvR_tup, Z.rvR_lst, Z.sTryMany_eq, Z.tmR_nx, Z.tmR_rt, Z.tmR_ex, Z.compL_nil, Z.compL_cons, Z.compA_some, Z.isDk_p, Z.isDk_t, Z.isDk_s, Z.isDk_o, Z.sForN_eq, Z.modV_int, Z.fdivV_int, Z.mulT_int1, Z.mulT_int2, Z.imul_int1, Z.imul_int2, Z.all_1, Z.all_2, Z.all_3, Z.bkR_p, Z.bkR_f, Z.asg_tp, Z.chB_bl, Z.addV_int, Z.addV_lst, Z.addV_tup, Z.subV_int, Z.iaddV_int, Z.ltV_int, Z.leV_int, Z.gtV_int, Z.geV_int, Z.isV_non, Z.isnV_non, Z.len_lst, Z.len_tup, Z.len_scr, Z.abs_int, Z.int_int, Z.int_bl, Z.max2_int, Z.min2_int, Z.list_lst, Z.list_tup, Z.tuple_lst, Z.tuple_tup, Z.tru_non, Z.tru_bl, Z.tru_int, Z.tru_lst, Z.tru_tup, Z.ix_t0, Z.ix_t1, Z.ix_t2, Z.ix_l0, Z.ix_l1, Z.rgL_nat, Z.seq_scr, Z.zip_lst, Z.zip_tup, Z.enum_lst, Z.setL_lst, Z.eqV_int', Z.neV_int, Z.eqV_bl, Z.neV_bl, Z.isi_non_int, Z.isi_non_bool, Z.isi_non_str, Z.isi_non_tuple, Z.isi_non_list, Z.isi_non_dict, Z.isi_bl_int, Z.isi_bl_bool, Z.isi_bl_str, Z.isi_bl_tuple, Z.isi_bl_list, Z.isi_bl_dict, Z.isi_int_int, Z.isi_int_bool, Z.isi_int_str, Z.isi_int_tuple, Z.isi_int_list, Z.isi_int_dict, Z.isi_str_int, Z.isi_str_bool, Z.isi_str_str, Z.isi_str_tuple, Z.isi_str_list, Z.isi_str_dict, Z.isi_tup_int, Z.isi_tup_bool, Z.isi_tup_str, Z.isi_tup_tuple, Z.isi_tup_list, Z.isi_tup_dict, Z.isi_lst_int, Z.isi_lst_bool, Z.isi_lst_str, Z.isi_lst_tuple, Z.isi_lst_list, Z.isi_lst_dict, Z.isi_scr_int, Z.isi_scr_bool, Z.isi_scr_str, Z.isi_scr_tuple, Z.isi_scr_list, Z.isi_scr_dict, Z.isi_dk_int, Z.isi_dk_bool, Z.isi_dk_str, Z.isi_dk_tuple, Z.isi_dk_list, Z.isi_dk_dict, Z.isi_dt_int, Z.isi_dt_bool, Z.isi_dt_str, Z.isi_dt_tuple, Z.isi_dt_list, Z.isi_dt_dict, Z.isN_non, Z.isN_bl, Z.isN_int, Z.isN_str, Z.isN_tup, Z.isN_lst, Z.isN_scr, Z.isN_dk, Z.isN_dt, Int.natCast_zero, Int.natCast_one, Int.cast_ofNat_Int, reduceCtorEq, List.nil_append, List.cons_append, Z.isL_p, Z.isL_o, Z.isL_u, Z.isL_r, Int.reduceEq, Int.reduceLT, Int.reduceLE, Int.reduceAdd, Int.reduceSub, Int.reduceMul, Int.reduceNe, Int.reduceNeg, implies_true, false_implies, true_implies, and_self, ↓reduceIte, Bool.not_true, Bool.not_false, Bool.and_true, Bool.true_and, Bool.false_and, Bool.and_false, Bool.or_false, Bool.or_true, Bool.false_or, Bool.true_or, List.length_cons, List.length_nil, List.length_map, Option.some.injEq, exists_eq_left', exists_eq_left, true_and, and_true, Nat.reduceAdd, Nat.reduceLT, Nat.reduceMul, Nat.reduceSub, Nat.reduceLeDiff, Nat.reduceEqDiff, Bool.false_eq_true, decide_eq_true_eq, ne_eq, not_false_eq_true, not_true_eq_false, if_true, if_false, eq_self, Option.isSome_some, Option.isSome_none, ite_true, ite_false, decide_true, decide_false, beq_self_eq_true, List.lookup_cons, or_true, true_or, or_false, false_or, and_false, false_and, $args,*])
/-! ## the law's own upright net -/
abbrev plk (gs : G) (k : Nat) : Int → Int := upl (fun x => x) (gs.take k)
def ren (pl : Int → Int) (gs : G) : G := gs.map fun g => (pl g.1, pl g.2)
theorem take_snoc {gs : G} {k : Nat} (h : k < gs.length) : gs.take (k + 1) = gs.take k ++ [gs[k]] := by
  rw [List.take_succ, List.getElem?_eq_getElem h]; rfl
theorem up_snoc {gs : G} {k : Nat} (h : k < gs.length) : up (fun x => x) (gs.take (k + 1)) = up (fun x => x) (gs.take k) ++ [(min (plk gs k gs[k].1) (plk gs k gs[k].2), max (plk gs k gs[k].1) (plk gs k gs[k].2))] := by
  rw [take_snoc h, up_app]; rfl
theorem upl_snoc {gs : G} {k : Nat} (h : k < gs.length) : plk gs (k + 1) = nxt (plk gs k) gs[k].1 gs[k].2 := by
  unfold plk
  rw [take_snoc h, upl_app]; rfl
theorem drop_one {gs : G} {k : Nat} (h : k < gs.length) (pl : Int → Int) : ren pl (gs.drop k) = (pl gs[k].1, pl gs[k].2) :: ren pl (gs.drop (k + 1)) := by
  rw [List.drop_eq_getElem_cons h]; rfl
theorem lupright_ok {n : Nat} {gs : G} (h : okNet n gs) : d__law_upright [.p (netV n gs)] .none = .ok (.p (.tup [netV n (up (fun x => x) gs), .tup (iv (twL n gs))])) .none := by
  have hn := h.hi
  have hf := h.few
  refine wF_iff ?_
  rw [e__law_upright, wF_end]
  unfold b__law_upright
  (try dsimp only); rw [Z.sSeq_eq, Z.wS_seq]
  simp! [Z.rgOk_of (m := 0) (n := (n : Int)) (by omega) (by omega) (by omega) (by omega)]
  (try dsimp only); rw [Z.sSeq_eq, Z.wS_seq]
  simp! [Z.rg1_nat (show gs.length < 4000000000000000000 by omega)]
  refine w_forR gs.length (fun k st => ∃ t, isTw n (plk gs k) t ∧ st = ⟨[.p (netV n gs), .o (.lst (gv (up (fun x => x) (gs.take k) ++ ren (plk gs k) (gs.drop k)))), .o (.lst (iv ((rg n).map t))), .u, .u, .u, .u, .u, .u], .none⟩) ?_ ?_ ?_
  · refine ⟨fun x => x, ⟨fun y hy => hy, fun y hy => rfl⟩, ?_⟩
    simp [rg, ren, up, upl, plk]
  · rintro k hk _ ⟨t, ht, rfl⟩
    obtain ⟨q1, q2, q3⟩ := h.on gs[k] (List.getElem_mem hk)
    have pin : ∀ x ∈ rg n, plk gs k x ∈ rg n := upl_in _ _ (fun x hx => hx) fun g hg => h.on g (List.mem_of_mem_take hg)
    have pinj : inj (plk gs k) := upl_inj _ _ id_inj
    have hne : plk gs k gs[k].1 ≠ plk gs k gs[k].2 := fun z => q3 (pinj _ _ z)
    obtain ⟨i, ei, hi⟩ := nat_of (pin _ q1)
    obtain ⟨j, ej, hj⟩ := nat_of (pin _ q2)
    have lU : (up (fun x => x) (gs.take k)).length = k := by rw [up_len, List.length_take]; omega
    have lall : (up (fun x => x) (gs.take k) ++ ren (plk gs k) (gs.drop k)).length = gs.length := by simp [ren, lU]; omega
    have hk2 : k < (up (fun x => x) (gs.take k) ++ ren (plk gs k) (gs.drop k)).length := by omega
    have at_k : (up (fun x => x) (gs.take k) ++ ren (plk gs k) (gs.drop k))[k] = ((i : Int), (j : Int)) := by
      rw [List.getElem_append_right (by omega)]
      simp [ren, lU, ← ei, ← ej]
    have hij : (i : Int) ≠ (j : Int) := by rw [← ei, ← ej]; exact hne
    unfold l__law_upright_1
    simp! [Z.sSeq_eq, Z.ix_lm hk2, at_k]
    refine ⟨fun hlt => ?_, fun hlt => ?_⟩
    · have c1 : cutL (gv (up (fun x => x) (gs.take k) ++ ren (plk gs k) (gs.drop k))) none (some (k : Int)) = gv (up (fun x => x) (gs.take k)) := by
        rw [cut_to (by rw [List.length_map]; omega), gv_take, List.take_append_of_le_length (by omega), List.take_of_length_le (by omega)]
      have c2 : cutL (gv (up (fun x => x) (gs.take k) ++ ren (plk gs k) (gs.drop k))) (some (k : Int)) none = gv (ren (plk gs k) (gs.drop k)) := by
        rw [cut_from (by rw [List.length_map]; omega), gv_drop, List.drop_append_of_le_length (by omega), List.drop_of_length_le (by omega)]; rfl
      have lr : (ren (plk gs k) (gs.drop k)).length ≤ 600 := by simp [ren]; omega
      simp! [Z.sSeq_eq, dict_nm _ _ hij, c1, c2]
      rw [Z.compL_map (fun g => pairV (nm i j g.1, nm i j g.2)) (by omega) fun g hg => ?_]
      · have c3 : (up (fun x => x) (gs.take k)).length + (ren (plk gs k) (gs.drop k)).length ≤ 16777216 := by omega
        have hi' : i < ((rg n).map t).length := by rw [List.length_map, rg_len]; exact hi
        have hj' : j < ((rg n).map t).length := by rw [List.length_map, rg_len]; exact hj
        simp! [c3, Z.ix_lm hi', Z.ix_lm hj', rg_get, rg_len, Z.ixN_nat hi, Z.ixN_nat hj, List.length_set]
        have e1 : (ren (plk gs k) (gs.drop k)).map (fun g => (nm i j g.1, nm i j g.2)) = ren (plk gs (k + 1)) (gs.drop k) := by
          unfold ren
          rw [List.map_map]
          refine List.map_congr_left fun g _ => ?_
          have : ∀ x, nm (i : Int) (j : Int) (plk gs k x) = plk gs (k + 1) x := by
            intro x
            rw [upl_snoc hk, ← ei, ← ej, nm_nxt pinj]
            unfold nxt
            rw [if_pos (by rw [ei, ej]; exact hlt)]
          exact Prod.ext (this _) (this _)
        have e2 : gv (up (fun x => x) (gs.take k)) ++ (ren (plk gs k) (gs.drop k)).map (fun g => pairV (nm i j g.1, nm i j g.2)) = gv (up (fun x => x) (gs.take (k + 1)) ++ ren (plk gs (k + 1)) (gs.drop (k + 1))) := by
          rw [show (ren (plk gs k) (gs.drop k)).map (fun g => pairV (nm i j g.1, nm i j g.2)) = gv ((ren (plk gs k) (gs.drop k)).map fun g => (nm i j g.1, nm i j g.2)) by rw [gv, List.map_map]; rfl, e1, ← gv_append, drop_one hk, up_snoc hk, List.append_assoc]
          congr 3
          rw [upl_snoc hk]
          have h1 : nxt (plk gs k) gs[k].1 gs[k].2 gs[k].1 = (j : Int) := by
            unfold nxt
            rw [if_pos (by rw [ei, ej]; exact hlt)]
            unfold swp
            rw [if_pos rfl, ej]
          have h2 : nxt (plk gs k) gs[k].1 gs[k].2 gs[k].2 = (i : Int) := by
            unfold nxt
            rw [if_pos (by rw [ei, ej]; exact hlt)]
            unfold swp
            rw [if_neg (fun z => q3 z.symm), if_pos rfl, ei]
          rw [h1, h2, ei, ej]
          simp
          omega
        have e3 : ((iv ((rg n).map t)).set i (.int (t j))).set j (.int (t i)) = iv ((rg n).map (swp t i j)) := by
          rw [iv_set, iv_set, rg_swp t i j hi hj]
        refine ⟨swp t i j, ?_, ?_⟩
        · have hpl : plk gs (k + 1) = swp (plk gs k) gs[k].1 gs[k].2 := by
            rw [upl_snoc hk]; unfold nxt; rw [if_pos (by rw [ei, ej]; exact hlt)]
          refine ⟨fun y hy => ?_, fun y hy => ?_⟩
          · unfold swp
            split
            · exact ht.on _ (mem_rg.mpr (by omega))
            · split
              · exact ht.on _ (mem_rg.mpr (by omega))
              · exact ht.on y hy
          · rw [hpl]
            have ti : t i = gs[k].1 := pinj _ _ ((ht.eq _ (mem_rg.mpr (by omega))).trans ei.symm)
            have tj : t j = gs[k].2 := pinj _ _ ((ht.eq _ (mem_rg.mpr (by omega))).trans ej.symm)
            unfold swp
            by_cases y1 : y = i
            · rw [if_pos y1, tj, if_neg (fun z => q3 z.symm), if_pos rfl, ei, y1]
            · rw [if_neg y1]
              by_cases y2 : y = j
              · rw [if_pos y2, ti, if_pos rfl, ej, y2]
              · have n1 : ¬ t y = gs[k].1 := fun z => y1 (by have := ht.eq y hy; rw [z, ei] at this; exact this.symm)
                have n2 : ¬ t y = gs[k].2 := fun z => y2 (by have := ht.eq y hy; rw [z, ej] at this; exact this.symm)
                rw [if_neg y2, if_neg n1, if_neg n2]
                exact ht.eq y hy
        · have e2' := e2
          simp only [gv] at e2'
          rw [e2', e3]
      · unfold elt1 q__law_upright_1
        simp! [gt_nm _ _ _ hij]
    · have hnx : plk gs (k + 1) = plk gs k := by
        rw [upl_snoc hk]; unfold nxt; rw [if_neg (by rw [ei, ej]; exact hlt)]
      refine ⟨t, by rw [hnx]; exact ht, ?_⟩
      have e2 : up (fun x => x) (gs.take k) ++ ren (plk gs k) (gs.drop k) = up (fun x => x) (gs.take (k + 1)) ++ ren (plk gs (k + 1)) (gs.drop (k + 1)) := by
        rw [drop_one hk, up_snoc hk, List.append_assoc, hnx]
        congr 2
        rw [ei, ej]
        simp
        omega
      rw [e2]
  · rintro _ ⟨t, ht, rfl⟩
    simp! []
    have e0 : plk gs gs.length = upl (fun x => x) gs := by unfold plk; rw [List.take_length]
    rw [e0] at ht
    have hs : surj n (upl (fun x => x) gs) := up_surj gs _ nxt_surj' fun g hg => ⟨(h.on g hg).1, (h.on g hg).2.1⟩
    have et := tw_eq (upl_inj gs _ id_inj) ht (idx_tw hs)
    rw [et, List.take_length, List.drop_length]
    simp [ren, twL]
end L_k21
end

section
set_option Elab.async false
set_option linter.all false
set_option maxRecDepth 100000
set_option autoImplicit false
set_option maxHeartbeats 4000000
namespace L_k21
open PySem Y Z M45 Net
local macro_rules
  | `(tactic| simp! [$args,*]) => `(tactic| simp -implicitDefEqProofs -dsimp only [Z.wR_ok, Z.wR_ex, Z.wR_bad, Z.wR_bind, Z.bind_ok, Z.bind_ex, Z.bind_bad, Z.stm_ok, Z.stm_ex, Z.stm_bad, Z.wS_stm, Z.wS_seq, Z.wS_nx, Z.wS_rt, Z.wS_bk, Z.wS_ct, Z.wS_ex, Z.wS_bad, Z.wR_ite, Z.wR_itebad, Z.wS_ite, Z.wS_itebad, Z.wS_fg, Z.wF_ok, Z.wF_ex, Z.retV_p, Z.retV_f, Z.retV_s, Z.retS_p, Z.retS_o, Z.eVar_eq, Z.eVarS_p, Z.eVarS_o, Z.eVarS_l, Z.eVarS_r, Z.peek_p, Z.peek_f, Z.peek_r, Z.peek_s, Z.peekS_p, Z.peekS_o, Z.peekS_l, Z.peekS_r, Z.val_lst, Z.val_dk, Z.val_dt, Z.takeR_p, Z.takeR_f, Z.takeR_r, Z.takeR_s, Z.takeS_p, Z.takeS_o, Z.takeB_some, Z.takeF_some, Z.keep1_eq, Z.locked_eq, Z.get_0, Z.set_0, Z.get_1, Z.set_1, Z.get_2, Z.set_2, Z.get_3, Z.set_3, Z.get_4, Z.set_4, Z.get_5, Z.set_5, Z.get_6, Z.set_6, Z.get_7, Z.set_7, Z.get_8, Z.set_8, Z.get_9, Z.set_9, Z.get_10, Z.set_10, Z.get_11, Z.set_11, Z.get_12, Z.set_12, Z.get_13, Z.set_13, Z.get_14, Z.set_14, Z.get_15, Z.set_15, Z.get_16, Z.set_16, Z.get_17, Z.set_17, Z.get_18, Z.set_18, Z.get_19, Z.set_19, Z.get_20, Z.set_20, Z.get_21, Z.set_21, Z.get_22, Z.set_22, Z.get_23, Z.set_23, Z.get_24, Z.set_24, Z.get_25, Z.set_25, Z.optR_some, Z.wR_optR, Z.opR_some, Z.op1_some, Z.eC_eq, Z.eB2_eq, Z.eC1_eq, Z.asB_eq, Z.boolR_bl, Z.truR_some, Z.truB_some, Z.asT_eq, Z.eNeg_eq, Z.eNegR_int, Z.tyes_eq, Z.bAnd_eq, Z.bOr_eq, Z.bNot_eq, Z.eB_eq, Z.eIf_eq, Z.eAnd_eq, Z.eOr_eq, Z.eNot_eq, Z.aNil_eq, Z.aCons_eq, Z.eTup_eq, Z.eLst_eq, Z.chB_bl, Z.eChain_eq, Z.bNil_eq, Z.bCons_eq, Z.refR_none, Z.bRef_eq, Z.pf_p, Z.pf_f, Z.pfR_p, Z.pfR_f, Z.pfR_ex, Z.wR_pfR, Z.wR_bkR, Z.callD_eq, Z.calE_none, Z.calE_s, Z.calE_r, Z.calS_o, Z.isObj_lst, Z.isObj_dk, Z.eCall_eq, Z.vcT_some, Z.vcR_fn, Z.eVCall_eq, Z.muO_some, Z.muR_some, Z.wR_muO, Z.wR_muR, Z.muS_o, Z.mutAt_s, Z.mutAt_r, Z.eMut_eq, Z.obind_some, Z.omap_some, Z.omap_none, Z.appF_eq, Z.tyName_lst, Z.meR_some, Z.eMeth_eq, Z.rgR_int, Z.rgR2_int, Z.eRg1_eq, Z.eRg2_eq, Z.mkSeq_t, Z.mkSeq_f, Z.revR_lst, Z.eListRev_eq, Z.oN_eq, Z.oR_int, Z.oI_eq, Z.slR_some, Z.eSl_eq, Z.cutVal_lst, Z.cutVal_tup, Z.sl3R_lst, Z.eSl3_eq, Z.eDict0_eq, Z.kNil_eq, Z.kCons_eq, Z.dkR_some, Z.eDict_eq, Z.gtR_s, Z.gtR_n, Z.gtR2_some, Z.eGet2_eq, Z.sPass_eq, Z.sBrk_eq, Z.sCnt_eq, Z.sIf_eq, Z.sRet_eq, Z.sRetN_eq, Z.sExpr_eq, Z.sRaise_eq, Z.sSet_eq, Z.sFg_eq, Z.store_eq, Z.store0_p, Z.store0_f, Z.store0_r, Z.store0_s, Z.asgR_some, Z.sAsg_eq, Z.asg_nm, Z.asgs_nil, Z.asgC_some, Z.asgs_cons, Z.sPar_eq, Z.par2_eq, Z.isS_p, Z.isS_f, Z.isS_r, Z.isS_s, Z.augR_p, Z.augO_some, Z.augS_p, Z.sAug_eq, Z.lone_nx, Z.wS_lone, Z.sAsgX_eq, Z.sAsgX2_eq, Z.tfN_eq, Z.tfS_eq, Z.tfT_eq, Z.tfs_nil, Z.tfs_cons, Z.muO2_some, Z.muS2_o, Z.mutS_s, Z.fgS_nil, Z.fgS_cons, Z.fg_nx, Z.fg_rt, Z.fg_bk, Z.fg_ct, Z.fg_ex, Z.seq_nx', Z.seq_rt', Z.seq_bk', Z.seq_ct', Z.seq_ex', Z.lqu_none, Z.lqu_some, Z.sFor_eq, Z.unlock_none, Z.unlS_l, Z.unlock_some, Z.itO_some, Z.wR_itO, Z.argIt_eq, Z.a1_eq, Z.a2_eq, Z.a3_eq, Z.iterD_eq, Z.itR_p, Z.itR_f, Z.itR_s, Z.itS_o, Z.itS_l, Z.seqItems_lst, Z.seqItems_tup, Z.seqItems_scr, Z.wipe_nil, Z.wipe_cons, Z.rest_nil, Z.rest_cons, Z.unlk_nil, Z.unlk_cons, Z.lend_nil, Z.lend_cons, Z.lend_p, Z.lend_u, Z.lend_r, Z.finC_none, Z.finS_l, Z.finC_some, Z.noex_ok, Z.wR_noex, Z.lbf_none, Z.lbf_some, Z.eComp_eq, Z.isDict_dk, Z.isDict_lst, Z.iv_snoc, Z.eRv_eq, Z.rvR_tup, Z.rvR_lst, Z.sTryMany_eq, Z.tmR_nx, Z.tmR_rt, Z.tmR_ex, Z.compL_nil, Z.compL_cons, Z.compA_some, Z.isDk_p, Z.isDk_t, Z.isDk_s, Z.isDk_o, Z.sForN_eq, Z.modV_int, Z.fdivV_int, Z.mulT_int1, Z.mulT_int2, Z.imul_int1, Z.imul_int2, Z.all_1, Z.all_2, Z.all_3, Z.bkR_p, Z.bkR_f, Z.asg_tp, Z.chB_bl, Z.addV_int, Z.addV_lst, Z.addV_tup, Z.subV_int, Z.iaddV_int, Z.ltV_int, Z.leV_int, Z.gtV_int, Z.geV_int, Z.isV_non, Z.isnV_non, Z.len_lst, Z.len_tup, Z.len_scr, Z.abs_int, Z.int_int, Z.int_bl, Z.max2_int, Z.min2_int, Z.list_lst, Z.list_tup, Z.tuple_lst, Z.tuple_tup, Z.tru_non, Z.tru_bl, Z.tru_int, Z.tru_lst, Z.tru_tup, Z.ix_t0, Z.ix_t1, Z.ix_t2, Z.ix_l0, Z.ix_l1, Z.rgL_nat, Z.seq_scr, Z.zip_lst, Z.zip_tup, Z.enum_lst, Z.setL_lst, Z.eqV_int', Z.neV_int, Z.eqV_bl, Z.neV_bl, Z.isi_non_int, Z.isi_non_bool, Z.isi_non_str, Z.isi_non_tuple, Z.isi_non_list, Z.isi_non_dict, Z.isi_bl_int, Z.isi_bl_bool, Z.isi_bl_str, Z.isi_bl_tuple, Z.isi_bl_list, Z.isi_bl_dict, Z.isi_int_int, Z.isi_int_bool, Z.isi_int_str, Z.isi_int_tuple, Z.isi_int_list, Z.isi_int_dict, Z.isi_str_int, Z.isi_str_bool, Z.isi_str_str, Z.isi_str_tuple, Z.isi_str_list, Z.isi_str_dict, Z.isi_tup_int, Z.isi_tup_bool, Z.isi_tup_str, Z.isi_tup_tuple, Z.isi_tup_list, Z.isi_tup_dict, Z.isi_lst_int, Z.isi_lst_bool, Z.isi_lst_str, Z.isi_lst_tuple, Z.isi_lst_list, Z.isi_lst_dict, Z.isi_scr_int, Z.isi_scr_bool, Z.isi_scr_str, Z.isi_scr_tuple, Z.isi_scr_list, Z.isi_scr_dict, Z.isi_dk_int, Z.isi_dk_bool, Z.isi_dk_str, Z.isi_dk_tuple, Z.isi_dk_list, Z.isi_dk_dict, Z.isi_dt_int, Z.isi_dt_bool, Z.isi_dt_str, Z.isi_dt_tuple, Z.isi_dt_list, Z.isi_dt_dict, Z.isN_non, Z.isN_bl, Z.isN_int, Z.isN_str, Z.isN_tup, Z.isN_lst, Z.isN_scr, Z.isN_dk, Z.isN_dt, Int.natCast_zero, Int.natCast_one, Int.cast_ofNat_Int, reduceCtorEq, List.nil_append, List.cons_append, Z.isL_p, Z.isL_o, Z.isL_u, Z.isL_r, Int.reduceEq, Int.reduceLT, Int.reduceLE, Int.reduceAdd, Int.reduceSub, Int.reduceMul, Int.reduceNe, Int.reduceNeg, implies_true, false_implies, true_implies, and_self, ↓reduceIte, Bool.not_true, Bool.not_false, Bool.and_true, Bool.true_and, Bool.false_and, Bool.and_false, Bool.or_false, Bool.or_true, Bool.false_or, Bool.true_or, List.length_cons, List.length_nil, List.length_map, Option.some.injEq, exists_eq_left', exists_eq_left, true_and, and_true, Nat.reduceAdd, Nat.reduceLT, Nat.reduceMul, Nat.reduceSub, Nat.reduceLeDiff, Nat.reduceEqDiff, Bool.false_eq_true, decide_eq_true_eq, ne_eq, not_false_eq_true, not_true_eq_false, if_true, if_false, eq_self, Option.isSome_some, Option.isSome_none, ite_true, ite_false, decide_true, decide_false, beq_self_eq_true, List.lookup_cons, or_true, true_or, or_false, false_or, and_false, false_and, $args,*])
/-! ## what is told -/
abbrev refV (x : Str) : Val := .tup [.str "refused", .str x]
theorem calm_rt {v : EV} {st : S} : (SR.rt v st).calmS = .rt v st := rfl
theorem pk_nr {d1 d2 d3 d4 : S → SR} {st : S} : pickH isa ⟨"NotRight", none⟩ st [("NotRight", d1), ("NoAnswer", d2), ("TooLarge", d3), ("SwapError", d4)] = (d1 st).calmS := rfl
theorem pk_na {d1 d2 d3 d4 : S → SR} {st : S} : pickH isa ⟨"NoAnswer", none⟩ st [("NotRight", d1), ("NoAnswer", d2), ("TooLarge", d3), ("SwapError", d4)] = (d2 st).calmS := rfl
theorem pk_tl {d1 d2 d3 d4 : S → SR} {st : S} : pickH isa ⟨"TooLarge", none⟩ st [("NotRight", d1), ("NoAnswer", d2), ("TooLarge", d3), ("SwapError", d4)] = (d3 st).calmS := rfl
theorem vc_u {da : S → R AR} {st : S} : vcR [("upright", (1, d_upright)), ("mirror", (1, d_mirror))] da st (.p (.fn "upright")) = eCall 1 d_upright da st := rfl
theorem vc_m {da : S → R AR} {st : S} : vcR [("upright", (1, d_upright)), ("mirror", (1, d_mirror))] da st (.p (.fn "mirror")) = eCall 1 d_mirror da st := rfl
theorem st_mu : (("mirror" : Str) == ("upright" : Str)) = false := by kernel_rfl
section
variable {v w u a b x : Val}
theorem t0 (h : d_upright [.p v] .none = .ok (.p x) .none) : d__law_told [.p (.int 0), .p v, .p a, .p b] .none = .ok (.p x) .none := by
  refine wF_iff ?_
  rw [e__law_told, wF_end]
  unfold b__law_told
  simp! [Z.sSeq_eq, Z.eVCall_eq, vc_u, h]
theorem t1 (h : d_mirror [.p v] .none = .ok (.p x) .none) : d__law_told [.p (.int 1), .p v, .p a, .p b] .none = .ok (.p x) .none := by
  refine wF_iff ?_
  rw [e__law_told, wF_end]
  unfold b__law_told
  simp! [Z.sSeq_eq, st_mu, h]
theorem t2 (h : d_joint [.p v, .p w] .none = .ok (.p x) .none) : d__law_told [.p (.int 2), .p v, .p w, .p b] .none = .ok (.p x) .none := by
  refine wF_iff ?_
  rw [e__law_told, wF_end]
  unfold b__law_told
  simp! [Z.sSeq_eq, h]
theorem t3 (h : d_set_out [.p v, .p w, .p u] .none = .ok (.p x) .none) : d__law_told [.p (.int 3), .p v, .p w, .p u] .none = .ok (.p x) .none := by
  refine wF_iff ?_
  rw [e__law_told, wF_end]
  unfold b__law_told
  simp! [Z.sSeq_eq, h]
theorem t0n (h : d_upright [.p v] .none = .ex ⟨"NotRight", none⟩ .none) : d__law_told [.p (.int 0), .p v, .p a, .p b] .none = .ok (.p (refV "not right")) .none := by
  refine wF_iff ?_
  rw [e__law_told, wF_end]
  unfold b__law_told
  simp! [Z.sSeq_eq, vc_u, h, pk_nr, calm_rt]
theorem t1n (h : d_mirror [.p v] .none = .ex ⟨"NotRight", none⟩ .none) : d__law_told [.p (.int 1), .p v, .p a, .p b] .none = .ok (.p (refV "not right")) .none := by
  refine wF_iff ?_
  rw [e__law_told, wF_end]
  unfold b__law_told
  simp! [Z.sSeq_eq, st_mu, h, pk_nr, calm_rt]
theorem t2n (h : d_joint [.p v, .p w] .none = .ex ⟨"NotRight", none⟩ .none) : d__law_told [.p (.int 2), .p v, .p w, .p b] .none = .ok (.p (refV "not right")) .none := by
  refine wF_iff ?_
  rw [e__law_told, wF_end]
  unfold b__law_told
  simp! [Z.sSeq_eq, h, pk_nr, calm_rt]
theorem t2a (h : d_joint [.p v, .p w] .none = .ex ⟨"NoAnswer", none⟩ .none) : d__law_told [.p (.int 2), .p v, .p w, .p b] .none = .ok (.p (refV "no answer")) .none := by
  refine wF_iff ?_
  rw [e__law_told, wF_end]
  unfold b__law_told
  simp! [Z.sSeq_eq, h, pk_na, calm_rt]
theorem t2l (h : d_joint [.p v, .p w] .none = .ex ⟨"TooLarge", none⟩ .none) : d__law_told [.p (.int 2), .p v, .p w, .p b] .none = .ok (.p (refV "too large")) .none := by
  refine wF_iff ?_
  rw [e__law_told, wF_end]
  unfold b__law_told
  simp! [Z.sSeq_eq, h, pk_tl, calm_rt]
theorem t3n (h : d_set_out [.p v, .p w, .p u] .none = .ex ⟨"NotRight", none⟩ .none) : d__law_told [.p (.int 3), .p v, .p w, .p u] .none = .ok (.p (refV "not right")) .none := by
  refine wF_iff ?_
  rw [e__law_told, wF_end]
  unfold b__law_told
  simp! [Z.sSeq_eq, h, pk_nr, calm_rt]
/-! ## refused -/
theorem upright_no (h : d_check_net [.p v] .none = .ex ⟨"NotRight", none⟩ .none) : d_upright [.p v] .none = .ex ⟨"NotRight", none⟩ .none := by
  show fnEnd (b_upright ⟨[.p v], .none⟩) = _
  have : sExpr (eCall 1 (d_check_net) (bCons (eVar 0) (bNil))) ⟨[.p v], .none⟩ = .ex ⟨"NotRight", none⟩ ⟨[.p v], .none⟩ := by simp! [h]
  unfold b_upright
  rw [Z.sSeq_eq, this]; rfl
theorem mirror_no (h : d_check_net [.p v] .none = .ex ⟨"NotRight", none⟩ .none) : d_mirror [.p v] .none = .ex ⟨"NotRight", none⟩ .none := by
  show fnEnd (b_mirror ⟨[.p v, .u, .u, .u], .none⟩) = _
  have : sExpr (eCall 1 (d_check_net) (bCons (eVar 0) (bNil))) ⟨[.p v, .u, .u, .u], .none⟩ = .ex ⟨"NotRight", none⟩ ⟨[.p v, .u, .u, .u], .none⟩ := by simp! [h]
  unfold b_mirror
  rw [Z.sSeq_eq, this]; rfl
theorem joint_no1 (h : d_check_net [.p v] .none = .ex ⟨"NotRight", none⟩ .none) : d_joint [.p v, .p w] .none = .ex ⟨"NotRight", none⟩ .none := by
  show fnEnd (b_joint ⟨[.p v, .p w], .none⟩) = _
  have : sExpr (eCall 1 (d_check_net) (bCons (eVar 0) (bNil))) ⟨[.p v, .p w], .none⟩ = .ex ⟨"NotRight", none⟩ ⟨[.p v, .p w], .none⟩ := by simp! [h]
  unfold b_joint
  rw [Z.sSeq_eq, this]; rfl
theorem joint_no2 (h0 : d_check_net [.p v] .none = .ok (.p .non) .none) (h : d_check_net [.p w] .none = .ex ⟨"NotRight", none⟩ .none) : d_joint [.p v, .p w] .none = .ex ⟨"NotRight", none⟩ .none := by
  show fnEnd (b_joint ⟨[.p v, .p w], .none⟩) = _
  have e1 : sExpr (eCall 1 (d_check_net) (bCons (eVar 0) (bNil))) ⟨[.p v, .p w], .none⟩ = .nx ⟨[.p v, .p w], .none⟩ := by simp! [h0]
  have e2 : sExpr (eCall 1 (d_check_net) (bCons (eVar 1) (bNil))) ⟨[.p v, .p w], .none⟩ = .ex ⟨"NotRight", none⟩ ⟨[.p v, .p w], .none⟩ := by simp! [h]
  unfold b_joint
  rw [Z.sSeq_eq, e1, Z.seq_nx', Z.sSeq_eq, e2]; rfl
theorem setout_no1 (h : d_check_net [.p v] .none = .ex ⟨"NotRight", none⟩ .none) : d_set_out [.p v, .p w, .p u] .none = .ex ⟨"NotRight", none⟩ .none := by
  show fnEnd (b_set_out ⟨[.p v, .p w, .p u, .u, .u], .none⟩) = _
  have : sExpr (eCall 1 (d_check_net) (bCons (eVar 0) (bNil))) ⟨[.p v, .p w, .p u, .u, .u], .none⟩ = .ex ⟨"NotRight", none⟩ ⟨[.p v, .p w, .p u, .u, .u], .none⟩ := by simp! [h]
  unfold b_set_out
  rw [Z.sSeq_eq, this]; rfl
theorem setout_no2 {n : Nat} {gs : G} (h : okNet n gs) (hw : d_is_within [.p w, .p (.int 1), .p (.int 32)] .none = .ok (.p (.bl false)) .none ∨ (∃ m : Int, w = .int m ∧ 1 ≤ m ∧ m ≤ 32 ∧ d_is_within [.p u, .p (.int 0), .p (.int (m - n))] .none = .ok (.p (.bl false)) .none)) : d_set_out [.p (netV n gs), .p w, .p u] .none = .ex ⟨"NotRight", none⟩ .none := by
  show fnEnd (b_set_out ⟨[.p (netV n gs), .p w, .p u, .u, .u], .none⟩) = _
  have e1 : sExpr (eCall 1 (d_check_net) (bCons (eVar 0) (bNil))) ⟨[.p (netV n gs), .p w, .p u, .u, .u], .none⟩ = .nx ⟨[.p (netV n gs), .p w, .p u, .u, .u], .none⟩ := by simp! [cn_ok h]
  have e2 : (sExpr (eCall 1 (d_check) (bCons (eAnd (eCall 3 (d_is_within) (bCons (eVar 1) (bCons (eC (.int 1)) (bCons (eC (.int (32))) (bNil))))) (eCall 3 (d_is_within) (bCons (eVar 2) (bCons (eC (.int 0)) (bCons (eB2 subV (eVar 1) (eB2 ixDV (eVar 0) (eC (.int 0)))) (bNil)))))) (bNil)))) ⟨[.p (netV n gs), .p w, .p u, .u, .u], .none⟩ = .ex ⟨"NotRight", none⟩ ⟨[.p (netV n gs), .p w, .p u, .u, .u], .none⟩ := by
    rcases hw with hw | ⟨m, rfl, m1, m2, hw⟩
    · simp! [hw, check_no]
    · simp! [within_ok, m1, m2, hw, check_no]
  unfold b_set_out
  rw [Z.sSeq_eq, e1, Z.seq_nx', Z.sSeq_eq, e2]; rfl
end
theorem joint_wid {n m : Nat} {g1 g2 : G} (h1 : okNet n g1) (h2 : okNet m g2) (hn : n ≠ m) : d_joint [.p (netV n g1), .p (netV m g2)] .none = .ex ⟨"NoAnswer", none⟩ .none := by
  show fnEnd (b_joint ⟨[.p (netV n g1), .p (netV m g2)], .none⟩) = _
  have e1 : sExpr (eCall 1 (d_check_net) (bCons (eVar 0) (bNil))) ⟨[.p (netV n g1), .p (netV m g2)], .none⟩ = .nx ⟨[.p (netV n g1), .p (netV m g2)], .none⟩ := by simp! [cn_ok h1]
  have e2 : sExpr (eCall 1 (d_check_net) (bCons (eVar 1) (bNil))) ⟨[.p (netV n g1), .p (netV m g2)], .none⟩ = .nx ⟨[.p (netV n g1), .p (netV m g2)], .none⟩ := by simp! [cn_ok h2]
  have hn' : ¬ (n : Int) = (m : Int) := by omega
  have e3 : (sIf (asB (eB2 neV (eB2 ixDV (eVar 0) (eC (.int 0))) (eB2 ixDV (eVar 1) (eC (.int 0))))) (sRaise "NoAnswer") (sPass)) ⟨[.p (netV n g1), .p (netV m g2)], .none⟩ = .ex ⟨"NoAnswer", none⟩ ⟨[.p (netV n g1), .p (netV m g2)], .none⟩ := by simp! [hn']
  unfold b_joint
  rw [Z.sSeq_eq, e1, Z.seq_nx', Z.sSeq_eq, e2, Z.seq_nx', Z.sSeq_eq, e3]; rfl
theorem joint_big {n : Nat} {g1 g2 : G} (h1 : okNet n g1) (h2 : okNet n g2) (hl : 600 < g1.length + g2.length) : d_joint [.p (netV n g1), .p (netV n g2)] .none = .ex ⟨"TooLarge", none⟩ .none := by
  show fnEnd (b_joint ⟨[.p (netV n g1), .p (netV n g2)], .none⟩) = _
  have e1 : sExpr (eCall 1 (d_check_net) (bCons (eVar 0) (bNil))) ⟨[.p (netV n g1), .p (netV n g2)], .none⟩ = .nx ⟨[.p (netV n g1), .p (netV n g2)], .none⟩ := by simp! [cn_ok h1]
  have e2 : sExpr (eCall 1 (d_check_net) (bCons (eVar 1) (bNil))) ⟨[.p (netV n g1), .p (netV n g2)], .none⟩ = .nx ⟨[.p (netV n g1), .p (netV n g2)], .none⟩ := by simp! [cn_ok h2]
  have e3 : (sIf (asB (eB2 neV (eB2 ixDV (eVar 0) (eC (.int 0))) (eB2 ixDV (eVar 1) (eC (.int 0))))) (sRaise "NoAnswer") (sPass)) ⟨[.p (netV n g1), .p (netV n g2)], .none⟩ = .nx ⟨[.p (netV n g1), .p (netV n g2)], .none⟩ := by simp! []
  have hb : (600 : Int) < (g1.length : Int) + (g2.length : Int) := by omega
  have e4 : (sIf (asB (eB2 gtV (eB2 addV (eC1 lenDV (eB2 ixDV (eVar 0) (eC (.int 1)))) (eC1 lenDV (eB2 ixDV (eVar 1) (eC (.int 1))))) (eC (.int (600))))) (sRaise "TooLarge") (sPass)) ⟨[.p (netV n g1), .p (netV n g2)], .none⟩ = .ex ⟨"TooLarge", none⟩ ⟨[.p (netV n g1), .p (netV n g2)], .none⟩ := by simp! [hb]
  unfold b_joint
  rw [Z.sSeq_eq, e1, Z.seq_nx', Z.sSeq_eq, e2, Z.seq_nx', Z.sSeq_eq, e3, Z.seq_nx', Z.sSeq_eq, e4]; rfl
/-! ## values that are no nets -/
abbrev g01 : Val := .tup [.int 0, .int 1]
def badL : List Val := [.non, .lst [.int 2, .tup [g01]], .tup [.int 2], .tup [.int 2, .tup [g01], .tup []], .tup [.int 0, .tup []], .tup [.int 33, .tup []], .tup [.bl true, .tup []], .tup [.str "2", .tup [g01]], .tup [.int 2, .lst [g01]], .tup [.int 2, .tup [.tup [.int 0, .int 2]]], .tup [.int 2, .tup [.tup [.int 0, .int 0]]],
  .tup [.int 2, .tup [.tup [.int (-1), .int 0]]], .tup [.int 2, .tup [.tup [.int 0, .int 1, .int 1]]], .tup [.int 2, .tup [.tup [.int 0]]], .tup [.int 2, .tup [.lst [.int 0, .int 1]]],
  .tup [.int 2, .tup [.tup [.int 0, .bl true]]], .tup [.int 2, .tup [.tup [.int 0, .non]]], .tup [.int 2, .tup (List.replicate 601 g01)], .tup [.int 1, .tup [g01]], .tup [.int 2, .tup [.int 0, .int 1]]]
theorem bad_all : ∀ k, (h : k < 20) → d_is_net [.p (badL[k]'h)] .none = .ok (.p (.bl false)) .none := by
  intro k h
  match k, h with
  | 0, _ => kernel_rfl
  | 1, _ => kernel_rfl
  | 2, _ => kernel_rfl
  | 3, _ => kernel_rfl
  | 4, _ => kernel_rfl
  | 5, _ => kernel_rfl
  | 6, _ => kernel_rfl
  | 7, _ => kernel_rfl
  | 8, _ => kernel_rfl
  | 9, _ => kernel_rfl
  | 10, _ => kernel_rfl
  | 11, _ => kernel_rfl
  | 12, _ => kernel_rfl
  | 13, _ => kernel_rfl
  | 14, _ => kernel_rfl
  | 15, _ => kernel_rfl
  | 16, _ => kernel_rfl
  | 17, _ => kernel_rfl
  | 18, _ => kernel_rfl
  | 19, _ => kernel_rfl
  | n + 20, h => exact absurd h (by omega)
theorem bad_ok (D : List Int) : ∃ (v : Val) (D' : List Int), d__law_bad_net [.r] (.lst (iv D)) = .ok (.p v) (.lst (iv D')) ∧ d_check_net [.p v] .none = .ex ⟨"NotRight", none⟩ .none := by
  obtain ⟨k, hk, D', hp⟩ := pick_ok badL D (by decide) (by decide)
  refine ⟨badL[k], D', wF_iff ?_, cn_no (bad_all k hk)⟩
  have m601 : mulTV (.tup [g01]) (.int 601) = some (.p (.tup (List.replicate 601 g01))) := mulT_t1 g01 601 (by decide)
  unfold badL at hp
  rw [e__law_bad_net, wF_end]
  unfold b__law_bad_net
  simp! [Z.sSeq_eq, m601, hp]
  rfl
end L_k21
end

section
set_option Elab.async false
set_option linter.all false
set_option maxRecDepth 100000
set_option autoImplicit false
set_option maxHeartbeats 4000000
namespace L_k21
open PySem Y Z M45 Net
local macro_rules
  | `(tactic| simp! [$args,*]) => `(tactic| simp -implicitDefEqProofs -dsimp only [Z.wR_ok, Z.wR_ex, Z.wR_bad, Z.wR_bind, Z.bind_ok, Z.bind_ex, Z.bind_bad, Z.stm_ok, Z.stm_ex, Z.stm_bad, Z.wS_stm, Z.wS_seq, Z.wS_nx, Z.wS_rt, Z.wS_bk, Z.wS_ct, Z.wS_ex, Z.wS_bad, Z.wR_ite, Z.wR_itebad, Z.wS_ite, Z.wS_itebad, Z.wS_fg, Z.wF_ok, Z.wF_ex, Z.retV_p, Z.retV_f, Z.retV_s, Z.retS_p, Z.retS_o, Z.eVar_eq, Z.eVarS_p, Z.eVarS_o, Z.eVarS_l, Z.eVarS_r, Z.peek_p, Z.peek_f, Z.peek_r, Z.peek_s, Z.peekS_p, Z.peekS_o, Z.peekS_l, Z.peekS_r, Z.val_lst, Z.val_dk, Z.val_dt, Z.takeR_p, Z.takeR_f, Z.takeR_r, Z.takeR_s, Z.takeS_p, Z.takeS_o, Z.takeB_some, Z.takeF_some, Z.keep1_eq, Z.locked_eq, Z.get_0, Z.set_0, Z.get_1, Z.set_1, Z.get_2, Z.set_2, Z.get_3, Z.set_3, Z.get_4, Z.set_4, Z.get_5, Z.set_5, Z.get_6, Z.set_6, Z.get_7, Z.set_7, Z.get_8, Z.set_8, Z.get_9, Z.set_9, Z.get_10, Z.set_10, Z.get_11, Z.set_11, Z.get_12, Z.set_12, Z.get_13, Z.set_13, Z.get_14, Z.set_14, Z.get_15, Z.set_15, Z.get_16, Z.set_16, Z.get_17, Z.set_17, Z.get_18, Z.set_18, Z.get_19, Z.set_19, Z.get_20, Z.set_20, Z.get_21, Z.set_21, Z.get_22, Z.set_22, Z.get_23, Z.set_23, Z.get_24, Z.set_24, Z.get_25, Z.set_25, Z.optR_some, Z.wR_optR, Z.opR_some, Z.op1_some, Z.eC_eq, Z.eB2_eq, Z.eC1_eq, Z.asB_eq, Z.boolR_bl, Z.truR_some, Z.truB_some, Z.asT_eq, Z.eNeg_eq, Z.eNegR_int, Z.tyes_eq, Z.bAnd_eq, Z.bOr_eq, Z.bNot_eq, Z.eB_eq, Z.eIf_eq, Z.eAnd_eq, Z.eOr_eq, Z.eNot_eq, Z.aNil_eq, Z.aCons_eq, Z.eTup_eq, Z.eLst_eq, Z.chB_bl, Z.eChain_eq, Z.bNil_eq, Z.bCons_eq, Z.refR_none, Z.bRef_eq, Z.pf_p, Z.pf_f, Z.pfR_p, Z.pfR_f, Z.pfR_ex, Z.wR_pfR, Z.wR_bkR, Z.callD_eq, Z.calE_none, Z.calE_s, Z.calE_r, Z.calS_o, Z.isObj_lst, Z.isObj_dk, Z.eCall_eq, Z.vcT_some, Z.vcR_fn, Z.eVCall_eq, Z.muO_some, Z.muR_some, Z.wR_muO, Z.wR_muR, Z.muS_o, Z.mutAt_s, Z.mutAt_r, Z.eMut_eq, Z.obind_some, Z.omap_some, Z.omap_none, Z.appF_eq, Z.tyName_lst, Z.meR_some, Z.eMeth_eq, Z.rgR_int, Z.rgR2_int, Z.eRg1_eq, Z.eRg2_eq, Z.mkSeq_t, Z.mkSeq_f, Z.revR_lst, Z.eListRev_eq, Z.oN_eq, Z.oR_int, Z.oI_eq, Z.slR_some, Z.eSl_eq, Z.cutVal_lst, Z.cutVal_tup, Z.sl3R_lst, Z.eSl3_eq, Z.eDict0_eq, Z.kNil_eq, Z.kCons_eq, Z.dkR_some, Z.eDict_eq, Z.gtR_s, Z.gtR_n, Z.gtR2_some, Z.eGet2_eq, Z.sPass_eq, Z.sBrk_eq, Z.sCnt_eq, Z.sIf_eq, Z.sRet_eq, Z.sRetN_eq, Z.sExpr_eq, Z.sRaise_eq, Z.sSet_eq, Z.sFg_eq, Z.store_eq, Z.store0_p, Z.store0_f, Z.store0_r, Z.store0_s, Z.asgR_some, Z.sAsg_eq, Z.asg_nm, Z.asgs_nil, Z.asgC_some, Z.asgs_cons, Z.sPar_eq, Z.par2_eq, Z.isS_p, Z.isS_f, Z.isS_r, Z.isS_s, Z.augR_p, Z.augO_some, Z.augS_p, Z.sAug_eq, Z.lone_nx, Z.wS_lone, Z.sAsgX_eq, Z.sAsgX2_eq, Z.tfN_eq, Z.tfS_eq, Z.tfT_eq, Z.tfs_nil, Z.tfs_cons, Z.muO2_some, Z.muS2_o, Z.mutS_s, Z.fgS_nil, Z.fgS_cons, Z.fg_nx, Z.fg_rt, Z.fg_bk, Z.fg_ct, Z.fg_ex, Z.seq_nx', Z.seq_rt', Z.seq_bk', Z.seq_ct', Z.seq_ex', Z.lqu_none, Z.lqu_some, Z.sFor_eq, Z.unlock_none, Z.unlS_l, Z.unlock_some, Z.itO_some, Z.wR_itO, Z.argIt_eq, Z.a1_eq, Z.a2_eq, Z.a3_eq, Z.iterD_eq, Z.itR_p, Z.itR_f, Z.itR_s, Z.itS_o, Z.itS_l, Z.seqItems_lst, Z.seqItems_tup, Z.seqItems_scr, Z.wipe_nil, Z.wipe_cons, Z.rest_nil, Z.rest_cons, Z.unlk_nil, Z.unlk_cons, Z.lend_nil, Z.lend_cons, Z.lend_p, Z.lend_u, Z.lend_r, Z.finC_none, Z.finS_l, Z.finC_some, Z.noex_ok, Z.wR_noex, Z.lbf_none, Z.lbf_some, Z.eComp_eq, Z.isDict_dk, Z.isDict_lst, Z.iv_snoc, Z.eRv_eq, Z.rvR_tup, Z.rvR_lst, Z.sTryMany_eq, Z.tmR_nx, Z.tmR_rt, Z.tmR_ex, Z.compL_nil, Z.compL_cons, Z.compA_some, Z.isDk_p, Z.isDk_t, Z.isDk_s, Z.isDk_o, Z.sForN_eq, Z.modV_int, Z.fdivV_int, Z.mulT_int1, Z.mulT_int2, Z.imul_int1, Z.imul_int2, Z.all_1, Z.all_2, Z.all_3, Z.bkR_p, Z.bkR_f, Z.asg_tp, Z.chB_bl, Z.addV_int, Z.addV_lst, Z.addV_tup, Z.subV_int, Z.iaddV_int, Z.ltV_int, Z.leV_int, Z.gtV_int, Z.geV_int, Z.isV_non, Z.isnV_non, Z.len_lst, Z.len_tup, Z.len_scr, Z.abs_int, Z.int_int, Z.int_bl, Z.max2_int, Z.min2_int, Z.list_lst, Z.list_tup, Z.tuple_lst, Z.tuple_tup, Z.tru_non, Z.tru_bl, Z.tru_int, Z.tru_lst, Z.tru_tup, Z.ix_t0, Z.ix_t1, Z.ix_t2, Z.ix_l0, Z.ix_l1, Z.rgL_nat, Z.seq_scr, Z.zip_lst, Z.zip_tup, Z.enum_lst, Z.setL_lst, Z.eqV_int', Z.neV_int, Z.eqV_bl, Z.neV_bl, Z.isi_non_int, Z.isi_non_bool, Z.isi_non_str, Z.isi_non_tuple, Z.isi_non_list, Z.isi_non_dict, Z.isi_bl_int, Z.isi_bl_bool, Z.isi_bl_str, Z.isi_bl_tuple, Z.isi_bl_list, Z.isi_bl_dict, Z.isi_int_int, Z.isi_int_bool, Z.isi_int_str, Z.isi_int_tuple, Z.isi_int_list, Z.isi_int_dict, Z.isi_str_int, Z.isi_str_bool, Z.isi_str_str, Z.isi_str_tuple, Z.isi_str_list, Z.isi_str_dict, Z.isi_tup_int, Z.isi_tup_bool, Z.isi_tup_str, Z.isi_tup_tuple, Z.isi_tup_list, Z.isi_tup_dict, Z.isi_lst_int, Z.isi_lst_bool, Z.isi_lst_str, Z.isi_lst_tuple, Z.isi_lst_list, Z.isi_lst_dict, Z.isi_scr_int, Z.isi_scr_bool, Z.isi_scr_str, Z.isi_scr_tuple, Z.isi_scr_list, Z.isi_scr_dict, Z.isi_dk_int, Z.isi_dk_bool, Z.isi_dk_str, Z.isi_dk_tuple, Z.isi_dk_list, Z.isi_dk_dict, Z.isi_dt_int, Z.isi_dt_bool, Z.isi_dt_str, Z.isi_dt_tuple, Z.isi_dt_list, Z.isi_dt_dict, Z.isN_non, Z.isN_bl, Z.isN_int, Z.isN_str, Z.isN_tup, Z.isN_lst, Z.isN_scr, Z.isN_dk, Z.isN_dt, Int.natCast_zero, Int.natCast_one, Int.cast_ofNat_Int, reduceCtorEq, List.nil_append, List.cons_append, Z.isL_p, Z.isL_o, Z.isL_u, Z.isL_r, Int.reduceEq, Int.reduceLT, Int.reduceLE, Int.reduceAdd, Int.reduceSub, Int.reduceMul, Int.reduceNe, Int.reduceNeg, implies_true, false_implies, true_implies, and_self, ↓reduceIte, Bool.not_true, Bool.not_false, Bool.and_true, Bool.true_and, Bool.false_and, Bool.and_false, Bool.or_false, Bool.or_true, Bool.false_or, Bool.true_or, List.length_cons, List.length_nil, List.length_map, Option.some.injEq, exists_eq_left', exists_eq_left, true_and, and_true, Nat.reduceAdd, Nat.reduceLT, Nat.reduceMul, Nat.reduceSub, Nat.reduceLeDiff, Nat.reduceEqDiff, Bool.false_eq_true, decide_eq_true_eq, ne_eq, not_false_eq_true, not_true_eq_false, if_true, if_false, eq_self, Option.isSome_some, Option.isSome_none, ite_true, ite_false, decide_true, decide_false, beq_self_eq_true, List.lookup_cons, or_true, true_or, or_false, false_or, and_false, false_and, $args,*])
abbrev upN (gs : G) : G := up (fun x => x) gs
theorem up_on {n : Nat} {gs : G} (h : onL n gs) : ∀ g ∈ upN gs, g.1 ∈ rg n ∧ g.2 ∈ rg n ∧ g.1 < g.2 := (up_gates gs (fun x => x) id_inj (fun x hx => hx) h).1
theorem up_onL {n : Nat} {gs : G} (h : onL n gs) : onL n (upN gs) := fun g hg => ⟨(up_on h g hg).1, (up_on h g hg).2.1, by have := (up_on h g hg).2.2; omega⟩
theorem tw_at {n : Nat} {gs : G} {L : List Int} (h : onL n gs) (hl : L.length = n) (k : Nat) (hk : k < n) : ∃ j : Nat, j < n ∧ (twL n gs)[k]? = some (j : Int) ∧ run (fnL L) gs j = run (fnL L) (upN gs) k := by
  have hs : surj n (upl (fun x => x) gs) := up_surj gs _ nxt_surj' fun g hg => ⟨(h g hg).1, (h g hg).2.1⟩
  have tw := idx_tw hs
  have hk' : (k : Int) ∈ rg n := mem_rg.mpr (by omega)
  obtain ⟨j, ej, hj⟩ := nat_of (tw.on _ hk')
  refine ⟨j, hj, ?_, ?_⟩
  · rw [← ej]
    simp [twL, rg, hk]
  · have := up_run gs (fun x => x) (fnL L) (fnL L) id_inj (fun g hg => (h g hg).2.2) (fun x => rfl) j
    rw [← this]
    have := tw.eq _ hk'
    rw [ej] at this
    rw [this]
abbrev st11 (ns : List Int) (D : List Int) (n : Nat) (gs os : G) : S := ⟨[.p (.scr ns), .o (.lst (iv D)), .u, .p (netV n gs), .p (netV n os), .p (.tup [netV n (upN gs), .tup (iv (twL n gs))]), .p (.int ((n : Int) - 1)), .p (netV n (mir ((n : Int) - 1) gs)), .u, .u, .u, .u, .u, .u, .u, .u, .u, .u, .u, .u, .u, .u], .none⟩
theorem inner (ns : List Int) (a2 : SV) (a10 : Val) (D : List Int) (n : Nat) (gs os : G) (P : Po) (h : okNet n gs) (ho : okNet n os) (hl : gs.length + os.length ≤ 600)
    (hP : ∀ D', P.nx ⟨[.p (.scr ns), .o (.lst (iv D')), a2, .p (netV n gs), .p (netV n os), .p (.tup [netV n (upN gs), .tup (iv (twL n gs))]), .p (.int ((n : Int) - 1)), .p (netV n (mir ((n : Int) - 1) gs)), .u, .u, .u, .u, .u, .u, .u, .u, .u, .u, .u, .u, .u, .u], .none⟩) :
    wS (l_law_1 ⟨[.p (.scr ns), .o (.lst (iv D)), a2, .p (netV n gs), .p (netV n os), .p (.tup [netV n (upN gs), .tup (iv (twL n gs))]), .p (.int ((n : Int) - 1)), .p (netV n (mir ((n : Int) - 1) gs)), .u, .u, .p a10, .u, .u, .u, .u, .u, .u, .u, .u, .u, .u, .u], .none⟩) P := by
  obtain ⟨L, D1, hL, hv⟩ := values_ok n D (by have := h.hi; omega)
  have hn := h.hi
  have on1 : onL L.length gs := by rw [hL]; exact h.on
  have on2 : onL L.length (upN gs) := by rw [hL]; exact up_onL h.on
  have on3 : onL L.length os := by rw [hL]; exact ho.on
  unfold l_law_1
  rw [Z.sFg_eq, Z.wS_fg]
  (try dsimp only); rw [Z.sSeq_eq, Z.wS_seq]
  simp! [hv]
  (try dsimp only); rw [Z.sSeq_eq, Z.wS_seq]
  simp! [out_ok on1, out_ok on2]
  (try dsimp only); rw [Z.sSeq_eq, Z.wS_seq]
  have c1 : ∀ st : S, st = ⟨[.p (.scr ns), .o (.lst (iv D1)), a2, .p (netV n gs), .p (netV n os), .p (.tup [netV n (upN gs), .tup (iv (twL n gs))]), .p (.int ((n : Int) - 1)), .p (netV n (mir ((n : Int) - 1) gs)), .u, .u, .p a10, .p (.tup (iv L)), .p (.tup (iv (outL gs L))), .p (.tup (iv (outL (upN gs) L))), .u, .u, .u, .u, .u, .u, .u, .u], .none⟩ →
      compL (.nm 14) tyes q_law_2 [14] ((List.range n).map fun (k : Nat) => Val.int (k : Int)) [] st = .ok (iv (outL (upN gs) L)) st := by
    rintro _ rfl
    rw [Z.compL_map (fun (k : Nat) => Val.int (run (fnL L) (upN gs) (k : Int))) (by simp; omega) fun k hk => ?_]
    · congr 1
      simp [outL, rg, hL]
    · have hk : k < n := List.mem_range.mp hk
      obtain ⟨j, hj, e1, e2⟩ := tw_at h.on hL k hk
      have x1 : ixDV (.tup (iv (twL n gs))) (.int (k : Int)) = some (.p (.int (j : Int))) := by
        rw [Z.ix_tm (by simpa [twL, rg] using hk)]
        rw [List.getElem?_eq_some_iff] at e1
        obtain ⟨_, e1⟩ := e1
        rw [e1]
      have hj' : j < (outL gs L).length := by rw [outL_len, hL]; exact hj
      have x2 : ixDV (.tup (iv (outL gs L))) (.int (j : Int)) = some (.p (.int (run (fnL L) (upN gs) (k : Int)))) := by
        rw [Z.ix_tm hj', outL_at, e2]
      unfold elt1 q_law_2
      simp! [x1, x2]
  simp! [Z.rg1_nat (show n < 4000000000000000000 by omega), c1 _ rfl, eqI.ne (by decide : 1 ≤ 64)]
  (try dsimp only); rw [Z.sSeq_eq, Z.wS_seq]
  have lS : (sortI L).length = L.length := sortI_len L
  have on4 : onL (sortI L).length (upN gs) := by rw [lS]; exact on2
  have lL : L.length ≤ 16777216 := by omega
  have o2 : outL (upN gs) (sortI L) = sortI L := outL_sorted (sortI_sorted L) (by rw [lS, hL]; exact up_on h.on)
  simp! [sorted_tiv lL, out_ok on4, o2, Eqs.int.tup.ne (by decide : 1 ≤ 64)]
  (try dsimp only); rw [Z.sSeq_eq, Z.wS_seq]
  have lR : (L.reverse.map fun x => -x).length = L.length := by simp
  have on5 : onL (L.reverse.map fun x => -x).length (mir ((n : Int) - 1) gs) := by
    rw [lR, hL]
    intro g hg
    obtain ⟨g', hg', rfl⟩ := List.mem_map.mp hg
    obtain ⟨a, b, c⟩ := h.on g' hg'
    have a := mem_rg.mp a
    have b := mem_rg.mp b
    exact ⟨mem_rg.mpr (by dsimp only; omega), mem_rg.mpr (by dsimp only; omega), by dsimp only; omega⟩
  have neg : ∀ (M : List Int) (st : S), M.length ≤ 1000 → (∀ i, i ∈ [16] → st.get i = .u) → True := fun _ _ _ _ => trivial
  simp! [← List.map_reverse]
  rw [Z.compL_map (fun x => Val.int (-x)) (by simp; omega) fun x hx => ?_]
  rotate_left
  · unfold elt1 q_law_3
    simp! []
  have e5 : L.reverse.map (fun x => Val.int (-x)) = iv (L.reverse.map fun x => -x) := by simp
  simp! [e5, out_ok on5]
  (try dsimp only); rw [Z.sSeq_eq, Z.wS_seq]
  simp! [← List.map_reverse]
  have lT : (outL (mir ((n : Int) - 1) gs) (L.reverse.map fun x => -x)).length = L.length := by rw [outL_len, lR]
  rw [Z.compL_map (fun x => Val.int (-x)) (by rw [List.length_reverse, lT]; omega) fun x hx => ?_]
  rotate_left
  · unfold elt1 q_law_4
    simp! []
  have e6 : (outL (mir ((n : Int) - 1) gs) (L.reverse.map fun x => -x)).reverse.map (fun x => Val.int (-x)) = iv (outL gs L) := by
    have := outL_mir on1
    rw [hL] at this
    rw [← this]
    simp
  simp! [e6, Eqs.int.tup.ne (by decide : 1 ≤ 64)]
  have tj := t2 (b := .non) (joint_ok h ho hl)
  have x1 : ixDV (netV n (gs ++ os)) (.int 1) = some (.p (.tup (gv (gs ++ os)))) := Z.ix_t1
  have on6 : onL L.length (gs ++ os) := fun g hg => (List.mem_append.mp hg).elim (on1 g) (on3 g)
  have on7 : onL (outL gs L).length os := by rw [outL_len]; exact on3
  simp! [tj, x1, out_ok on6, out_ok on7, outL_app on3, Eqs.int.tup.ne (by decide : 1 ≤ 64)]
  exact hP D1
end L_k21
end

section
set_option Elab.async false
set_option linter.all false
set_option maxRecDepth 100000
set_option autoImplicit false
set_option maxHeartbeats 4000000
namespace L_k21
open PySem Y Z M45 Net
local macro_rules
  | `(tactic| simp! [$args,*]) => `(tactic| simp -implicitDefEqProofs -dsimp only [Z.wR_ok, Z.wR_ex, Z.wR_bad, Z.wR_bind, Z.bind_ok, Z.bind_ex, Z.bind_bad, Z.stm_ok, Z.stm_ex, Z.stm_bad, Z.wS_stm, Z.wS_seq, Z.wS_nx, Z.wS_rt, Z.wS_bk, Z.wS_ct, Z.wS_ex, Z.wS_bad, Z.wR_ite, Z.wR_itebad, Z.wS_ite, Z.wS_itebad, Z.wS_fg, Z.wF_ok, Z.wF_ex, Z.retV_p, Z.retV_f, Z.retV_s, Z.retS_p, Z.retS_o, Z.eVar_eq, Z.eVarS_p, Z.eVarS_o, Z.eVarS_l, Z.eVarS_r, Z.peek_p, Z.peek_f, Z.peek_r, Z.peek_s, Z.peekS_p, Z.peekS_o, Z.peekS_l, Z.peekS_r, Z.val_lst, Z.val_dk, Z.val_dt, Z.takeR_p, Z.takeR_f, Z.takeR_r, Z.takeR_s, Z.takeS_p, Z.takeS_o, Z.takeB_some, Z.takeF_some, Z.keep1_eq, Z.locked_eq, Z.get_0, Z.set_0, Z.get_1, Z.set_1, Z.get_2, Z.set_2, Z.get_3, Z.set_3, Z.get_4, Z.set_4, Z.get_5, Z.set_5, Z.get_6, Z.set_6, Z.get_7, Z.set_7, Z.get_8, Z.set_8, Z.get_9, Z.set_9, Z.get_10, Z.set_10, Z.get_11, Z.set_11, Z.get_12, Z.set_12, Z.get_13, Z.set_13, Z.get_14, Z.set_14, Z.get_15, Z.set_15, Z.get_16, Z.set_16, Z.get_17, Z.set_17, Z.get_18, Z.set_18, Z.get_19, Z.set_19, Z.get_20, Z.set_20, Z.get_21, Z.set_21, Z.get_22, Z.set_22, Z.get_23, Z.set_23, Z.get_24, Z.set_24, Z.get_25, Z.set_25, Z.optR_some, Z.wR_optR, Z.opR_some, Z.op1_some, Z.eC_eq, Z.eB2_eq, Z.eC1_eq, Z.asB_eq, Z.boolR_bl, Z.truR_some, Z.truB_some, Z.asT_eq, Z.eNeg_eq, Z.eNegR_int, Z.tyes_eq, Z.bAnd_eq, Z.bOr_eq, Z.bNot_eq, Z.eB_eq, Z.eIf_eq, Z.eAnd_eq, Z.eOr_eq, Z.eNot_eq, Z.aNil_eq, Z.aCons_eq, Z.eTup_eq, Z.eLst_eq, Z.chB_bl, Z.eChain_eq, Z.bNil_eq, Z.bCons_eq, Z.refR_none, Z.bRef_eq, Z.pf_p, Z.pf_f, Z.pfR_p, Z.pfR_f, Z.pfR_ex, Z.wR_pfR, Z.wR_bkR, Z.callD_eq, Z.calE_none, Z.calE_s, Z.calE_r, Z.calS_o, Z.isObj_lst, Z.isObj_dk, Z.eCall_eq, Z.vcT_some, Z.vcR_fn, Z.eVCall_eq, Z.muO_some, Z.muR_some, Z.wR_muO, Z.wR_muR, Z.muS_o, Z.mutAt_s, Z.mutAt_r, Z.eMut_eq, Z.obind_some, Z.omap_some, Z.omap_none, Z.appF_eq, Z.tyName_lst, Z.meR_some, Z.eMeth_eq, Z.rgR_int, Z.rgR2_int, Z.eRg1_eq, Z.eRg2_eq, Z.mkSeq_t, Z.mkSeq_f, Z.revR_lst, Z.eListRev_eq, Z.oN_eq, Z.oR_int, Z.oI_eq, Z.slR_some, Z.eSl_eq, Z.cutVal_lst, Z.cutVal_tup, Z.sl3R_lst, Z.eSl3_eq, Z.eDict0_eq, Z.kNil_eq, Z.kCons_eq, Z.dkR_some, Z.eDict_eq, Z.gtR_s, Z.gtR_n, Z.gtR2_some, Z.eGet2_eq, Z.sPass_eq, Z.sBrk_eq, Z.sCnt_eq, Z.sIf_eq, Z.sRet_eq, Z.sRetN_eq, Z.sExpr_eq, Z.sRaise_eq, Z.sSet_eq, Z.sFg_eq, Z.store_eq, Z.store0_p, Z.store0_f, Z.store0_r, Z.store0_s, Z.asgR_some, Z.sAsg_eq, Z.asg_nm, Z.asgs_nil, Z.asgC_some, Z.asgs_cons, Z.sPar_eq, Z.par2_eq, Z.isS_p, Z.isS_f, Z.isS_r, Z.isS_s, Z.augR_p, Z.augO_some, Z.augS_p, Z.sAug_eq, Z.lone_nx, Z.wS_lone, Z.sAsgX_eq, Z.sAsgX2_eq, Z.tfN_eq, Z.tfS_eq, Z.tfT_eq, Z.tfs_nil, Z.tfs_cons, Z.muO2_some, Z.muS2_o, Z.mutS_s, Z.fgS_nil, Z.fgS_cons, Z.fg_nx, Z.fg_rt, Z.fg_bk, Z.fg_ct, Z.fg_ex, Z.seq_nx', Z.seq_rt', Z.seq_bk', Z.seq_ct', Z.seq_ex', Z.lqu_none, Z.lqu_some, Z.sFor_eq, Z.unlock_none, Z.unlS_l, Z.unlock_some, Z.itO_some, Z.wR_itO, Z.argIt_eq, Z.a1_eq, Z.a2_eq, Z.a3_eq, Z.iterD_eq, Z.itR_p, Z.itR_f, Z.itR_s, Z.itS_o, Z.itS_l, Z.seqItems_lst, Z.seqItems_tup, Z.seqItems_scr, Z.wipe_nil, Z.wipe_cons, Z.rest_nil, Z.rest_cons, Z.unlk_nil, Z.unlk_cons, Z.lend_nil, Z.lend_cons, Z.lend_p, Z.lend_u, Z.lend_r, Z.finC_none, Z.finS_l, Z.finC_some, Z.noex_ok, Z.wR_noex, Z.lbf_none, Z.lbf_some, Z.eComp_eq, Z.isDict_dk, Z.isDict_lst, Z.iv_snoc, Z.eRv_eq, Z.rvR_tup, Z.rvR_lst, Z.sTryMany_eq, Z.tmR_nx, Z.tmR_rt, Z.tmR_ex, Z.compL_nil, Z.compL_cons, Z.compA_some, Z.isDk_p, Z.isDk_t, Z.isDk_s, Z.isDk_o, Z.sForN_eq, Z.modV_int, Z.fdivV_int, Z.mulT_int1, Z.mulT_int2, Z.imul_int1, Z.imul_int2, Z.all_1, Z.all_2, Z.all_3, Z.bkR_p, Z.bkR_f, Z.asg_tp, Z.chB_bl, Z.addV_int, Z.addV_lst, Z.addV_tup, Z.subV_int, Z.iaddV_int, Z.ltV_int, Z.leV_int, Z.gtV_int, Z.geV_int, Z.isV_non, Z.isnV_non, Z.len_lst, Z.len_tup, Z.len_scr, Z.abs_int, Z.int_int, Z.int_bl, Z.max2_int, Z.min2_int, Z.list_lst, Z.list_tup, Z.tuple_lst, Z.tuple_tup, Z.tru_non, Z.tru_bl, Z.tru_int, Z.tru_lst, Z.tru_tup, Z.ix_t0, Z.ix_t1, Z.ix_t2, Z.ix_l0, Z.ix_l1, Z.rgL_nat, Z.seq_scr, Z.zip_lst, Z.zip_tup, Z.enum_lst, Z.setL_lst, Z.eqV_int', Z.neV_int, Z.eqV_bl, Z.neV_bl, Z.isi_non_int, Z.isi_non_bool, Z.isi_non_str, Z.isi_non_tuple, Z.isi_non_list, Z.isi_non_dict, Z.isi_bl_int, Z.isi_bl_bool, Z.isi_bl_str, Z.isi_bl_tuple, Z.isi_bl_list, Z.isi_bl_dict, Z.isi_int_int, Z.isi_int_bool, Z.isi_int_str, Z.isi_int_tuple, Z.isi_int_list, Z.isi_int_dict, Z.isi_str_int, Z.isi_str_bool, Z.isi_str_str, Z.isi_str_tuple, Z.isi_str_list, Z.isi_str_dict, Z.isi_tup_int, Z.isi_tup_bool, Z.isi_tup_str, Z.isi_tup_tuple, Z.isi_tup_list, Z.isi_tup_dict, Z.isi_lst_int, Z.isi_lst_bool, Z.isi_lst_str, Z.isi_lst_tuple, Z.isi_lst_list, Z.isi_lst_dict, Z.isi_scr_int, Z.isi_scr_bool, Z.isi_scr_str, Z.isi_scr_tuple, Z.isi_scr_list, Z.isi_scr_dict, Z.isi_dk_int, Z.isi_dk_bool, Z.isi_dk_str, Z.isi_dk_tuple, Z.isi_dk_list, Z.isi_dk_dict, Z.isi_dt_int, Z.isi_dt_bool, Z.isi_dt_str, Z.isi_dt_tuple, Z.isi_dt_list, Z.isi_dt_dict, Z.isN_non, Z.isN_bl, Z.isN_int, Z.isN_str, Z.isN_tup, Z.isN_lst, Z.isN_scr, Z.isN_dk, Z.isN_dt, Int.natCast_zero, Int.natCast_one, Int.cast_ofNat_Int, reduceCtorEq, List.nil_append, List.cons_append, Z.isL_p, Z.isL_o, Z.isL_u, Z.isL_r, Int.reduceEq, Int.reduceLT, Int.reduceLE, Int.reduceAdd, Int.reduceSub, Int.reduceMul, Int.reduceNe, Int.reduceNeg, implies_true, false_implies, true_implies, and_self, ↓reduceIte, Bool.not_true, Bool.not_false, Bool.and_true, Bool.true_and, Bool.false_and, Bool.and_false, Bool.or_false, Bool.or_true, Bool.false_or, Bool.true_or, List.length_cons, List.length_nil, List.length_map, Option.some.injEq, exists_eq_left', exists_eq_left, true_and, and_true, Nat.reduceAdd, Nat.reduceLT, Nat.reduceMul, Nat.reduceSub, Nat.reduceLeDiff, Nat.reduceEqDiff, Bool.false_eq_true, decide_eq_true_eq, ne_eq, not_false_eq_true, not_true_eq_false, if_true, if_false, eq_self, Option.isSome_some, Option.isSome_none, ite_true, ite_false, decide_true, decide_false, beq_self_eq_true, List.lookup_cons, or_true, true_or, or_false, false_or, and_false, false_and, $args,*])
theorem pick3 (a b c : Nat) (D : List Int) (m : Nat) (ha : a ≤ m) (hb : b ≤ m) (hc : c ≤ m) : ∃ (x : Nat) (D' : List Int), x ≤ m ∧ d__law_pick [.r, .p (.lst [.int a, .int b, .int c])] (.lst (iv D)) = .ok (.p (.int x)) (.lst (iv D')) := by
  obtain ⟨k, hk, D', h⟩ := pick_ok [.int a, .int b, .int c] D (by simp) (by simp)
  have : k = 0 ∨ k = 1 ∨ k = 2 := by simp at hk; omega
  rcases this with rfl | rfl | rfl
  · exact ⟨a, D', ha, h⟩
  · exact ⟨b, D', hb, h⟩
  · exact ⟨c, D', hc, h⟩
theorem pick_kind (D : List Int) : ∃ (x : Int) (D' : List Int), x ≠ 2 ∧ d__law_pick [.r, .p (.lst [.int 0, .int 0, .int 1, .int 3])] (.lst (iv D)) = .ok (.p (.int x)) (.lst (iv D')) := by
  obtain ⟨k, hk, D', h⟩ := pick_ok [.int 0, .int 0, .int 1, .int 3] D (by decide) (by simp)
  have : k = 0 ∨ k = 1 ∨ k = 2 ∨ k = 3 := by simp at hk; omega
  rcases this with rfl | rfl | rfl | rfl
  · exact ⟨0, D', by decide, h⟩
  · exact ⟨0, D', by decide, h⟩
  · exact ⟨1, D', by decide, h⟩
  · exact ⟨3, D', by decide, h⟩
theorem pick4 (a b c d : Int) (D : List Int) : ∃ (x : Int) (D' : List Int), (x = a ∨ x = b ∨ x = c ∨ x = d) ∧ d__law_pick [.r, .p (.lst [.int a, .int b, .int c, .int d])] (.lst (iv D)) = .ok (.p (.int x)) (.lst (iv D')) := by
  obtain ⟨k, hk, D', h⟩ := pick_ok [.int a, .int b, .int c, .int d] D (by simp) (by simp)
  have : k = 0 ∨ k = 1 ∨ k = 2 ∨ k = 3 := by simp at hk; omega
  rcases this with rfl | rfl | rfl | rfl
  · exact ⟨a, D', .inl rfl, h⟩
  · exact ⟨b, D', .inr (.inl rfl), h⟩
  · exact ⟨c, D', .inr (.inr (.inl rfl)), h⟩
  · exact ⟨d, D', .inr (.inr (.inr rfl)), h⟩
theorem okmir {n : Nat} {gs : G} (h : okNet n gs) : okNet n (mir ((n : Int) - 1) gs) := by
  refine ⟨h.lo, h.hi, by have := h.few; simp [mir]; exact this, ?_⟩
  intro g hg
  obtain ⟨g', hg', rfl⟩ := List.mem_map.mp hg
  obtain ⟨a, b, c⟩ := h.on g' hg'
  have a := mem_rg.mp a
  have b := mem_rg.mp b
  exact ⟨mem_rg.mpr (by dsimp only; omega), mem_rg.mpr (by dsimp only; omega), by dsimp only; omega⟩
theorem outer (ns : List Int) (D : List Int) (a2 : Val) (P : Po)
    (hP : ∀ D', P.nx ⟨[.p (.scr ns), .o (.lst (iv D')), .u, .u, .u, .u, .u, .u, .u, .u, .u, .u, .u, .u, .u, .u, .u, .u, .u, .u, .u, .u], .none⟩) :
    wS (l_law_2 ⟨[.p (.scr ns), .o (.lst (iv D)), .p a2, .u, .u, .u, .u, .u, .u, .u, .u, .u, .u, .u, .u, .u, .u, .u, .u, .u, .u, .u], .none⟩) P := by
  obtain ⟨x, D1, k1, x0, x1⟩ := take_ok D 9 (by decide)
  obtain ⟨x, rfl⟩ := Int.eq_ofNat_of_zero_le x0
  obtain ⟨most, D2, hm, k2⟩ := pick3 3 9 30 D1 30 (by decide) (by decide) (by decide)
  obtain ⟨kind, D3, hk, k3⟩ := pick_kind D2
  obtain ⟨gs, D4, g1, g2, k4⟩ := net_drawn (1 + x) most kind D3 (by omega) (by omega) (by omega) hk (fun _ => by omega)
  obtain ⟨y, D5, k5, y0, y1⟩ := take_ok D4 2 (by decide)
  obtain ⟨os, D6, o1, o2, k6⟩ := net_drawn (1 + x) 9 y D5 (by omega) (by omega) (by omega) (by omega) (fun _ => by omega)
  have en : (1 : Int) + (x : Int) = ((1 + x : Nat) : Int) := by omega
  have e9 : ((9 : Nat) : Int) = 9 := rfl
  rw [e9] at k6
  have k2 : d__law_pick [.r, .p (.lst [.int 3, .int 9, .int 30])] (.lst (iv D1)) = _ := k2
  generalize 1 + x = n at *
  have hn9 : n ≤ 9 := by omega
  have h : okNet n gs := ⟨by omega, by omega, by omega, g1⟩
  have ho : okNet n os := ⟨by omega, by omega, by omega, o1⟩
  unfold l_law_2
  rw [Z.sFg_eq, Z.wS_fg]
  (try dsimp only); rw [Z.sSeq_eq, Z.wS_seq]
  simp! [k1, k2, k3, en, k4]
  (try dsimp only); rw [Z.sSeq_eq, Z.wS_seq]
  simp! [k5, k6]
  (try dsimp only); rw [Z.sSeq_eq, Z.wS_seq]
  simp! [lupright_ok h]
  (try dsimp only); rw [Z.sSeq_eq, Z.wS_seq]
  have hu := t0 (a := .non) (b := .non) (upright_ok h)
  have du : DataV 12 (.tup [netV n (upN gs), .tup (iv (twL n gs))]) := .tup (by simp) (data_cons (data_net 7 n _ (by rw [up_len]; omega)) (data_cons (.tup (by simp [twL, rg]; omega) data_iv) data_nil))
  simp! [hu, same_ok du]
  (try dsimp only); rw [Z.sSeq_eq, Z.wS_seq]
  simp! []
  (try dsimp only); rw [Z.sSeq_eq, Z.wS_seq]
  simp! []
  rw [Z.compL_map (fun g => pairV ((n : Int) - 1 - g.2, (n : Int) - 1 - g.1)) (by omega) fun g hg => ?_]
  rotate_left
  · unfold elt1 q_law_1
    simp! []
  have em : gs.map (fun g => pairV ((n : Int) - 1 - g.2, (n : Int) - 1 - g.1)) = gv (mir ((n : Int) - 1) gs) := by simp [mir]
  simp! [em]
  (try dsimp only); rw [Z.sSeq_eq, Z.wS_seq]
  have hl : gs.length + os.length ≤ 600 := by omega
  have m1 := t1 (a := .non) (b := .non) (mirror_ok h)
  have m2 := t1 (a := .non) (b := .non) (mirror_ok (okmir h))
  rw [mir_mir] at m2
  have m3 := t2 (b := .non) (joint_ok h ho hl)
  have c1 : gs.length + os.length ≤ 16777216 := by omega
  have ea : gv gs ++ gv os = gv (gs ++ os) := (gv_append gs os).symm
  simp only [gv] at ea
  have d3 : DataV 12 (.lst [netV n (mir ((n : Int) - 1) gs), netV n gs, netV n (gs ++ os)]) := .lst (by simp) (data_cons (data_net 7 n _ (by simp [mir]; omega)) (data_cons (data_net 7 n _ (by omega)) (data_cons (data_net 7 n _ (by simp; omega)) data_nil)))
  simp! [m1, m2, m3, c1, ea, same_ok d3]
  (try dsimp only); rw [Z.sSeq_eq, Z.wS_seq]
  have r4 : rg1 (.int 4) = some ((List.range 4).map fun (k : Nat) => Val.int (k : Int)) := Z.rg1_nat (n := 4) (by omega)
  simp! [r4]
  refine w_forR 4 (fun _ st => ∃ D, st = ⟨[.p (.scr ns), .o (.lst (iv D)), .p a2, .p (netV n gs), .p (netV n os), .p (.tup [netV n (upN gs), .tup (iv (twL n gs))]), .p (.int ((n : Int) - 1)), .p (netV n (mir ((n : Int) - 1) gs)), .u, .u, .u, .u, .u, .u, .u, .u, .u, .u, .u, .u, .u, .u], .none⟩) ⟨D6, rfl⟩ ?_ ?_
  · rintro k hk' _ ⟨D, rfl⟩
    simp! []
    refine inner ns _ _ D n gs os _ h ho hl fun D' => ?_
    exact ⟨D', rfl⟩
  · rintro _ ⟨D, rfl⟩
    simp! []
    (try dsimp only); rw [Z.sSeq_eq, Z.wS_seq]
    obtain ⟨z, D7, k7, z0, z1⟩ := take_ok D 9 (by decide)
    obtain ⟨m, D8, hm8, k8⟩ := pick4 (n : Int) 32 ((n : Int) + z) 12 D7
    have mlo : (n : Int) ≤ m := by rcases hm8 with rfl | rfl | rfl | rfl <;> omega
    have mhi : m ≤ 32 := by rcases hm8 with rfl | rfl | rfl | rfl <;> omega
    obtain ⟨m, rfl⟩ := Int.eq_ofNat_of_zero_le (show 0 ≤ m by omega)
    obtain ⟨k, D9, k9, q0, q1⟩ := take_ok D8 ((m : Int) - (n : Int) + 1) (by omega)
    obtain ⟨k, rfl⟩ := Int.eq_ofNat_of_zero_le q0
    simp! [k7, k8]
    (try dsimp only); rw [Z.sSeq_eq, Z.wS_seq]
    simp! [k9]
    (try dsimp only); rw [Z.sSeq_eq, Z.wS_seq]
    simp! []
    rw [Z.compL_map (fun g => pairV (g.1 + (k : Int), g.2 + (k : Int))) (by omega) fun g hg => ?_]
    rotate_left
    · unfold elt1 q_law_5
      simp! []
    have es : gs.map (fun g => pairV (g.1 + (k : Int), g.2 + (k : Int))) = gv (shf k gs) := by simp [shf]
    simp! [es]
    (try dsimp only); rw [Z.sSeq_eq, Z.wS_seq]
    obtain ⟨L, D10, hL, k10⟩ := values_ok m D9 (by omega)
    simp! [k10]
    (try dsimp only); rw [Z.sSeq_eq, Z.wS_seq]
    have hk1 : k + n ≤ m := by omega
    have m4 := t3 (setout_ok h (m : Int) (k : Int) (by omega) (by omega) (by omega) (by omega))
    have d4 : DataV 12 (netV m (shf k gs)) := data_net 8 m _ (by simp [shf]; omega)
    have on1 : onL L.length (shf k gs) := by
      rw [hL]
      intro g hg
      obtain ⟨g', hg', rfl⟩ := List.mem_map.mp hg
      obtain ⟨a, b, c⟩ := h.on g' hg'
      have a := mem_rg.mp a
      have b := mem_rg.mp b
      exact ⟨mem_rg.mpr (by dsimp only; omega), mem_rg.mpr (by dsimp only; omega), by dsimp only; omega⟩
    have l2 : ((L.drop k).take n).length = n := by rw [List.length_take, List.length_drop]; omega
    have on2 : onL ((L.drop k).take n).length gs := by rw [l2]; exact h.on
    have u1 : cutL (iv L) none (some (k : Int)) = iv (L.take k) := by rw [cut_to (by rw [List.length_map]; omega), iv_take]
    have u2 : cutL (iv L) (some (k : Int)) (some ((k : Int) + (n : Int))) = iv ((L.drop k).take n) := by
      have : (k : Int) + (n : Int) = ((k + n : Nat) : Int) := by omega
      rw [this, cut_at (by rw [List.length_map]; omega) (by omega), iv_drop, iv_take]
      congr 2
      omega
    have u3 : cutL (iv L) (some ((k : Int) + (n : Int))) none = iv (L.drop (k + n)) := by
      have : (k : Int) + (n : Int) = ((k + n : Nat) : Int) := by omega
      rw [this, cut_from (by rw [List.length_map]; omega), iv_drop]
    have s1 : (L.take k).length + (outL gs ((L.drop k).take n)).length ≤ 16777216 := by rw [outL_len, l2, List.length_take]; omega
    have s2 : (L.take k ++ outL gs ((L.drop k).take n)).length + (L.drop (k + n)).length ≤ 16777216 := by rw [List.length_append, outL_len, l2, List.length_take, List.length_drop]; omega
    have osf : outL (shf k gs) L = L.take k ++ outL gs ((L.drop k).take n) ++ L.drop (k + n) := outL_shf h.on (by omega)
    have x1 : ixDV (netV m (shf k gs)) (.int 1) = some (.p (.tup (gv (shf k gs)))) := Z.ix_t1
    simp! [m4, same_ok d4, x1, out_ok on1, out_ok on2, u1, u2, u3, s1, ← List.map_append, s2, osf, Eqs.int.tup.ne (by decide : 1 ≤ 64)]
    (try dsimp only); rw [Z.sSeq_eq, Z.wS_seq]
    have w1 : d_is_within [.p (.int 33), .p (.int 1), .p (.int 32)] .none = .ok (.p (.bl false)) .none := within_ok _ _ _
    have w2 : d_is_within [.p (.int 0), .p (.int 1), .p (.int 32)] .none = .ok (.p (.bl false)) .none := within_ok _ _ _
    have w3 : d_is_within [.p (.int ((m : Int) - (n : Int) + 1)), .p (.int 0), .p (.int ((m : Int) - (n : Int)))] .none = .ok (.p (.bl false)) .none := by
      rw [within_ok]
      have : ¬ ((m : Int) - (n : Int) + 1 ≤ (m : Int) - (n : Int)) := by omega
      simp [this]
    have w4 : d_is_within [.p (.int (-1)), .p (.int 0), .p (.int ((m : Int) - (n : Int)))] .none = .ok (.p (.bl false)) .none := within_ok _ _ _
    have w5 : d_is_within [.p .non, .p (.int 1), .p (.int 32)] .none = .ok (.p (.bl false)) .none := by kernel_rfl
    have w6 : d_is_within [.p (.bl true), .p (.int 0), .p (.int ((m : Int) - (n : Int)))] .none = .ok (.p (.bl false)) .none := by kernel_rfl
    have w8 : d_is_within [.p (.str "9"), .p (.int 1), .p (.int 32)] .none = .ok (.p (.bl false)) .none := by kernel_rfl
    have w7 : d_is_within [.p (.int ((n : Int) - 1)), .p (.int 1), .p (.int 32)] .none = .ok (.p (.bl false)) .none ∨ (∃ q : Int, Val.int ((n : Int) - 1) = .int q ∧ 1 ≤ q ∧ q ≤ 32 ∧ d_is_within [.p (.int 0), .p (.int 0), .p (.int (q - n))] .none = .ok (.p (.bl false)) .none) := by
      by_cases h1 : n = 1
      · left
        rw [within_ok]
        have : ¬ (1 : Int) ≤ (n : Int) - 1 := by omega
        simp [this]
      · right
        refine ⟨(n : Int) - 1, rfl, by omega, by omega, ?_⟩
        rw [within_ok]
        have : ¬ (0 : Int) ≤ (n : Int) - 1 - (n : Int) := by omega
        rw [decide_eq_false this]; rfl
    have f1 := t3n (u := .int 0) (setout_no2 h (.inl w1))
    have f2 := t3n (u := .int 0) (setout_no2 h (.inl w2))
    have f3 := t3n (setout_no2 h (.inr ⟨(m : Int), rfl, by omega, by omega, w3⟩))
    have f4 := t3n (setout_no2 h (.inr ⟨(m : Int), rfl, by omega, by omega, w4⟩))
    have f5 := t3n (u := .int 0) (setout_no2 h (.inl w5))
    have f6 := t3n (setout_no2 h (.inr ⟨(m : Int), rfl, by omega, by omega, w6⟩))
    have f7 := t3n (setout_no2 h w7)
    have f8 := t3n (u := .int 0) (setout_no2 h (.inl w8))
    simp! [q_law_6, f1, f2, f3, f4, f5, f6, f7, f8]
    (try dsimp only); rw [Z.sSeq_eq, Z.wS_seq]
    obtain ⟨bad, D11, k11, hb⟩ := bad_ok D10
    simp! [k11]
    (try dsimp only); rw [Z.sSeq_eq, Z.wS_seq]
    have b0 := t0n (a := .non) (b := .non) (upright_no hb)
    have b1 := t1n (a := .non) (b := .non) (mirror_no hb)
    have b2 := t2n (b := .non) (joint_no1 (w := netV n gs) hb)
    have b3 := t2n (b := .non) (joint_no2 (cn_ok h) hb)
    have b4 := t3n (setout_no1 (w := .int 0) (u := .non) hb)
    simp! [b0, b1, b2, b3, b4]
    have m13 : mulTV (.lst [refV "not right"]) (.int 13) = some (.f (.lst [refV "not right", refV "not right", refV "not right", refV "not right", refV "not right", refV "not right", refV "not right", refV "not right", refV "not right", refV "not right", refV "not right", refV "not right", refV "not right"])) := by kernel_rfl
    have e13 : neV (.lst [refV "not right", refV "not right", refV "not right", refV "not right", refV "not right", refV "not right", refV "not right", refV "not right", refV "not right", refV "not right", refV "not right", refV "not right", refV "not right"]) (.lst [refV "not right", refV "not right", refV "not right", refV "not right", refV "not right", refV "not right", refV "not right", refV "not right", refV "not right", refV "not right", refV "not right", refV "not right", refV "not right"]) = some (.p (.bl false)) := by kernel_rfl
    simp! [m13, e13]
    exact hP D11
def gRep (k : Nat) (a b : Int) : G := List.replicate k (a, b)
theorem ok_rep (n k : Nat) (a b : Int) (h1 : 1 ≤ n) (h2 : n ≤ 32) (hk : k ≤ 600) (ha : a ∈ rg n) (hb : b ∈ rg n) (hab : a ≠ b) : okNet n (gRep k a b) := by
  refine ⟨h1, h2, by simp [gRep, hk], ?_⟩
  intro g hg
  obtain ⟨_, rfl⟩ := List.mem_replicate.mp hg
  exact ⟨ha, hb, hab⟩
theorem gv_rep (k : Nat) (a b : Int) : List.replicate k (Val.tup [.int a, .int b]) = gv (gRep k a b) := by simp [gRep, gv]
theorem law_true (ns : List Int) (hn : ns.length ≤ 63) : d_law [.p (.scr ns)] .none = .ok (.p (.bl true)) .none := by
  obtain ⟨D, _, hD⟩ := draws_ok ns hn
  refine wF_iff ?_
  rw [e_law, wF_end]
  unfold b_law
  (try dsimp only); rw [Z.sSeq_eq, Z.wS_seq]
  simp! [hD]
  (try dsimp only); rw [Z.sSeq_eq, Z.wS_seq]
  have r6 : rg1 (.int 6) = some ((List.range 6).map fun (k : Nat) => Val.int (k : Int)) := Z.rg1_nat (n := 6) (by omega)
  simp! [r6]
  refine w_forR 6 (fun _ st => ∃ D, st = ⟨[.p (.scr ns), .o (.lst (iv D)), .u, .u, .u, .u, .u, .u, .u, .u, .u, .u, .u, .u, .u, .u, .u, .u, .u, .u, .u, .u], .none⟩) ⟨D, rfl⟩ ?_ ?_
  · rintro k hk _ ⟨D, rfl⟩
    simp! []
    exact outer ns D _ _ fun D' => ⟨D', rfl⟩
  · rintro _ ⟨D, rfl⟩
    simp! []
    (try dsimp only); rw [Z.sSeq_eq, Z.wS_seq]
    have p2 : ∃ (x : Nat) (D' : List Int), (x = 300 ∨ x = 301) ∧ d__law_pick [.r, .p (.lst [.int 300, .int 301])] (.lst (iv D)) = .ok (.p (.int (x : Int))) (.lst (iv D')) := by
      obtain ⟨k, hk, D', h⟩ := pick_ok [.int 300, .int 301] D (by simp) (by simp)
      have : k = 0 ∨ k = 1 := by simp at hk; omega
      rcases this with rfl | rfl
      · exact ⟨300, D', .inl rfl, h⟩
      · exact ⟨301, D', .inr rfl, h⟩
    obtain ⟨x, D1, hx, hp⟩ := p2
    have m1 : mulTV (.tup [.tup [.int 0, .int 1]]) (.int 300) = some (.p (.tup (gv (gRep 300 0 1)))) := by rw [← gv_rep]; exact mulT_t1 _ 300 (by decide)
    have m2 : mulTV (.tup [.tup [.int 0, .int 2]]) (.int (x : Int)) = some (.p (.tup (gv (gRep x 0 2)))) := by rw [← gv_rep]; exact mulT_t1 _ x (by omega)
    have m3 : mulTV (.tup [.tup [.int 0, .int 1]]) (.int 600) = some (.p (.tup (gv (gRep 600 0 1)))) := by rw [← gv_rep]; exact mulT_t1 _ 600 (by decide)
    have l1 : (gRep 300 0 1).length = 300 := by simp [gRep]
    have l2 : (gRep x 0 2).length = x := by simp [gRep]
    have k1 : okNet 3 (gRep 300 0 1) := ok_rep 3 300 0 1 (by omega) (by omega) (by omega) (by decide) (by decide) (by decide)
    have k2 : okNet 3 (gRep x 0 2) := ok_rep 3 x 0 2 (by omega) (by omega) (by omega) (by decide) (by decide) (by decide)
    have k3 : okNet 2 (gRep 600 0 1) := ok_rep 2 600 0 1 (by omega) (by omega) (by omega) (by decide) (by decide) (by decide)
    have j2 : d__law_told [.p (.int 2), .p (.tup [.int 3, .tup (gv (gRep 300 0 1))]), .p (.tup [.int 2, .tup (gv (gRep 600 0 1))]), .p .non] .none = .ok (.p (refV "no answer")) .none := t2a (joint_wid (n := 3) (m := 2) k1 k3 (by decide))
    simp! [hp, m1, m2]
    (try dsimp only); rw [Z.sSeq_eq, Z.wS_seq]
    rcases hx with rfl | rfl
    · have j1 : d__law_told [.p (.int 2), .p (.tup [.int 3, .tup (gv (gRep 300 0 1))]), .p (.tup [.int 3, .tup (gv (gRep 300 0 2))]), .p .non] .none = .ok (.p (netV 3 (gRep 300 0 1 ++ gRep 300 0 2))) .none := t2 (joint_ok (n := 3) k1 k2 (by rw [l1, l2]; decide))
      have ea : gv (gRep 300 0 1) ++ gv (gRep 300 0 2) = gv (gRep 300 0 1 ++ gRep 300 0 2) := (gv_append _ _).symm
      simp only [gv] at ea
      have d : DataV 12 (.lst [netV 3 (gRep 300 0 1 ++ gRep 300 0 2), refV "no answer"]) := .lst (by simp) (data_cons (data_net 7 3 _ (by rw [List.length_append, l1, l2]; decide)) (data_cons (.tup (by simp) (data_cons (.str _ (by kernel_rfl)) (data_cons (.str _ (by kernel_rfl)) data_nil))) data_nil))
      simp! [l1, l2, ea]
      simp! [m3, j1, j2, same_ok d]
    · have j1 : d__law_told [.p (.int 2), .p (.tup [.int 3, .tup (gv (gRep 300 0 1))]), .p (.tup [.int 3, .tup (gv (gRep 301 0 2))]), .p .non] .none = .ok (.p (refV "too large")) .none := t2l (joint_big (n := 3) k1 k2 (by rw [l1, l2]; decide))
      have d : DataV 12 (.lst [refV "too large", refV "no answer"]) := .lst (by simp) (data_cons (.tup (by simp) (data_cons (.str _ (by kernel_rfl)) (data_cons (.str _ (by kernel_rfl)) data_nil))) (data_cons (.tup (by simp) (data_cons (.str _ (by kernel_rfl)) (data_cons (.str _ (by kernel_rfl)) data_nil))) data_nil))
      simp! [l1, l2]
      simp! [m3, j1, j2, same_ok d]
end L_k21
end

section
set_option Elab.async false
set_option linter.all false
set_option maxRecDepth 100000
set_option maxHeartbeats 0
namespace L_k21
open PySem PySem.Spec PyProof.Rows L2 Y
/-! ## each def keeps its promise -/
theorem sc__law_draws : FnScope N__law_draws ["script"] (defScope (topS 20)) := ⟨rfl, rfl, rfl, by decide +kernel, rfl, by decide +kernel, by decide +kernel⟩
theorem ok__law_draws {c : Ct} (T : Facts c) : Fn c 1 "_law_draws" 1 d__law_draws := by
  obtain ⟨f, fd, F, hm⟩ := T.f__law_draws
  refine fn_mk (ps := ["script"]) (fn_ok (k := 0) (N := N__law_draws) F sc__law_draws rfl fun cdv A outer s H E G tk po => ?_) hm F.kp (F.bindsN fun _ _ _ _ _ _ us hl => match us, hl with | [_], _ => rfl)
  exact
    ss_cons (s_set (i := 1) G (se_lst (sa_nil)))
            (ss_cons (s_fg [2, 3, 4, 5] (s_forN (i := 0) G po (ht := sg_name (i := 2) G.nd)
            (hb := ss_fg [2, 3, 4, 5] (ss_cons (s_set (i := 3) G (se_callB1 G.soft d_abs (by rfl) T.b_abs rfl (se_var 2)))
            (ss_cons (s_fg [4] (s_if (st_cmp d_lt (se_var 3) (se_bin d_pow (se_int) (se_int)) (nomark _))
            (ss_cons (s_set (i := 4) G (se_bin d_mod (se_callT1 G.soft d_int (by rfl) T.b_int rfl (se_bin (d_add G.soft) (se_bin (d_mulT G.soft) (se_var 3) (se_int)) (se_int))) (se_int)))
            (ss_cons (s_expr (se_mut G PySem.F.plainAttrs_list PySem.F.slot_list_append PySem.F.type_list_append m_app (.inl rfl) f0_app (se_var 1) (sa_cons (se_bin d_mod (se_callT1 G.soft d_int (by rfl) T.b_int rfl (se_bin (d_add G.soft) (se_bin (d_mulT G.soft) (se_var 4) (se_int)) (se_var 3))) (se_int)) (sa_nil))))
            (ss_cons (s_expr (se_mut G PySem.F.plainAttrs_list PySem.F.slot_list_append PySem.F.type_list_append m_app (.inl rfl) f0_app (se_var 1) (sa_cons (se_bin d_mod (se_callT1 G.soft d_int (by rfl) T.b_int rfl (se_bin (d_add G.soft) (se_var 4) (se_bin d_fdiv (se_var 3) (se_int)))) (se_int)) (sa_nil))))
            (ss_one (s_set (i := 3) G (se_int))))))
            (ss_nil)))
            (ss_one (s_fg [3, 5] (s_for G po (si_range1 G (by rfl) T.b_range (sa_cons (se_int) (sa_nil))) (sg_name (i := 5) G.nd)
            (ss_fg [5] (ss_one (s_if (st_cmp d_gt (se_var 3) (se_int) (nomark _))
            (ss_cons (s_expr (se_mut G PySem.F.plainAttrs_list PySem.F.slot_list_append PySem.F.type_list_append m_app (.inl rfl) f0_app (se_var 1) (sa_cons (se_bin d_mod (se_callT1 G.soft d_int (by rfl) T.b_int rfl (se_var 3)) (se_int)) (sa_nil))))
            (ss_one (s_set (i := 3) G (se_bin d_fdiv (se_var 3) (se_int)))))
            (ss_nil))))))))))))
            (ss_cons (s_set (i := 6) G (se_int))
            (ss_cons (s_if (st_cmp d_gt (se_callB1 G.soft (d_lenD G) (by rfl) T.b_len rfl (se_var 0)) (se_int) (nomark _))
            (ss_one (s_set (i := 6) G (se_bin (d_add G.soft) (se_int) (se_callB1 G.soft d_abs (by rfl) T.b_abs rfl (se_ix (d_ixD G) (se_var 0) (se_int) (by exact plain_ix _))))))
            (ss_nil))
            (ss_cons (s_fg [5, 6] (s_for G po (si_range1 G (by rfl) T.b_range (sa_cons (se_int) (sa_nil))) (sg_name (i := 5) G.nd)
            (ss_fg [5] (ss_cons (s_set (i := 6) G (se_bin d_mod (se_callT1 G.soft d_int (by rfl) T.b_int rfl (se_bin (d_add G.soft) (se_bin (d_mulT G.soft) (se_var 6) (se_int)) (se_int))) (se_int)))
            (ss_one (s_expr (se_mut G PySem.F.plainAttrs_list PySem.F.slot_list_append PySem.F.type_list_append m_app (.inl rfl) f0_app (se_var 1) (sa_cons (se_bin d_fdiv (se_var 6) (se_int)) (sa_nil)))))))))
            (ss_one (s_ret (se_listRev G (by rfl) T.b_list (by rfl) T.b_reversed (se_var 1))))))))

theorem sc__law_same : FnScope N__law_same ["told", "due"] (defScope (topS 23)) := ⟨rfl, rfl, rfl, by decide +kernel, rfl, by decide +kernel, by decide +kernel⟩
theorem ok__law_same {c : Ct} (T : Facts c) (j : Nat) : Fn c (1 + j) "_law_same" 2 (d__law_same j) := by
  induction j with
  | zero =>
    obtain ⟨f, fd, F, hm⟩ := T.f__law_same
    refine fn_mk (ps := ["told", "due"]) (fn_zero) hm F.kp (F.bindsN fun _ _ _ _ _ _ us hl => match us, hl with | [_, _], _ => rfl)
  | succ j hr =>
    obtain ⟨f, fd, F, hm⟩ := T.f__law_same
    refine fn_mk (ps := ["told", "due"]) (fn_ok (k := 1 + j) (N := N__law_same) F sc__law_same rfl fun cdv A outer s H E G tk po => ?_) hm F.kp (F.bindsN fun _ _ _ _ _ _ us hl => match us, hl with | [_, _], _ => rfl)
    exact
      ss_cons (s_if (st_truth G (se_callB2 G (d_isi G) (by rfl) T.b_isinstance rfl (se_var 1) (se_bty G (by rfl) T.b_dict rfl)))
            (ss_cons (s_if ((sw_or (st_not (st_truth G (se_callB2 G (d_isi G) (by rfl) T.b_isinstance rfl (se_var 0) (se_bty G (by rfl) T.b_dict rfl)))) (sw_or1 (st_cmp (d_ne G) (se_callB1 G.soft (d_sortedD G) (by rfl) T.b_sorted rfl (se_callT1 G.soft (d_listD G) (by rfl) T.b_list rfl (se_var 0))) (se_callB1 G.soft (d_sortedD G) (by rfl) T.b_sorted rfl (se_callT1 G.soft (d_listD G) (by rfl) T.b_list rfl (se_var 1))) (nomark _)))).t)
            (ss_one (s_ret (se_bl)))
            (ss_nil))
            (ss_one (s_ret (se_callB1 G.soft (d_all G) (by rfl) T.b_all rfl (se_comp (own := [("key", 2)]) G (si_seq G (se_var 1)) (blkOk_by (own := [("key", 2)]) (N := N__law_same) (by first | (show blkC _ (defScope (topS 23)) _ _ = true; decide +kernel) | kernel_rfl)) (fun _ _ _ _ _ G => sg_name (i := 2) G.nd) (fun _ _ _ _ _ G tk => sts_nil) (fun _ _ _ _ _ G tk => se_call G tk hr.at (by omega) (sb_cons (se_ix (d_ixD G) (se_var 0) (se_var 2) (by exact plain_ix _)) (sb_cons (se_ix (d_ixD G) (se_var 1) (se_var 2) (by exact plain_ix _)) (sb_nil))) (by rfl)))))))
            (ss_nil))
            (ss_cons (s_if ((sw_or (st_truth G (se_callB2 G (d_isi G) (by rfl) T.b_isinstance rfl (se_var 1) (se_bty G (by rfl) T.b_tuple rfl))) (sw_or1 (st_truth G (se_callB2 G (d_isi G) (by rfl) T.b_isinstance rfl (se_var 1) (se_bty G (by rfl) T.b_list rfl))))).t)
            (ss_cons (s_if ((sw_or (st_cmp (d_ne G) (se_callB2 G (d_isi G) (by rfl) T.b_isinstance rfl (se_var 1) (se_bty G (by rfl) T.b_tuple rfl)) (se_callB2 G (d_isi G) (by rfl) T.b_isinstance rfl (se_var 0) (se_bty G (by rfl) T.b_tuple rfl)) (nomark _)) (sw_or1 (st_cmp (d_ne G) (se_callB2 G (d_isi G) (by rfl) T.b_isinstance rfl (se_var 1) (se_bty G (by rfl) T.b_list rfl)) (se_callB2 G (d_isi G) (by rfl) T.b_isinstance rfl (se_var 0) (se_bty G (by rfl) T.b_list rfl)) (nomark _)))).t)
            (ss_one (s_ret (se_bl)))
            (ss_nil))
            (ss_one (s_ret (se_and (se_cmp (d_eq G) (se_callB1 G.soft (d_lenD G) (by rfl) T.b_len rfl (se_var 0)) (se_callB1 G.soft (d_lenD G) (by rfl) T.b_len rfl (se_var 1)) (nomark _)) (se_one (se_callB1 G.soft (d_all G) (by rfl) T.b_all rfl (se_comp (own := [("k", 3)]) G (si_range1 G (by rfl) T.b_range (sa_cons (se_callB1 G.soft (d_lenD G) (by rfl) T.b_len rfl (se_var 1)) (sa_nil))) (blkOk_by (own := [("k", 3)]) (N := N__law_same) (by first | (show blkC _ (defScope (topS 23)) _ _ = true; decide +kernel) | kernel_rfl)) (fun _ _ _ _ _ G => sg_name (i := 3) G.nd) (fun _ _ _ _ _ G tk => sts_nil) (fun _ _ _ _ _ G tk => se_call G tk hr.at (by omega) (sb_cons (se_ix (d_ixD G) (se_var 0) (se_var 3) (by exact plain_ix _)) (sb_cons (se_ix (d_ixD G) (se_var 1) (se_var 3) (by exact plain_ix _)) (sb_nil))) (by rfl)))))))))
            (ss_nil))
            (ss_cons (s_if (st_cmp d_is (se_var 1) (se_non) (nomark _))
            (ss_one (s_ret (se_cmp d_is (se_var 0) (se_non) (nomark _))))
            (ss_nil))
            (ss_cons (s_if (st_cmp (d_ne G) (se_callB2 G (d_isi G) (by rfl) T.b_isinstance rfl (se_var 1) (se_bty G (by rfl) T.b_bool rfl)) (se_callB2 G (d_isi G) (by rfl) T.b_isinstance rfl (se_var 0) (se_bty G (by rfl) T.b_bool rfl)) (nomark _))
            (ss_one (s_ret (se_bl)))
            (ss_nil))
            (ss_cons (s_if ((sw_or (st_cmp (d_ne G) (se_callB2 G (d_isi G) (by rfl) T.b_isinstance rfl (se_var 1) (se_bty G (by rfl) T.b_int rfl)) (se_callB2 G (d_isi G) (by rfl) T.b_isinstance rfl (se_var 0) (se_bty G (by rfl) T.b_int rfl)) (nomark _)) (sw_or1 (st_cmp (d_ne G) (se_callB2 G (d_isi G) (by rfl) T.b_isinstance rfl (se_var 1) (se_bty G (by rfl) T.b_str rfl)) (se_callB2 G (d_isi G) (by rfl) T.b_isinstance rfl (se_var 0) (se_bty G (by rfl) T.b_str rfl)) (nomark _)))).t)
            (ss_one (s_ret (se_bl)))
            (ss_nil))
            (ss_one (s_ret (se_cmp (d_eq G) (se_var 0) (se_var 1) (nomark _))))))))

theorem sc__law_take : FnScope N__law_take ["draws", "bound"] (defScope (topS 21)) := ⟨rfl, rfl, rfl, by decide +kernel, rfl, by decide +kernel, by decide +kernel⟩
theorem ok__law_take {c : Ct} (T : Facts c) : Fn c 1 "_law_take" 2 d__law_take := by
  obtain ⟨f, fd, F, hm⟩ := T.f__law_take
  refine fn_mk (ps := ["draws", "bound"]) (fn_ok (k := 0) (N := N__law_take) F sc__law_take rfl fun cdv A outer s H E G tk po => ?_) hm F.kp (F.bindsN fun _ _ _ _ _ _ us hl => match us, hl with | [_, _], _ => rfl)
  exact
    ss_cons (s_if (st_cmp (d_eq G) (se_callB1 G.soft (d_lenD G) (by rfl) T.b_len rfl (se_var 0)) (se_int) (nomark _))
            (ss_one (s_ret (se_int)))
            (ss_nil))
            (ss_one (s_ret (se_bin d_mod (se_callT1 G.soft d_int (by rfl) T.b_int rfl (se_mut0 G PySem.F.plainAttrs_list PySem.F.slot_list_pop PySem.F.type_list_pop m_pop (.inl rfl) f0_pop (se_var 0))) (se_var 1))))

theorem sc__law_net : FnScope N__law_net ["draws", "n", "most", "kind"] (defScope (topS 24)) := ⟨rfl, rfl, rfl, by decide +kernel, rfl, by decide +kernel, by decide +kernel⟩
theorem ok__law_net {c : Ct} (T : Facts c) : Fn c 2 "_law_net" 4 d__law_net := by
  obtain ⟨f, fd, F, hm⟩ := T.f__law_net
  refine fn_mk (ps := ["draws", "n", "most", "kind"]) (fn_ok (k := 1) (N := N__law_net) F sc__law_net rfl fun cdv A outer s H E G tk po => ?_) hm F.kp (F.bindsN fun _ _ _ _ _ _ us hl => match us, hl with | [_, _, _, _], _ => rfl)
  exact
    ss_cons (s_set (i := 4) G (se_lst (sa_nil)))
            (ss_cons (s_fg [5] (s_if (st_cmp (d_eq G) (se_var 3) (se_int) (nomark _))
            (ss_one (s_fg [5] (s_for G po (si_range3 G (sa_cons (se_bin d_sub (se_var 1) (se_int)) (sa_cons (se_int) (sa_cons (se_neg (se_int)) (sa_nil)))) (fun h => pi_range3 (by rfl) T.b_range h)) (sg_name (i := 5) G.nd)
            (ss_fg [5] (ss_one (s_set (i := 4) G (se_bin (d_add G.soft) (se_var 4) (se_comp (own := [("at", 6)]) G (si_range1 G (by rfl) T.b_range (sa_cons (se_var 5) (sa_nil))) (blkOk_by (own := [("at", 6)]) (N := N__law_net) (by first | (show blkC _ (defScope (topS 24)) _ _ = true; decide +kernel) | kernel_rfl)) (fun _ _ _ _ _ G => sg_name (i := 6) G.nd) (fun _ _ _ _ _ G tk => sts_nil) (fun _ _ _ _ _ G tk => se_tup (sa_cons (se_var 6) (sa_cons (se_bin (d_add G.soft) (se_var 6) (se_int)) (sa_nil))))))))))))
            (ss_nil)))
            (ss_cons (s_fg [7, 8, 9] (s_for G po (si_range1 G (by rfl) T.b_range (sa_cons (se_call G tk (ok__law_take T).at (by omega) (sb_ref (se_var 0) (sb_cons (se_bin (d_add G.soft) (se_var 2) (se_int)) (sb_nil))) (by rfl)) (sa_nil))) (sg_name (i := 7) G.nd)
            (ss_fg [7, 8, 9] (ss_one (s_fg [8, 9] (s_if (st_cmp d_gt (se_var 1) (se_int) (nomark _))
            (ss_cons (s_par (i := 8) (j := 9) G (se_call G tk (ok__law_take T).at (by omega) (sb_ref (se_var 0) (sb_cons (se_var 1) (sb_nil))) (by rfl)) (se_call G tk (ok__law_take T).at (by omega) (sb_ref (se_var 0) (sb_cons (se_bin d_sub (se_var 1) (se_int)) (sb_nil))) (by rfl)))
            (ss_cons (s_set (i := 9) G (se_bin (d_add G.soft) (se_var 9) (se_callT1 G.soft d_int (by rfl) T.b_int rfl (se_cmp d_ge (se_var 9) (se_var 8) (nomark _)))))
            (ss_cons (s_if (st_cmp d_gt (se_var 3) (se_int) (nomark _))
            (ss_one (s_par (i := 8) (j := 9) G (se_callB2 G (d_min2 G) (by rfl) T.b_min rfl (se_var 8) (se_var 9)) (se_callB2 G (d_max2 G) (by rfl) T.b_max rfl (se_var 8) (se_var 9))))
            (ss_nil))
            (ss_cons (s_if (st_cmp (d_eq G) (se_var 3) (se_int) (nomark _))
            (ss_one (s_set (i := 9) G (se_bin (d_add G.soft) (se_var 8) (se_int))))
            (ss_nil))
            (ss_one (s_expr (se_mut G PySem.F.plainAttrs_list PySem.F.slot_list_insert PySem.F.type_list_insert m_ins (.inl rfl) f0_ins (se_var 4) (sa_cons (se_call G tk (ok__law_take T).at (by omega) (sb_ref (se_var 0) (sb_cons (se_bin (d_add G.soft) (se_callB1 G.soft (d_lenD G) (by rfl) T.b_len rfl (se_var 4)) (se_int)) (sb_nil))) (by rfl)) (sa_cons (se_tup (sa_cons (se_var 8) (sa_cons (se_var 9) (sa_nil)))) (sa_nil))))))))))
            (ss_nil)))))))
            (ss_one (s_ret (se_tup (sa_cons (se_var 1) (sa_cons (se_callT1 G.soft (d_tuple G) (by rfl) T.b_tuple rfl (se_var 4)) (sa_nil))))))))

theorem sc__law_upright : FnScope N__law_upright ["net"] (defScope (topS 29)) := ⟨rfl, rfl, rfl, by decide +kernel, rfl, by decide +kernel, by decide +kernel⟩
theorem ok__law_upright {c : Ct} (T : Facts c) : Fn c 1 "_law_upright" 1 d__law_upright := by
  obtain ⟨f, fd, F, hm⟩ := T.f__law_upright
  refine fn_mk (ps := ["net"]) (fn_ok (k := 0) (N := N__law_upright) F sc__law_upright rfl fun cdv A outer s H E G tk po => ?_) hm F.kp (F.bindsN fun _ _ _ _ _ _ us hl => match us, hl with | [_], _ => rfl)
  exact
    ss_cons (s_par (i := 1) (j := 2) G (se_callT1 G.soft (d_listD G) (by rfl) T.b_list rfl (se_ix (d_ixD G) (se_var 0) (se_int) (by exact plain_ix _))) (se_listRg1 G (by rfl) T.b_list (by rfl) T.b_range (se_ix (d_ixD G) (se_var 0) (se_int) (by exact plain_ix _))))
            (ss_cons (s_fg [3, 4, 5, 6] (s_for G po (si_range1 G (by rfl) T.b_range (sa_cons (se_callB1 G.soft (d_lenD G) (by rfl) T.b_len rfl (se_var 1)) (sa_nil))) (sg_name (i := 3) G.nd)
            (ss_fg [3, 4, 5, 6] (ss_cons (s_asg (se_ix (d_ixD G) (se_var 1) (se_var 3) (by exact plain_ix _)) (sg_tup G (sgs_cons (sg_name (i := 4) G.nd) (sgs_cons (sg_name (i := 5) G.nd) (sgs_nil)))))
            (ss_one (s_fg [6] (s_if (st_cmp d_gt (se_var 4) (se_var 5) (nomark _))
            (ss_cons (s_set (i := 6) G (se_dict (sdk_cons (se_var 4) (se_var 5) (sdk_cons (se_var 5) (se_var 4) (sdk_nil)))))
            (ss_cons (s_set (i := 1) G (se_bin (d_add G.soft) (se_slice G (se_var 1) (so_none) (so_some (se_var 3))) (se_comp (own := [("a", 7), ("b", 8)]) G (si_seq G (se_slice G (se_var 1) (so_some (se_var 3)) (so_none))) (blkOk_by (own := [("a", 7), ("b", 8)]) (N := N__law_upright) (by first | (show blkC _ (defScope (topS 29)) _ _ = true; decide +kernel) | kernel_rfl)) (fun _ _ _ _ _ G => sg_tup G (sgs_cons (sg_name (i := 7) G.nd) (sgs_cons (sg_name (i := 8) G.nd) (sgs_nil)))) (fun _ _ _ _ _ G tk => sts_nil) (fun _ _ _ _ _ G tk => se_tup (sa_cons (se_get2 G (se_var 6) (se_var 7) (se_var 7)) (sa_cons (se_get2 G (se_var 6) (se_var 8) (se_var 8)) (sa_nil)))))))
            (ss_one (s_asgx (se_tup (sa_cons (se_ix (d_ixD G) (se_var 2) (se_var 5) (by exact plain_ix _)) (sa_cons (se_ix (d_ixD G) (se_var 2) (se_var 4) (by exact plain_ix _)) (sa_nil)))) (sgx_tup G (sgsx_cons ((fun ho hi => sgx_sub (d_setLD G) f0_setLD ho hi (pg_sub ho hi (d_setLD G))) (se_var 2) (se_var 4)) (sgsx_cons ((fun ho hi => sgx_sub (d_setLD G) f0_setLD ho hi (pg_sub ho hi (d_setLD G))) (se_var 2) (se_var 5)) (sgsx_nil))))))))
            (ss_nil))))))))
            (ss_one (s_ret (se_tup (sa_cons (se_tup (sa_cons (se_ix (d_ixD G) (se_var 0) (se_int) (by exact plain_ix _)) (sa_cons (se_callT1 G.soft (d_tuple G) (by rfl) T.b_tuple rfl (se_var 1)) (sa_nil)))) (sa_cons (se_callT1 G.soft (d_tuple G) (by rfl) T.b_tuple rfl (se_var 2)) (sa_nil)))))))

theorem sc__law_pick : FnScope N__law_pick ["draws", "items"] (defScope (topS 22)) := ⟨rfl, rfl, rfl, by decide +kernel, rfl, by decide +kernel, by decide +kernel⟩
theorem ok__law_pick {c : Ct} (T : Facts c) : Fn c 2 "_law_pick" 2 d__law_pick := by
  obtain ⟨f, fd, F, hm⟩ := T.f__law_pick
  refine fn_mk (ps := ["draws", "items"]) (fn_ok (k := 1) (N := N__law_pick) F sc__law_pick rfl fun cdv A outer s H E G tk po => ?_) hm F.kp (F.bindsN fun _ _ _ _ _ _ us hl => match us, hl with | [_, _], _ => rfl)
  exact
    ss_one (s_ret (se_ix (d_ixD G) (se_var 1) (se_call G tk (ok__law_take T).at (by omega) (sb_ref (se_var 0) (sb_cons (se_callB1 G.soft (d_lenD G) (by rfl) T.b_len rfl (se_var 1)) (sb_nil))) (by rfl)) (by exact plain_ix _)))

theorem sc__law_values : FnScope N__law_values ["draws", "n"] (defScope (topS 26)) := ⟨rfl, rfl, rfl, by decide +kernel, rfl, by decide +kernel, by decide +kernel⟩
theorem ok__law_values {c : Ct} (T : Facts c) : Fn c 2 "_law_values" 2 d__law_values := by
  obtain ⟨f, fd, F, hm⟩ := T.f__law_values
  refine fn_mk (ps := ["draws", "n"]) (fn_ok (k := 1) (N := N__law_values) F sc__law_values rfl fun cdv A outer s H E G tk po => ?_) hm F.kp (F.bindsN fun _ _ _ _ _ _ us hl => match us, hl with | [_, _], _ => rfl)
  exact
    ss_cons (s_set (i := 2) G (se_call G tk (ok__law_take T).at (by omega) (sb_ref (se_var 0) (sb_cons (se_int) (sb_nil))) (by rfl)))
            (ss_one (s_ret (se_callT1 G.soft (d_tuple G) (by rfl) T.b_tuple rfl (se_comp (own := [("k", 3)]) G (si_range1 G (by rfl) T.b_range (sa_cons (se_var 1) (sa_nil))) (blkOk_by (own := [("k", 3)]) (N := N__law_values) (by first | (show blkC _ (defScope (topS 26)) _ _ = true; decide +kernel) | kernel_rfl)) (fun _ _ _ _ _ G => sg_name (i := 3) G.nd) (fun _ _ _ _ _ G tk => sts_nil) (fun _ _ _ _ _ G tk => se_ix (d_ixD G) (se_lst (sa_cons (se_call G tk (ok__law_take T).at (by omega) (sb_ref (se_var 0) (sb_cons (se_int) (sb_nil))) (by rfl)) (sa_cons (se_call G tk (ok__law_take T).at (by omega) (sb_ref (se_var 0) (sb_cons (se_int) (sb_nil))) (by rfl)) (sa_cons (se_bin d_sub (se_call G tk (ok__law_take T).at (by omega) (sb_ref (se_var 0) (sb_cons (se_int) (sb_nil))) (by rfl)) (se_int)) (sa_cons (se_bin (d_mulT G.soft) (se_bin d_sub (se_call G tk (ok__law_take T).at (by omega) (sb_ref (se_var 0) (sb_cons (se_int) (sb_nil))) (by rfl)) (se_int)) (se_bin d_pow (se_int) (se_int))) (sa_nil)))))) (se_var 2) (by exact plain_ix _))))))

theorem sc__law_bad_net : FnScope N__law_bad_net ["draws"] (defScope (topS 27)) := ⟨rfl, rfl, rfl, by decide +kernel, rfl, by decide +kernel, by decide +kernel⟩
theorem ok__law_bad_net {c : Ct} (T : Facts c) : Fn c 3 "_law_bad_net" 1 d__law_bad_net := by
  obtain ⟨f, fd, F, hm⟩ := T.f__law_bad_net
  refine fn_mk (ps := ["draws"]) (fn_ok (k := 2) (N := N__law_bad_net) F sc__law_bad_net rfl fun cdv A outer s H E G tk po => ?_) hm F.kp (F.bindsN fun _ _ _ _ _ _ us hl => match us, hl with | [_], _ => rfl)
  exact
    ss_cons (s_set (i := 1) G (se_tup (sa_cons (se_tup (sa_cons (se_int) (sa_cons (se_int) (sa_nil)))) (sa_nil))))
            (ss_cons (s_set (i := 2) G (se_lst (sa_cons (se_non) (sa_cons (se_lst (sa_cons (se_int) (sa_cons (se_var 1) (sa_nil)))) (sa_cons (se_tup (sa_cons (se_int) (sa_nil))) (sa_cons (se_tup (sa_cons (se_int) (sa_cons (se_var 1) (sa_cons (se_tup (sa_nil)) (sa_nil))))) (sa_cons (se_tup (sa_cons (se_int) (sa_cons (se_tup (sa_nil)) (sa_nil)))) (sa_cons (se_tup (sa_cons (se_int) (sa_cons (se_tup (sa_nil)) (sa_nil)))) (sa_cons (se_tup (sa_cons (se_bl) (sa_cons (se_tup (sa_nil)) (sa_nil)))) (sa_cons (se_tup (sa_cons (se_str) (sa_cons (se_var 1) (sa_nil)))) (sa_cons (se_tup (sa_cons (se_int) (sa_cons (se_lst (sa_cons (se_tup (sa_cons (se_int) (sa_cons (se_int) (sa_nil)))) (sa_nil))) (sa_nil)))) (sa_cons (se_tup (sa_cons (se_int) (sa_cons (se_tup (sa_cons (se_tup (sa_cons (se_int) (sa_cons (se_int) (sa_nil)))) (sa_nil))) (sa_nil)))) (sa_cons (se_tup (sa_cons (se_int) (sa_cons (se_tup (sa_cons (se_tup (sa_cons (se_int) (sa_cons (se_int) (sa_nil)))) (sa_nil))) (sa_nil)))) (sa_nil))))))))))))))
            (ss_cons (s_set (i := 2) G (se_bin (d_add G.soft) (se_var 2) (se_lst (sa_cons (se_tup (sa_cons (se_int) (sa_cons (se_tup (sa_cons (se_tup (sa_cons (se_neg (se_int)) (sa_cons (se_int) (sa_nil)))) (sa_nil))) (sa_nil)))) (sa_cons (se_tup (sa_cons (se_int) (sa_cons (se_tup (sa_cons (se_tup (sa_cons (se_int) (sa_cons (se_int) (sa_cons (se_int) (sa_nil))))) (sa_nil))) (sa_nil)))) (sa_cons (se_tup (sa_cons (se_int) (sa_cons (se_tup (sa_cons (se_tup (sa_cons (se_int) (sa_nil))) (sa_nil))) (sa_nil)))) (sa_cons (se_tup (sa_cons (se_int) (sa_cons (se_tup (sa_cons (se_lst (sa_cons (se_int) (sa_cons (se_int) (sa_nil)))) (sa_nil))) (sa_nil)))) (sa_nil))))))))
            (ss_one (s_ret (se_call G tk (ok__law_pick T).at (by omega) (sb_ref (se_var 0) (sb_cons (se_bin (d_add G.soft) (se_var 2) (se_lst (sa_cons (se_tup (sa_cons (se_int) (sa_cons (se_tup (sa_cons (se_tup (sa_cons (se_int) (sa_cons (se_bl) (sa_nil)))) (sa_nil))) (sa_nil)))) (sa_cons (se_tup (sa_cons (se_int) (sa_cons (se_tup (sa_cons (se_tup (sa_cons (se_int) (sa_cons (se_non) (sa_nil)))) (sa_nil))) (sa_nil)))) (sa_cons (se_tup (sa_cons (se_int) (sa_cons (se_bin (d_mulT G.soft) (se_var 1) (se_int)) (sa_nil)))) (sa_cons (se_tup (sa_cons (se_int) (sa_cons (se_var 1) (sa_nil)))) (sa_cons (se_tup (sa_cons (se_int) (sa_cons (se_tup (sa_cons (se_int) (sa_cons (se_int) (sa_nil)))) (sa_nil)))) (sa_nil)))))))) (sb_nil))) (by rfl))))))

theorem sc__law_out : FnScope N__law_out ["gates", "values"] (defScope (topS 25)) := ⟨rfl, rfl, rfl, by decide +kernel, rfl, by decide +kernel, by decide +kernel⟩
theorem ok__law_out {c : Ct} (T : Facts c) : Fn c 1 "_law_out" 2 d__law_out := by
  obtain ⟨f, fd, F, hm⟩ := T.f__law_out
  refine fn_mk (ps := ["gates", "values"]) (fn_ok (k := 0) (N := N__law_out) F sc__law_out rfl fun cdv A outer s H E G tk po => ?_) hm F.kp (F.bindsN fun _ _ _ _ _ _ us hl => match us, hl with | [_, _], _ => rfl)
  exact
    ss_cons (s_set (i := 2) G (se_callT1 G.soft (d_listD G) (by rfl) T.b_list rfl (se_var 1)))
            (ss_cons (s_fg [3, 4] (s_forN (i := 0) G po (ht := sg_tup G (sgs_cons (sg_name (i := 3) G.nd) (sgs_cons (sg_name (i := 4) G.nd) (sgs_nil))))
            (hb := ss_fg [3, 4] (ss_one (s_asgx (se_tup (sa_cons (se_callB2 G (d_min2 G) (by rfl) T.b_min rfl (se_ix (d_ixD G) (se_var 2) (se_var 3) (by exact plain_ix _)) (se_ix (d_ixD G) (se_var 2) (se_var 4) (by exact plain_ix _))) (sa_cons (se_callB2 G (d_max2 G) (by rfl) T.b_max rfl (se_ix (d_ixD G) (se_var 2) (se_var 3) (by exact plain_ix _)) (se_ix (d_ixD G) (se_var 2) (se_var 4) (by exact plain_ix _))) (sa_nil)))) (sgx_tup G (sgsx_cons ((fun ho hi => sgx_sub (d_setLD G) f0_setLD ho hi (pg_sub ho hi (d_setLD G))) (se_var 2) (se_var 3)) (sgsx_cons ((fun ho hi => sgx_sub (d_setLD G) f0_setLD ho hi (pg_sub ho hi (d_setLD G))) (se_var 2) (se_var 4)) (sgsx_nil)))))))))
            (ss_one (s_ret (se_callT1 G.soft (d_tuple G) (by rfl) T.b_tuple rfl (se_var 2)))))

theorem sc_check : FnScope N_check ["is_right"] (defScope (topS 7)) := ⟨rfl, rfl, rfl, by decide +kernel, rfl, by decide +kernel, by decide +kernel⟩
theorem ok_check {c : Ct} (T : Facts c) : Fn c 1 "check" 1 d_check := by
  obtain ⟨f, fd, F, hm⟩ := T.f_check
  refine fn_mk (ps := ["is_right"]) (fn_ok (k := 0) (N := N_check) F sc_check rfl fun cdv A outer s H E G tk po => ?_) hm F.kp (F.bindsN fun _ _ _ _ _ _ us hl => match us, hl with | [_], _ => rfl)
  exact
    ss_one (s_if (st_not (st_truth G (se_var 0)))
            (ss_one (s_raise G tk T.x_NotRight (by rfl)))
            (ss_nil))

theorem sc_is_integer : FnScope N_is_integer ["value"] (defScope (topS 5)) := ⟨rfl, rfl, rfl, by decide +kernel, rfl, by decide +kernel, by decide +kernel⟩
theorem ok_is_integer {c : Ct} (T : Facts c) : Fn c 1 "is_integer" 1 d_is_integer := by
  obtain ⟨f, fd, F, hm⟩ := T.f_is_integer
  refine fn_mk (ps := ["value"]) (fn_ok (k := 0) (N := N_is_integer) F sc_is_integer rfl fun cdv A outer s H E G tk po => ?_) hm F.kp (F.bindsN fun _ _ _ _ _ _ us hl => match us, hl with | [_], _ => rfl)
  exact
    ss_one (s_ret (se_and (se_callB2 G (d_isi G) (by rfl) T.b_isinstance rfl (se_var 0) (se_bty G (by rfl) T.b_int rfl)) (se_one (se_not (se_callB2 G (d_isi G) (by rfl) T.b_isinstance rfl (se_var 0) (se_bty G (by rfl) T.b_bool rfl))))))

theorem sc_is_within : FnScope N_is_within ["value", "low", "high"] (defScope (topS 6)) := ⟨rfl, rfl, rfl, by decide +kernel, rfl, by decide +kernel, by decide +kernel⟩
theorem ok_is_within {c : Ct} (T : Facts c) : Fn c 2 "is_within" 3 d_is_within := by
  obtain ⟨f, fd, F, hm⟩ := T.f_is_within
  refine fn_mk (ps := ["value", "low", "high"]) (fn_ok (k := 1) (N := N_is_within) F sc_is_within rfl fun cdv A outer s H E G tk po => ?_) hm F.kp (F.bindsN fun _ _ _ _ _ _ us hl => match us, hl with | [_, _, _], _ => rfl)
  exact
    ss_one (s_ret (se_and (se_call G tk (ok_is_integer T).at (by omega) (sb_cons (se_var 0) (sb_nil)) (by rfl)) (se_one (se_chain d_le d_le (se_var 1) (se_var 0) (se_var 2)))))

theorem sc_is_gate : FnScope N_is_gate ["n", "value"] (defScope (topS 11)) := ⟨rfl, rfl, rfl, by decide +kernel, rfl, by decide +kernel, by decide +kernel⟩
theorem ok_is_gate {c : Ct} (T : Facts c) : Fn c 3 "is_gate" 2 d_is_gate := by
  obtain ⟨f, fd, F, hm⟩ := T.f_is_gate
  refine fn_mk (ps := ["n", "value"]) (fn_ok (k := 2) (N := N_is_gate) F sc_is_gate rfl fun cdv A outer s H E G tk po => ?_) hm F.kp (F.bindsN fun _ _ _ _ _ _ us hl => match us, hl with | [_, _], _ => rfl)
  exact
    ss_cons (s_if ((sw_or (st_not (st_truth G (se_callB2 G (d_isi G) (by rfl) T.b_isinstance rfl (se_var 1) (se_bty G (by rfl) T.b_tuple rfl)))) (sw_or (st_cmp (d_ne G) (se_callB1 G.soft (d_lenD G) (by rfl) T.b_len rfl (se_var 1)) (se_int) (nomark _)) (sw_or1 (st_not (st_truth G (se_callB1 G.soft (d_all G) (by rfl) T.b_all rfl (se_comp (own := [("line", 2)]) G (si_seq G (se_var 1)) (blkOk_by (own := [("line", 2)]) (N := N_is_gate) (by first | (show blkC _ (defScope (topS 11)) _ _ = true; decide +kernel) | kernel_rfl)) (fun _ _ _ _ _ G => sg_name (i := 2) G.nd) (fun _ _ _ _ _ G tk => sts_nil) (fun _ _ _ _ _ G tk => se_call G tk (ok_is_within T).at (by omega) (sb_cons (se_var 2) (sb_cons (se_int) (sb_cons (se_bin d_sub (se_var 0) (se_int)) (sb_nil)))) (by rfl))))))))).t)
            (ss_one (s_ret (se_bl)))
            (ss_nil))
            (ss_one (s_ret (se_cmp (d_ne G) (se_ix (d_ixD G) (se_var 1) (se_int) (by exact plain_ix _)) (se_ix (d_ixD G) (se_var 1) (se_int) (by exact plain_ix _)) (nomark _))))

theorem sc_is_net : FnScope N_is_net ["value"] (defScope (topS 12)) := ⟨rfl, rfl, rfl, by decide +kernel, rfl, by decide +kernel, by decide +kernel⟩
theorem ok_is_net {c : Ct} (T : Facts c) : Fn c 4 "is_net" 1 d_is_net := by
  obtain ⟨f, fd, F, hm⟩ := T.f_is_net
  refine fn_mk (ps := ["value"]) (fn_ok (k := 3) (N := N_is_net) F sc_is_net rfl fun cdv A outer s H E G tk po => ?_) hm F.kp (F.bindsN fun _ _ _ _ _ _ us hl => match us, hl with | [_], _ => rfl)
  exact
    ss_cons (s_if ((sw_or (st_not (st_truth G (se_callB2 G (d_isi G) (by rfl) T.b_isinstance rfl (se_var 0) (se_bty G (by rfl) T.b_tuple rfl)))) (sw_or (st_cmp (d_ne G) (se_callB1 G.soft (d_lenD G) (by rfl) T.b_len rfl (se_var 0)) (se_int) (nomark _)) (sw_or1 (st_not (st_truth G (se_call G tk (ok_is_within T).at (by omega) (sb_cons (se_ix (d_ixD G) (se_var 0) (se_int) (by exact plain_ix _)) (sb_cons (se_int) (sb_cons ((T.i_WIDEST).elim fun _ hi => se_gint G (by rfl) hi) (sb_nil)))) (by rfl))))))).t)
            (ss_one (s_ret (se_bl)))
            (ss_nil))
            (ss_cons (s_asg (se_var 0) (sg_tup G (sgs_cons (sg_name (i := 1) G.nd) (sgs_cons (sg_name (i := 2) G.nd) (sgs_nil)))))
            (ss_one (s_ret (se_and (se_callB2 G (d_isi G) (by rfl) T.b_isinstance rfl (se_var 2) (se_bty G (by rfl) T.b_tuple rfl)) (se_and (se_cmp d_le (se_callB1 G.soft (d_lenD G) (by rfl) T.b_len rfl (se_var 2)) ((T.i_MOST_GATES).elim fun _ hi => se_gint G (by rfl) hi) (nomark _)) (se_one (se_callB1 G.soft (d_all G) (by rfl) T.b_all rfl (se_comp (own := [("gate", 3)]) G (si_seq G (se_var 2)) (blkOk_by (own := [("gate", 3)]) (N := N_is_net) (by first | (show blkC _ (defScope (topS 12)) _ _ = true; decide +kernel) | kernel_rfl)) (fun _ _ _ _ _ G => sg_name (i := 3) G.nd) (fun _ _ _ _ _ G tk => sts_nil) (fun _ _ _ _ _ G tk => se_call G tk (ok_is_gate T).at (by omega) (sb_cons (se_var 1) (sb_cons (se_var 3) (sb_nil))) (by rfl))))))))))

theorem sc_check_net : FnScope N_check_net ["net"] (defScope (topS 13)) := ⟨rfl, rfl, rfl, by decide +kernel, rfl, by decide +kernel, by decide +kernel⟩
theorem ok_check_net {c : Ct} (T : Facts c) : Fn c 5 "check_net" 1 d_check_net := by
  obtain ⟨f, fd, F, hm⟩ := T.f_check_net
  refine fn_mk (ps := ["net"]) (fn_ok (k := 4) (N := N_check_net) F sc_check_net rfl fun cdv A outer s H E G tk po => ?_) hm F.kp (F.bindsN fun _ _ _ _ _ _ us hl => match us, hl with | [_], _ => rfl)
  exact
    ss_one (s_expr (se_call G tk (ok_check T).at (by omega) (sb_cons (se_call G tk (ok_is_net T).at (by omega) (sb_cons (se_var 0) (sb_nil)) (by rfl)) (sb_nil)) (by rfl)))

theorem sc_joint : FnScope N_joint ["one", "other"] (defScope (topS 16)) := ⟨rfl, rfl, rfl, by decide +kernel, rfl, by decide +kernel, by decide +kernel⟩
theorem ok_joint {c : Ct} (T : Facts c) : Fn c 6 "joint" 2 d_joint := by
  obtain ⟨f, fd, F, hm⟩ := T.f_joint
  refine fn_mk (ps := ["one", "other"]) (fn_ok (k := 5) (N := N_joint) F sc_joint rfl fun cdv A outer s H E G tk po => ?_) hm F.kp (F.bindsN fun _ _ _ _ _ _ us hl => match us, hl with | [_, _], _ => rfl)
  exact
    ss_cons (s_expr (se_call G tk (ok_check_net T).at (by omega) (sb_cons (se_var 0) (sb_nil)) (by rfl)))
            (ss_cons (s_expr (se_call G tk (ok_check_net T).at (by omega) (sb_cons (se_var 1) (sb_nil)) (by rfl)))
            (ss_cons (s_if (st_cmp (d_ne G) (se_ix (d_ixD G) (se_var 0) (se_int) (by exact plain_ix _)) (se_ix (d_ixD G) (se_var 1) (se_int) (by exact plain_ix _)) (nomark _))
            (ss_one (s_raise G tk T.x_NoAnswer (by rfl)))
            (ss_nil))
            (ss_cons (s_if (st_cmp d_gt (se_bin (d_add G.soft) (se_callB1 G.soft (d_lenD G) (by rfl) T.b_len rfl (se_ix (d_ixD G) (se_var 0) (se_int) (by exact plain_ix _))) (se_callB1 G.soft (d_lenD G) (by rfl) T.b_len rfl (se_ix (d_ixD G) (se_var 1) (se_int) (by exact plain_ix _)))) ((T.i_MOST_GATES).elim fun _ hi => se_gint G (by rfl) hi) (nomark _))
            (ss_one (s_raise G tk T.x_TooLarge (by rfl)))
            (ss_nil))
            (ss_one (s_ret (se_tup (sa_cons (se_ix (d_ixD G) (se_var 0) (se_int) (by exact plain_ix _)) (sa_cons (se_bin (d_add G.soft) (se_ix (d_ixD G) (se_var 0) (se_int) (by exact plain_ix _)) (se_ix (d_ixD G) (se_var 1) (se_int) (by exact plain_ix _))) (sa_nil)))))))))

theorem sc_set_out : FnScope N_set_out ["net", "n", "k"] (defScope (topS 18)) := ⟨rfl, rfl, rfl, by decide +kernel, rfl, by decide +kernel, by decide +kernel⟩
theorem ok_set_out {c : Ct} (T : Facts c) : Fn c 6 "set_out" 3 d_set_out := by
  obtain ⟨f, fd, F, hm⟩ := T.f_set_out
  refine fn_mk (ps := ["net", "n", "k"]) (fn_ok (k := 5) (N := N_set_out) F sc_set_out rfl fun cdv A outer s H E G tk po => ?_) hm F.kp (F.bindsN fun _ _ _ _ _ _ us hl => match us, hl with | [_, _, _], _ => rfl)
  exact
    ss_cons (s_expr (se_call G tk (ok_check_net T).at (by omega) (sb_cons (se_var 0) (sb_nil)) (by rfl)))
            (ss_cons (s_expr (se_call G tk (ok_check T).at (by omega) (sb_cons (se_and (se_call G tk (ok_is_within T).at (by omega) (sb_cons (se_var 1) (sb_cons (se_int) (sb_cons ((T.i_WIDEST).elim fun _ hi => se_gint G (by rfl) hi) (sb_nil)))) (by rfl)) (se_one (se_call G tk (ok_is_within T).at (by omega) (sb_cons (se_var 2) (sb_cons (se_int) (sb_cons (se_bin d_sub (se_var 1) (se_ix (d_ixD G) (se_var 0) (se_int) (by exact plain_ix _))) (sb_nil)))) (by rfl)))) (sb_nil)) (by rfl)))
            (ss_one (s_ret (se_tup (sa_cons (se_var 1) (sa_cons (se_callT1 G.soft (d_tuple G) (by rfl) T.b_tuple rfl (se_comp (own := [("i", 3), ("j", 4)]) G (si_seq G (se_ix (d_ixD G) (se_var 0) (se_int) (by exact plain_ix _))) (blkOk_by (own := [("i", 3), ("j", 4)]) (N := N_set_out) (by first | (show blkC _ (defScope (topS 18)) _ _ = true; decide +kernel) | kernel_rfl)) (fun _ _ _ _ _ G => sg_tup G (sgs_cons (sg_name (i := 3) G.nd) (sgs_cons (sg_name (i := 4) G.nd) (sgs_nil)))) (fun _ _ _ _ _ G tk => sts_nil) (fun _ _ _ _ _ G tk => se_tup (sa_cons (se_bin (d_add G.soft) (se_var 3) (se_var 2)) (sa_cons (se_bin (d_add G.soft) (se_var 4) (se_var 2)) (sa_nil)))))) (sa_nil)))))))

theorem sc_upright_by : FnScope N_upright_by ["n", "gates"] (defScope (topS 14)) := ⟨rfl, rfl, rfl, by decide +kernel, rfl, by decide +kernel, by decide +kernel⟩
theorem ok_upright_by {c : Ct} (T : Facts c) : Fn c 1 "upright_by" 2 d_upright_by := by
  obtain ⟨f, fd, F, hm⟩ := T.f_upright_by
  refine fn_mk (ps := ["n", "gates"]) (fn_ok (k := 0) (N := N_upright_by) F sc_upright_by rfl fun cdv A outer s H E G tk po => ?_) hm F.kp (F.bindsN fun _ _ _ _ _ _ us hl => match us, hl with | [_, _], _ => rfl)
  exact
    ss_cons (s_set (i := 2) G (se_listRg1 G (by rfl) T.b_list (by rfl) T.b_range (se_var 0)))
            (ss_cons (s_set (i := 3) G (se_lst (sa_nil)))
            (ss_cons (s_fg [4, 5, 6, 7] (s_forN (i := 1) G po (ht := sg_tup G (sgs_cons (sg_name (i := 4) G.nd) (sgs_cons (sg_name (i := 5) G.nd) (sgs_nil))))
            (hb := ss_fg [4, 5, 6, 7] (ss_cons (s_par (i := 6) (j := 7) G (se_ix (d_ixD G) (se_var 2) (se_var 4) (by exact plain_ix _)) (se_ix (d_ixD G) (se_var 2) (se_var 5) (by exact plain_ix _)))
            (ss_cons (s_if (st_cmp d_gt (se_var 6) (se_var 7) (nomark _))
            (ss_one (s_asgx (se_tup (sa_cons (se_var 7) (sa_cons (se_var 6) (sa_nil)))) (sgx_tup G (sgsx_cons ((fun ho hi => sgx_sub (d_setLD G) f0_setLD ho hi (pg_sub ho hi (d_setLD G))) (se_var 2) (se_var 4)) (sgsx_cons ((fun ho hi => sgx_sub (d_setLD G) f0_setLD ho hi (pg_sub ho hi (d_setLD G))) (se_var 2) (se_var 5)) (sgsx_nil))))))
            (ss_nil))
            (ss_one (s_expr (se_mut G PySem.F.plainAttrs_list PySem.F.slot_list_append PySem.F.type_list_append m_app (.inl rfl) f0_app (se_var 3) (sa_cons (se_tup (sa_cons (se_callB2 G (d_min2 G) (by rfl) T.b_min rfl (se_var 6) (se_var 7)) (sa_cons (se_callB2 G (d_max2 G) (by rfl) T.b_max rfl (se_var 6) (se_var 7)) (sa_nil)))) (sa_nil))))))))))
            (ss_one (s_ret (se_tup (sa_cons (se_tup (sa_cons (se_var 0) (sa_cons (se_callT1 G.soft (d_tuple G) (by rfl) T.b_tuple rfl (se_var 3)) (sa_nil)))) (sa_cons (se_callT1 G.soft (d_tuple G) (by rfl) T.b_tuple rfl (se_comp (own := [("line", 8)]) G (si_range1 G (by rfl) T.b_range (sa_cons (se_var 0) (sa_nil))) (blkOk_by (own := [("line", 8)]) (N := N_upright_by) (by first | (show blkC _ (defScope (topS 14)) _ _ = true; decide +kernel) | kernel_rfl)) (fun _ _ _ _ _ G => sg_name (i := 8) G.nd) (fun _ _ _ _ _ G tk => sts_nil) (fun _ _ _ _ _ G tk => se_meth G PySem.F.plainAttrs_list PySem.F.slot_list_index PySem.F.type_list_index m_idx (.inl rfl) (se_var 2) (sa_cons (se_var 8) (sa_nil))))) (sa_nil))))))))

theorem sc_upright : FnScope N_upright ["net"] (defScope (topS 15)) := ⟨rfl, rfl, rfl, by decide +kernel, rfl, by decide +kernel, by decide +kernel⟩
theorem ok_upright {c : Ct} (T : Facts c) : Fn c 6 "upright" 1 d_upright := by
  obtain ⟨f, fd, F, hm⟩ := T.f_upright
  refine fn_mk (ps := ["net"]) (fn_ok (k := 5) (N := N_upright) F sc_upright rfl fun cdv A outer s H E G tk po => ?_) hm F.kp (F.bindsN fun _ _ _ _ _ _ us hl => match us, hl with | [_], _ => rfl)
  exact
    ss_cons (s_expr (se_call G tk (ok_check_net T).at (by omega) (sb_cons (se_var 0) (sb_nil)) (by rfl)))
            (ss_one (s_ret (se_call G tk (ok_upright_by T).at (by omega) (sb_cons (se_ix (d_ixD G) (se_var 0) (se_int) (by exact plain_ix _)) (sb_cons (se_ix (d_ixD G) (se_var 0) (se_int) (by exact plain_ix _)) (sb_nil))) (by rfl))))

theorem sc_mirror : FnScope N_mirror ["net"] (defScope (topS 17)) := ⟨rfl, rfl, rfl, by decide +kernel, rfl, by decide +kernel, by decide +kernel⟩
theorem ok_mirror {c : Ct} (T : Facts c) : Fn c 6 "mirror" 1 d_mirror := by
  obtain ⟨f, fd, F, hm⟩ := T.f_mirror
  refine fn_mk (ps := ["net"]) (fn_ok (k := 5) (N := N_mirror) F sc_mirror rfl fun cdv A outer s H E G tk po => ?_) hm F.kp (F.bindsN fun _ _ _ _ _ _ us hl => match us, hl with | [_], _ => rfl)
  exact
    ss_cons (s_expr (se_call G tk (ok_check_net T).at (by omega) (sb_cons (se_var 0) (sb_nil)) (by rfl)))
            (ss_cons (s_set (i := 1) G (se_bin d_sub (se_ix (d_ixD G) (se_var 0) (se_int) (by exact plain_ix _)) (se_int)))
            (ss_one (s_ret (se_tup (sa_cons (se_ix (d_ixD G) (se_var 0) (se_int) (by exact plain_ix _)) (sa_cons (se_callT1 G.soft (d_tuple G) (by rfl) T.b_tuple rfl (se_comp (own := [("i", 2), ("j", 3)]) G (si_seq G (se_ix (d_ixD G) (se_var 0) (se_int) (by exact plain_ix _))) (blkOk_by (own := [("i", 2), ("j", 3)]) (N := N_mirror) (by first | (show blkC _ (defScope (topS 17)) _ _ = true; decide +kernel) | kernel_rfl)) (fun _ _ _ _ _ G => sg_tup G (sgs_cons (sg_name (i := 2) G.nd) (sgs_cons (sg_name (i := 3) G.nd) (sgs_nil)))) (fun _ _ _ _ _ G tk => sts_nil) (fun _ _ _ _ _ G tk => se_tup (sa_cons (se_bin d_sub (se_var 1) (se_var 3)) (sa_cons (se_bin d_sub (se_var 1) (se_var 2)) (sa_nil)))))) (sa_nil)))))))

theorem sc__law_told : FnScope N__law_told ["which", "one", "two", "three"] (defScope (topS 28)) := ⟨rfl, rfl, rfl, by decide +kernel, rfl, by decide +kernel, by decide +kernel⟩
theorem ok__law_told {c : Ct} (T : Facts c) : Fn c 7 "_law_told" 4 d__law_told := by
  obtain ⟨f, fd, F, hm⟩ := T.f__law_told
  refine fn_mk (ps := ["which", "one", "two", "three"]) (fn_ok (k := 6) (N := N__law_told) F sc__law_told rfl fun cdv A outer s H E G tk po => ?_) hm F.kp (F.bindsN fun _ _ _ _ _ _ us hl => match us, hl with | [_, _, _, _], _ => rfl)
  exact
    ss_one (s_try_many G (T.isa.at _) tk (.cons (by rfl) (by decide) T.g_NotRight (fun _ Z => ss_one (s_ret (se_tup (sa_cons (se_str) (sa_cons (se_str) (sa_nil)))))) (.cons (by rfl) (by decide) T.g_NoAnswer (fun _ Z => ss_one (s_ret (se_tup (sa_cons (se_str) (sa_cons (se_str) (sa_nil)))))) (.cons (by rfl) (by decide) T.g_TooLarge (fun _ Z => ss_one (s_ret (se_tup (sa_cons (se_str) (sa_cons (se_str) (sa_nil)))))) (.cons (by rfl) (by decide) T.g_SwapError (fun _ Z => ss_one (s_ret (se_tup (sa_cons (se_str) (sa_cons (se_str) (sa_nil)))))) (.nil)))))
            (fun _ _ _ G tk po => ss_cons (s_if (st_cmp d_lt (se_var 0) (se_int) (nomark _))
            (ss_one (s_ret (se_vcall G tk (tab_cons (ok_upright T).at (by omega) (tab_cons (ok_mirror T).at (by omega) (tab_nil))) (se_ix (d_ixD G) (se_lst (sa_cons ((T.f_upright).elim fun _ ⟨_, _, hm⟩ => se_fn G (by rfl) hm) (sa_cons ((T.f_mirror).elim fun _ ⟨_, _, hm⟩ => se_fn G (by rfl) hm) (sa_nil)))) (se_var 0) (by exact plain_ix _)) (sb_cons (se_var 1) (sb_nil)))))
            (ss_nil))
            (ss_one (s_ret (se_if (st_cmp (d_eq G) (se_var 0) (se_int) (nomark _)) (se_call G tk (ok_joint T).at (by omega) (sb_cons (se_var 1) (sb_cons (se_var 2) (sb_nil))) (by rfl)) (se_call G tk (ok_set_out T).at (by omega) (sb_cons (se_var 1) (sb_cons (se_var 2) (sb_cons (se_var 3) (sb_nil)))) (by rfl)))))))

theorem sc_law : FnScope N_law ["script"] (defScope (topS 30)) := ⟨rfl, rfl, rfl, by decide +kernel, rfl, by decide +kernel, by decide +kernel⟩
theorem ok_law {c : Ct} (T : Facts c) {f : Addr} {fd : FuncData} (F : FunD c.K "law" "law" (defArgs (topS 30)) (defBody (topS 30)) (defScope (topS 30)) [] [] f fd) : FnOk c.P c.w c.K c.mg c.base (L2N.CX c.P c.w) 14 f fd ["script"] (spF c 1 d_law) := by
  refine fn_ok (k := 13) (N := N_law) F sc_law rfl fun cdv A outer s H E G tk po => ?_
  exact
    ss_cons (s_set (i := 1) G (se_call G tk (ok__law_draws T).at (by omega) (sb_cons (se_var 0) (sb_nil)) (by rfl)))
            (ss_cons (s_fg [2, 3, 4, 5, 6, 7, 10, 11, 12, 13, 14, 15, 17, 18, 20] (s_for G po (si_range1 G (by rfl) T.b_range (sa_cons (se_int) (sa_nil))) (sg_name (i := 2) G.nd)
            (ss_fg [2, 3, 4, 5, 6, 7, 10, 11, 12, 13, 14, 15, 17, 18, 20] (ss_cons (s_set (i := 3) G (se_call G tk (ok__law_net T).at (by omega) (sb_ref (se_var 1) (sb_cons (se_bin (d_add G.soft) (se_int) (se_call G tk (ok__law_take T).at (by omega) (sb_ref (se_var 1) (sb_cons (se_int) (sb_nil))) (by rfl))) (sb_cons (se_call G tk (ok__law_pick T).at (by omega) (sb_ref (se_var 1) (sb_cons (se_lst (sa_cons (se_int) (sa_cons (se_int) (sa_cons (se_int) (sa_nil))))) (sb_nil))) (by rfl)) (sb_cons (se_call G tk (ok__law_pick T).at (by omega) (sb_ref (se_var 1) (sb_cons (se_lst (sa_cons (se_int) (sa_cons (se_int) (sa_cons (se_int) (sa_cons (se_int) (sa_nil)))))) (sb_nil))) (by rfl)) (sb_nil))))) (by rfl)))
            (ss_cons (s_set (i := 4) G (se_call G tk (ok__law_net T).at (by omega) (sb_ref (se_var 1) (sb_cons (se_ix (d_ixD G) (se_var 3) (se_int) (by exact plain_ix _)) (sb_cons (se_int) (sb_cons (se_call G tk (ok__law_take T).at (by omega) (sb_ref (se_var 1) (sb_cons (se_int) (sb_nil))) (by rfl)) (sb_nil))))) (by rfl)))
            (ss_cons (s_set (i := 5) G (se_call G tk (ok__law_upright T).at (by omega) (sb_cons (se_var 3) (sb_nil)) (by rfl)))
            (ss_cons (s_if (st_not (st_truth G (se_call G tk (ok__law_same T 12).at (by omega) (sb_cons (se_call G tk (ok__law_told T).at (by omega) (sb_cons (se_int) (sb_cons (se_var 3) (sb_cons (se_non) (sb_cons (se_non) (sb_nil))))) (by rfl)) (sb_cons (se_var 5) (sb_nil))) (by rfl))))
            (ss_one (s_ret (se_bl)))
            (ss_nil))
            (ss_cons (s_set (i := 6) G (se_bin d_sub (se_ix (d_ixD G) (se_var 3) (se_int) (by exact plain_ix _)) (se_int)))
            (ss_cons (s_set (i := 7) G (se_tup (sa_cons (se_ix (d_ixD G) (se_var 3) (se_int) (by exact plain_ix _)) (sa_cons (se_callT1 G.soft (d_tuple G) (by rfl) T.b_tuple rfl (se_comp (own := [("i", 8), ("j", 9)]) G (si_seq G (se_ix (d_ixD G) (se_var 3) (se_int) (by exact plain_ix _))) (blkOk_by (own := [("i", 8), ("j", 9)]) (N := N_law) (by first | (show blkC _ (defScope (topS 30)) _ _ = true; decide +kernel) | kernel_rfl)) (fun _ _ _ _ _ G => sg_tup G (sgs_cons (sg_name (i := 8) G.nd) (sgs_cons (sg_name (i := 9) G.nd) (sgs_nil)))) (fun _ _ _ _ _ G tk => sts_nil) (fun _ _ _ _ _ G tk => se_tup (sa_cons (se_bin d_sub (se_var 6) (se_var 9)) (sa_cons (se_bin d_sub (se_var 6) (se_var 8)) (sa_nil)))))) (sa_nil)))))
            (ss_cons (s_if (st_not (st_truth G (se_call G tk (ok__law_same T 12).at (by omega) (sb_cons (se_lst (sa_cons (se_call G tk (ok__law_told T).at (by omega) (sb_cons (se_int) (sb_cons (se_var 3) (sb_cons (se_non) (sb_cons (se_non) (sb_nil))))) (by rfl)) (sa_cons (se_call G tk (ok__law_told T).at (by omega) (sb_cons (se_int) (sb_cons (se_var 7) (sb_cons (se_non) (sb_cons (se_non) (sb_nil))))) (by rfl)) (sa_cons (se_call G tk (ok__law_told T).at (by omega) (sb_cons (se_int) (sb_cons (se_var 3) (sb_cons (se_var 4) (sb_cons (se_non) (sb_nil))))) (by rfl)) (sa_nil))))) (sb_cons (se_lst (sa_cons (se_var 7) (sa_cons (se_var 3) (sa_cons (se_tup (sa_cons (se_ix (d_ixD G) (se_var 3) (se_int) (by exact plain_ix _)) (sa_cons (se_bin (d_add G.soft) (se_ix (d_ixD G) (se_var 3) (se_int) (by exact plain_ix _)) (se_ix (d_ixD G) (se_var 4) (se_int) (by exact plain_ix _))) (sa_nil)))) (sa_nil))))) (sb_nil))) (by rfl))))
            (ss_one (s_ret (se_bl)))
            (ss_nil))
            (ss_cons (s_fg [10, 11, 12, 13, 15] (s_for G po (si_range1 G (by rfl) T.b_range (sa_cons (se_int) (sa_nil))) (sg_name (i := 10) G.nd)
            (ss_fg [10, 11, 12, 13, 15] (ss_cons (s_set (i := 11) G (se_call G tk (ok__law_values T).at (by omega) (sb_ref (se_var 1) (sb_cons (se_ix (d_ixD G) (se_var 3) (se_int) (by exact plain_ix _)) (sb_nil))) (by rfl)))
            (ss_cons (s_asg (se_tup (sa_cons (se_call G tk (ok__law_out T).at (by omega) (sb_cons (se_ix (d_ixD G) (se_var 3) (se_int) (by exact plain_ix _)) (sb_cons (se_var 11) (sb_nil))) (by rfl)) (sa_cons (se_call G tk (ok__law_out T).at (by omega) (sb_cons (se_ix (d_ixD G) (se_ix (d_ixD G) (se_var 5) (se_int) (by exact plain_ix _)) (se_int) (by exact plain_ix _)) (sb_cons (se_var 11) (sb_nil))) (by rfl)) (sa_nil)))) (sg_tup G (sgs_cons (sg_name (i := 12) G.nd) (sgs_cons (sg_name (i := 13) G.nd) (sgs_nil)))))
            (ss_cons (s_if (st_cmp (d_ne G) (se_comp (own := [("k", 14)]) G (si_range1 G (by rfl) T.b_range (sa_cons (se_ix (d_ixD G) (se_var 3) (se_int) (by exact plain_ix _)) (sa_nil))) (blkOk_by (own := [("k", 14)]) (N := N_law) (by first | (show blkC _ (defScope (topS 30)) _ _ = true; decide +kernel) | kernel_rfl)) (fun _ _ _ _ _ G => sg_name (i := 14) G.nd) (fun _ _ _ _ _ G tk => sts_nil) (fun _ _ _ _ _ G tk => se_ix (d_ixD G) (se_var 12) (se_ix (d_ixD G) (se_ix (d_ixD G) (se_var 5) (se_int) (by exact plain_ix _)) (se_var 14) (by exact plain_ix _)) (by exact plain_ix _))) (se_callT1 G.soft (d_listD G) (by rfl) T.b_list rfl (se_var 13)) (nomark _))
            (ss_one (s_ret (se_bl)))
            (ss_nil))
            (ss_cons (s_if (st_cmp (d_ne G) (se_call G tk (ok__law_out T).at (by omega) (sb_cons (se_ix (d_ixD G) (se_ix (d_ixD G) (se_var 5) (se_int) (by exact plain_ix _)) (se_int) (by exact plain_ix _)) (sb_cons (se_callT1 G.soft (d_tuple G) (by rfl) T.b_tuple rfl (se_callB1 G.soft (d_sortedD G) (by rfl) T.b_sorted rfl (se_var 11))) (sb_nil))) (by rfl)) (se_callT1 G.soft (d_tuple G) (by rfl) T.b_tuple rfl (se_callB1 G.soft (d_sortedD G) (by rfl) T.b_sorted rfl (se_var 11))) (nomark _))
            (ss_one (s_ret (se_bl)))
            (ss_nil))
            (ss_cons (s_set (i := 15) G (se_call G tk (ok__law_out T).at (by omega) (sb_cons (se_ix (d_ixD G) (se_var 7) (se_int) (by exact plain_ix _)) (sb_cons (se_callT1 G.soft (d_tuple G) (by rfl) T.b_tuple rfl (se_comp (own := [("one", 16)]) G (si_seq G (se_rv G (se_var 11) (so_some (se_neg (se_int))))) (blkOk_by (own := [("one", 16)]) (N := N_law) (by first | (show blkC _ (defScope (topS 30)) _ _ = true; decide +kernel) | kernel_rfl)) (fun _ _ _ _ _ G => sg_name (i := 16) G.nd) (fun _ _ _ _ _ G tk => sts_nil) (fun _ _ _ _ _ G tk => se_neg (se_var 16)))) (sb_nil))) (by rfl)))
            (ss_cons (s_if (st_cmp (d_ne G) (se_callT1 G.soft (d_tuple G) (by rfl) T.b_tuple rfl (se_comp (own := [("one", 16)]) G (si_seq G (se_rv G (se_var 15) (so_some (se_neg (se_int))))) (blkOk_by (own := [("one", 16)]) (N := N_law) (by first | (show blkC _ (defScope (topS 30)) _ _ = true; decide +kernel) | kernel_rfl)) (fun _ _ _ _ _ G => sg_name (i := 16) G.nd) (fun _ _ _ _ _ G tk => sts_nil) (fun _ _ _ _ _ G tk => se_neg (se_var 16)))) (se_var 12) (nomark _))
            (ss_one (s_ret (se_bl)))
            (ss_nil))
            (ss_one (s_if (st_cmp (d_ne G) (se_call G tk (ok__law_out T).at (by omega) (sb_cons (se_ix (d_ixD G) (se_call G tk (ok__law_told T).at (by omega) (sb_cons (se_int) (sb_cons (se_var 3) (sb_cons (se_var 4) (sb_cons (se_non) (sb_nil))))) (by rfl)) (se_int) (by exact plain_ix _)) (sb_cons (se_var 11) (sb_nil))) (by rfl)) (se_call G tk (ok__law_out T).at (by omega) (sb_cons (se_ix (d_ixD G) (se_var 4) (se_int) (by exact plain_ix _)) (sb_cons (se_var 12) (sb_nil))) (by rfl)) (nomark _))
            (ss_one (s_ret (se_bl)))
            (ss_nil))))))))))))
            (ss_cons (s_set (i := 17) G (se_call G tk (ok__law_pick T).at (by omega) (sb_ref (se_var 1) (sb_cons (se_lst (sa_cons (se_ix (d_ixD G) (se_var 3) (se_int) (by exact plain_ix _)) (sa_cons (se_int) (sa_cons (se_bin (d_add G.soft) (se_ix (d_ixD G) (se_var 3) (se_int) (by exact plain_ix _)) (se_call G tk (ok__law_take T).at (by omega) (sb_ref (se_var 1) (sb_cons (se_int) (sb_nil))) (by rfl))) (sa_cons (se_int) (sa_nil)))))) (sb_nil))) (by rfl)))
            (ss_cons (s_set (i := 14) G (se_call G tk (ok__law_take T).at (by omega) (sb_ref (se_var 1) (sb_cons (se_bin (d_add G.soft) (se_bin d_sub (se_var 17) (se_ix (d_ixD G) (se_var 3) (se_int) (by exact plain_ix _))) (se_int)) (sb_nil))) (by rfl)))
            (ss_cons (s_set (i := 18) G (se_tup (sa_cons (se_var 17) (sa_cons (se_callT1 G.soft (d_tuple G) (by rfl) T.b_tuple rfl (se_comp (own := [("i", 8), ("j", 9)]) G (si_seq G (se_ix (d_ixD G) (se_var 3) (se_int) (by exact plain_ix _))) (blkOk_by (own := [("i", 8), ("j", 9)]) (N := N_law) (by first | (show blkC _ (defScope (topS 30)) _ _ = true; decide +kernel) | kernel_rfl)) (fun _ _ _ _ _ G => sg_tup G (sgs_cons (sg_name (i := 8) G.nd) (sgs_cons (sg_name (i := 9) G.nd) (sgs_nil)))) (fun _ _ _ _ _ G tk => sts_nil) (fun _ _ _ _ _ G tk => se_tup (sa_cons (se_bin (d_add G.soft) (se_var 8) (se_var 14)) (sa_cons (se_bin (d_add G.soft) (se_var 9) (se_var 14)) (sa_nil)))))) (sa_nil)))))
            (ss_cons (s_set (i := 11) G (se_call G tk (ok__law_values T).at (by omega) (sb_ref (se_var 1) (sb_cons (se_var 17) (sb_nil))) (by rfl)))
            (ss_cons (s_if ((sw_or (st_not (st_truth G (se_call G tk (ok__law_same T 12).at (by omega) (sb_cons (se_call G tk (ok__law_told T).at (by omega) (sb_cons (se_int) (sb_cons (se_var 3) (sb_cons (se_var 17) (sb_cons (se_var 14) (sb_nil))))) (by rfl)) (sb_cons (se_var 18) (sb_nil))) (by rfl)))) (sw_or1 (st_cmp (d_ne G) (se_call G tk (ok__law_out T).at (by omega) (sb_cons (se_ix (d_ixD G) (se_var 18) (se_int) (by exact plain_ix _)) (sb_cons (se_var 11) (sb_nil))) (by rfl)) (se_bin (d_add G.soft) (se_bin (d_add G.soft) (se_slice G (se_var 11) (so_none) (so_some (se_var 14))) (se_call G tk (ok__law_out T).at (by omega) (sb_cons (se_ix (d_ixD G) (se_var 3) (se_int) (by exact plain_ix _)) (sb_cons (se_slice G (se_var 11) (so_some (se_var 14)) (so_some (se_bin (d_add G.soft) (se_var 14) (se_ix (d_ixD G) (se_var 3) (se_int) (by exact plain_ix _))))) (sb_nil))) (by rfl))) (se_slice G (se_var 11) (so_some (se_bin (d_add G.soft) (se_var 14) (se_ix (d_ixD G) (se_var 3) (se_int) (by exact plain_ix _)))) (so_none))) (nomark _)))).t)
            (ss_one (s_ret (se_bl)))
            (ss_nil))
            (ss_cons (s_setcomp (i := 13) (own := [("one", 16), ("two", 19)]) G (si_seq G (se_lst (sa_cons (se_tup (sa_cons (se_int) (sa_cons (se_int) (sa_nil)))) (sa_cons (se_tup (sa_cons (se_int) (sa_cons (se_int) (sa_nil)))) (sa_cons (se_tup (sa_cons (se_var 17) (sa_cons (se_bin (d_add G.soft) (se_bin d_sub (se_var 17) (se_ix (d_ixD G) (se_var 3) (se_int) (by exact plain_ix _))) (se_int)) (sa_nil)))) (sa_cons (se_tup (sa_cons (se_var 17) (sa_cons (se_neg (se_int)) (sa_nil)))) (sa_cons (se_tup (sa_cons (se_non) (sa_cons (se_int) (sa_nil)))) (sa_cons (se_tup (sa_cons (se_var 17) (sa_cons (se_bl) (sa_nil)))) (sa_cons (se_tup (sa_cons (se_bin d_sub (se_ix (d_ixD G) (se_var 3) (se_int) (by exact plain_ix _)) (se_int)) (sa_cons (se_int) (sa_nil)))) (sa_cons (se_tup (sa_cons (se_str) (sa_cons (se_int) (sa_nil)))) (sa_nil))))))))))) (blkOk_by (own := [("one", 16), ("two", 19)]) (N := N_law) (by first | (show blkC _ (defScope (topS 30)) _ _ = true; decide +kernel) | kernel_rfl)) (fun _ _ _ _ _ G => sg_tup G (sgs_cons (sg_name (i := 16) G.nd) (sgs_cons (sg_name (i := 19) G.nd) (sgs_nil)))) (fun _ _ _ _ _ G tk => sts_nil) (fun _ _ _ _ _ G tk => se_call G tk (ok__law_told T).at (by omega) (sb_cons (se_int) (sb_cons (se_var 3) (sb_cons (se_var 16) (sb_cons (se_var 19) (sb_nil))))) (by rfl)) (sw_true rfl rfl rfl (by decide +kernel)))
            (ss_cons (s_set (i := 20) G (se_call G tk (ok__law_bad_net T).at (by omega) (sb_ref (se_var 1) (sb_nil)) (by rfl)))
            (ss_cons (s_set (i := 13) G (se_bin (d_add G.soft) (se_var 13) (se_lst (sa_cons (se_call G tk (ok__law_told T).at (by omega) (sb_cons (se_int) (sb_cons (se_var 20) (sb_cons (se_non) (sb_cons (se_non) (sb_nil))))) (by rfl)) (sa_cons (se_call G tk (ok__law_told T).at (by omega) (sb_cons (se_int) (sb_cons (se_var 20) (sb_cons (se_non) (sb_cons (se_non) (sb_nil))))) (by rfl)) (sa_cons (se_call G tk (ok__law_told T).at (by omega) (sb_cons (se_int) (sb_cons (se_var 20) (sb_cons (se_var 3) (sb_cons (se_non) (sb_nil))))) (by rfl)) (sa_cons (se_call G tk (ok__law_told T).at (by omega) (sb_cons (se_int) (sb_cons (se_var 3) (sb_cons (se_var 20) (sb_cons (se_non) (sb_nil))))) (by rfl)) (sa_cons (se_call G tk (ok__law_told T).at (by omega) (sb_cons (se_int) (sb_cons (se_var 20) (sb_cons (se_int) (sb_cons (se_non) (sb_nil))))) (by rfl)) (sa_nil)))))))))
            (ss_one (s_if (st_cmp (d_ne G) (se_var 13) (se_bin (d_mulT G.soft) (se_lst (sa_cons (se_tup (sa_cons (se_str) (sa_cons (se_str) (sa_nil)))) (sa_nil))) (se_int)) (nomark _))
            (ss_one (s_ret (se_bl)))
            (ss_nil))))))))))))))))))))))
            (ss_cons (s_par (i := 18) (j := 21) G (se_tup (sa_cons (se_int) (sa_cons (se_bin (d_mulT G.soft) (se_tup (sa_cons (se_tup (sa_cons (se_int) (sa_cons (se_int) (sa_nil)))) (sa_nil))) (se_int)) (sa_nil)))) (se_tup (sa_cons (se_int) (sa_cons (se_bin (d_mulT G.soft) (se_tup (sa_cons (se_tup (sa_cons (se_int) (sa_cons (se_int) (sa_nil)))) (sa_nil))) (se_call G tk (ok__law_pick T).at (by omega) (sb_ref (se_var 1) (sb_cons (se_lst (sa_cons (se_int) (sa_cons (se_int) (sa_nil)))) (sb_nil))) (by rfl))) (sa_nil)))))
            (ss_cons (s_set (i := 5) G (se_if (st_cmp (d_eq G) (se_callB1 G.soft (d_lenD G) (by rfl) T.b_len rfl (se_ix (d_ixD G) (se_var 21) (se_int) (by exact plain_ix _))) (se_int) (nomark _)) (se_tup (sa_cons (se_int) (sa_cons (se_bin (d_add G.soft) (se_ix (d_ixD G) (se_var 18) (se_int) (by exact plain_ix _)) (se_ix (d_ixD G) (se_var 21) (se_int) (by exact plain_ix _))) (sa_nil)))) (se_tup (sa_cons (se_str) (sa_cons (se_str) (sa_nil))))))
            (ss_one (s_ret (se_call G tk (ok__law_same T 12).at (by omega) (sb_cons (se_lst (sa_cons (se_call G tk (ok__law_told T).at (by omega) (sb_cons (se_int) (sb_cons (se_var 18) (sb_cons (se_var 21) (sb_cons (se_non) (sb_nil))))) (by rfl)) (sa_cons (se_call G tk (ok__law_told T).at (by omega) (sb_cons (se_int) (sb_cons (se_var 18) (sb_cons (se_tup (sa_cons (se_int) (sa_cons (se_bin (d_mulT G.soft) (se_tup (sa_cons (se_tup (sa_cons (se_int) (sa_cons (se_int) (sa_nil)))) (sa_nil))) (se_int)) (sa_nil)))) (sb_cons (se_non) (sb_nil))))) (by rfl)) (sa_nil)))) (sb_cons (se_lst (sa_cons (se_var 5) (sa_cons (se_tup (sa_cons (se_str) (sa_cons (se_str) (sa_nil)))) (sa_nil)))) (sb_nil))) (by rfl)))))))

/-! ## the head -/
def fa0 : List He.Fa := [.glo "_law_draws",
  .glo "_law_same",
  .glo "_law_take",
  .glo "_law_net",
  .glo "_law_upright",
  .glo "_law_pick",
  .glo "_law_values",
  .glo "_law_bad_net",
  .glo "_law_out",
  .glo "check",
  .glo "is_integer",
  .glo "is_within",
  .glo "is_gate",
  .glo "is_net",
  .glo "check_net",
  .glo "joint",
  .glo "set_out",
  .glo "upright_by",
  .glo "upright",
  .glo "mirror",
  .glo "_law_told",
  .glo "law",
  .free "abs",
  .free "all",
  .free "bool",
  .free "dict",
  .free "int",
  .free "isinstance",
  .free "len",
  .free "list"]
def fa1 : List He.Fa := [.free "max",
  .free "min",
  .free "range",
  .free "reversed",
  .free "sorted",
  .free "str",
  .free "tuple",
  .int "WIDEST" (32),
  .int "MOST_GATES" (600),
  .glo "NoAnswer",
  .glo "NotRight",
  .glo "SwapError",
  .glo "TooLarge",
  .exc "NoAnswer",
  .exc "NotRight",
  .exc "TooLarge"]
def fa : List He.Fa := fa0 ++ fa1
def fn0 : List He.DefD := [⟨("_law_draws", none), "_law_draws", "_law_draws", defArgs (topS 20), defBody (topS 20), defScope (topS 20), [], []⟩,
  ⟨("_law_same", none), "_law_same", "_law_same", defArgs (topS 23), defBody (topS 23), defScope (topS 23), [], []⟩,
  ⟨("_law_take", none), "_law_take", "_law_take", defArgs (topS 21), defBody (topS 21), defScope (topS 21), [], []⟩,
  ⟨("_law_net", none), "_law_net", "_law_net", defArgs (topS 24), defBody (topS 24), defScope (topS 24), [], []⟩,
  ⟨("_law_upright", none), "_law_upright", "_law_upright", defArgs (topS 29), defBody (topS 29), defScope (topS 29), [], []⟩,
  ⟨("_law_pick", none), "_law_pick", "_law_pick", defArgs (topS 22), defBody (topS 22), defScope (topS 22), [], []⟩,
  ⟨("_law_values", none), "_law_values", "_law_values", defArgs (topS 26), defBody (topS 26), defScope (topS 26), [], []⟩,
  ⟨("_law_bad_net", none), "_law_bad_net", "_law_bad_net", defArgs (topS 27), defBody (topS 27), defScope (topS 27), [], []⟩,
  ⟨("_law_out", none), "_law_out", "_law_out", defArgs (topS 25), defBody (topS 25), defScope (topS 25), [], []⟩,
  ⟨("check", none), "check", "check", defArgs (topS 7), defBody (topS 7), defScope (topS 7), [], []⟩,
  ⟨("is_integer", none), "is_integer", "is_integer", defArgs (topS 5), defBody (topS 5), defScope (topS 5), [], []⟩,
  ⟨("is_within", none), "is_within", "is_within", defArgs (topS 6), defBody (topS 6), defScope (topS 6), [], []⟩,
  ⟨("is_gate", none), "is_gate", "is_gate", defArgs (topS 11), defBody (topS 11), defScope (topS 11), [], []⟩,
  ⟨("is_net", none), "is_net", "is_net", defArgs (topS 12), defBody (topS 12), defScope (topS 12), [], []⟩,
  ⟨("check_net", none), "check_net", "check_net", defArgs (topS 13), defBody (topS 13), defScope (topS 13), [], []⟩,
  ⟨("joint", none), "joint", "joint", defArgs (topS 16), defBody (topS 16), defScope (topS 16), [], []⟩,
  ⟨("set_out", none), "set_out", "set_out", defArgs (topS 18), defBody (topS 18), defScope (topS 18), [], []⟩,
  ⟨("upright_by", none), "upright_by", "upright_by", defArgs (topS 14), defBody (topS 14), defScope (topS 14), [], []⟩,
  ⟨("upright", none), "upright", "upright", defArgs (topS 15), defBody (topS 15), defScope (topS 15), [], []⟩,
  ⟨("mirror", none), "mirror", "mirror", defArgs (topS 17), defBody (topS 17), defScope (topS 17), [], []⟩,
  ⟨("_law_told", none), "_law_told", "_law_told", defArgs (topS 28), defBody (topS 28), defScope (topS 28), [], []⟩,
  ⟨("law", none), "law", "law", defArgs (topS 30), defBody (topS 30), defScope (topS 30), [], []⟩]
def fn : List He.DefD := fn0
abbrev R : PySem.W.OpenRow := PySem.W.OpenLaw.row PySem.Challenge.rw_swapnets_k21_whole_upright_nets_joints_a
abbrev hk : PySem.W.Hook := He.hookX 5 fa fn [] [] (isaB isaT)
def ob (s : PySem.W.SharedT) : He.AlX := He.obsX 5 fa fn [] [] (isaB isaT) (HandSHeadRun.getT s)
theorem ob_eq (s : PySem.W.SharedT) : ob s = hk.obs s.abs := He.obsX_eq (HandSHeadRun.getT_eq s)
def loose0 : List Str := ["SwapError",
  "NotRight",
  "NoAnswer",
  "TooLarge",
  "is_integer",
  "is_within",
  "check",
  "WIDEST",
  "MOST_GATES",
  "is_gate",
  "is_net",
  "check_net",
  "upright_by",
  "upright",
  "joint",
  "mirror",
  "set_out",
  "_law_draws",
  "_law_take",
  "_law_pick",
  "_law_same",
  "_law_net",
  "_law_out",
  "_law_values",
  "_law_bad_net",
  "_law_told",
  "_law_upright"]
def loose : List Str := loose0
theorem run (w : World) : HandSHeadRun.RunEq R (PySem.W.view R.prog [30]) hk ob 20000 loose w := by
  intro os
  kernel_rfl
theorem facts {c : Ct} {h : Heap} (X : c.K.In h) (G : h.Ns mainGlobals c.mg) (s : He.SaysX fa fn [] [] (isaB isaT) c.w h c.K) : Facts c := by
  have hf : ∀ (i : Nat) {f : He.Fa}, fa[i]? = some f → f.ok c.K = true := fun i f h => s.t.d.fact i h
  have hd := fun (i : Nat) {d : He.DefD} (h : fn[i]? = some d) => s.t.d.def_ i h
  exact ⟨He.free_ok X G (hf 22 rfl),
    He.free_ok X G (hf 23 rfl),
    He.free_ok X G (hf 24 rfl),
    He.free_ok X G (hf 25 rfl),
    He.free_ok X G (hf 26 rfl),
    He.free_ok X G (hf 27 rfl),
    He.free_ok X G (hf 28 rfl),
    He.free_ok X G (hf 29 rfl),
    He.free_ok X G (hf 30 rfl),
    He.free_ok X G (hf 31 rfl),
    He.free_ok X G (hf 32 rfl),
    He.free_ok X G (hf 33 rfl),
    He.free_ok X G (hf 34 rfl),
    He.free_ok X G (hf 35 rfl),
    He.free_ok X G (hf 36 rfl),
    He.int_ok X G (hf 37 rfl),
    He.int_ok X G (hf 38 rfl),
    xc_ok X G (hf 39 rfl) (hf 43 rfl),
    xc_ok X G (hf 40 rfl) (hf 44 rfl),
    xc_ok X G (hf 42 rfl) (hf 45 rfl),
    ⟨_, He.glo_ok X G (hf 39 rfl)⟩,
    ⟨_, He.glo_ok X G (hf 40 rfl)⟩,
    ⟨_, He.glo_ok X G (hf 41 rfl)⟩,
    ⟨_, He.glo_ok X G (hf 42 rfl)⟩,
    isaB_ok X G s.more,
    (hd 0 rfl).elim fun fd h => ⟨_, fd, h, He.glo_ok X G (hf 0 rfl)⟩,
    (hd 1 rfl).elim fun fd h => ⟨_, fd, h, He.glo_ok X G (hf 1 rfl)⟩,
    (hd 2 rfl).elim fun fd h => ⟨_, fd, h, He.glo_ok X G (hf 2 rfl)⟩,
    (hd 3 rfl).elim fun fd h => ⟨_, fd, h, He.glo_ok X G (hf 3 rfl)⟩,
    (hd 4 rfl).elim fun fd h => ⟨_, fd, h, He.glo_ok X G (hf 4 rfl)⟩,
    (hd 5 rfl).elim fun fd h => ⟨_, fd, h, He.glo_ok X G (hf 5 rfl)⟩,
    (hd 6 rfl).elim fun fd h => ⟨_, fd, h, He.glo_ok X G (hf 6 rfl)⟩,
    (hd 7 rfl).elim fun fd h => ⟨_, fd, h, He.glo_ok X G (hf 7 rfl)⟩,
    (hd 8 rfl).elim fun fd h => ⟨_, fd, h, He.glo_ok X G (hf 8 rfl)⟩,
    (hd 9 rfl).elim fun fd h => ⟨_, fd, h, He.glo_ok X G (hf 9 rfl)⟩,
    (hd 10 rfl).elim fun fd h => ⟨_, fd, h, He.glo_ok X G (hf 10 rfl)⟩,
    (hd 11 rfl).elim fun fd h => ⟨_, fd, h, He.glo_ok X G (hf 11 rfl)⟩,
    (hd 12 rfl).elim fun fd h => ⟨_, fd, h, He.glo_ok X G (hf 12 rfl)⟩,
    (hd 13 rfl).elim fun fd h => ⟨_, fd, h, He.glo_ok X G (hf 13 rfl)⟩,
    (hd 14 rfl).elim fun fd h => ⟨_, fd, h, He.glo_ok X G (hf 14 rfl)⟩,
    (hd 15 rfl).elim fun fd h => ⟨_, fd, h, He.glo_ok X G (hf 15 rfl)⟩,
    (hd 16 rfl).elim fun fd h => ⟨_, fd, h, He.glo_ok X G (hf 16 rfl)⟩,
    (hd 17 rfl).elim fun fd h => ⟨_, fd, h, He.glo_ok X G (hf 17 rfl)⟩,
    (hd 18 rfl).elim fun fd h => ⟨_, fd, h, He.glo_ok X G (hf 18 rfl)⟩,
    (hd 19 rfl).elim fun fd h => ⟨_, fd, h, He.glo_ok X G (hf 19 rfl)⟩,
    (hd 20 rfl).elim fun fd h => ⟨_, fd, h, He.glo_ok X G (hf 20 rfl)⟩,
    (hd 21 rfl).elim fun fd h => ⟨_, fd, h, He.glo_ok X G (hf 21 rfl)⟩⟩
theorem all_ok {P : Program} {w : World} {K : PySem.W.Frag} {h : Heap} {mg : Str → Option Value} {f : Addr} (X : K.In h) (G : h.Ns mainGlobals mg) (hfa : mg ("law" : Str) = some (.ref f)) (s : He.SaysX fa fn [] [] (isaB isaT) w h K)
    (LT : ∀ ns : List Int, ns.length ≤ 63 → d_law [.p (.scr ns)] .none = .ok (.p (.bl true)) .none) :
    ∃ fd : FuncData, (∀ (s : Shared) (v : Value), BindsTo s fd ⟨[v], []⟩ [("script", v)]) ∧ ∀ base : Heap, K.In base → base.Ns mainGlobals mg → FnOk P w K mg base (L2N.CX P w) 14 f fd ["script"] (spLaw K) := by
  obtain ⟨fd, F⟩ := s.t.d.def_ 21 (d := ⟨("law", none), "law", "law", defArgs (topS 30), defBody (topS 30), defScope (topS 30), [], []⟩) rfl
  have e := hfa.symm.trans (He.glo_ok X G (s.t.d.fact 21 (f := .glo "law") rfl))
  cases e
  have b := FunD.bindsA (ps := ["script"]) F fun _ _ _ _ _ _ us hl => match us, hl with | [_], _ => rfl
  exact ⟨fd, fun s v => b s [v] rfl, fun base _ _ => (ok_law (c := ⟨P, w, base, K, mg, fun _ => none, none⟩) (facts (c := ⟨P, w, base, K, mg, fun _ => none, none⟩) X G s) F).imp (law_spF ⟨P, w, base, K, mg, fun _ => none, none⟩ LT)⟩
end L_k21
end

set_option Elab.async false
set_option linter.all false
set_option maxRecDepth 100000
open PySem PySem.W PySem.Calls PyProof.Rows
set_option maxHeartbeats 0 in
theorem PySem.Challenge.cw_swapnets_k21_whole_upright_nets_joints_a_holds : PySem.Challenge.rw_swapnets_k21_whole_upright_nets_joints_a.Holds := by
  w_on; o_law
  refine HandSHeadRun.head_any (r := OpenLaw.row PySem.Challenge.rw_swapnets_k21_whole_upright_nets_joints_a) (q := view (OpenLaw.row PySem.Challenge.rw_swapnets_k21_whole_upright_nets_joints_a).prog [30]) (H := L_k21.hk) (ob := L_k21.ob) (M := 20000) (loose := L_k21.loose) (d := HandSHeadRun.topDef (OpenLaw.row PySem.Challenge.rw_swapnets_k21_whole_upright_nets_joints_a).prog 30) (kwd := []) L_k21.ob_eq
    (by kernel_rfl) (fun s => by kernel_rfl) L_k21.run (by kernel_rfl) (by kernel_rfl) (by kernel_rfl) (by rfl) (by first | assumption | decide +kernel) (by decide +kernel) ⟨rfl, rfl, rfl, rfl, rfl, by decide +kernel⟩ ?hw ?hc
  case hw => w_witness2
  case hc =>
    refine Y.walk_y (l := PySem.Challenge.rw_swapnets_k21_whole_upright_nets_joints_a) (n := 63) (k := 14) (x := "script") (CX := fun w => L2N.CX PySem.Challenge.rw_swapnets_k21_whole_upright_nets_joints_a.prog w) rfl (by decide) (by kernel_rfl) ⟨rfl, by decide, by decide⟩ ?F (fun _ _ _ _ _ z => Y.cx_none z)
    intro w mg fa h Y G hmg0
    obtain ⟨K, KX, c⟩ := Y
    have hmg : mg ("law" : PySem.Str) = some (.ref fa) := by
      have e : (HandSHeadRun.topDef (OpenLaw.row PySem.Challenge.rw_swapnets_k21_whole_upright_nets_joints_a).prog 30).name = ("law" : PySem.Str) := by kernel_rfl
      rw [← e]
      exact hmg0
    obtain ⟨fd, hb, hF⟩ := L_k21.all_ok (P := PySem.Challenge.rw_swapnets_k21_whole_upright_nets_joints_a.prog) (w := w) KX G hmg c L_k21.law_true
    exact ⟨K, fd, Y.spLaw K, KX, hb, fun H a ns hl _ hS => ⟨a, ns, rfl, hS, hl, fun _ => rfl⟩, hF⟩
