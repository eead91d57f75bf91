import PyProof.Rows.All
import Wide.All
import OpenK.AllK
import Wide.FinOn
import HandS.ForMost
import HandS.ForExc
import HandS.TupAny
import HandS.Deep
import HandS.Wide
import HandS.CallSlots
import HandS.IsInst
import HandS.Style
import HandS.SortInts
import PySem.Challenge.RW_whenrows_k31_conditions
set_option Elab.async false
set_option linter.all false
set_option maxRecDepth 100000
set_option maxHeartbeats 4000000
/-! DLa: plain data over the heap, and what a value denotes. -/
namespace DL
open PySem PySem.Spec PyProof.Rows L2

/-- plain data. A list bears a mark: made by the def that looks at it. scr: the script; cst: a tuple of texts of the module -/
inductive Dat where
  | non
  | bl (b : Bool)
  | int (i : Int)
  | str (s : Str)
  | tup (xs : List Dat)
  | lst (t : Bool) (xs : List Dat)
  | dK (ks : List Key) (vs : List Dat)
  | dT (ks : List (List Key)) (vs : List Dat)
  | scr (ns : List Int)
  | cst (ss : List Str)

def noHp : Hp := fun _ => none
def TupAt (L : Addr → Prop) (H : Hp) (a : Addr) (vs : List V) : Prop := ¬ L a ∧ H a = some (.tup vs)
def ScrAt (K : PySem.W.Frag) (L : Addr → Prop) (H : Hp) (a : Addr) (vs : List V) : Prop := (¬ L a ∧ Rd H a (.lst vs)) ∨ SqL K noHp a vs

mutual
/-- the value denotes the data; L: addresses that it does not lean on -/
def Den (K : PySem.W.Frag) (H0 : Hp) (L : Addr → Prop) (H : Hp) : Dat → V → Prop
  | .non, v => v = .non
  | .bl b, v => v = .bl b
  | .int i, v => v = .int i
  | .str x, v => v = .str x
  | .tup ds, v => ∃ a vs, v = .ref a ∧ TupAt L H a vs ∧ DenL K H0 L H ds vs
  | .lst t ds, v => ∃ a vs, v = .ref a ∧ ¬ L a ∧ (t = true → H0 a = none) ∧ H a = some (.lst vs) ∧ DenL K H0 L H ds vs
  | .dK ks ds, v => ∃ a vs, v = .ref a ∧ ¬ L a ∧ Rd H a (.dK (ks.zip vs)) ∧ ks.length = vs.length ∧ DenL K H0 L H ds vs
  | .dT ks ds, v => ∃ a vs, v = .ref a ∧ ¬ L a ∧ Rd H a (.dT (ks.zip vs)) ∧ ks.length = vs.length ∧ DenL K H0 L H ds vs
  | .scr ns, v => ∃ a, v = .ref a ∧ ScrAt K L H a (ns.map V.int)
  | .cst ss, v => ∃ a, v = .ref a ∧ SqT K noHp a (ss.map V.str)
def DenL (K : PySem.W.Frag) (H0 : Hp) (L : Addr → Prop) (H : Hp) : List Dat → List V → Prop
  | [], vs => vs = []
  | d :: ds, vs => ∃ v r, vs = v :: r ∧ Den K H0 L H d v ∧ DenL K H0 L H ds r
end

section
variable {K : PySem.W.Frag} {H0 H1 H H' : Hp} {L L' : Addr → Prop}
theorem rd_none {a : Addr} {u : HO} : ¬ Rd noHp a u := by
  rintro (h | ⟨o, h⟩) <;> cases h
theorem TupAt.sq {a : Addr} {vs : List V} (h : TupAt L H a vs) : SqT K H a vs := .of h.2
theorem cst_sq {a : Addr} {vs : List V} (h : SqT K noHp a vs) : SqT K H a vs := by
  rcases h with h | h
  · exact (rd_none h).elim
  · exact .inr h
theorem ScrAt.sq {a : Addr} {vs : List V} (h : ScrAt K L H a vs) : SqL K H a vs := by
  rcases h with ⟨_, h⟩ | h
  · exact .inl h
  · rcases h with h | h
    · exact (rd_none h).elim
    · exact .inr h
/-- what is kept outside of L -/
def Kp (L L' : Addr → Prop) (H H' : Hp) : Prop := ∀ a o, ¬ L a → H a = some o → ¬ L' a ∧ H' a = some o
theorem Kp.rd (k : Kp L L' H H') {a : Addr} {u : HO} (hl : ¬ L a) (h : Rd H a u) : ¬ L' a ∧ Rd H' a u := by
  rcases h with h | ⟨o, h⟩
  · exact ⟨(k _ _ hl h).1, .inl (k _ _ hl h).2⟩
  · exact ⟨(k _ _ hl h).1, .inr ⟨o, (k _ _ hl h).2⟩⟩
theorem TupAt.kp (k : Kp L L' H H') {a : Addr} {vs : List V} (h : TupAt L H a vs) : TupAt L' H' a vs := k _ _ h.1 h.2
theorem ScrAt.kp (k : Kp L L' H H') {a : Addr} {vs : List V} (h : ScrAt K L H a vs) : ScrAt K L' H' a vs := by
  rcases h with ⟨hl, h⟩ | h
  · exact .inl (k.rd hl h)
  · exact .inr h
mutual
theorem Den.kp (k : Kp L L' H H') (hn : ∀ a, H0 a = none → H1 a = none) : ∀ {d : Dat} {v : V}, Den K H0 L H d v → Den K H1 L' H' d v
  | .non, _, h => h
  | .bl _, _, h => h
  | .int _, _, h => h
  | .str _, _, h => h
  | .tup ds, _, ⟨a, vs, e, t, h⟩ => ⟨a, vs, e, t.kp k, DenL.kp k hn h⟩
  | .lst t ds, _, ⟨a, vs, e, hl, ht, ha, h⟩ => ⟨a, vs, e, (k _ _ hl ha).1, fun z => hn _ (ht z), (k _ _ hl ha).2, DenL.kp k hn h⟩
  | .dK ks ds, _, ⟨a, vs, e, hl, ha, z, h⟩ => ⟨a, vs, e, (k.rd hl ha).1, (k.rd hl ha).2, z, DenL.kp k hn h⟩
  | .dT ks ds, _, ⟨a, vs, e, hl, ha, z, h⟩ => ⟨a, vs, e, (k.rd hl ha).1, (k.rd hl ha).2, z, DenL.kp k hn h⟩
  | .scr ns, _, ⟨a, e, h⟩ => ⟨a, e, h.kp k⟩
  | .cst ss, _, h => h
theorem DenL.kp (k : Kp L L' H H') (hn : ∀ a, H0 a = none → H1 a = none) : ∀ {ds : List Dat} {vs : List V}, DenL K H0 L H ds vs → DenL K H1 L' H' ds vs
  | [], _, h => h
  | d :: ds, _, ⟨v, r, e, h, t⟩ => ⟨v, r, e, h.kp k hn, DenL.kp k hn t⟩
end
theorem Kp.same (s : Same H H') : Kp L L H H' := fun a o hl h => ⟨hl, s a o h⟩
theorem Den.same (s : Same H H') {d : Dat} {v : V} (h : Den K H0 L H d v) : Den K H0 L H' d v := h.kp (.same s) fun _ z => z
theorem DenL.same (s : Same H H') {d : List Dat} {v : List V} (h : DenL K H0 L H d v) : DenL K H0 L H' d v := h.kp (.same s) fun _ z => z
theorem DenL.length : ∀ {ds : List Dat} {vs : List V}, DenL K H0 L H ds vs → ds.length = vs.length
  | [], _, h => by cases h; rfl
  | d :: ds, _, ⟨v, r, e, _, t⟩ => by subst e; exact congrArg (· + 1) t.length
theorem DenL.get : ∀ {ds : List Dat} {vs : List V} {i : Nat} {d : Dat}, DenL K H0 L H ds vs → ds[i]? = some d → ∃ v, vs[i]? = some v ∧ Den K H0 L H d v
  | [], _, _, _, _, h => by simp at h
  | d :: ds, _, 0, _, ⟨v, r, e, h, _⟩, z => by subst e; simp at z; subst z; exact ⟨v, rfl, h⟩
  | d :: ds, _, i + 1, _, ⟨v, r, e, _, t⟩, z => by
    subst e
    obtain ⟨u, h1, h2⟩ := t.get (i := i) (by simpa using z)
    exact ⟨u, by simpa using h1, h2⟩
theorem DenL.get' : ∀ {ds : List Dat} {vs : List V} {i : Nat} {v : V}, DenL K H0 L H ds vs → vs[i]? = some v → ∃ d, ds[i]? = some d ∧ Den K H0 L H d v
  | [], _, _, _, h, z => by cases h; simp at z
  | d :: ds, _, 0, _, ⟨v, r, e, h, _⟩, z => by subst e; simp at z; subst z; exact ⟨d, rfl, h⟩
  | d :: ds, _, i + 1, _, ⟨v, r, e, _, t⟩, z => by
    subst e
    obtain ⟨u, h1, h2⟩ := t.get' (i := i) (by simpa using z)
    exact ⟨u, by simpa using h1, h2⟩
theorem DenL.app : ∀ {ds es : List Dat} {vs ws : List V}, DenL K H0 L H ds vs → DenL K H0 L H es ws → DenL K H0 L H (ds ++ es) (vs ++ ws)
  | [], _, _, _, h, g => by cases h; exact g
  | d :: ds, _, _, _, ⟨v, r, e, h, t⟩, g => by subst e; exact ⟨v, _, rfl, h, t.app g⟩
theorem DenL.set : ∀ {ds : List Dat} {vs : List V} {d : Dat} {v : V} (i : Nat), DenL K H0 L H ds vs → Den K H0 L H d v → DenL K H0 L H (ds.set i d) (vs.set i v)
  | [], _, _, _, _, h, _ => by cases h; rfl
  | _ :: _, _, _, _, 0, ⟨v, r, e, h, t⟩, g => by subst e; exact ⟨_, _, rfl, g, t⟩
  | _ :: _, _, _, _, i + 1, ⟨v, r, e, h, t⟩, g => by subst e; exact ⟨_, _, rfl, h, t.set i g⟩
theorem DenL.drop : ∀ {ds : List Dat} {vs : List V} (i : Nat), DenL K H0 L H ds vs → DenL K H0 L H (ds.drop i) (vs.drop i)
  | [], _, i, h => by cases h; simp [DenL]
  | _ :: _, _, 0, h => h
  | _ :: _, _, i + 1, ⟨v, r, e, h, t⟩ => by subst e; exact t.drop i
theorem DenL.take : ∀ {ds : List Dat} {vs : List V} (i : Nat), DenL K H0 L H ds vs → DenL K H0 L H (ds.take i) (vs.take i)
  | [], _, i, h => by cases h; simp [DenL]
  | _ :: _, _, 0, h => by simp [DenL]
  | _ :: _, _, i + 1, ⟨v, r, e, h, t⟩ => by subst e; exact ⟨_, _, rfl, h, t.take i⟩
theorem DenL.rev : ∀ {ds : List Dat} {vs : List V}, DenL K H0 L H ds vs → DenL K H0 L H ds.reverse vs.reverse
  | [], _, h => by cases h; rfl
  | _ :: _, _, ⟨v, r, e, h, t⟩ => by subst e; rw [List.reverse_cons, List.reverse_cons]; exact t.rev.app ⟨_, _, rfl, h, rfl⟩
end
end DL

set_option maxRecDepth 100000
set_option maxHeartbeats 4000000
/-! DLb: slots over data, the judgements of expressions. -/
namespace DL
open PySem PySem.Spec PyProof.Rows L2

/-- what a pure function gives: nothing is known, an error, a value -/
inductive Rs (α : Type) where
  | no
  | ex (n : Str)
  | ok (a : α)
def Rs.bind {α β : Type} (x : Rs α) (f : α → Rs β) : Rs β := match x with
  | .no => .no
  | .ex n => .ex n
  | .ok a => f a
instance : Monad Rs where
  pure := Rs.ok
  bind := Rs.bind
@[simp] theorem Rs.ok_bind {α β : Type} (a : α) (f : α → Rs β) : (Rs.ok a >>= f) = f a := rfl
@[simp] theorem Rs.no_bind {α β : Type} (f : α → Rs β) : ((Rs.no : Rs α) >>= f) = Rs.no := rfl
@[simp] theorem Rs.ex_bind {α β : Type} (n : Str) (f : α → Rs β) : ((Rs.ex n : Rs α) >>= f) = Rs.ex n := rfl
@[simp] theorem Rs.pure_eq {α : Type} (a : α) : (pure a : Rs α) = .ok a := rfl
def Rs.of {α : Type} : Option α → Rs α
  | some a => .ok a
  | none => .no
@[simp] theorem Rs.of_some {α : Type} (a : α) : Rs.of (some a) = .ok a := rfl
@[simp] theorem Rs.of_none {α : Type} : Rs.of (none : Option α) = .no := rfl

/-- the slots: what they hold; true: a list or dict that stands nowhere else -/
abbrev DEnv := List (Option (Bool × Dat))
def Owned (ε : DEnv) (σ : L2.St) (a : Addr) : Prop := ∃ (i : Nat) (d : Dat), ε[i]? = some (some (true, d)) ∧ σ[i]? = some (some (V.ref a))
def LO (L : Addr → Prop) (ε : DEnv) (σ : L2.St) : Addr → Prop := fun a => L a ∨ Owned ε σ a
def OwnD (K : PySem.W.Frag) (H0 : Hp) (LL : Addr → Prop) (H : Hp) (a : Addr) : Dat → Prop
  | .lst _ ds => ∃ vs, H a = some (.lst vs) ∧ DenL K H0 LL H ds vs
  | .dK ks ds => ∃ vs, H a = some (.dK (ks.zip vs)) ∧ ks.length = vs.length ∧ DenL K H0 LL H ds vs
  | .dT ks ds => ∃ vs, H a = some (.dT (ks.zip vs)) ∧ ks.length = vs.length ∧ DenL K H0 LL H ds vs
  | _ => False
structure Rel (K : PySem.W.Frag) (H0 : Hp) (L : Addr → Prop) (ε : DEnv) (σ : L2.St) (H : Hp) : Prop where
  same : Same H0 H
  trk : ∀ a, L a → H a ≠ none
  len : ε.length = σ.length
  val : ∀ (i : Nat) (d : Dat), ε[i]? = some (some (false, d)) → ∃ v, σ[i]? = some (some v) ∧ Den K H0 (LO L ε σ) H d v
  own : ∀ (i : Nat) (d : Dat), ε[i]? = some (some (true, d)) → ∃ a, σ[i]? = some (some (V.ref a)) ∧ H0 a = none ∧ ¬ L a ∧ OwnD K H0 (LO L ε σ) H a d
  uni : ∀ (i j : Nat) (d e : Dat) (a : Addr), ε[i]? = some (some (true, d)) → ε[j]? = some (some (true, e)) → σ[i]? = some (some (V.ref a)) → σ[j]? = some (some (V.ref a)) → i = j

section
variable {K : PySem.W.Frag} {H0 H1 H H' : Hp} {L L' LL : Addr → Prop} {ε : DEnv} {σ : L2.St} {a : Addr} {d e z : Dat} {v x y : V} {vs : List V} {ds : List Dat}
theorem OwnD.there (h : OwnD K H0 LL H a d) : ∃ o, H a = some o ∧ Mut (some o) := by
  cases d with
  | lst t ds => obtain ⟨vs, h, _⟩ := h; exact ⟨_, h, trivial⟩
  | dK ks ds => obtain ⟨vs, h, _⟩ := h; exact ⟨_, h, trivial⟩
  | dT ks ds => obtain ⟨vs, h, _⟩ := h; exact ⟨_, h, trivial⟩
  | _ => exact h.elim
theorem OwnD.kp (k : Kp LL L' H H') (hn : ∀ a, H0 a = none → H1 a = none) (ha : ∀ o, H a = some o → H' a = some o) (h : OwnD K H0 LL H a d) : OwnD K H1 L' H' a d := by
  cases d with
  | lst t ds => obtain ⟨vs, h, g⟩ := h; exact ⟨vs, ha _ h, g.kp k hn⟩
  | dK ks ds => obtain ⟨vs, h, z, g⟩ := h; exact ⟨vs, ha _ h, z, g.kp k hn⟩
  | dT ks ds => obtain ⟨vs, h, z, g⟩ := h; exact ⟨vs, ha _ h, z, g.kp k hn⟩
  | _ => exact h.elim
theorem Rel.ownAt (r : Rel K H0 L ε σ H) (o : Owned ε σ a) : H0 a = none ∧ ¬ L a ∧ ∃ o, H a = some o ∧ Mut (some o) := by
  obtain ⟨i, d, e1, e2⟩ := o
  obtain ⟨b, e3, h0, hl, hd⟩ := r.own i d e1
  rw [e2] at e3
  cases e3
  exact ⟨h0, hl, hd.there⟩
theorem Rel.lo (r : Rel K H0 L ε σ H) : ∀ a, LO L ε σ a → H a ≠ none := by
  rintro a (h | h)
  · exact r.trk a h
  · obtain ⟨_, _, o, e, _⟩ := r.ownAt h
    rw [e]
    exact fun z => nomatch z
theorem Rel.mono (r : Rel K H0 L ε σ H) (s : Same H H') : Rel K H0 L ε σ H' where
  same := r.same.trans s
  trk := fun a h z => r.trk a h (s.free z)
  len := r.len
  val := fun i d e => let ⟨v, e1, h⟩ := r.val i d e; ⟨v, e1, h.same s⟩
  own := fun i d e => let ⟨a, e1, h0, hl, h⟩ := r.own i d e; ⟨a, e1, h0, hl, h.kp (.same s) (fun _ z => z) fun o z => s _ _ z⟩
  uni := r.uni

/-! ### what a part of an expression may know of an operand: a list of its own, whose items are data -/
def DenS (K : PySem.W.Frag) (H0 : Hp) (L LL : Addr → Prop) (H : Hp) : Dat → V → Prop
  | .lst t ds, v => ∃ a vs, v = .ref a ∧ ¬ L a ∧ (t = true → H0 a = none) ∧ H a = some (.lst vs) ∧ DenL K H0 LL H ds vs
  | .dK ks ds, v => ∃ a vs, v = .ref a ∧ ¬ L a ∧ Rd H a (.dK (ks.zip vs)) ∧ ks.length = vs.length ∧ DenL K H0 LL H ds vs
  | .dT ks ds, v => ∃ a vs, v = .ref a ∧ ¬ L a ∧ Rd H a (.dT (ks.zip vs)) ∧ ks.length = vs.length ∧ DenL K H0 LL H ds vs
  | d, v => Den K H0 LL H d v
theorem Den.s (hs : ∀ a, L a → LL a) (h : Den K H0 LL H d v) : DenS K H0 L LL H d v := by
  cases d with
  | lst t ds => obtain ⟨a, vs, e, hl, q⟩ := h; exact ⟨a, vs, e, fun z => hl (hs _ z), q⟩
  | dK t ds => obtain ⟨a, vs, e, hl, q⟩ := h; exact ⟨a, vs, e, fun z => hl (hs _ z), q⟩
  | dT t ds => obtain ⟨a, vs, e, hl, q⟩ := h; exact ⟨a, vs, e, fun z => hl (hs _ z), q⟩
  | _ => exact h
theorem Den.sub (hs : ∀ a, L a → LL a) (h : Den K H0 LL H d v) : Den K H0 L H d v := h.kp (fun a o n e => ⟨fun z => n (hs _ z), e⟩) fun _ z => z
theorem DenL.sub (hs : ∀ a, L a → LL a) (h : DenL K H0 LL H ds vs) : DenL K H0 L H ds vs := h.kp (fun a o n e => ⟨fun z => n (hs _ z), e⟩) fun _ z => z
theorem DenS.den (hs : ∀ a, L a → LL a) (h : DenS K H0 L LL H d v) : Den K H0 L H d v := by
  cases d with
  | lst t ds => obtain ⟨a, vs, e, hl, t, ha, q⟩ := h; exact ⟨a, vs, e, hl, t, ha, q.sub hs⟩
  | dK t ds => obtain ⟨a, vs, e, hl, t, z, q⟩ := h; exact ⟨a, vs, e, hl, t, z, q.sub hs⟩
  | dT t ds => obtain ⟨a, vs, e, hl, t, z, q⟩ := h; exact ⟨a, vs, e, hl, t, z, q.sub hs⟩
  | non => exact Den.sub hs h
  | bl b => exact Den.sub hs h
  | int b => exact Den.sub hs h
  | str b => exact Den.sub hs h
  | tup b => exact Den.sub (d := .tup b) hs h
  | scr b => exact Den.sub (d := .scr b) hs h
  | cst b => exact h
theorem DenS.same (s : Same H H') (h : DenS K H0 L LL H d v) : DenS K H0 L LL H' d v := by
  cases d with
  | lst t ds => obtain ⟨a, vs, e, hl, t, ha, q⟩ := h; exact ⟨a, vs, e, hl, t, s _ _ ha, q.same s⟩
  | dK t ds => obtain ⟨a, vs, e, hl, t, z, q⟩ := h; exact ⟨a, vs, e, hl, ((Kp.same (L := L) s).rd hl t).2, z, q.same s⟩
  | dT t ds => obtain ⟨a, vs, e, hl, t, z, q⟩ := h; exact ⟨a, vs, e, hl, ((Kp.same (L := L) s).rd hl t).2, z, q.same s⟩
  | non => exact h
  | bl b => exact h
  | int b => exact h
  | str b => exact h
  | tup b => exact Den.same (H0 := H0) (d := .tup b) s h
  | scr b => exact Den.same (H0 := H0) (d := .scr b) s h
  | cst b => exact h
def DM (m : Bool) (K : PySem.W.Frag) (H0 : Hp) (L LL : Addr → Prop) (H : Hp) (d : Dat) (v : V) : Prop := match m with
  | true => Den K H0 LL H d v
  | false => DenS K H0 L LL H d v
theorem Den.m {m : Bool} (hs : ∀ a, L a → LL a) (h : Den K H0 LL H d v) : DM m K H0 L LL H d v := by
  cases m with
  | true => exact h
  | false => exact h.s hs
theorem DM.same {m : Bool} (s : Same H H') (h : DM m K H0 L LL H d v) : DM m K H0 L LL H' d v := by
  cases m with
  | true => exact Den.same s h
  | false => exact DenS.same s h
/-- where operands stand -/
structure Good (H0 : Hp) (L LL : Addr → Prop) (H : Hp) : Prop where
  sub : ∀ a, L a → LL a
  trk : ∀ a, LL a → H a ≠ none
  fr : ∀ a, H a = none → H0 a = none
theorem Rel.good (r : Rel K H0 L ε σ H) : Good H0 L (LO L ε σ) H := ⟨fun _ h => .inl h, r.lo, fun _ h => r.same.free h⟩
theorem Good.mono (g : Good H0 L LL H) (s : Same H H') : Good H0 L LL H' := ⟨g.sub, fun a h z => g.trk a h (s.free z), fun a h => g.fr a (s.free h)⟩
theorem Good.not (g : Good H0 L LL H) (h : H a = none) : ¬ LL a := fun z => g.trk a z h
theorem same_new {p : Addr} {o : HO} (h : H p = none) : Same H (upd H p o) := fun b u q => by rw [upd_ne (ne_of_none q h)]; exact q
/-- a new list -/
theorem Good.lst (g : Good H0 L LL H) {p : Addr} (h : H p = none) (hd : DenL K H0 LL H ds vs) {t : Bool} : Den K H0 LL (upd H p (.lst vs)) (.lst t ds) (.ref p) :=
  ⟨p, vs, rfl, g.not h, fun _ => g.fr _ h, upd_same, hd.same (same_new h)⟩
theorem Good.tup (g : Good H0 L LL H) {p : Addr} (h : H p = none) (hd : DenL K H0 LL H ds vs) : Den K H0 LL (upd H p (.tup vs)) (.tup ds) (.ref p) :=
  ⟨p, vs, rfl, ⟨g.not h, upd_same⟩, hd.same (same_new h)⟩
end

/-! ### expressions -/
abbrev WX := Value → Option Addr → L2.St → Hp → Prop
def Rs.to {α : Type} (R : Rs α) (P : α → Prop) (E : Str → Prop) : Prop := match R with
  | .ok a => P a
  | .ex n => E n
  | .no => False
theorem Rs.to_bind {α β : Type} {R : Rs α} {F : α → Rs β} {P : β → Prop} {E : Str → Prop} : (R >>= F).to P E ↔ R.to (fun a => (F a).to P E) E := by
  cases R <;> exact Iff.rfl
theorem Rs.to.imp {α : Type} {R : Rs α} {P P' : α → Prop} {E E' : Str → Prop} (h : R.to P E) (k : ∀ a, R = .ok a → P a → P' a) (l : ∀ n, E n → E' n) : R.to P' E' := by
  cases R with
  | no => exact h
  | ex n => exact l _ h
  | ok a => exact k a rfl h
theorem Rs.to_of {α : Type} {o : Option α} {P : α → Prop} {E : Str → Prop} (h : (Rs.of o).to P E) : ∃ a, o = some a ∧ P a := by
  cases o with
  | none => exact h.elim
  | some a => exact ⟨a, rfl, h⟩
/-- what is wanted of an error by its class's name -/
def XW (mg : Str → Option Value) (W : WX) (σ : L2.St) (H : Hp) (n : Str) : Prop := ∀ C dd H', mg n = some (Value.ref C) → Same H H' → W (.ref C) dd σ H'
theorem XW.mono {mg : Str → Option Value} {W : WX} {σ : L2.St} {H H' : Hp} {n : Str} (h : XW mg W σ H n) (s : Same H H') : XW mg W σ H' n := fun C dd H2 hm s2 => h C dd H2 hm (s.trans s2)
def tE (m : Bool) (K : PySem.W.Frag) (mg : Str → Option Value) (W : WX) (H0 : Hp) (L : Addr → Prop) (f : DEnv → Rs Dat) : TE := fun σ H Q => ∃ ε, Rel K H0 L ε σ H ∧
  (f ε).to (fun d => ∀ v H', Same H H' → DM m K H0 L (LO L ε σ) H' d v → Q v H') (XW mg W σ H)
/-- e computes f -/
def DE (m : Bool) (X : Cx) (W : WX) (H0 : Hp) (L : Addr → Prop) (e : Expr) (f : DEnv → Rs Dat) : Prop := PE X e (tE m X.K X.mg W H0 L f)
/-- as a test -/
def tT (K : PySem.W.Frag) (mg : Str → Option Value) (W : WX) (H0 : Hp) (L : Addr → Prop) (f : DEnv → Rs Bool) : TT := fun σ H Q => ∃ ε, Rel K H0 L ε σ H ∧
  (f ε).to (fun b => ∀ H', Same H H' → Q b H') (XW mg W σ H)
def DT (X : Cx) (W : WX) (H0 : Hp) (L : Addr → Prop) (e : Expr) (f : DEnv → Rs Bool) : Prop := PT X e (tT X.K X.mg W H0 L f)
/-- arguments -/
def tA (m : Bool) (K : PySem.W.Frag) (mg : Str → Option Value) (W : WX) (H0 : Hp) (L : Addr → Prop) (f : DEnv → Rs (List Dat)) : TA := fun σ H Q => ∃ ε, Rel K H0 L ε σ H ∧
  (f ε).to (fun ds => ∀ vs H', Same H H' → Paired (DM m K H0 L (LO L ε σ) H') ds vs → Q vs H') (XW mg W σ H)
def DA (m : Bool) (X : Cx) (W : WX) (H0 : Hp) (L : Addr → Prop) (es : List Expr) (f : DEnv → Rs (List Dat)) : Prop := PA X es (tA m X.K X.mg W H0 L f)
/-- a list just made: it stands nowhere else -/
def tF (K : PySem.W.Frag) (mg : Str → Option Value) (W : WX) (H0 : Hp) (L : Addr → Prop) (f : DEnv → Rs (List Dat)) : TE := fun σ H Q => ∃ ε, Rel K H0 L ε σ H ∧
  (f ε).to (fun ds => ∀ a vs H', Same H H' → H a = none → H' a = some (.lst vs) → DenL K H0 (fun b => LO L ε σ b ∨ b = a) H' ds vs → Q (.ref a) H') (XW mg W σ H)
def DF (X : Cx) (W : WX) (H0 : Hp) (L : Addr → Prop) (e : Expr) (f : DEnv → Rs (List Dat)) : Prop := PE X e (tF X.K X.mg W H0 L f)

theorem peimp {X : Cx} {e : Expr} {t t' : TE} (h : PE X e t) (k : ∀ σ H Q, t' σ H Q → t σ H Q) : PE X e t' := ⟨fun pins s σ H Q I q => h.run pins s σ H Q I (k σ H Q q)⟩
theorem ptimp {X : Cx} {e : Expr} {t t' : TT} (h : PT X e t) (k : ∀ σ H Q, t' σ H Q → t σ H Q) : PT X e t' := ⟨fun pins s σ H Q I q => h.run pins s σ H Q I (k σ H Q q)⟩
theorem paimp {X : Cx} {e : List Expr} {t t' : TA} (h : PA X e t) (k : ∀ σ H Q, t' σ H Q → t σ H Q) : PA X e t' := ⟨fun pos pins s σ H Q I q => h.run pos pins s σ H Q I (k σ H Q q)⟩

section
variable {X : Cx} {W : WX} {H0 : Hp} {L : Addr → Prop} {m m1 m2 : Bool} {a b e : Expr} {es : List Expr} {pos : Pos} {f g : DEnv → Rs Dat} {fs : DEnv → Rs (List Dat)}
variable {K : PySem.W.Frag} {mg : Str → Option Value} {σ : L2.St} {H : Hp} {ε : DEnv}

/-! ### names and constants -/
def rdv (m : Bool) (i : Nat) (ε : DEnv) : Rs Dat := match ε[i]? with
  | some (some (o, d)) => if m && o then .no else .ok d
  | _ => .no
theorem Rel.rd (r : Rel K H0 L ε σ H) {i : Nat} {d : Dat} (h : rdv m i ε = .ok d) : ∃ v, σ[i]? = some (some v) ∧ DM m K H0 L (LO L ε σ) H d v := by
  unfold rdv at h
  split at h
  · rename_i o e he
    split at h
    · cases h
    · rename_i hc
      cases h
      cases o with
      | false =>
        obtain ⟨v, e1, q⟩ := r.val i d he
        exact ⟨v, e1, q.m r.good.sub⟩
      | true =>
        cases m with
        | true => exact (hc rfl).elim
        | false =>
          obtain ⟨a, e1, h0, hl, q⟩ := r.own i d he
          refine ⟨_, e1, ?_⟩
          show DenS _ _ _ _ _ _ _
          cases d with
          | lst t ds => obtain ⟨vs, q1, q2⟩ := q; exact ⟨a, vs, rfl, hl, fun _ => h0, q1, q2⟩
          | dK t ds => obtain ⟨vs, q1, q2, q3⟩ := q; exact ⟨a, vs, rfl, hl, .inl q1, q2, q3⟩
          | dT t ds => obtain ⟨vs, q1, q2, q3⟩ := q; exact ⟨a, vs, rfl, hl, .inl q1, q2, q3⟩
          | _ => exact q.elim
  · cases h
theorem dv (i : Nat) {x : Str} {pos : Pos} (hN : X.N[i]? = some x := by rfl) (hv : Vis X.env.scope x := by first | exact Or.inl rfl | exact Or.inr (Or.inl rfl) | exact Or.inr (Or.inr rfl)) (hd : (x == ("__debug__" : Str)) = false := by decide)
    (hcd : (x == ("__classdict__" : Str)) = false := by decide) : DE m X W H0 L (.Name x pos) (rdv m i) := by
  refine peimp (pe_var hN hv hd hcd) fun σ H Q ⟨ε, r, h⟩ => ?_
  cases e : rdv m i ε with
  | no => rw [e] at h; exact h.elim
  | ex n =>
    unfold rdv at e
    split at e
    · split at e <;> cases e
    · cases e
  | ok d =>
    rw [e] at h
    obtain ⟨v, e1, q⟩ := r.rd e
    exact ⟨v, e1, h v H (Same.refl H) q⟩
def kst (d : Dat) (_ : DEnv) : Rs Dat := .ok d
theorem de_const {d : Dat} {v : V} (h : PE X e (tC v)) (hd : ∀ K H0 LL H, Den K H0 LL H d v) : DE m X W H0 L e (kst d) := by
  refine peimp h fun σ H Q ⟨ε, r, h⟩ => ?_
  exact h v H (Same.refl H) ((hd _ _ _ _).m r.good.sub)
theorem de_int {i : Int} {j pos} : DE m X W H0 L (.Constant (.int i) j pos) (kst (.int i)) := de_const pe_int fun _ _ _ _ => rfl
theorem de_bl {i : Bool} {j pos} : DE m X W H0 L (.Constant (.bool i) j pos) (kst (.bl i)) := de_const pe_bl fun _ _ _ _ => rfl
theorem de_str {i : Str} {j pos} : DE m X W H0 L (.Constant (.str i) j pos) (kst (.str i)) := de_const pe_str fun _ _ _ _ => rfl
theorem de_non {j pos} : DE m X W H0 L (.Constant .none j pos) (kst .non) := de_const pe_non fun _ _ _ _ => rfl

/-! ### operators, by values -/
/-- F: what the operator makes of two data -/
def OpD (K : PySem.W.Frag) (r : R2) (F : Dat → Dat → Option Dat) : Prop := ∀ {H0 : Hp} {L LL : Addr → Prop} {H : Hp} {x y : V} {d e z : Dat} {Q : VK}, Good H0 L LL H → DenS K H0 L LL H d x → DenS K H0 L LL H e y → F d e = some z →
  (∀ v H', Same H H' → Den K H0 LL H' z v → Q v H') → r x y H Q
def bop (F : Dat → Dat → Option Dat) (f g : DEnv → Rs Dat) (ε : DEnv) : Rs Dat := f ε >>= fun d => g ε >>= fun e => Rs.of (F d e)
theorem bin_use {r : R2} {F : Dat → Dat → Option Dat} {Q : VK} (hF : OpD K r F) (h : tE m K mg W H0 L (bop F f g) σ H Q) : tOp r (tE false K mg W H0 L f) (tE false K mg W H0 L g) σ H Q := by
  obtain ⟨ε, rel, h⟩ := h
  unfold bop at h
  rw [Rs.to_bind] at h
  refine ⟨ε, rel, h.imp (fun d _ hd x H1 s1 dx => ?_) fun n z => z⟩
  rw [Rs.to_bind] at hd
  refine ⟨ε, rel.mono s1, hd.imp (fun e _ he y H2 s2 dy => ?_) fun n z => z.mono s1⟩
  obtain ⟨z, hz, hq⟩ := Rs.to_of he
  exact hF (rel.mono (s1.trans s2)).good (DenS.same s2 dx) dy hz fun v H3 s3 q => hq v H3 (s1.trans (s2.trans s3)) (q.m rel.good.sub)
theorem de_op {op : Operator} {r : R2} {F : Dat → Dat → Option Dat} (ho : OpR X (binaryOp op) r) (hF : OpD X.K r F) (ha : DE false X W H0 L a f) (hb : DE false X W H0 L b g) : DE m X W H0 L (.BinOp a op b pos) (bop F f g) :=
  peimp (pe_op ho ha hb) fun _ _ _ h => bin_use hF h
theorem de_cmp {op : CmpOp} {r : R2} {F : Dat → Dat → Option Dat} (ho : OpR X (compareOp op) r) (hF : OpD X.K r F) (ha : DE false X W H0 L a f) (hb : DE false X W H0 L b g) (hm : behindInMarks op b = false) : DE m X W H0 L (.Compare a [op] [b] pos) (bop F f g) :=
  peimp (pe_cmpR ho ha hb hm) fun _ _ _ h => bin_use hF h
/-- a value that must be a truth -/
def asB : Dat → Rs Bool
  | .bl b => .ok b
  | _ => .no
def tst (f : DEnv → Rs Dat) (ε : DEnv) : Rs Bool := f ε >>= asB
theorem tst_use {Q : Bool → Hp → Prop} (h : tT K mg W H0 L (tst f) σ H Q) : tTest (tE false K mg W H0 L f) σ H Q := by
  obtain ⟨ε, rel, h⟩ := h
  unfold tst at h
  rw [Rs.to_bind] at h
  refine ⟨ε, rel, h.imp (fun d _ hd x H1 s1 dx => ?_) fun n z => z⟩
  cases d with
  | bl b => exact ⟨b, dx, hd H1 s1⟩
  | _ => exact hd.elim
theorem dt_cmp {op : CmpOp} {r : R2} {F : Dat → Dat → Option Dat} (ho : OpR X (compareOp op) r) (hF : OpD X.K r F) (ha : DE false X W H0 L a f) (hb : DE false X W H0 L b g) (hm : behindInMarks op b = false) : DT X W H0 L (.Compare a [op] [b] pos) (tst (bop F f g)) :=
  ptimp (pt_cmpR ho ha hb hm) fun σ H Q h => by
    have h2 := tst_use h
    unfold tTest at h2 ⊢
    exact bin_use (m := false) hF h2
theorem dt_val (h : DE false X W H0 L e f) (he : ∀ whole, isTrue e X.env whole = (do let v ← whole; standAt e.pos; holding [v] (truthy v)) := by intro _; rfl) : DT X W H0 L e (tst f) :=
  ptimp (pt_val h he) fun σ H Q q => tst_use q
end
end DL

set_option maxRecDepth 100000
set_option maxHeartbeats 4000000
/-! DLc: operators over data. -/
namespace DL
open PySem PySem.Spec PyProof.Rows L2

section
variable {K : PySem.W.Frag} {X : Cx} {H0 H : Hp} {L LL : Addr → Prop}
/-! ### ints -/
noncomputable def cls (p : Prop) : Bool := @decide p (Classical.propDecidable p)
theorem cls_true {p : Prop} (h : p) : cls p = true := @decide_eq_true p (Classical.propDecidable p) h
theorem cls_ok {p : Prop} (h : cls p = true) : p := @of_decide_eq_true p (Classical.propDecidable p) h
noncomputable def dI (C : Int → Int → Prop) (g : Int → Int → Int) : Dat → Dat → Option Dat
  | .int i, .int j => if cls (C i j) = true then some (.int (g i j)) else none
  | _, _ => none
theorem opd_I {C : Int → Int → Prop} {g : Int → Int → Int} : OpD K (rI C fun i j => .int (g i j)) (dI C g) := by
  intro H0 L LL H x y d e z Q gd hx hy hz hq
  unfold dI at hz
  split at hz
  · split at hz
    · rename_i hc
      cases hz
      exact ⟨_, _, hx, hy, cls_ok hc, hq _ _ (Same.refl _) rfl⟩
    · cases hz
  · cases hz
def cmul (i j : Int) : Prop := ((-(2 ^ 64) < i ∧ i < 2 ^ 64) ∨ (-(2 ^ 64) < j ∧ j < 2 ^ 64)) ∨ i.natAbs.log2 + j.natAbs.log2 < 1000000
theorem cmul.ok {i j : Int} (h : cmul i j) : IntMulOk i j := by
  rcases h with h | h
  · exact CMul.ok h
  · exact CMulW.ok h
theorem op_mulD : OpR X (binaryOp .Mult) (rI cmul fun i j => .int (i * j)) := opI fun _ _ _ _ _ _ _ hc q => mul_int q hc.ok
noncomputable def dSub := dI (fun _ _ => True) (fun i j => i - j)
noncomputable def dMul := dI cmul (fun i j => i * j)
noncomputable def dFdiv := dI CDivW (fun i j => i / j)
noncomputable def dMod := dI (fun _ j => 0 < j) (fun i j => i % j)
noncomputable def dPow := dI CPow (fun i j => i ^ j.toNat)
noncomputable def dShr := dI (fun _ j => 0 ≤ j) (fun i j => i / 2 ^ j.toNat)
theorem rI_true {g : Int → Int → V} {f : Value → Value → Sem Value} (h : OpR X f (rI0 g)) : OpR X f (rI (fun _ _ => True) g) := by
  intro pins s σ H x y v u Q I rx ry ⟨i, j, e1, e2, _, q⟩
  exact h pins s σ H x y v u Q I rx ry ⟨i, j, e1, e2, q⟩
variable {m : Bool} {W : WX} {a b e : Expr} {pos : Pos} {f g : DEnv → Rs Dat}
theorem de_sub (ha : DE false X W H0 L a f) (hb : DE false X W H0 L b g) : DE m X W H0 L (.BinOp a .Sub b pos) (bop dSub f g) := de_op (rI_true op_sub) opd_I ha hb
theorem de_mul (ha : DE false X W H0 L a f) (hb : DE false X W H0 L b g) : DE m X W H0 L (.BinOp a .Mult b pos) (bop dMul f g) := de_op op_mulD opd_I ha hb
theorem de_fdiv (ha : DE false X W H0 L a f) (hb : DE false X W H0 L b g) : DE m X W H0 L (.BinOp a .FloorDiv b pos) (bop dFdiv f g) := de_op op_fdivW opd_I ha hb
theorem de_mod (ha : DE false X W H0 L a f) (hb : DE false X W H0 L b g) : DE m X W H0 L (.BinOp a .Mod b pos) (bop dMod f g) := de_op op_mod opd_I ha hb
theorem de_pow (ha : DE false X W H0 L a f) (hb : DE false X W H0 L b g) : DE m X W H0 L (.BinOp a .Pow b pos) (bop dPow f g) := de_op op_pow opd_I ha hb
theorem de_shr (ha : DE false X W H0 L a f) (hb : DE false X W H0 L b g) : DE m X W H0 L (.BinOp a .RShift b pos) (bop dShr f g) := de_op op_shr opd_I ha hb

/-! ### + -/
def dAdd : Dat → Dat → Option Dat
  | .int i, .int j => some (.int (i + j))
  | .str i, .str j => if i.length + j.length ≤ sizeLine then some (.str (i ++ j)) else none
  | .tup i, .tup j => if i.length + j.length ≤ sizeLine then some (.tup (i ++ j)) else none
  | .lst _ i, .lst _ j => if i.length + j.length ≤ sizeLine then some (.lst true (i ++ j)) else none
  | .cst i, .tup (j :: js) => if i.length + (js.length + 1) ≤ sizeLine then some (.tup (i.map .str ++ j :: js)) else none
  | _, _ => none
theorem denL_strs {K : PySem.W.Frag} {H0 H : Hp} {L : Addr → Prop} : ∀ ss : List Str, DenL K H0 L H (ss.map .str) (ss.map V.str)
  | [] => rfl
  | s :: r => ⟨_, _, rfl, rfl, denL_strs r⟩
theorem tupcat {x y : Addr} {xs ys : List V} {ds es : List Dat} {Q : VK} (gd : Good H0 L LL H) (hx : SqT K H x xs) (hy : SqT K H y ys) (dx : DenL K H0 LL H ds xs) (dy : DenL K H0 LL H es ys) (hl : ds.length + es.length ≤ sizeLine)
    (kx : ys = [] → Den K H0 LL H (.tup ds) (.ref x)) (ky : Den K H0 LL H (.tup es) (.ref y))
    (hq : ∀ v H', Same H H' → Den K H0 LL H' (.tup (ds ++ es)) v → Q v H') : rCatA K (.ref x) (.ref y) H Q := by
  refine ⟨x, y, xs, ys, rfl, rfl, hx, hy, by rw [← dx.length, ← dy.length]; exact hl, fun e => ?_, fun _ e => ?_, fun _ _ p hp => ?_⟩
  · subst e
    have : ds = [] := List.length_eq_zero_iff.mp dx.length
    subst this
    exact hq _ _ (Same.refl _) ky
  · have k := kx e
    subst e
    have : es = [] := List.length_eq_zero_iff.mp dy.length
    subst this
    rw [List.append_nil] at hq
    exact hq _ _ (Same.refl _) k
  · exact hq _ _ (same_new hp) (gd.tup hp (dx.app dy))
theorem opd_add : OpD K (fun x y H Q => (rI0 fun i j => .int (i + j)) x y H Q ∨ rCatA K x y H Q ∨ rCat x y H Q ∨ ∃ i j, x = .str i ∧ y = .str j ∧ i.length + j.length ≤ sizeLine ∧ Q (.str (i ++ j)) H) dAdd := by
  intro H0 L LL H x y d e z Q gd hx hy hz hq
  unfold dAdd at hz
  split at hz
  · cases hz
    exact .inl ⟨_, _, hx, hy, hq _ _ (Same.refl _) rfl⟩
  · split at hz
    · rename_i hc
      cases hz
      exact .inr (.inr (.inr ⟨_, _, hx, hy, hc, hq _ _ (Same.refl _) rfl⟩))
    · cases hz
  · split at hz
    · rename_i hc
      cases hz
      obtain ⟨p, vs, rfl, tp, hp⟩ := id hx
      obtain ⟨q, ws, rfl, tq, hq'⟩ := id hy
      refine .inr (.inl (tupcat gd tp.sq tq.sq hp hq' hc (fun _ => hx) hy hq))
    · cases hz
  · split at hz
    · rename_i hc
      cases hz
      obtain ⟨p, vs, rfl, lp, _, tp, hp⟩ := hx
      obtain ⟨q, ws, rfl, lq, _, tq, hq'⟩ := hy
      exact .inr (.inr (.inl ⟨p, q, vs, ws, rfl, rfl, tp, tq, by rw [← hp.length, ← hq'.length]; exact hc, fun r hr => hq _ _ (same_new hr) (gd.lst hr (hp.app hq'))⟩))
    · cases hz
  · split at hz
    · rename_i i j js hc
      cases hz
      obtain ⟨p, rfl, tp⟩ := hx
      obtain ⟨q, ws, rfl, tq, hq'⟩ := id hy
      have hl := hq'.length
      refine .inr (.inl ⟨p, q, _, ws, rfl, rfl, cst_sq tp, tq.sq, by rw [← hl, List.length_map]; exact hc, fun e => ?_, fun _ e => ?_, fun _ _ r hr => ?_⟩)
      · have e2 : i = [] := List.map_eq_nil_iff.mp e
        subst e2
        exact hq _ _ (Same.refl _) hy
      · subst e
        cases hl
      · exact hq _ _ (same_new hr) (gd.tup hr ((denL_strs i).app hq'))
    · cases hz
  · cases hz
theorem de_add (ha : DE false X W H0 L a f) (hb : DE false X W H0 L b g) : DE m X W H0 L (.BinOp a .Add b pos) (bop dAdd f g) := de_op (op_add.or (op_catA.or (op_cat.or op_add_str))) opd_add ha hb

/-! ### one operand -/
def OpU (K : PySem.W.Frag) (r : V → Hp → VK → Prop) (F : Dat → Option Dat) : Prop := ∀ {H0 : Hp} {L LL : Addr → Prop} {H : Hp} {x : V} {d z : Dat} {Q : VK}, Good H0 L LL H → DenS K H0 L LL H d x → F d = some z →
  (∀ v H', Same H H' → Den K H0 LL H' z v → Q v H') → r x H Q
def uop (F : Dat → Option Dat) (f : DEnv → Rs Dat) (ε : DEnv) : Rs Dat := f ε >>= fun d => Rs.of (F d)
theorem un_use {r : V → Hp → VK → Prop} {F : Dat → Option Dat} {mg : Str → Option Value} {σ : L2.St} {Q : VK} (hF : OpU K r F) (h : tE m K mg W H0 L (uop F f) σ H Q) : tE false K mg W H0 L f σ H (fun x H1 => r x H1 Q) := by
  obtain ⟨ε, rel, h⟩ := h
  unfold uop at h
  rw [Rs.to_bind] at h
  refine ⟨ε, rel, h.imp (fun d _ hd x H1 s1 dx => ?_) fun n z => z⟩
  obtain ⟨z, hz, hq⟩ := Rs.to_of hd
  exact hF (rel.mono s1).good dx hz fun v H3 s3 q => hq v H3 (s1.trans s3) (q.m rel.good.sub)
def dNeg : Dat → Option Dat
  | .int i => some (.int (-i))
  | _ => none
theorem de_neg (ha : DE false X W H0 L a f) : DE m X W H0 L (.UnaryOp .USub a pos) (uop dNeg f) :=
  peimp (pe_un un_neg ha) fun _ _ _ h => un_use (r := rU fun i => .int (-i)) (fun {H0 L LL H x d z Q} gd hx hz hq => by
    unfold dNeg at hz
    split at hz
    · cases hz; exact ⟨_, hx, hq _ _ (Same.refl _) rfl⟩
    · cases hz) h
def dNot : Dat → Option Dat
  | .bl i => some (.bl (!i))
  | _ => none
theorem de_not (ha : DE false X W H0 L a f) : DE m X W H0 L (.UnaryOp .Not a pos) (uop dNot f) :=
  peimp (pe_not ha) fun _ _ _ h => un_use (r := fun x H Q => ∃ c, x = .bl c ∧ Q (.bl (!c)) H) (fun {H0 L LL H x d z Q} gd hx hz hq => by
    unfold dNot at hz
    split at hz
    · cases hz; exact ⟨_, hx, hq _ _ (Same.refl _) rfl⟩
    · cases hz) h

/-! ### order -/
def intsD : List Dat → Option (List Int)
  | [] => some []
  | .int i :: r => (intsD r).map (i :: ·)
  | _ :: _ => none
theorem denL_ints : ∀ {ds : List Dat} {vs : List V} {ns : List Int}, DenL K H0 L H ds vs → intsD ds = some ns → vs = ns.map V.int
  | [], _, _, h, e => by cases h; cases e; rfl
  | d :: r, _, ns, ⟨v, vr, e1, h, t⟩, e => by
    subst e1
    unfold intsD at e
    split at e
    · rename_i e2; cases e2
    · rename_i i r' e2
      cases e2
      cases q : intsD r with
      | none => rw [q] at e; cases e
      | some ms =>
        rw [q] at e
        cases e
        rw [denL_ints t q]
        cases h
        rfl
    · cases e
def dCmp (p : Int → Int → Bool) (q : List Int → List Int → Bool) : Dat → Dat → Option Dat
  | .int i, .int j => some (.bl (p i j))
  | .tup i, .tup j => match intsD i, intsD j with
    | some ns, some ms => some (.bl (q ns ms))
    | _, _ => none
  | _, _ => none
theorem opd_cmp {p : Int → Int → Bool} {q : List Int → List Int → Bool} : OpD K (fun x y H Q => (rI0 fun i j => .bl (p i j)) x y H Q ∨ (∃ a b ns ms, x = .ref a ∧ y = .ref b ∧ SqT K H a (ns.map V.int) ∧ SqT K H b (ms.map V.int) ∧ Q (.bl (q ns ms)) H)) (dCmp p q) := by
  intro H0 L LL H x y d e z Q gd hx hy hz hq
  unfold dCmp at hz
  split at hz
  · cases hz
    exact .inl ⟨_, _, hx, hy, hq _ _ (Same.refl _) rfl⟩
  · split at hz
    · rename_i e1 e2
      cases hz
      obtain ⟨a, vs, rfl, ta, da⟩ := hx
      obtain ⟨b, ws, rfl, tb, db⟩ := hy
      have q1 := denL_ints da e1
      have q2 := denL_ints db e2
      subst q1 q2
      exact .inr ⟨a, b, _, _, rfl, rfl, ta.sq, tb.sq, hq _ _ (Same.refl _) rfl⟩
    · cases hz
  · cases hz
def noTup (_ _ : List Int) : Bool := false
def dLt := dCmp (fun i j => decide (i < j)) HT.lexLt
def dI2 (p : Int → Int → Bool) : Dat → Dat → Option Dat
  | .int i, .int j => some (.bl (p i j))
  | _, _ => none
theorem opd_I2 {p : Int → Int → Bool} : OpD K (rI0 fun i j => .bl (p i j)) (dI2 p) := by
  intro H0 L LL H x y d e z Q gd hx hy hz hq
  unfold dI2 at hz
  split at hz
  · cases hz
    exact ⟨_, _, hx, hy, hq _ _ (Same.refl _) rfl⟩
  · cases hz
def dLe := dI2 (fun i j => decide (i ≤ j))
def dGt := dI2 (fun i j => decide (j < i))
def dGe := dI2 (fun i j => decide (j ≤ i))
theorem de_lt (hu : X.A.units < cLine) (ha : DE false X W H0 L a f) (hb : DE false X W H0 L b g) : DE m X W H0 L (.Compare a [.Lt] [b] pos) (bop dLt f g) := de_cmp (op_lt.or (op_ltT hu)) opd_cmp ha hb (nomark _)
theorem de_le (ha : DE false X W H0 L a f) (hb : DE false X W H0 L b g) : DE m X W H0 L (.Compare a [.LtE] [b] pos) (bop dLe f g) := de_cmp op_le opd_I2 ha hb (nomark _)
theorem de_gt (ha : DE false X W H0 L a f) (hb : DE false X W H0 L b g) : DE m X W H0 L (.Compare a [.Gt] [b] pos) (bop dGt f g) := de_cmp op_gt opd_I2 ha hb (nomark _)
theorem de_ge (ha : DE false X W H0 L a f) (hb : DE false X W H0 L b g) : DE m X W H0 L (.Compare a [.GtE] [b] pos) (bop dGe f g) := de_cmp op_ge opd_I2 ha hb (nomark _)
theorem dt_lt (hu : X.A.units < cLine) (ha : DE false X W H0 L a f) (hb : DE false X W H0 L b g) : DT X W H0 L (.Compare a [.Lt] [b] pos) (tst (bop dLt f g)) := dt_cmp (op_lt.or (op_ltT hu)) opd_cmp ha hb (nomark _)
theorem dt_le (ha : DE false X W H0 L a f) (hb : DE false X W H0 L b g) : DT X W H0 L (.Compare a [.LtE] [b] pos) (tst (bop dLe f g)) := dt_cmp op_le opd_I2 ha hb (nomark _)
theorem dt_gt (ha : DE false X W H0 L a f) (hb : DE false X W H0 L b g) : DT X W H0 L (.Compare a [.Gt] [b] pos) (tst (bop dGt f g)) := dt_cmp op_gt opd_I2 ha hb (nomark _)
theorem dt_ge (ha : DE false X W H0 L a f) (hb : DE false X W H0 L b g) : DT X W H0 L (.Compare a [.GtE] [b] pos) (tst (bop dGe f g)) := dt_cmp op_ge opd_I2 ha hb (nomark _)

/-! ### is None -/
def isNon : Dat → Bool
  | .non => true
  | _ => false
def dIsN : Dat → Dat → Option Dat
  | d, .non => some (.bl (isNon d))
  | _, _ => none
def dNotN : Dat → Dat → Option Dat
  | d, .non => some (.bl (!isNon d))
  | _, _ => none
theorem isN_eq {d : Dat} {x : V} (h : DenS K H0 L LL H d x) : decide (x = .non) = isNon d := by
  cases d with
  | non => cases (show x = V.non from h); rfl
  | bl b => cases (show x = V.bl b from h); rfl
  | int b => cases (show x = V.int b from h); rfl
  | str b => cases (show x = V.str b from h); rfl
  | tup ds => obtain ⟨a, vs, rfl, _⟩ := h; rfl
  | lst t ds => obtain ⟨a, vs, rfl, _⟩ := h; rfl
  | dK t ds => obtain ⟨a, vs, rfl, _⟩ := h; rfl
  | dT t ds => obtain ⟨a, vs, rfl, _⟩ := h; rfl
  | scr ds => obtain ⟨a, rfl, _⟩ := h; rfl
  | cst ds => obtain ⟨a, rfl, _⟩ := h; rfl
theorem opd_isN : OpD K (fun x y H Q => y = .non ∧ Q (.bl (decide (x = .non))) H) dIsN := by
  intro H0 L LL H x y d e z Q gd hx hy hz hq
  unfold dIsN at hz
  split at hz
  · cases hz
    exact ⟨hy, hq _ _ (Same.refl _) (by rw [isN_eq hx]; rfl)⟩
  · cases hz
theorem opd_notN : OpD K (fun x y H Q => y = .non ∧ Q (.bl (!decide (x = .non))) H) dNotN := by
  intro H0 L LL H x y d e z Q gd hx hy hz hq
  unfold dNotN at hz
  split at hz
  · cases hz
    exact ⟨hy, hq _ _ (Same.refl _) (by rw [isN_eq hx]; rfl)⟩
  · cases hz
theorem de_isN (ha : DE false X W H0 L a f) (hb : DE false X W H0 L b g) : DE m X W H0 L (.Compare a [.Is] [b] pos) (bop dIsN f g) := de_cmp op_isN opd_isN ha hb (nomark _)
theorem de_notN (ha : DE false X W H0 L a f) (hb : DE false X W H0 L b g) : DE m X W H0 L (.Compare a [.IsNot] [b] pos) (bop dNotN f g) := de_cmp op_notN opd_notN ha hb (nomark _)
theorem dt_isN (ha : DE false X W H0 L a f) (hb : DE false X W H0 L b g) : DT X W H0 L (.Compare a [.Is] [b] pos) (tst (bop dIsN f g)) := dt_cmp op_isN opd_isN ha hb (nomark _)
theorem dt_notN (ha : DE false X W H0 L a f) (hb : DE false X W H0 L b g) : DT X W H0 L (.Compare a [.IsNot] [b] pos) (tst (bop dNotN f g)) := dt_cmp op_notN opd_notN ha hb (nomark _)

/-! ### == -/
mutual
def toP : Dat → PyData
  | .non => .none
  | .bl b => .bool b
  | .int i => .int i
  | .str s => .str s
  | .tup ds => .tuple (toPs ds)
  | .lst _ ds => .list (toPs ds)
  | .dK _ _ => .dict []
  | .dT _ _ => .dict []
  | .scr _ => .dict []
  | .cst _ => .dict []
def toPs : List Dat → List PyData
  | [] => []
  | d :: r => toP d :: toPs r
end
mutual
theorem dp_of : ∀ {d : Dat} {v : V}, Den K H0 L H d v → (toP d).canLay0 = true → Dp K H v (toP d)
  | .non, _, h, _ => by cases h; exact .non
  | .bl _, _, h, _ => by cases h; exact .bl _
  | .int _, _, h, _ => by cases h; exact .int _
  | .str _, _, h, _ => by cases h; exact .str _
  | .tup ds, _, ⟨a, vs, e, t, h⟩, c => by subst e; exact .tup t.sq (dps_of h c)
  | .lst t ds, _, ⟨a, vs, e, _, _, ha, h⟩, c => by subst e; exact .lst (.of ha) (dps_of h c)
  | .dK _ _, _, _, c => by cases c
  | .dT _ _, _, _, c => by cases c
  | .scr _, _, _, c => by cases c
  | .cst _, _, _, c => by cases c
theorem dps_of : ∀ {ds : List Dat} {vs : List V}, DenL K H0 L H ds vs → PyData.canLayAll0 (toPs ds) = true → DpAll K H vs (toPs ds)
  | [], _, h, _ => by cases h; exact .nil
  | d :: r, _, ⟨v, vr, e, h, t⟩, c => by
    subst e
    have c' : ((toP d).canLay0 && PyData.canLayAll0 (toPs r)) = true := c
    rw [Bool.and_eq_true] at c'
    exact .cons (dp_of h c'.1) (dps_of t c'.2)
end
def scalD : Dat → Dat → Bool
  | .non, .non => true | .non, .int _ => true | .int _, .non => true | .non, .bl _ => true | .bl _, .non => true | .non, .str _ => true | .str _, .non => true
  | .int _, .int _ => true | .bl _, .bl _ => true | .str _, .str _ => true
  | .int _, .str _ => true | .str _, .int _ => true | .bl _, .str _ => true | .str _, .bl _ => true
  | _, _ => false
def eqOk (d e : Dat) : Bool := scalD d e || (SeqAt.shaped (toP d) && SeqAt.shaped (toP e))
def deq (d e : Dat) : Bool := PyData.eqv (toP d) (toP e)
def dEq (d e : Dat) : Option Dat := if eqOk d e then some (.bl (deq d e)) else none
def dNe (d e : Dat) : Option Dat := if eqOk d e then some (.bl (!deq d e)) else none
def isS : Dat → Bool
  | .non | .bl _ | .int _ | .str _ => true
  | _ => false
def fv : Dat → V
  | .non => .non
  | .bl b => .bl b
  | .int i => .int i
  | .str s => .str s
  | _ => .non
theorem fv_of {d : Dat} {x : V} (h : DenS K H0 L LL H d x) (s : isS d = true) : x = fv d := by
  cases d <;> first | exact h | cases s
theorem scalD_s {d e : Dat} (h : scalD d e = true) : isS d = true ∧ isS e = true ∧ scal (fv d) (fv e) = true ∧ decide (fv d = fv e) = deq d e := by
  cases d <;> cases e <;> first
    | (refine ⟨rfl, rfl, rfl, ?_⟩; simp [fv, deq, toP, PyData.eqv]; done)
    | (refine ⟨rfl, rfl, rfl, ?_⟩; simp [fv, deq, toP, PyData.eqv]; rw [Bool.eq_iff_iff]; simp; done)
    | exact absurd h Bool.false_ne_true
theorem scal_ok {d e : Dat} {x y : V} (hx : DenS K H0 L LL H d x) (hy : DenS K H0 L LL H e y) (h : scalD d e = true) : scal x y = true ∧ decide (x = y) = deq d e := by
  obtain ⟨h1, h2, h3, h4⟩ := scalD_s h
  rw [fv_of hx h1, fv_of hy h2]
  exact ⟨h3, h4⟩
theorem opd_eq : OpD K (fun x y H Q => rEq x y H Q ∨ rEqD K x y H Q) dEq := by
  intro H0 L LL H x y d e z Q gd hx hy hz hq
  unfold dEq at hz
  split at hz
  · rename_i hc
    cases hz
    rcases Bool.or_eq_true_iff.mp hc with hc | hc
    · obtain ⟨h1, h2⟩ := scal_ok hx hy hc
      exact .inl ⟨h1, by rw [h2]; exact hq _ _ (Same.refl _) rfl⟩
    · rw [Bool.and_eq_true] at hc
      exact .inr ⟨_, _, dp_of (hx.den gd.sub) (SeqAt.canLay_of_shaped hc.1), dp_of (hy.den gd.sub) (SeqAt.canLay_of_shaped hc.2), hc.1, hc.2, hq _ _ (Same.refl _) rfl⟩
  · cases hz
theorem opd_ne : OpD K (fun x y H Q => rNe x y H Q ∨ rNeD K x y H Q) dNe := by
  intro H0 L LL H x y d e z Q gd hx hy hz hq
  unfold dNe at hz
  split at hz
  · rename_i hc
    cases hz
    rcases Bool.or_eq_true_iff.mp hc with hc | hc
    · obtain ⟨h1, h2⟩ := scal_ok hx hy hc
      exact .inl ⟨h1, by rw [h2]; exact hq _ _ (Same.refl _) rfl⟩
    · rw [Bool.and_eq_true] at hc
      exact .inr ⟨_, _, dp_of (hx.den gd.sub) (SeqAt.canLay_of_shaped hc.1), dp_of (hy.den gd.sub) (SeqAt.canLay_of_shaped hc.2), hc.1, hc.2, hq _ _ (Same.refl _) rfl⟩
  · cases hz
theorem de_eq (hu : X.A.units + 64 < cLine) (ha : DE false X W H0 L a f) (hb : DE false X W H0 L b g) : DE m X W H0 L (.Compare a [.Eq] [b] pos) (bop dEq f g) := de_cmp (op_eq.or (op_eqD hu)) opd_eq ha hb (nomark _)
theorem de_ne (hu : X.A.units + 64 < cLine) (ha : DE false X W H0 L a f) (hb : DE false X W H0 L b g) : DE m X W H0 L (.Compare a [.NotEq] [b] pos) (bop dNe f g) := de_cmp (op_ne.or (op_neD hu)) opd_ne ha hb (nomark _)
theorem dt_eq (hu : X.A.units + 64 < cLine) (ha : DE false X W H0 L a f) (hb : DE false X W H0 L b g) : DT X W H0 L (.Compare a [.Eq] [b] pos) (tst (bop dEq f g)) := dt_cmp (op_eq.or (op_eqD hu)) opd_eq ha hb (nomark _)
theorem dt_ne (hu : X.A.units + 64 < cLine) (ha : DE false X W H0 L a f) (hb : DE false X W H0 L b g) : DT X W H0 L (.Compare a [.NotEq] [b] pos) (tst (bop dNe f g)) := dt_cmp (op_ne.or (op_neD hu)) opd_ne ha hb (nomark _)
end
end DL

set_option maxRecDepth 100000
set_option maxHeartbeats 4000000
/-! DLd: slots stored; statements. -/
namespace DL
open PySem PySem.Spec PyProof.Rows L2

section
variable {K : PySem.W.Frag} {H0 H H' : Hp} {L LL : Addr → Prop} {ε : DEnv} {σ : L2.St} {d : Dat} {v : V} {ds : List Dat} {vs : List V} {a : Addr}
theorem get_set {α : Type} (l : List α) (i j : Nat) (x y : α) (h : (l.set i x)[j]? = some y) : (j = i ∧ i < l.length ∧ x = y) ∨ (j ≠ i ∧ l[j]? = some y) := by
  rw [List.getElem?_set] at h
  split at h
  · rename_i e
    split at h
    · rename_i hl
      exact .inl ⟨e.symm, hl, Option.some.inj h⟩
    · cases h
  · rename_i e
    exact .inr ⟨fun z => e z.symm, h⟩
theorem set_get {α : Type} {l : List α} {i : Nat} {x : α} (h : i < l.length) : (l.set i x)[i]? = some x := by
  rw [List.getElem?_set_self h]
theorem set_get_ne {α : Type} {l : List α} {i j : Nat} {x : α} (h : j ≠ i) : (l.set i x)[j]? = l[j]? := List.getElem?_set_ne (Ne.symm h)
theorem lt_of_get {α : Type} {l : List α} {i : Nat} {x : α} (h : l[i]? = some x) : i < l.length := (List.getElem?_eq_some_iff.mp h).1
theorem Kp.sub (h : ∀ b, LL b → L b) : Kp L LL H H := fun b o n e => ⟨fun z => n (h b z), e⟩
theorem Kp.trans {L1 L2 L3 : Addr → Prop} {H1 H2 H3 : Hp} (a : Kp L1 L2 H1 H2) (b : Kp L2 L3 H2 H3) : Kp L1 L3 H1 H3 := fun c o n e => b c o (a c o n e).1 (a c o n e).2
theorem Kp.refl : Kp L L H H := fun b o n e => ⟨n, e⟩

/-- a slot stored (or told nothing of) -/
theorem Rel.setG (r : Rel K H0 L ε σ H) {i : Nat} {s : Option (Bool × Dat)} {x : Option V} {σ' : L2.St} (hσ : σ' = σ ∨ σ' = σ.set i x) (hs : ∀ o d, s = some (o, d) → o = false ∧ ∃ v, (i < σ.length → σ'[i]? = some (some v)) ∧ Den K H0 (LO L (ε.set i s) σ') H d v)
    : Rel K H0 L (ε.set i s) σ' H ∧ ∀ b, LO L (ε.set i s) σ' b → LO L ε σ b := by
  have hne : ∀ j, j ≠ i → σ'[j]? = σ[j]? := fun j hj => by
    rcases hσ with e | e
    · rw [e]
    · rw [e, set_get_ne hj]
  have hsub : ∀ b, LO L (ε.set i s) σ' b → LO L ε σ b := by
    rintro b (h | ⟨j, d, e1, e2⟩)
    · exact .inl h
    · rcases get_set _ _ _ _ _ e1 with ⟨rfl, hl, e⟩ | ⟨hj, e⟩
      · obtain ⟨z, _⟩ := hs _ _ e
        cases z
      · rw [hne j hj] at e2
        exact .inr ⟨j, d, e, e2⟩
  refine ⟨⟨r.same, r.trk, ?_, fun j d e => ?_, fun j d e => ?_, fun j k d e a e1 e2 e3 e4 => ?_⟩, hsub⟩
  · rcases hσ with e | e
    · rw [e, List.length_set]; exact r.len
    · rw [e, List.length_set, List.length_set]; exact r.len
  · rcases get_set _ _ _ _ _ e with ⟨rfl, hl, e⟩ | ⟨hj, e⟩
    · obtain ⟨_, v, e1, q⟩ := hs _ _ e
      exact ⟨v, e1 (by rw [← r.len]; exact hl), q⟩
    · obtain ⟨v, e1, q⟩ := r.val j d e
      exact ⟨v, by rw [hne j hj]; exact e1, q.sub hsub⟩
  · rcases get_set _ _ _ _ _ e with ⟨rfl, hl, e⟩ | ⟨hj, e⟩
    · obtain ⟨z, _⟩ := hs _ _ e
      cases z
    · obtain ⟨a, e1, h0, hL, q⟩ := r.own j d e
      exact ⟨a, by rw [hne j hj]; exact e1, h0, hL, q.kp (fun b o n e => ⟨fun z => n (hsub b z), e⟩) (fun _ z => z) fun _ z => z⟩
  · rcases get_set _ _ _ _ _ e1 with ⟨_, _, z⟩ | ⟨hj, e1⟩
    · obtain ⟨z, _⟩ := hs _ _ z
      cases z
    · rcases get_set _ _ _ _ _ e2 with ⟨_, _, z⟩ | ⟨hk, e2⟩
      · obtain ⟨z, _⟩ := hs _ _ z
        cases z
      · rw [hne j hj] at e3
        rw [hne k hk] at e4
        exact r.uni j k d e a e1 e2 e3 e4
theorem lo_sub_set {i : Nat} {s : Option (Bool × Dat)} {x : Option V} (hs : ∀ o d, s = some (o, d) → o = false) : ∀ b, LO L (ε.set i s) (σ.set i x) b → LO L ε σ b := by
  rintro b (h | ⟨j, d, e1, e2⟩)
  · exact .inl h
  · rcases get_set _ _ _ _ _ e1 with ⟨rfl, hl, e⟩ | ⟨hj, e⟩
    · cases hs _ _ e
    · rw [set_get_ne hj] at e2
      exact .inr ⟨j, d, e, e2⟩
theorem Rel.setv (r : Rel K H0 L ε σ H) (i : Nat) (hd : Den K H0 (LO L ε σ) H d v) : Rel K H0 L (ε.set i (some (false, d))) (σ.set i (some v)) H ∧ Kp (LO L ε σ) (LO L (ε.set i (some (false, d))) (σ.set i (some v))) H H := by
  obtain ⟨h1, h2⟩ := r.setG (i := i) (s := some (false, d)) (x := some v) (σ' := σ.set i (some v)) (.inr rfl) fun o e z => by
    cases z
    exact ⟨rfl, v, fun hl => set_get hl, hd.sub (lo_sub_set fun o e z => by cases z; rfl)⟩
  exact ⟨h1, .sub h2⟩
theorem Rel.fgt (r : Rel K H0 L ε σ H) (i : Nat) : Rel K H0 L (ε.set i none) σ H ∧ Kp (LO L ε σ) (LO L (ε.set i none) σ) H H := by
  obtain ⟨h1, h2⟩ := r.setG (i := i) (s := none) (x := none) (σ' := σ) (.inl rfl) fun o e z => by cases z
  exact ⟨h1, .sub h2⟩
/-- a list of one's own becomes data -/
def fz (i : Nat) (ε : DEnv) : DEnv := match ε[i]? with
  | some (some (true, d)) => ε.set i (some (false, d))
  | _ => ε
theorem Rel.frz (r : Rel K H0 L ε σ H) (i : Nat) : Rel K H0 L (fz i ε) σ H ∧ Kp (LO L ε σ) (LO L (fz i ε) σ) H H := by
  unfold fz
  split
  · rename_i d he
    have hsub : ∀ b, LO L (ε.set i (some (false, d))) σ b → LO L ε σ b ∧ σ[i]? ≠ some (some (V.ref b)) := by
      rintro b (h | ⟨j, e, e1, e2⟩)
      · refine ⟨.inl h, fun z => ?_⟩
        exact (r.ownAt ⟨i, d, he, z⟩).2.1 h
      · rcases get_set _ _ _ _ _ e1 with ⟨rfl, hl, z⟩ | ⟨hj, e'⟩
        · cases z
        · exact ⟨.inr ⟨j, e, e', e2⟩, fun z => hj (r.uni j i e d b e' he e2 z)⟩
    obtain ⟨h1, h2⟩ := r.setG (i := i) (s := some (false, d)) (x := none) (σ' := σ) (.inl rfl) fun o e z => by
      cases z
      obtain ⟨a, e1, h0, hl, q⟩ := r.own i d he
      refine ⟨rfl, _, fun _ => e1, ?_⟩
      have hna : ¬ LO L (ε.set i (some (false, d))) σ a := fun z => (hsub a z).2 e1
      have hs : ∀ b, LO L (ε.set i (some (false, d))) σ b → LO L ε σ b := fun b z => (hsub b z).1
      cases d with
      | lst t ds => obtain ⟨vs, q1, q2⟩ := q; exact ⟨a, vs, rfl, hna, fun _ => h0, q1, q2.sub hs⟩
      | dK t ds => obtain ⟨vs, q1, q2, q3⟩ := q; exact ⟨a, vs, rfl, hna, .inl q1, q2, q3.sub hs⟩
      | dT t ds => obtain ⟨vs, q1, q2, q3⟩ := q; exact ⟨a, vs, rfl, hna, .inl q1, q2, q3.sub hs⟩
      | _ => exact q.elim
    exact ⟨h1, .sub h2⟩
  · exact ⟨r, .refl⟩
/-- a new object of one's own in a slot -/
theorem Rel.setown (r : Rel K H0 L ε σ H) (i : Nat) (s : Same H H') (hn : H a = none) (ho : OwnD K H0 (fun b => LO L ε σ b ∨ b = a) H' a d) :
    Rel K H0 L (ε.set i (some (true, d))) (σ.set i (some (.ref a))) H' ∧ Kp (LO L ε σ) (LO L (ε.set i (some (true, d))) (σ.set i (some (.ref a)))) H H' := by
  have r' := r.mono s
  have hnl : ¬ LO L ε σ a := fun z => r.lo a z hn
  have hsub : ∀ b, LO L (ε.set i (some (true, d))) (σ.set i (some (.ref a))) b → LO L ε σ b ∨ b = a := by
    rintro b (h | ⟨j, e, e1, e2⟩)
    · exact .inl (.inl h)
    · rcases get_set _ _ _ _ _ e1 with ⟨rfl, hl, z⟩ | ⟨hj, e'⟩
      · rw [set_get (by rw [← r.len]; exact hl)] at e2
        cases e2
        exact .inr rfl
      · rw [set_get_ne hj] at e2
        exact .inl (.inr ⟨j, e, e', e2⟩)
  have kp : Kp (LO L ε σ) (LO L (ε.set i (some (true, d))) (σ.set i (some (.ref a)))) H H' := fun b o n e => ⟨(by
    intro z
    rcases hsub b z with z | z
    · exact n z
    · rw [z, hn] at e
      cases e), s _ _ e⟩
  refine ⟨⟨r'.same, r'.trk, by rw [List.length_set, List.length_set]; exact r.len, fun j e e1 => ?_, fun j e e1 => ?_, fun j k e e' b e1 e2 e3 e4 => ?_⟩, kp⟩
  · rcases get_set _ _ _ _ _ e1 with ⟨rfl, hl, z⟩ | ⟨hj, e1⟩
    · cases z
    · obtain ⟨v, e2, q⟩ := r.val j e e1
      exact ⟨v, by rw [set_get_ne hj]; exact e2, q.kp kp fun _ z => z⟩
  · rcases get_set _ _ _ _ _ e1 with ⟨rfl, hl, z⟩ | ⟨hj, e1⟩
    · cases z
      refine ⟨a, set_get (by rw [← r.len]; exact hl), r.same.free hn, fun z => hnl (.inl z), ho.kp (fun b o n e => ⟨fun z => n (hsub b z), e⟩) (fun _ z => z) fun _ z => z⟩
    · obtain ⟨b, e2, h0, hL, q⟩ := r.own j e e1
      exact ⟨b, by rw [set_get_ne hj]; exact e2, h0, hL, q.kp kp (fun _ z => z) fun o z => s _ _ z⟩
  · rcases get_set _ _ _ _ _ e1 with ⟨rfl, hl, z⟩ | ⟨hj, e1⟩
    · rw [set_get (by rw [← r.len]; exact hl)] at e3
      cases e3
      rcases get_set _ _ _ _ _ e2 with ⟨rfl, hl, z⟩ | ⟨hk, e2⟩
      · rfl
      · rw [set_get_ne hk] at e4
        exact (hnl (.inr ⟨k, e', e2, e4⟩)).elim
    · rename_i e1'
      rw [set_get_ne hj] at e3
      rcases get_set _ _ _ _ _ e2 with ⟨rfl, hl, z⟩ | ⟨hk, e2⟩
      · rw [set_get (by rw [← r.len]; exact hl)] at e4
        cases e4
        exact (hnl (.inr ⟨j, e, e1, e3⟩)).elim
      · rw [set_get_ne hk] at e4
        exact r.uni j k e e' b e1 e2 e3 e4
/-- one's own object is written -/
theorem Rel.mut (r : Rel K H0 L ε σ H) {i : Nat} {e : Dat} {o : HO} (he : ε[i]? = some (some (true, e))) (ha : σ[i]? = some (some (V.ref a))) (ho : OwnD K H0 (LO L ε σ) (upd H a o) a d) :
    Rel K H0 L (ε.set i (some (true, d))) σ (upd H a o) ∧ Kp (LO L ε σ) (LO L (ε.set i (some (true, d))) σ) H (upd H a o) := by
  obtain ⟨h0, hL, oo, hoo, mu⟩ := r.ownAt ⟨i, e, he, ha⟩
  have hil : i < ε.length := lt_of_get he
  have hsub : ∀ b, LO L (ε.set i (some (true, d))) σ b → LO L ε σ b := by
    rintro b (h | ⟨j, e', e1, e2⟩)
    · exact .inl h
    · rcases get_set _ _ _ _ _ e1 with ⟨rfl, hl, z⟩ | ⟨hj, e1⟩
      · exact .inr ⟨j, e, he, e2⟩
      · exact .inr ⟨j, e', e1, e2⟩
  have own : LO L ε σ a := .inr ⟨i, e, he, ha⟩
  have kp : Kp (LO L ε σ) (LO L (ε.set i (some (true, d))) σ) H (upd H a o) := fun b u n z => ⟨fun q => n (hsub b q), by
    rw [upd_ne (fun q => n (by rw [q]; exact own))]
    exact z⟩
  refine ⟨⟨fun b u z => ?_, fun b z => ?_, by rw [List.length_set]; exact r.len, fun j e' e1 => ?_, fun j e' e1 => ?_, fun j k e' e'' b e1 e2 e3 e4 => ?_⟩, kp⟩
  · rw [upd_ne (fun q => by rw [q, h0] at z; cases z)]
    exact r.same b u z
  · by_cases hb : b = a
    · rw [hb, upd_same]
      exact fun q => nomatch q
    · rw [upd_ne hb]
      exact r.trk b z
  · rcases get_set _ _ _ _ _ e1 with ⟨rfl, hl, z⟩ | ⟨hj, e1⟩
    · cases z
    · obtain ⟨v, e2, q⟩ := r.val j e' e1
      exact ⟨v, e2, q.kp kp fun _ z => z⟩
  · rcases get_set _ _ _ _ _ e1 with ⟨rfl, hl, z⟩ | ⟨hj, e1⟩
    · cases z
      exact ⟨a, ha, h0, hL, ho.kp (fun b o n e => ⟨fun z => n (hsub b z), e⟩) (fun _ z => z) fun _ z => z⟩
    · obtain ⟨b, e2, h0b, hLb, q⟩ := r.own j e' e1
      refine ⟨b, e2, h0b, hLb, q.kp kp (fun _ z => z) fun u z => ?_⟩
      rw [upd_ne (fun q => hj (r.uni j i e' e b e1 he e2 (by rw [q]; exact ha)))]
      exact z
  · obtain ⟨e', e1⟩ : ∃ e', ε[j]? = some (some (true, e')) := by
      rcases get_set _ _ _ _ _ e1 with ⟨rfl, hl, z⟩ | ⟨hj, e1⟩
      · exact ⟨_, he⟩
      · exact ⟨_, e1⟩
    obtain ⟨e'', e2⟩ : ∃ e', ε[k]? = some (some (true, e')) := by
      rcases get_set _ _ _ _ _ e2 with ⟨rfl, hl, z⟩ | ⟨hj, e2⟩
      · exact ⟨_, he⟩
      · exact ⟨_, e2⟩
    exact r.uni j k e' e'' b e1 e2 e3 e4
end

/-! ### statements -/
inductive Out where
  | nx (ε : DEnv)
  | rt (d : Dat)
  | bk (ε : DEnv)
  | ct (ε : DEnv)
def XS (mg : Str → Option Value) (W : WX) (H0 : Hp) (n : Str) : Prop := ∀ C dd σ H', mg n = some (Value.ref C) → Same H0 H' → W (.ref C) dd σ H'
theorem XS.w {mg : Str → Option Value} {W : WX} {H0 H : Hp} {n : Str} {σ : L2.St} (h : XS mg W H0 n) (s : Same H0 H) : XW mg W σ H n := fun C dd H' hm s' => h C dd σ H' hm (s.trans s')
/-- what is wanted behind a statement, of its pure end -/
def OutP (K : PySem.W.Frag) (H0 : Hp) (L LL : Addr → Prop) (H : Hp) (D : Ends) : Out → Prop
  | .nx ε' => ∀ σ' H', Rel K H0 L ε' σ' H' → Kp LL (LO L ε' σ') H H' → D.nx σ' H'
  | .bk ε' => ∀ σ' H', Rel K H0 L ε' σ' H' → Kp LL (LO L ε' σ') H H' → D.bk σ' H'
  | .ct ε' => ∀ σ' H', Rel K H0 L ε' σ' H' → Kp LL (LO L ε' σ') H H' → D.ct σ' H'
  | .rt d => ∀ v H', Same H0 H' → Den K H0 L H' d v → D.rt v H'
theorem OutP.mono {K : PySem.W.Frag} {H0 : Hp} {L LL LL' : Addr → Prop} {H H' : Hp} {D : Ends} {o : Out} (k : Kp LL LL' H H') (h : OutP K H0 L LL H D o) : OutP K H0 L LL' H' D o := by
  cases o with
  | nx ε => exact fun σ' H2 r k2 => h σ' H2 r (k.trans k2)
  | bk ε => exact fun σ' H2 r k2 => h σ' H2 r (k.trans k2)
  | ct ε => exact fun σ' H2 r k2 => h σ' H2 r (k.trans k2)
  | rt d => exact h
def tD (K : PySem.W.Frag) (mg : Str → Option Value) (W : WX) (H0 : Hp) (L : Addr → Prop) (f : DEnv → Rs Out) : TS := fun D σ H => ∃ ε, Rel K H0 L ε σ H ∧ (f ε).to (OutP K H0 L (LO L ε σ) H D) (XS mg W H0)
def DS (X : Cx) (W : WX) (H0 : Hp) (L : Addr → Prop) (st : Stmt) (f : DEnv → Rs Out) : Prop := PS X st (tD X.K X.mg W H0 L f)
def DSs (X : Cx) (W : WX) (H0 : Hp) (L : Addr → Prop) (st : List Stmt) (f : DEnv → Rs Out) : Prop := PSs X st (tD X.K X.mg W H0 L f)
theorem psimp {X : Cx} {st : Stmt} {t t' : TS} (h : PS X st t) (k : ∀ D σ H, t' D σ H → t D σ H) : PS X st t' := ⟨fun pins s σ H D I q => h.run pins s σ H D I (k D σ H q)⟩
theorem pssimp {X : Cx} {st : List Stmt} {t t' : TS} (h : PSs X st t) (k : ∀ D σ H, t' D σ H → t D σ H) : PSs X st t' := ⟨fun pins s σ H D I q => h.run pins s σ H D I (k D σ H q)⟩

section
variable {X : Cx} {W : WX} {H0 : Hp} {L : Addr → Prop} {m : Bool} {a b e : Expr} {pos : Pos} {f g : DEnv → Rs Dat} {fc : DEnv → Rs Bool} {st : Stmt} {sts : List Stmt} {fs gs : DEnv → Rs Out}
variable {K : PySem.W.Frag} {mg : Str → Option Value} {σ : L2.St} {H : Hp} {ε : DEnv}
/-- an expression within a statement -/
theorem tD.expr {F : DEnv → Dat → Rs Out} {D : Ends} {R : VK} (h : tD K mg W H0 L (fun ε => f ε >>= F ε) D σ H)
    (k : ∀ ε d v H', Rel K H0 L ε σ H' → DM m K H0 L (LO L ε σ) H' d v → (F ε d).to (OutP K H0 L (LO L ε σ) H' D) (XS mg W H0) → R v H') : tE m K mg W H0 L f σ H R := by
  obtain ⟨ε, rel, h⟩ := h
  dsimp only at h
  rw [Rs.to_bind] at h
  exact ⟨ε, rel, h.imp (fun d _ hd v H' s q => k ε d v H' (rel.mono s) q (hd.imp (fun o _ ho => ho.mono (.same s)) fun _ z => z)) fun n z => z.w rel.same⟩
theorem ds_nil : DSs X W H0 L [] (fun ε => .ok (.nx ε)) := pssimp pss_nil fun D σ H ⟨ε, r, h⟩ => h σ H r .refl
def seqD (f g : DEnv → Rs Out) (ε : DEnv) : Rs Out := f ε >>= fun o => match o with
  | .nx ε' => g ε'
  | o => .ok o
theorem ds_cons (h1 : DS X W H0 L st fs) (h2 : DSs X W H0 L sts gs) : DSs X W H0 L (st :: sts) (seqD fs gs) :=
  pssimp (pss_cons h1 h2) fun D σ H ⟨ε, r, h⟩ => by
    unfold seqD at h
    rw [Rs.to_bind] at h
    refine ⟨ε, r, h.imp (fun o _ ho => ?_) fun n z => z⟩
    cases o with
    | nx ε' => exact fun σ' H' r' k => ⟨ε', r', ho.imp (fun o _ z => z.mono k) fun n z => z⟩
    | bk ε' => exact ho
    | ct ε' => exact ho
    | rt d => exact ho
theorem ds_one (h1 : DS X W H0 L st fs) : DSs X W H0 L [st] fs := pss_one h1
def retD (f : DEnv → Rs Dat) (ε : DEnv) : Rs Out := f ε >>= fun d => .ok (.rt d)
theorem ds_ret (he : DE true X W H0 L e f) : DS X W H0 L (.Return (some e) pos) (retD f) :=
  psimp (ps_ret he) fun D σ H h => tD.expr (m := true) h fun ε d v H' r q h => h v H' r.same (Den.sub r.good.sub q)
def iteD (c : DEnv → Rs Bool) (f g : DEnv → Rs Out) (ε : DEnv) : Rs Out := c ε >>= fun b => if b = true then f ε else g ε
theorem ds_if {ta tb : List Stmt} (hc : DT X W H0 L e fc) (ha : DSs X W H0 L ta fs) (hb : DSs X W H0 L tb gs) : DS X W H0 L (.If e ta tb pos) (iteD fc fs gs) :=
  psimp (ps_if hc ha hb) fun D σ H ⟨ε, r, h⟩ => by
    unfold iteD at h
    rw [Rs.to_bind] at h
    refine ⟨ε, r, h.imp (fun b _ hb H' s => ?_) fun n z => z.w r.same⟩
    cases b with
    | true => exact ⟨ε, r.mono s, (show (fs ε).to _ _ from hb).imp (fun o _ z => z.mono (.same s)) fun n z => z⟩
    | false => exact ⟨ε, r.mono s, (show (gs ε).to _ _ from hb).imp (fun o _ z => z.mono (.same s)) fun n z => z⟩
def setD (i : Nat) (f : DEnv → Rs Dat) (ε : DEnv) : Rs Out := f ε >>= fun d => .ok (.nx (ε.set i (some (false, d))))
theorem ds_set (i : Nat) {x : Str} {pos' : Pos} (hN : X.N.Nodup) (he : DE true X W H0 L e f) (hi : X.N[i]? = some x := by rfl) (hx : Loc X.env.scope x := by first | exact .inl rfl | exact .inr rfl) (hs : swapsWith e (some (.Name x pos')) pos.line X.env = pure false := by rfl) (hf : X.fn x = true ∨ X.env.scope.names.lookup x = some .local := by first | exact .inl rfl | exact .inr rfl | assumption) :
    DS X W H0 L (.Assign [.Name x pos'] e pos) (setD i f) :=
  psimp (ps_set hN hi hx he hs hf) fun D σ H h => tD.expr (m := true) h fun ε d v H' r q h => by
    obtain ⟨r1, k1⟩ := r.setv i q
    exact h _ _ r1 k1
def ownD (i : Nat) (f : DEnv → Rs (List Dat)) (ε : DEnv) : Rs Out := f ε >>= fun ds => .ok (.nx (ε.set i (some (true, .lst true ds))))
theorem ds_own (i : Nat) {x : Str} {pos' : Pos} {f : DEnv → Rs (List Dat)} (hN : X.N.Nodup) (he : DF X W H0 L e f) (hi : X.N[i]? = some x := by rfl) (hx : Loc X.env.scope x := by first | exact .inl rfl | exact .inr rfl) (hs : swapsWith e (some (.Name x pos')) pos.line X.env = pure false := by rfl) (hf : X.fn x = true ∨ X.env.scope.names.lookup x = some .local := by first | exact .inl rfl | exact .inr rfl | assumption) :
    DS X W H0 L (.Assign [.Name x pos'] e pos) (ownD i f) :=
  psimp (ps_set hN hi hx he hs hf) fun D σ H ⟨ε, r, h⟩ => by
    unfold ownD at h
    rw [Rs.to_bind] at h
    refine ⟨ε, r, h.imp (fun ds _ hd a vs H' s hn ha q => ?_) fun n z => z.w r.same⟩
    obtain ⟨r1, k1⟩ := r.setown (d := .lst true ds) i s hn ⟨vs, ha, q⟩
    exact hd _ _ r1 k1
def drpD (f : DEnv → Rs Dat) (ε : DEnv) : Rs Out := f ε >>= fun _ => .ok (.nx ε)
theorem ds_expr (he : DE false X W H0 L e f) (hs : swapsWith e none pos.line X.env = pure false := by rfl) : DS X W H0 L (.Expr e pos) (drpD f) :=
  psimp (ps_expr he hs) fun D σ H h => tD.expr (m := false) h fun ε d v H' r q h => h _ _ r .refl
theorem ds_pass : DS X W H0 L (.Pass pos) (fun ε => .ok (.nx ε)) := psimp ps_pass fun D σ H ⟨ε, r, h⟩ => h σ H r .refl
theorem ds_break : DS X W H0 L (.Break pos) (fun ε => .ok (.bk ε)) := psimp ps_break fun D σ H ⟨ε, r, h⟩ => h σ H r .refl
theorem ds_continue : DS X W H0 L (.Continue pos) (fun ε => .ok (.ct ε)) := psimp ps_continue fun D σ H ⟨ε, r, h⟩ => h σ H r .refl
/-- ahead of statements: lists of one's own become data -/
theorem ds_fz (i : Nat) (h : DSs X W H0 L sts fs) : DSs X W H0 L sts (fun ε => fs (fz i ε)) :=
  pssimp h fun D σ H ⟨ε, r, h⟩ => ⟨fz i ε, (r.frz i).1, h.imp (fun o _ z => z.mono (r.frz i).2) fun n z => z⟩
def fgt : List Nat → DEnv → DEnv
  | [], ε => ε
  | i :: r, ε => fgt r (ε.set i none)
theorem Rel.fgts {H : Hp} : ∀ (is : List Nat) {ε : DEnv}, Rel K H0 L ε σ H → Rel K H0 L (DL.fgt is ε) σ H ∧ Kp (LO L ε σ) (LO L (DL.fgt is ε) σ) H H
  | [], ε, r => ⟨r, .refl⟩
  | i :: t, ε, r => ⟨((r.fgt i).1.fgts t).1, (r.fgt i).2.trans ((r.fgt i).1.fgts t).2⟩
theorem ds_fgt0 (is : List Nat) (h : DSs X W H0 L sts fs) : DSs X W H0 L sts (fun ε => fs (fgt is ε)) :=
  pssimp h fun D σ H ⟨ε, r, h⟩ => ⟨fgt is ε, (r.fgts is).1, h.imp (fun o _ z => z.mono (r.fgts is).2) fun n z => z⟩
/-- behind statements: slots that nobody asks any more -/
def Out.fgt (is : List Nat) : Out → Out
  | .nx ε => .nx (DL.fgt is ε)
  | .ct ε => .ct (DL.fgt is ε)
  | o => o
def fgtD (is : List Nat) (f : DEnv → Rs Out) (ε : DEnv) : Rs Out := f ε >>= fun o => .ok (o.fgt is)
theorem OutP.fgt {LL : Addr → Prop} {D : Ends} {o : Out} {is : List Nat} (h : OutP K H0 L LL H D (o.fgt is)) : OutP K H0 L LL H D o := by
  cases o with
  | nx ε => exact fun σ' H' r k => h σ' H' (r.fgts is).1 (k.trans (r.fgts is).2)
  | ct ε => exact fun σ' H' r k => h σ' H' (r.fgts is).1 (k.trans (r.fgts is).2)
  | bk ε => exact h
  | rt d => exact h
theorem ds_fgt (is : List Nat) (h : DSs X W H0 L sts fs) : DSs X W H0 L sts (fgtD is fs) :=
  pssimp h fun D σ H ⟨ε, r, h⟩ => by
    unfold fgtD at h
    rw [Rs.to_bind] at h
    exact ⟨ε, r, h.imp (fun o _ z => OutP.fgt z) fun n z => z⟩
end
end DL

set_option maxRecDepth 100000
set_option maxHeartbeats 4000000
/-! DLe: arguments, displays, calls, loops, comprehensions. -/
namespace DL
open PySem PySem.Spec PyProof.Rows L2

noncomputable def sz (n : Nat) : Bool := cls (n ≤ sizeLine)
theorem sz_le {n : Nat} (h : n ≤ 16777216) : sz n = true := cls_true (by rw [sizeLine_eq]; exact h)
theorem sz_ok {n : Nat} (h : sz n = true) : n ≤ sizeLine := cls_ok h
/-- a check -/
def chk {α : Type} (b : Bool) (x : Rs α) : Rs α := if b = true then x else .no
@[simp] theorem chk_true {α : Type} (x : Rs α) : chk true x = x := rfl
@[simp] theorem chk_false {α : Type} (x : Rs α) : chk false x = .no := rfl
theorem chk_to {α : Type} {b : Bool} {x : Rs α} {P : α → Prop} {E : Str → Prop} (h : (chk b x).to P E) : b = true ∧ x.to P E := by
  cases b with
  | true => exact ⟨rfl, h⟩
  | false => exact h.elim

section
variable {X : Cx} {W : WX} {H0 : Hp} {L : Addr → Prop} {m : Bool} {a b e : Expr} {es : List Expr} {pos : Pos} {f g : DEnv → Rs Dat} {fa : DEnv → Rs (List Dat)}
variable {K : PySem.W.Frag} {mg : Str → Option Value} {σ : L2.St} {H : Hp} {ε : DEnv}
def argsN (_ : DEnv) : Rs (List Dat) := .ok []
def argsC (f : DEnv → Rs Dat) (fa : DEnv → Rs (List Dat)) (ε : DEnv) : Rs (List Dat) := f ε >>= fun d => fa ε >>= fun ds => .ok (d :: ds)
theorem da_nil : DA m X W H0 L [] argsN := paimp pa_nil fun σ H Q ⟨ε, r, h⟩ => h [] H (Same.refl H) .nil
theorem da_cons (he : DE m X W H0 L e f) (ha : DA m X W H0 L es fa) (hs : starEach (e :: es) X.env = (false, eval e X.env) :: starEach es X.env := by rfl) : DA m X W H0 L (e :: es) (argsC f fa) :=
  paimp (pa_cons he ha hs) fun σ H Q ⟨ε, r, h⟩ => by
    unfold argsC at h
    rw [Rs.to_bind] at h
    refine ⟨ε, r, h.imp (fun d _ hd v H1 s1 q1 => ?_) fun n z => z⟩
    rw [Rs.to_bind] at hd
    exact ⟨ε, r.mono s1, hd.imp (fun ds _ hds vs H2 s2 q2 => hds _ H2 (s1.trans s2) (.cons (q1.same s2) q2)) fun n z => z.mono s1⟩
theorem den_pair {LL : Addr → Prop} : ∀ {ds : List Dat} {vs : List V}, Paired (DM true K H0 L LL H) ds vs → DenL K H0 LL H ds vs
  | _, _, .nil => rfl
  | _, _, .cons h t => ⟨_, _, rfl, h, den_pair t⟩
theorem dens_pair {LL : Addr → Prop} (hs : ∀ a, L a → LL a) : ∀ {ds : List Dat} {vs : List V}, Paired (DM false K H0 L LL H) ds vs → DenL K H0 L H ds vs
  | _, _, .nil => rfl
  | _, _, .cons h t => ⟨_, _, rfl, DenS.den hs h, dens_pair hs t⟩

/-! ### displays -/
noncomputable def tupD (fa : DEnv → Rs (List Dat)) (ε : DEnv) : Rs Dat := fa ε >>= fun ds => chk (sz ds.length) (.ok (.tup ds))
theorem de_tup {x1} (ha : DA true X W H0 L es fa) : DE m X W H0 L (.Tuple es x1 pos) (tupD fa) :=
  peimp (pe_tup ha) fun σ H Q ⟨ε, r, h⟩ => by
    unfold tupD at h
    rw [Rs.to_bind] at h
    refine ⟨ε, r, h.imp (fun ds _ hd vs H1 s1 q => ?_) fun n z => z⟩
    obtain ⟨hz, hd⟩ := chk_to hd
    have q' := den_pair q
    exact ⟨by rw [← q'.length]; exact sz_ok hz, fun p hp => hd _ _ (s1.trans (same_new hp)) ((r.mono s1).good.tup hp q' |>.m r.good.sub)⟩
/-- a list just made, as data -/
def lstD (fa : DEnv → Rs (List Dat)) (ε : DEnv) : Rs Dat := fa ε >>= fun ds => .ok (.lst true ds)
theorem DF.de {f : DEnv → Rs (List Dat)} (h : DF X W H0 L e f) : DE m X W H0 L e (lstD f) :=
  peimp h fun σ H Q ⟨ε, r, h⟩ => by
    unfold lstD at h
    rw [Rs.to_bind] at h
    refine ⟨ε, r, h.imp (fun ds _ hd a vs H1 s1 hn ha q => ?_) fun n z => z⟩
    refine hd _ _ s1 (Den.m r.good.sub ⟨a, vs, rfl, fun z => r.lo a z hn, fun _ => r.same.free hn, ha, q.sub fun _ z => .inl z⟩)
noncomputable def dspD (fa : DEnv → Rs (List Dat)) (ε : DEnv) : Rs (List Dat) := fa ε >>= fun ds => chk (sz ds.length) (.ok ds)
theorem kp_or {LL : Addr → Prop} {H H1 : Hp} {p : Addr} (s : Same H H1) (hp : H p = none) : Kp LL (fun b => LL b ∨ b = p) H H1 := fun b o n e => ⟨(by
  intro z
  rcases z with z | z
  · exact n z
  · rw [z, hp] at e
    cases e), s _ _ e⟩
theorem df_lst (ha : DA true X W H0 L es fa) : DF X W H0 L (.List es pos) (dspD fa) :=
  peimp (pe_lst ha) fun σ H Q ⟨ε, r, h⟩ => by
    unfold dspD at h
    rw [Rs.to_bind] at h
    refine ⟨ε, r, h.imp (fun ds _ hd vs H1 s1 q => ?_) fun n z => z⟩
    obtain ⟨hz, hd⟩ := chk_to hd
    have q' := den_pair q
    exact ⟨by rw [← q'.length]; exact sz_ok hz, fun p hp => hd p vs _ (s1.trans (same_new hp)) (s1.free hp) upd_same (q'.kp (kp_or (same_new hp) hp) fun _ z => z)⟩

/-! ### calls of defs -/
mutual
def old : Dat → Dat
  | .tup ds => .tup (olds ds)
  | .lst _ ds => .lst false (olds ds)
  | .dK ks ds => .dK ks (olds ds)
  | .dT ks ds => .dT ks (olds ds)
  | d => d
def olds : List Dat → List Dat
  | [] => []
  | d :: r => old d :: olds r
end
mutual
theorem Den.old {H1 : Hp} : ∀ {d : Dat} {v : V}, Den K H0 L H d v → Den K H1 L H (old d) v
  | .non, _, h => h
  | .bl _, _, h => h
  | .int _, _, h => h
  | .str _, _, h => h
  | .tup ds, _, ⟨a, vs, e, t, h⟩ => ⟨a, vs, e, t, DenL.olds h⟩
  | .lst t ds, _, ⟨a, vs, e, hl, ht, ha, h⟩ => ⟨a, vs, e, hl, fun z => (nomatch z), ha, DenL.olds h⟩
  | .dK ks ds, _, ⟨a, vs, e, hl, ha, z, h⟩ => ⟨a, vs, e, hl, ha, z, DenL.olds h⟩
  | .dT ks ds, _, ⟨a, vs, e, hl, ha, z, h⟩ => ⟨a, vs, e, hl, ha, z, DenL.olds h⟩
  | .scr ns, _, h => h
  | .cst ss, _, h => h
theorem DenL.olds {H1 : Hp} : ∀ {ds : List Dat} {vs : List V}, DenL K H0 L H ds vs → DenL K H1 L H (olds ds) vs
  | [], _, h => h
  | d :: ds, _, ⟨v, r, e, h, t⟩ => ⟨v, r, e, Den.old h, DenL.olds t⟩
end
/-- a def's promise: it computes F -/
def spD (K : PySem.W.Frag) (mg : Str → Option Value) (n : Nat) (F : List Dat → Rs Dat) : Sp := fun vs H Q E => vs.length = n ∧ ∃ (L : Addr → Prop) (ds : List Dat), (∀ a, L a → H a ≠ none) ∧ DenL K H L H ds vs ∧
  (F ds).to (fun d => ∀ v H', Same H H' → Den K H L H' d v → Q v H') (fun c => ∀ C dd H', mg c = some (Value.ref C) → Same H H' → E (.ref C) dd H')
mutual
/-- made by a callee: every list in it is new -/
def fresh : Dat → Bool
  | .tup ds => freshs ds
  | .lst t ds => t && freshs ds
  | .dK _ _ => false
  | .dT _ _ => false
  | .scr _ => false
  | .cst _ => false
  | _ => true
def freshs : List Dat → Bool
  | [] => true
  | d :: r => fresh d && freshs r
end
mutual
theorem Den.fresh {L' : Addr → Prop} (hl : ∀ a, H0 a = none → ¬ L' a) (ht : ∀ a xs, ¬ L a → H a = some (.tup xs) → ¬ L' a) : ∀ {d : Dat} {v : V}, Den K H0 L H d v → fresh d = true → Den K H0 L' H d v
  | .non, _, h, _ => h
  | .bl _, _, h, _ => h
  | .int _, _, h, _ => h
  | .str _, _, h, _ => h
  | .tup ds, _, ⟨a, vs, e, t, h⟩, c => ⟨a, vs, e, ⟨ht _ _ t.1 t.2, t.2⟩, DenL.fresh hl ht h c⟩
  | .lst t ds, _, ⟨a, vs, e, _, tt, ha, h⟩, c => by
    have c' : (t && freshs ds) = true := c
    rw [Bool.and_eq_true] at c'
    exact ⟨a, vs, e, hl _ (tt c'.1), tt, ha, DenL.fresh hl ht h c'.2⟩
  | .dK ks ds, _, _, c => nomatch c
  | .dT ks ds, _, _, c => nomatch c
  | .scr ns, _, _, c => nomatch c
  | .cst ss, _, _, c => nomatch c
theorem DenL.fresh {L' : Addr → Prop} (hl : ∀ a, H0 a = none → ¬ L' a) (ht : ∀ a xs, ¬ L a → H a = some (.tup xs) → ¬ L' a) : ∀ {ds : List Dat} {vs : List V}, DenL K H0 L H ds vs → freshs ds = true → DenL K H0 L' H ds vs
  | [], _, h, _ => h
  | d :: ds, _, ⟨v, r, e, h, t⟩, c => by
    have c' : (fresh d && freshs ds) = true := c
    rw [Bool.and_eq_true] at c'
    exact ⟨v, r, e, Den.fresh hl ht h c'.1, DenL.fresh hl ht t c'.2⟩
end
variable {k : Nat} {f' : Addr} {fd : FuncData} {ps : List Str} {F : List Dat → Rs Dat} {x : Str} {p : Pos} {n : Nat}
/-- n: how many arguments -/
def callD (n : Nat) (F : List Dat → Rs Dat) (fa : DEnv → Rs (List Dat)) (ε : DEnv) : Rs Dat := fa ε >>= fun ds => chk (ds.length == n) (F (olds ds))
/-- arguments that may be lists of one's own: what comes back is new through and through -/
def callB (n : Nat) (F : List Dat → Rs Dat) (fa : DEnv → Rs (List Dat)) (ε : DEnv) : Rs Dat := fa ε >>= fun ds => chk (ds.length == n) (F (olds ds) >>= fun d => chk (fresh d) (.ok d))
theorem Kp.self {LL : Addr → Prop} {H H' : Hp} (s : Same H H') : Kp LL LL H H' := .same s
theorem call_use {LL : Addr → Prop} {F : List Dat → Rs Dat} {ds : List Dat} {vs : List V} {Q : VK} {E : XK} (hl : ∀ a, LL a → H a ≠ none) (hf : ∀ a, H a = none → H0 a = none) (q : DenL K H0 LL H ds vs) (hlen : ds.length = n)
    (h : (F (olds ds)).to (fun d => ∀ v H', Same H H' → Den K H0 LL H' d v → Q v H') (fun c => ∀ C dd H', mg c = some (Value.ref C) → Same H H' → E (.ref C) dd H')) : spD K mg n F vs H Q E :=
  ⟨by rw [← q.length]; exact hlen, LL, olds ds, hl, q.olds, h.imp (fun d _ hd v H' s dd => hd v H' s (dd.kp .refl hf)) fun c z => z⟩
theorem Rel.mutTup (r : Rel K H0 L ε σ H) : ∀ a xs, H a = some (.tup xs) → Owned ε σ a → False := fun a xs e o => by
  obtain ⟨_, _, o, e2, mu⟩ := r.ownAt o
  rw [e] at e2
  cases e2
  exact mu
theorem de_call (G : FnOk X.prog X.w X.K X.mg X.base (L2.CX X.prog X.w) k f' fd ps (spD X.K X.mg n F)) (hr : Room k X.A) (hm : X.mg x = some (.ref f')) (hk : PySem.W.keepIn X.K (.ref f') = true) (hb : Binds X.K fd ps [])
    (tk : Takes X W) (ha : DA true X W H0 L (e :: es) fa) (hg : Gl X x := by rfl) (hdb : (x == ("__debug__" : Str)) = false := by decide) (he : starEach (e :: es) X.env = (false, eval e X.env) :: starEach es X.env := by rfl) (hpl : (backTo pos (starEach es X.env)).any (·.1) = false := by rfl) :
    DE m X W H0 L (.Call (.Name x p) (e :: es) [] pos) (callD n F fa) :=
  peimp (pe_callSD G hr hg hm hk hb .nil (fun σ => passAt tk σ) ha hdb he hpl) fun σ H Q ⟨ε, r, h⟩ => by
    unfold callD at h
    rw [Rs.to_bind] at h
    refine ⟨ε, r, h.imp (fun ds _ hd vs H1 s1 q => ?_) fun n z => z⟩
    obtain ⟨hl, hd⟩ := chk_to hd
    have r1 := r.mono s1
    rw [List.append_nil]
    exact call_use r1.lo r1.good.fr (den_pair q) (by simpa using hl) (hd.imp (fun d _ z v H2 s2 dd => z v H2 (s1.trans s2) (dd.m r.good.sub)) fun c z C dd H2 hm s2 => z C dd H2 hm (s1.trans s2))
theorem de_callB (G : FnOk X.prog X.w X.K X.mg X.base (L2.CX X.prog X.w) k f' fd ps (spD X.K X.mg n F)) (hr : Room k X.A) (hm : X.mg x = some (.ref f')) (hk : PySem.W.keepIn X.K (.ref f') = true) (hb : Binds X.K fd ps [])
    (tk : Takes X W) (ha : DA false X W H0 L (e :: es) fa) (hg : Gl X x := by rfl) (hdb : (x == ("__debug__" : Str)) = false := by decide) (he : starEach (e :: es) X.env = (false, eval e X.env) :: starEach es X.env := by rfl) (hpl : (backTo pos (starEach es X.env)).any (·.1) = false := by rfl) :
    DE m X W H0 L (.Call (.Name x p) (e :: es) [] pos) (callB n F fa) :=
  peimp (pe_callSD G hr hg hm hk hb .nil (fun σ => passAt tk σ) ha hdb he hpl) fun σ H Q ⟨ε, r, h⟩ => by
    unfold callB at h
    rw [Rs.to_bind] at h
    refine ⟨ε, r, h.imp (fun ds _ hd vs H1 s1 q => ?_) fun n z => z⟩
    obtain ⟨hl, hd⟩ := chk_to hd
    have r1 := r.mono s1
    rw [List.append_nil]
    rw [Rs.to_bind] at hd
    have q1 := dens_pair r.good.sub q
    refine ⟨by rw [← q1.length]; simpa using hl, L, olds ds, r1.trk, q1.olds, hd.imp (fun d _ z v H2 s2 dd => ?_) fun c z C dd H2 hm s2 => z C dd H2 hm (s1.trans s2)⟩
    obtain ⟨hfr, z⟩ := chk_to z
    have r2 := r1.mono s2
    refine z v H2 (s1.trans s2) (Den.m r.good.sub ?_)
    refine Den.kp (.refl) (fun a z => r1.good.fr a z) (Den.fresh (fun a ha hz => r1.lo a hz ha) (fun a xs hL ha hz => ?_) dd hfr)
    rcases hz with hz | hz
    · exact hL hz
    · exact r2.mutTup a xs ha hz

/-! ### a list that a call gives back stands nowhere within itself -/
mutual
def size : Dat → Nat
  | .tup ds => sizes ds + 1
  | .lst _ ds => sizes ds + 1
  | _ => 1
def sizes : List Dat → Nat
  | [] => 0
  | d :: r => size d + sizes r
end
variable {H1 H2 : Hp} {L1 : Addr → Prop}
mutual
theorem size_eq : ∀ {d e : Dat} {v : V}, Den K H0 L H d v → Den K H1 L1 H e v → fresh d = true → fresh e = true → size d = size e
  | .non, e, _, h, g, _, c => by cases h; cases e <;> first | rfl | (cases g; done) | (obtain ⟨_, _, q, _⟩ := g; cases q; done) | (cases c; done)
  | .bl _, e, _, h, g, _, c => by cases h; cases e <;> first | rfl | (cases g; done) | (obtain ⟨_, _, q, _⟩ := g; cases q; done) | (cases c; done)
  | .int _, e, _, h, g, _, c => by cases h; cases e <;> first | rfl | (cases g; done) | (obtain ⟨_, _, q, _⟩ := g; cases q; done) | (cases c; done)
  | .str _, e, _, h, g, _, c => by cases h; cases e <;> first | rfl | (cases g; done) | (obtain ⟨_, _, q, _⟩ := g; cases q; done) | (cases c; done)
  | .tup ds, e, _, ⟨a, vs, ev, t, h⟩, g, c1, c => by
    subst ev
    cases e with
    | tup es =>
      obtain ⟨b, ws, ev, u, g⟩ := g
      cases ev
      have q := t.2.symm.trans u.2
      cases q
      exact congrArg (· + 1) (sizes_eq h g c1 c)
    | lst t' es =>
      obtain ⟨b, ws, ev, _, _, u, g⟩ := g
      cases ev
      have q := t.2.symm.trans u
      cases q
    | dK _ _ => cases c
    | dT _ _ => cases c
    | scr _ => cases c
    | cst _ => cases c
    | _ => cases g
  | .lst tt ds, e, _, ⟨a, vs, ev, _, _, t, h⟩, g, c1, c => by
    subst ev
    have c1' : (tt && freshs ds) = true := c1
    rw [Bool.and_eq_true] at c1'
    cases e with
    | tup es =>
      obtain ⟨b, ws, ev, u, g⟩ := g
      cases ev
      have q := t.symm.trans u.2
      cases q
    | lst t' es =>
      have c' : (t' && freshs es) = true := c
      rw [Bool.and_eq_true] at c'
      obtain ⟨b, ws, ev, _, _, u, g⟩ := g
      cases ev
      have q := t.symm.trans u
      cases q
      exact congrArg (· + 1) (sizes_eq h g c1'.2 c'.2)
    | dK _ _ => cases c
    | dT _ _ => cases c
    | scr _ => cases c
    | cst _ => cases c
    | _ => cases g
  | .dK _ _, _, _, _, _, c, _ => nomatch c
  | .dT _ _, _, _, _, _, c, _ => nomatch c
  | .scr _, _, _, _, _, c, _ => nomatch c
  | .cst _, _, _, _, _, c, _ => nomatch c
theorem sizes_eq : ∀ {ds es : List Dat} {vs : List V}, DenL K H0 L H ds vs → DenL K H1 L1 H es vs → freshs ds = true → freshs es = true → sizes ds = sizes es
  | [], [], _, _, _, _, _ => rfl
  | [], _ :: _, _, h, ⟨_, _, e, _, _⟩, _, _ => by cases h; cases e
  | _ :: _, [], _, ⟨_, _, e, _, _⟩, h, _, _ => by cases h; cases e
  | d :: ds, e :: es, _, ⟨v, r, ev, h, t⟩, ⟨v', r', ev', g, u⟩, c1, c2 => by
    subst ev
    cases ev'
    have c1' : (fresh d && freshs ds) = true := c1
    have c2' : (fresh e && freshs es) = true := c2
    rw [Bool.and_eq_true] at c1' c2'
    show size d + sizes ds = size e + sizes es
    rw [size_eq h g c1'.1 c2'.1, sizes_eq t u c1'.2 c2'.2]
end
variable {a0 : Addr} {vs0 : List V} {N : Nat}
mutual
theorem Den.apart (hv : H a0 = some (.lst vs0)) (hN : ∀ e, fresh e = true → Den K H0 L H e (.ref a0) → size e = N) : ∀ {d : Dat} {v : V}, Den K H0 L H d v → fresh d = true → size d < N → Den K H0 (fun b => L b ∨ b = a0) H d v
  | .non, _, h, _, _ => h
  | .bl _, _, h, _, _ => h
  | .int _, _, h, _, _ => h
  | .str _, _, h, _, _ => h
  | .tup ds, _, ⟨a, vs, e, t, h⟩, c, hs => ⟨a, vs, e, ⟨(by
      intro z
      rcases z with z | z
      · exact t.1 z
      · subst z
        have q := hv.symm.trans t.2
        cases q), t.2⟩, DenL.apart hv hN h c (Nat.lt_of_succ_lt hs)⟩
  | .lst tt ds, _, ⟨a, vs, e, hl, ht, ha, h⟩, c, hs => by
    have c' : (tt && freshs ds) = true := c
    rw [Bool.and_eq_true] at c'
    refine ⟨a, vs, e, fun z => ?_, ht, ha, DenL.apart hv hN h c'.2 (Nat.lt_of_succ_lt hs)⟩
    rcases z with z | z
    · exact hl z
    · subst z
      have := hN (.lst tt ds) c ⟨a, vs, rfl, hl, ht, ha, h⟩
      omega
  | .dK _ _, _, _, c, _ => nomatch c
  | .dT _ _, _, _, c, _ => nomatch c
  | .scr _, _, _, c, _ => nomatch c
  | .cst _, _, _, c, _ => nomatch c
theorem DenL.apart (hv : H a0 = some (.lst vs0)) (hN : ∀ e, fresh e = true → Den K H0 L H e (.ref a0) → size e = N) : ∀ {ds : List Dat} {vs : List V}, DenL K H0 L H ds vs → freshs ds = true → sizes ds < N → DenL K H0 (fun b => L b ∨ b = a0) H ds vs
  | [], _, h, _, _ => h
  | d :: ds, _, ⟨v, r, e, h, t⟩, c, hs => by
    have c' : (fresh d && freshs ds) = true := c
    rw [Bool.and_eq_true] at c'
    have hs' : size d + sizes ds < N := hs
    exact ⟨v, r, e, h.apart hv hN c'.1 (by omega), t.apart hv hN c'.2 (by omega)⟩
end
theorem Den.alone {ds : List Dat} {a : Addr} (h : Den K H0 L H (.lst true ds) (.ref a)) (c : freshs ds = true) : ∃ vs, H a = some (.lst vs) ∧ H0 a = none ∧ DenL K H0 (fun b => L b ∨ b = a) H ds vs := by
  obtain ⟨b, vs, e, hl, ht, ha, q⟩ := id h
  cases e
  refine ⟨vs, ha, ht rfl, q.apart (N := sizes ds + 1) ha (fun e c2 g => ?_) c (Nat.lt_succ_self _)⟩
  exact (size_eq g h c2 c)
/-- the list that comes back from a def -/
def lstOf : Dat → Rs (List Dat)
  | .lst true ds => chk (freshs ds) (.ok ds)
  | _ => .no
def ownC (f : DEnv → Rs Dat) (ε : DEnv) : Rs (List Dat) := f ε >>= lstOf
theorem lstOf_to {d : Dat} {P : List Dat → Prop} {E : Str → Prop} (h : (lstOf d).to P E) : ∃ ds, d = .lst true ds ∧ freshs ds = true ∧ P ds := by
  unfold lstOf at h
  split at h
  · obtain ⟨hc, h⟩ := chk_to h
    exact ⟨_, rfl, hc, h⟩
  · exact h.elim
theorem df_call (G : FnOk X.prog X.w X.K X.mg X.base (L2.CX X.prog X.w) k f' fd ps (spD X.K X.mg n F)) (hr : Room k X.A) (hm : X.mg x = some (.ref f')) (hk : PySem.W.keepIn X.K (.ref f') = true) (hb : Binds X.K fd ps [])
    (tk : Takes X W) (ha : DA true X W H0 L (e :: es) fa) (hg : Gl X x := by rfl) (hdb : (x == ("__debug__" : Str)) = false := by decide) (he : starEach (e :: es) X.env = (false, eval e X.env) :: starEach es X.env := by rfl) (hpl : (backTo pos (starEach es X.env)).any (·.1) = false := by rfl) :
    DF X W H0 L (.Call (.Name x p) (e :: es) [] pos) (ownC (callD n F fa)) :=
  peimp (pe_callSD G hr hg hm hk hb .nil (fun σ => passAt tk σ) ha hdb he hpl) fun σ H Q ⟨ε, r, h⟩ => by
    unfold ownC callD at h
    rw [Rs.to_bind, Rs.to_bind] at h
    refine ⟨ε, r, h.imp (fun ds _ hd vs H1 s1 q => ?_) fun n z => z⟩
    obtain ⟨hl, hd⟩ := chk_to hd
    have r1 := r.mono s1
    rw [List.append_nil]
    have q1 := den_pair q
    have hlen : ds.length = n := by simpa using hl
    refine ⟨by rw [← q1.length]; exact hlen, _, olds ds, r1.lo, q1.olds, hd.imp (fun d _ z v H2 s2 dd => ?_) fun c z C dd H2 hm s2 => z C dd H2 hm (s1.trans s2)⟩
    obtain ⟨es, rfl, hc, z⟩ := lstOf_to z
    obtain ⟨a, ws, ev, _⟩ := id dd
    subst ev
    obtain ⟨ws, ha, hn, q2⟩ := Den.alone dd hc
    exact z a ws H2 (s1.trans s2) (s1.free hn) ha (q2.kp .refl r1.good.fr)
end
end DL

set_option maxRecDepth 100000
set_option maxHeartbeats 4000000
/-! DLf: targets, walks, loops, comprehensions, defs. -/
namespace DL
open PySem PySem.Spec PyProof.Rows L2

section
variable {X : Cx} {W : WX} {H0 : Hp} {L : Addr → Prop} {m : Bool} {a b e : Expr} {es : List Expr} {pos : Pos} {f g : DEnv → Rs Dat} {fa : DEnv → Rs (List Dat)} {st : Stmt} {sts body : List Stmt} {fs gs : DEnv → Rs Out}
variable {K : PySem.W.Frag} {mg : Str → Option Value} {σ : L2.St} {H : Hp} {ε : DEnv} {tg iter : Expr} {P : Nat → Prop}
/-! ### targets -/
def tG (P : Nat → Prop) (K : PySem.W.Frag) (H0 : Hp) (L : Addr → Prop) (g : Dat → DEnv → Option DEnv) : TG := fun v σ H Q => ∃ ε d, Rel K H0 L ε σ H ∧ Den K H0 (LO L ε σ) H d v ∧ ∃ ε', g d ε = some ε' ∧
  ∀ σ', Rel K H0 L ε' σ' H → Kp (LO L ε σ) (LO L ε' σ') H H → (∀ j, ¬ P j → σ'[j]? = σ[j]?) → σ'.length = σ.length → Q σ' H
structure DG (P : Nat → Prop) (X : Cx) (H0 : Hp) (L : Addr → Prop) (tg : Expr) (g : Dat → DEnv → Option DEnv) : Prop where
  pg : PG X tg (tG P X.K H0 L g)
  loc : ∀ d ε ε', g d ε = some ε' → ∀ j, ¬ P j → ε'[j]? = ε[j]?
def gN (i : Nat) (d : Dat) (ε : DEnv) : Option DEnv := some (ε.set i (some (false, d)))
theorem dg_name (i : Nat) {x : Str} (hN : X.N.Nodup) (hP : P i) (hi : X.N[i]? = some x := by rfl) (hx : Loc X.env.scope x := by first | exact .inl rfl | exact .inr rfl) (hf : X.fn x = true ∨ X.env.scope.names.lookup x = some .local := by first | exact .inl rfl | exact .inr rfl | assumption) : DG P X H0 L (.Name x pos) (gN i) := by
  refine ⟨?_, fun d ε ε' e j hj => by cases e; exact set_get_ne fun z => hj (by rw [z]; exact hP)⟩
  refine ⟨fun pins s σ H v u Q I r ⟨ε, d, rel, hd, ε', e, h⟩ => ?_⟩
  cases e
  obtain ⟨r1, k1⟩ := rel.setv i hd
  refine (pg_name hN hi hx hf).run pins s σ H v u Q I r (h _ r1 k1 (fun j hj => set_get_ne fun z => hj (by rw [z]; exact hP)) (by rw [List.length_set]))
/-- several names -/
def tGs (P : Nat → Prop) (K : PySem.W.Frag) (H0 : Hp) (L : Addr → Prop) (g : List Dat → DEnv → Option DEnv) : TGs := fun vs σ H Q => ∃ ε ds, Rel K H0 L ε σ H ∧ DenL K H0 (LO L ε σ) H ds vs ∧ ∃ ε', g ds ε = some ε' ∧
  ∀ σ', Rel K H0 L ε' σ' H → Kp (LO L ε σ) (LO L ε' σ') H H → (∀ j, ¬ P j → σ'[j]? = σ[j]?) → σ'.length = σ.length → Q σ' H
structure DGs (P : Nat → Prop) (X : Cx) (H0 : Hp) (L : Addr → Prop) (tg : List Expr) (g : List Dat → DEnv → Option DEnv) : Prop where
  pg : PGs X tg (tGs P X.K H0 L g)
  loc : ∀ d ε ε', g d ε = some ε' → ∀ j, ¬ P j → ε'[j]? = ε[j]?
def gNil' : List Dat → DEnv → Option DEnv
  | [], ε => some ε
  | _, _ => none
def gCons' (g : Dat → DEnv → Option DEnv) (gs : List Dat → DEnv → Option DEnv) : List Dat → DEnv → Option DEnv
  | d :: r, ε => (g d ε).bind (gs r)
  | _, _ => none
theorem dgs_nil : DGs P X H0 L [] gNil' := by
  refine ⟨?_, fun d ε ε' e j hj => by unfold gNil' at e; split at e <;> cases e; rfl⟩
  refine ⟨fun pins s σ H vs us Q I r ⟨ε, ds, rel, hd, ε', e, h⟩ => ?_⟩
  unfold gNil' at e
  split at e
  · cases e
    cases hd
    exact pgs_nil.run pins s σ H [] us Q I r ⟨rfl, h σ rel .refl (fun _ _ => rfl) rfl⟩
  · cases e
theorem dgs_cons {g : Dat → DEnv → Option DEnv} {gs : List Dat → DEnv → Option DEnv} (h1 : DG P X H0 L e g) (h2 : DGs P X H0 L es gs)
    (hs : (assignEach (e :: es) X.env).map (·.2) = assign e X.env :: (assignEach es X.env).map (·.2) := by rfl) : DGs P X H0 L (e :: es) (gCons' g gs) := by
  refine ⟨?_, fun d ε ε' e j hj => by
    unfold gCons' at e
    split at e
    · rename_i d r
      cases hg : g d ε with
      | none => rw [hg] at e; cases e
      | some ε1 => rw [hg] at e; exact (h2.loc _ _ _ e j hj).trans (h1.loc _ _ _ hg j hj)
    · cases e⟩
  refine ⟨fun pins s σ H vs us Q I r ⟨ε, ds, rel, hd, ε', e, h⟩ => ?_⟩
  unfold gCons' at e
  split at e
  · rename_i d r' 
    obtain ⟨v, vr, ev, q1, q2⟩ := hd
    subst ev
    cases hg : g d ε with
    | none => rw [hg] at e; cases e
    | some ε1 =>
      rw [hg] at e
      refine (pgs_cons h1.pg h2.pg hs).run pins s σ H _ us Q I r ⟨v, vr, rfl, ε, d, rel, q1, ε1, hg, fun σ1 r1 k1 j1 l1 => ⟨ε1, r', r1, q2.kp k1 fun _ z => z, ε', e, fun σ2 r2 k2 j2 l2 => h σ2 r2 (k1.trans k2) (fun j hj => (j2 j hj).trans (j1 j hj)) (l2.trans l1)⟩⟩
  · cases e
def gT (gs : List Dat → DEnv → Option DEnv) : Dat → DEnv → Option DEnv
  | .tup ds, ε => gs ds ε
  | _, _ => none
/-- how many names: told by the length that gs takes -/
theorem dg_tup {k n : Nat} {gs : List Dat → DEnv → Option DEnv} (hc : X.calm = true) (h : DGs P X H0 L es gs) (hl : ∀ ds ε ε', gs ds ε = some ε' → ds.length = n)
    (hn : (assignEach es X.env).length = n := by rfl) (hst : (assignEach es X.env).findIdx? (·.1) = none := by rfl) : DG P X H0 L (.Tuple es k pos) (gT gs) := by
  refine ⟨?_, fun d ε ε' e j hj => by
    unfold gT at e
    split at e
    · exact h.loc _ _ _ e j hj
    · cases e⟩
  refine ⟨fun pins s σ H v u Q I r ⟨ε, d, rel, hd, ε', e, h2⟩ => ?_⟩
  unfold gT at e
  split at e
  · obtain ⟨a, vs, ev, t, q⟩ := hd
    exact (pg_tup hc h.pg hn hst).run pins s σ H v u Q I r ⟨a, vs, ev, t.sq, by rw [← q.length]; exact hl _ _ _ e, ε, _, rel, q, ε', e, h2⟩
  · cases e
theorem gl_nil : ∀ ds ε ε', gNil' ds ε = some ε' → ds.length = 0 := fun ds ε ε' h => by
  unfold gNil' at h
  split at h
  · rfl
  · cases h
theorem gl_cons {n : Nat} {g : Dat → DEnv → Option DEnv} {gs : List Dat → DEnv → Option DEnv} (h : ∀ ds ε ε', gs ds ε = some ε' → ds.length = n) : ∀ ds ε ε', gCons' g gs ds ε = some ε' → ds.length = n + 1 := fun ds ε ε' e => by
  unfold gCons' at e
  split at e
  · rename_i d r
    cases hg : g d ε with
    | none => rw [hg] at e; cases e
    | some ε1 => rw [hg] at e; exact congrArg (· + 1) (h _ _ _ e)
  · cases e
/-- target = value -/
def asgD (g : Dat → DEnv → Option DEnv) (f : DEnv → Rs Dat) (ε : DEnv) : Rs Out := f ε >>= fun d => Rs.of (g d ε) >>= fun ε' => .ok (.nx ε')
theorem ds_asg {g : Dat → DEnv → Option DEnv} (he : DE true X W H0 L e f) (hg : DG (fun _ => True) X H0 L tg g) (hs : swapsWithSole [tg] e pos.line X.env = pure false := by rfl) (hw : swappedStores [tg] e X.env = pure none := by rfl)
    (h1 : (assignEach [tg] X.env).map (·.2) = [assign tg X.env] := by rfl) : DS X W H0 L (.Assign [tg] e pos) (asgD g f) :=
  psimp (ps_asg he hg.pg hs hw h1) fun D σ H h => tD.expr (m := true) h fun ε d v H' r q h => by
    rw [Rs.to_bind] at h
    obtain ⟨ε', e, h⟩ := Rs.to_of h
    exact ⟨ε, d, r, q, ε', e, fun σ' r' k _ _ => h σ' H' r' k⟩

/-! ### walks -/
structure Wlk (m : Bool) (K : PySem.W.Frag) (H0 : Hp) (LL : Addr → Prop) (H : Hp) (J : It) (ds : List Dat) : Prop where
  run : ∀ LL2 H2, Good H0 LL2 LL2 H2 → Kp LL LL2 H H2 → (m = false → Same H H2) → ∀ i, (∀ d, ds[i]? = some d → J.go i H2 ∧ ∀ x H3, J.yld i H2 x H3 → Same H2 H3 ∧ Den K H0 LL2 H3 d x) ∧ (ds.length ≤ i → J.stop i H2)
def tI (m : Bool) (K : PySem.W.Frag) (mg : Str → Option Value) (W : WX) (H0 : Hp) (L : Addr → Prop) (w : DEnv → Rs (List Dat)) : TI := fun σ H R => ∃ ε, Rel K H0 L ε σ H ∧
  (w ε).to (fun ds => ∀ J H', Same H H' → Wlk m K H0 (LO L ε σ) H' J ds → R J H') (XW mg W σ H)
def DI (m : Bool) (X : Cx) (W : WX) (H0 : Hp) (L : Addr → Prop) (tg iter : Expr) (w : DEnv → Rs (List Dat)) : Prop := PI X tg iter (tI m X.K X.mg W H0 L w)
theorem piimp {t t' : TI} (h : PI X tg iter t) (k : ∀ σ H R, t' σ H R → t σ H R) : PI X tg iter t' := ⟨fun pins s σ H R I q => h.run pins s σ H R I (k σ H R q)⟩
theorem pior {t t' : TI} (h : PI X tg iter t) (h' : PI X tg iter t') : PI X tg iter (fun σ H R => t σ H R ∨ t' σ H R) :=
  ⟨fun pins s σ H R I q => q.elim (h.run pins s σ H R I) (h'.run pins s σ H R I)⟩
theorem peor {t t' : TE} (h : PE X e t) (h' : PE X e t') : PE X e (fun σ H Q => t σ H Q ∨ t' σ H Q) :=
  ⟨fun pins s σ H Q I q => q.elim (h.run pins s σ H Q I) (h'.run pins s σ H Q I)⟩
/-- the operand's value known ahead: for two rules of one expression -/
theorem tE.alt {f : DEnv → Rs Dat} {Q : VK} {A B : VK} (h : tE m K mg W H0 L f σ H Q) : True := trivial
def asL : Dat → Rs (List Dat)
  | .lst _ ds => .ok ds
  | _ => .no
def asT : Dat → Rs (List Dat)
  | .tup ds => .ok ds
  | _ => .no
theorem wlk_list {LL : Addr → Prop} {p : Addr} {ds : List Dat} {vs : List V} (hp : H p = some (.lst vs)) (hl : m = true → ¬ LL p) (q : DenL K H0 LL H ds vs) : Wlk m K H0 LL H (Itl K p) ds := ⟨fun LL2 H2 g k s i => by
  have hp2 : H2 p = some (.lst vs) := by
    cases m with
    | true => exact (k p _ (hl rfl) hp).2
    | false => exact s rfl _ _ hp
  have hS : SqL K H2 p vs := .of hp2
  refine ⟨fun d hd => ?_, fun hi => ⟨vs, hS, by rw [← q.length]; exact hi⟩⟩
  obtain ⟨v, hv, qd⟩ := q.get hd
  refine ⟨⟨vs, v, hS, hv⟩, fun x H3 ⟨e, y⟩ => ?_⟩
  subst e
  have : v = x := Option.some.inj (hv.symm.trans (y vs hS))
  subst this
  exact ⟨Same.refl _, qd.kp k fun _ z => z⟩⟩
theorem wlk_tup {LL : Addr → Prop} {p : Addr} {ds : List Dat} {vs : List V} (hp : H p = some (.tup vs)) (hl : ¬ LL p) (q : DenL K H0 LL H ds vs) : Wlk m K H0 LL H (Itt K p) ds := ⟨fun LL2 H2 g k s i => by
  have hp2 : H2 p = some (.tup vs) := (k p _ hl hp).2
  have hS : SqT K H2 p vs := .of hp2
  refine ⟨fun d hd => ?_, fun hi => ⟨vs, hS, by rw [← q.length]; exact hi⟩⟩
  obtain ⟨v, hv, qd⟩ := q.get hd
  refine ⟨⟨vs, v, hS, hv⟩, fun x H3 ⟨e, y⟩ => ?_⟩
  subst e
  have : v = x := Option.some.inj (hv.symm.trans (y vs hS))
  subst this
  exact ⟨Same.refl _, qd.kp k fun _ z => z⟩⟩
def walkD (f : DEnv → Rs Dat) (ε : DEnv) : Rs (List Dat) := f ε >>= asL
def walkT (f : DEnv → Rs Dat) (ε : DEnv) : Rs (List Dat) := f ε >>= asT
theorem di_list (he : DE m X W H0 L e f) : DI m X W H0 L tg e (walkD f) :=
  piimp (pi_list he) fun σ H R ⟨ε, r, h⟩ => by
    unfold walkD at h
    rw [Rs.to_bind] at h
    refine ⟨ε, r, h.imp (fun d _ hd v H1 s1 q => ?_) fun n z => z⟩
    cases d with
    | lst t ds =>
      cases m with
      | true =>
        obtain ⟨a, vs, ev, hl, ht, ha, q⟩ := q
        exact ⟨a, ev, ⟨vs, .of ha⟩, hd _ _ s1 (wlk_list ha (fun _ => hl) q)⟩
      | false =>
        obtain ⟨a, vs, ev, hl, ht, ha, q⟩ := q
        exact ⟨a, ev, ⟨vs, .of ha⟩, hd _ _ s1 (wlk_list ha (fun z => nomatch z) q)⟩
    | _ => exact hd.elim
theorem di_tup (he : DE m X W H0 L e f) : DI m X W H0 L tg e (walkT f) :=
  piimp (pi_tup he) fun σ H R ⟨ε, r, h⟩ => by
    unfold walkT at h
    rw [Rs.to_bind] at h
    refine ⟨ε, r, h.imp (fun d _ hd v H1 s1 q => ?_) fun n z => z⟩
    cases d with
    | tup ds =>
      have q' : Den X.K H0 (LO L ε σ) H1 (.tup ds) v := by cases m <;> exact q
      obtain ⟨a, vs, ev, ha, q⟩ := q'
      exact ⟨a, ev, ⟨vs, .of ha.2⟩, hd _ _ s1 (wlk_tup ha.2 ha.1 q)⟩
    | _ => exact hd.elim
def rng (lo : Int) (n : Nat) : List Dat := (List.range n).map fun (i : Nat) => Dat.int (lo + i)
theorem wlk_rng {LL : Addr → Prop} {lo : Int} {n : Nat} : Wlk m K H0 LL H (Itr lo n) (rng lo n) := ⟨fun LL2 H2 g k s i => by
  refine ⟨fun d hd => ?_, fun hi => by simpa [rng, Itr] using hi⟩
  unfold rng at hd
  rw [List.getElem?_map] at hd
  by_cases hi : i < n
  · rw [List.getElem?_range hi] at hd
    cases hd
    exact ⟨hi, fun x H3 ⟨e, y⟩ => by subst e; exact ⟨Same.refl _, y⟩⟩
  · rw [List.getElem?_eq_none (by simp; omega)] at hd
    cases hd⟩
noncomputable def inR (i : Int) : Bool := cls (-(2 ^ 62) ≤ i ∧ i < 2 ^ 62)
theorem inR_true {i : Int} (h : -(2 ^ 62) ≤ i) (h2 : i < 2 ^ 62) : DL.inR i = true := cls_true ⟨h, h2⟩
noncomputable def asR1 : List Dat → Rs (List Dat)
  | [.int j] => chk (DL.inR j) (.ok (rng 0 j.toNat))
  | _ => .no
noncomputable def asR2 : List Dat → Rs (List Dat)
  | [.int i, .int j] => chk (DL.inR i && DL.inR j) (.ok (rng i (j - i).toNat))
  | _ => .no
def rngD (f : List Dat → Rs (List Dat)) (fa : DEnv → Rs (List Dat)) (ε : DEnv) : Rs (List Dat) := fa ε >>= f
theorem pair1 {LL : Addr → Prop} {d : Dat} {vs : List V} (h : Paired (DM m K H0 L LL H) [d] vs) : ∃ v, vs = [v] ∧ DM m K H0 L LL H d v := by
  cases h with
  | cons h t => cases t; exact ⟨_, rfl, h⟩
theorem pair2 {LL : Addr → Prop} {d e : Dat} {vs : List V} (h : Paired (DM m K H0 L LL H) [d, e] vs) : ∃ v w, vs = [v, w] ∧ DM m K H0 L LL H d v ∧ DM m K H0 L LL H e w := by
  cases h with
  | cons h t => obtain ⟨w, ev, t2⟩ := pair1 t; subst ev; exact ⟨_, _, rfl, h, t2⟩
theorem inR_ok {i : Int} (h : DL.inR i = true) : -(2 ^ 62) ≤ i ∧ i < 2 ^ 62 := cls_ok h
theorem di_range1 {p : Pos} (hm : X.mg "range" = none) (ha : DA false X W H0 L [a] fa) (hg : Gl X "range" := by rfl) (hs : starEach [a] X.env = [(false, eval a X.env)] := by rfl) : DI m X W H0 L tg (.Call (.Name "range" p) [a] [] pos) (rngD asR1 fa) :=
  piimp (pi_range1 hg hm ha hs) fun σ H R ⟨ε, r, h⟩ => by
    unfold rngD at h
    rw [Rs.to_bind] at h
    refine ⟨ε, r, h.imp (fun ds _ hd vs H1 s1 q => ?_) fun n z => z⟩
    unfold asR1 at hd
    split at hd
    · obtain ⟨hz, hd⟩ := chk_to hd
      obtain ⟨v, rfl, q1⟩ := pair1 q
      have q1 : v = _ := q1
      subst q1
      exact ⟨_, rfl, (inR_ok hz).1, (inR_ok hz).2, hd _ _ s1 wlk_rng⟩
    · exact hd.elim
theorem di_range2 {p : Pos} (hm : X.mg "range" = none) (ha : DA false X W H0 L [a, b] fa) (hg : Gl X "range" := by rfl) (hs : starEach [a, b] X.env = [(false, eval a X.env), (false, eval b X.env)] := by rfl) (hs2 : starEach [b] X.env = [(false, eval b X.env)] := by rfl) : DI m X W H0 L tg (.Call (.Name "range" p) [a, b] [] pos) (rngD asR2 fa) :=
  piimp (pi_range2 hg hm ha hs hs2) fun σ H R ⟨ε, r, h⟩ => by
    unfold rngD at h
    rw [Rs.to_bind] at h
    refine ⟨ε, r, h.imp (fun ds _ hd vs H1 s1 q => ?_) fun n z => z⟩
    unfold asR2 at hd
    split at hd
    · obtain ⟨hz, hd⟩ := chk_to hd
      rw [Bool.and_eq_true] at hz
      obtain ⟨v, w, rfl, q1, q2⟩ := pair2 q
      have q1 : v = _ := q1
      have q2 : w = _ := q2
      subst q1 q2
      exact ⟨_, _, rfl, ⟨(inR_ok hz.1).1, (inR_ok hz.1).2, (inR_ok hz.2).1, (inR_ok hz.2).2⟩, hd _ _ s1 wlk_rng⟩
    · exact hd.elim

/-! ### for -/
def forD (body : Dat → DEnv → Rs Out) : List Dat → DEnv → Rs Out
  | [], ε => .ok (.nx ε)
  | d :: r, ε => body d ε >>= fun o => match o with
    | .nx ε' => forD body r ε'
    | .ct ε' => forD body r ε'
    | .bk ε' => .ok (.nx ε')
    | .rt d => .ok (.rt d)
def trn (g : Dat → DEnv → Option DEnv) (fs : DEnv → Rs Out) (d : Dat) (ε : DEnv) : Rs Out := Rs.of (g d ε) >>= fs
def loopD (w : DEnv → Rs (List Dat)) (body : Dat → DEnv → Rs Out) (ε : DEnv) : Rs Out := w ε >>= fun ds => forD body ds ε
theorem ds_for {w : DEnv → Rs (List Dat)} {g : Dat → DEnv → Option DEnv} (hc : X.calm = true) (hp : PassesOwn (model X.prog X.w) X.A X.env X.xe) (hi : DI true X W H0 L tg iter w) (hg : DG (fun _ => True) X H0 L tg g) (hb : DSs X W H0 L body fs)
    (hs : ∀ x, foldedSetIterable iter X.env x = pure x := by intro _; rfl) : DS X W H0 L (.For tg iter body [] pos) (loopD w (trn g fs)) :=
  psimp (ps_for hp hc hi hg.pg hb hs) fun D σ H ⟨ε, r, h⟩ => by
    unfold loopD at h
    rw [Rs.to_bind] at h
    refine ⟨ε, r, h.imp (fun ds _ hd J H1 s1 wk => ?_) fun n z => z.w r.same⟩
    refine ⟨fun i m σ2 H2 => m = ds.length - i ∧ i ≤ ds.length ∧ ∃ ε2, Rel X.K H0 L ε2 σ2 H2 ∧ Kp (LO L ε σ) (LO L ε2 σ2) H1 H2 ∧ (forD (trn g fs) (ds.drop i) ε2).to (OutP X.K H0 L (LO L ε2 σ2) H2 D) (XS X.mg W H0),
      ⟨ds.length, by simp, Nat.zero_le _, ε, r.mono s1, .refl, hd.imp (fun o _ z => z.mono (.same s1)) fun n z => z⟩, ?_⟩
    rintro i m σ2 H2 ⟨rfl, hi, ε2, r2, k2, h2⟩
    have wi := wk.run (LO L ε2 σ2) H2 ⟨fun _ z => z, r2.lo, r2.good.fr⟩ k2 (fun z => nomatch z) i
    by_cases hlt : i < ds.length
    · have hdi : ds[i]? = some ds[i] := List.getElem?_eq_getElem hlt
      have hdrop : ds.drop i = ds[i] :: ds.drop (i + 1) := List.drop_eq_getElem_cons hlt
      rw [hdrop] at h2
      have h2 : (trn g fs ds[i] ε2 >>= fun o => match o with
        | .nx ε' => forD (trn g fs) (ds.drop (i + 1)) ε'
        | .ct ε' => forD (trn g fs) (ds.drop (i + 1)) ε'
        | .bk ε' => .ok (.nx ε')
        | .rt d => .ok (.rt d)).to _ _ := h2
      unfold trn at h2
      rw [Rs.to_bind, Rs.to_bind] at h2
      obtain ⟨ε3, he3, h3⟩ := Rs.to_of h2
      obtain ⟨go, yl⟩ := wi.1 _ hdi
      refine .inr ⟨go, fun σ' H' => ∃ ε2, Rel X.K H0 L ε2 σ' H' ∧ Kp (LO L ε σ) (LO L ε2 σ') H1 H' ∧ (forD (trn g fs) (ds.drop (i + 1)) ε2).to (OutP X.K H0 L (LO L ε2 σ') H' D) (XS X.mg W H0),
        fun σ' H' z => ⟨ds.length - (i + 1), by omega, rfl, hlt, z⟩, fun x H3 hy => ?_⟩
      obtain ⟨s3, q3⟩ := yl x H3 hy
      have r3 := r2.mono s3
      refine ⟨ε2, _, r3, q3, ε3, he3, fun σ4 r4 k4 _ _ => ⟨ε3, r4, h3.imp (fun o _ ho => ?_) fun n z => z⟩⟩
      have kk : Kp (LO L ε2 σ2) (LO L ε3 σ4) H2 H3 := (Kp.same s3).trans k4
      cases o with
      | nx ε' => exact fun σ5 H5 r5 k5 => ⟨ε', r5, k2.trans (kk.trans k5), (show (forD (trn g fs) (ds.drop (i + 1)) ε').to _ _ from ho).imp (fun o _ z => z.mono (kk.trans k5)) fun n z => z⟩
      | ct ε' => exact fun σ5 H5 r5 k5 => ⟨ε', r5, k2.trans (kk.trans k5), (show (forD (trn g fs) (ds.drop (i + 1)) ε').to _ _ from ho).imp (fun o _ z => z.mono (kk.trans k5)) fun n z => z⟩
      | bk ε' => exact fun σ5 H5 r5 k5 => ho σ5 H5 r5 (kk.trans k5)
      | rt d => exact ho
    · have e : i = ds.length := by omega
      subst e
      rw [List.drop_length] at h2
      exact .inl ⟨wi.2 (Nat.le_refl _), h2 σ2 H2 r2 .refl⟩

/-! ### while -/
def whileD (c : DEnv → Rs Bool) (fs : DEnv → Rs Out) : Nat → DEnv → Rs Out
  | 0, _ => .no
  | n + 1, ε => c ε >>= fun b => if b = true then (fs ε >>= fun o => match o with
      | .nx ε' => whileD c fs n ε'
      | .ct ε' => whileD c fs n ε'
      | .bk ε' => .ok (.nx ε')
      | .rt d => .ok (.rt d)) else .ok (.nx ε)
theorem ds_while (n : Nat) {c : DEnv → Rs Bool} (hp : PassesOwn (model X.prog X.w) X.A X.env X.xe) (hc : DT X W H0 L e c) (hb : DSs X W H0 L body fs) : DS X W H0 L (.While e body [] pos) (whileD c fs n) :=
  psimp (ps_while hp hc hb) fun D σ H ⟨ε, r, h⟩ => by
    refine ⟨fun m σ2 H2 => ∃ ε2, Rel X.K H0 L ε2 σ2 H2 ∧ (whileD c fs m ε2).to (OutP X.K H0 L (LO L ε2 σ2) H2 D) (XS X.mg W H0), ⟨n, ε, r, h⟩, ?_⟩
    rintro m σ2 H2 ⟨ε2, r2, h2⟩
    cases m with
    | zero => exact h2.elim
    | succ m =>
      unfold whileD at h2
      rw [Rs.to_bind] at h2
      refine ⟨ε2, r2, h2.imp (fun b _ hb H3 s3 => ?_) fun n z => z.w r2.same⟩
      have r3 := r2.mono s3
      cases b with
      | true =>
        have hb : (fs ε2 >>= fun o => match o with
          | .nx ε' => whileD c fs m ε'
          | .ct ε' => whileD c fs m ε'
          | .bk ε' => .ok (.nx ε')
          | .rt d => .ok (.rt d)).to _ _ := hb
        rw [Rs.to_bind] at hb
        refine ⟨fun σ' H' => ∃ ε2, Rel X.K H0 L ε2 σ' H' ∧ (whileD c fs m ε2).to (OutP X.K H0 L (LO L ε2 σ') H' D) (XS X.mg W H0), fun σ' H' z => ⟨m, Nat.lt_succ_self _, z⟩, ε2, r3, hb.imp (fun o _ ho => ?_) fun n z => z⟩
        have kk : Kp (LO L ε2 σ2) (LO L ε2 σ2) H2 H3 := .same s3
        cases o with
        | nx ε' => exact fun σ5 H5 r5 k5 => ⟨ε', r5, (show (whileD c fs m ε').to _ _ from ho).imp (fun o _ z => z.mono (kk.trans k5)) fun n z => z⟩
        | ct ε' => exact fun σ5 H5 r5 k5 => ⟨ε', r5, (show (whileD c fs m ε').to _ _ from ho).imp (fun o _ z => z.mono (kk.trans k5)) fun n z => z⟩
        | bk ε' => exact fun σ5 H5 r5 k5 => ho σ5 H5 r5 (kk.trans k5)
        | rt d => exact ho
      | false => exact hb σ2 H3 r3 (.same s3)
end
end DL

set_option maxRecDepth 100000
set_option maxHeartbeats 4000000
/-! DLg: comprehensions, defs. -/
namespace DL
open PySem PySem.Spec PyProof.Rows L2

/-! ### comprehensions -/
def wipeD (ε : DEnv) : List Nat → DEnv
  | [] => ε
  | v :: vs => (wipeD ε vs).set v none
def noOwn (ε : DEnv) : List Nat → Bool
  | [] => true
  | v :: vs => (match ε[v]? with | some (some (true, _)) => false | _ => true) && noOwn ε vs
def Rs.nox {α : Type} : Rs α → Rs α
  | .ok a => .ok a
  | _ => .no
@[simp] theorem Rs.nox_ok {α : Type} (a : α) : (Rs.ok a).nox = .ok a := rfl
def compL (F : Dat → Rs (Option Dat)) : List Dat → Rs (List Dat)
  | [] => .ok []
  | d :: r => F d >>= fun o => compL F r >>= fun zs => .ok (match o with | some z => z :: zs | none => zs)
def compT (g : Dat → DEnv → Option DEnv) (c : DEnv → Rs Bool) (fe : DEnv → Rs Dat) (ε : DEnv) (d : Dat) : Rs (Option Dat) :=
  Rs.of (g d ε) >>= fun ε2 => (c ε2).nox >>= fun b => if b = true then (fe ε2).nox >>= fun z => .ok (some z) else .ok none
noncomputable def compD (w : DEnv → Rs (List Dat)) (g : Dat → DEnv → Option DEnv) (c : DEnv → Rs Bool) (fe : DEnv → Rs Dat) (vs : List Nat) (ε : DEnv) : Rs (List Dat) :=
  w ε >>= fun ds => chk (sz ds.length && noOwn ε vs) (compL (compT g c fe (wipeD ε vs)) ds)
abbrev W0 : WX := fun _ _ _ _ => False
def DTs (X : Cx) (W : WX) (H0 : Hp) (L : Addr → Prop) (es : List Expr) (f : DEnv → Rs Bool) : Prop := PTs X es (tT X.K X.mg W H0 L f)
def yesT (_ : DEnv) : Rs Bool := .ok true

section
variable {K : PySem.W.Frag} {H0 H H1 H2 : Hp} {L LL : Addr → Prop} {ε : DEnv} {σ : L2.St} {D : Addr}
theorem wipeD_get {i : Nat} {x : Bool × Dat} : ∀ {vs : List Nat}, (wipeD ε vs)[i]? = some (some x) → ε[i]? = some (some x) ∧ i ∉ vs
  | [], h => ⟨h, by simp⟩
  | v :: vs, h => by
    unfold wipeD at h
    rcases get_set _ _ _ _ _ h with ⟨_, _, z⟩ | ⟨hj, e⟩
    · cases z
    · obtain ⟨h1, h2⟩ := wipeD_get e
      exact ⟨h1, by simp only [List.mem_cons, not_or]; exact ⟨hj, h2⟩⟩
theorem wipeD_out {i : Nat} : ∀ {vs : List Nat}, i ∉ vs → (wipeD ε vs)[i]? = ε[i]?
  | [], _ => rfl
  | v :: vs, h => by
    simp only [List.mem_cons, not_or] at h
    unfold wipeD
    rw [set_get_ne h.1, wipeD_out h.2]
theorem wipe_out' {i : Nat} : ∀ {vs : List Nat}, i ∉ vs → (wipe σ vs)[i]? = σ[i]?
  | [], _ => rfl
  | v :: vs, h => by
    simp only [List.mem_cons, not_or] at h
    unfold wipe
    rw [set_get_ne h.1, wipe_out' h.2]
theorem wipeD_length : ∀ vs : List Nat, (wipeD ε vs).length = ε.length
  | [] => rfl
  | v :: vs => by unfold wipeD; rw [List.length_set, wipeD_length vs]
theorem noOwn_not {i : Nat} {d : Dat} : ∀ {vs : List Nat}, noOwn ε vs = true → ε[i]? = some (some (true, d)) → i ∉ vs
  | [], _, _ => by simp
  | v :: vs, h, e => by
    unfold noOwn at h
    rw [Bool.and_eq_true] at h
    simp only [List.mem_cons, not_or]
    refine ⟨fun z => ?_, noOwn_not h.2 e⟩
    rw [← z, e] at h
    exact Bool.false_ne_true h.1
theorem Rel.block (r : Rel K H0 L ε σ H) {vs : List Nat} (hv : noOwn ε vs = true) (hs : Same H H2) (hD : H D = none) (hD2 : H2 D ≠ none) :
    Rel K H0 (fun b => L b ∨ b = D) (wipeD ε vs) (wipe σ vs) H2 ∧ ∀ b, LO (fun b => L b ∨ b = D) (wipeD ε vs) (wipe σ vs) b ↔ LO L ε σ b ∨ b = D := by
  have hlo : ∀ b, LO (fun b => L b ∨ b = D) (wipeD ε vs) (wipe σ vs) b ↔ LO L ε σ b ∨ b = D := fun b => by
    constructor
    · rintro ((h | h) | ⟨i, d, e1, e2⟩)
      · exact .inl (.inl h)
      · exact .inr h
      · obtain ⟨e3, h3⟩ := wipeD_get e1
        rw [wipe_out' h3] at e2
        exact .inl (.inr ⟨i, d, e3, e2⟩)
    · rintro ((h | ⟨i, d, e1, e2⟩) | h)
      · exact .inl (.inl h)
      · have h3 := noOwn_not hv e1
        exact .inr ⟨i, d, by rw [wipeD_out h3]; exact e1, by rw [wipe_out' h3]; exact e2⟩
      · exact .inl (.inr h)
  have kp : Kp (LO L ε σ) (LO (fun b => L b ∨ b = D) (wipeD ε vs) (wipe σ vs)) H H2 := fun b o n e => ⟨(by
    intro z
    rcases (hlo b).mp z with z | z
    · exact n z
    · rw [z, hD] at e
      cases e), hs _ _ e⟩
  refine ⟨⟨r.same.trans hs, fun b h => ?_, by rw [wipeD_length, wipe_length]; exact r.len, fun i d e => ?_, fun i d e => ?_, fun i j d e a e1 e2 e3 e4 => ?_⟩, hlo⟩
  · rcases h with h | h
    · exact fun z => r.trk b h (hs.free z)
    · rw [h]; exact hD2
  · obtain ⟨e1, h1⟩ := wipeD_get e
    obtain ⟨v, e2, q⟩ := r.val i d e1
    exact ⟨v, by rw [wipe_out' h1]; exact e2, q.kp kp fun _ z => z⟩
  · obtain ⟨e1, h1⟩ := wipeD_get e
    obtain ⟨a, e2, h0, hl, q⟩ := r.own i d e1
    refine ⟨a, by rw [wipe_out' h1]; exact e2, h0, fun z => ?_, q.kp kp (fun _ z => z) fun o z => hs _ _ z⟩
    rcases z with z | z
    · exact hl z
    · obtain ⟨o, eo, _⟩ := q.there
      rw [z, hD] at eo
      cases eo
  · obtain ⟨f1, h1⟩ := wipeD_get e1
    obtain ⟨f2, h2⟩ := wipeD_get e2
    rw [wipe_out' h1] at e3
    rw [wipe_out' h2] at e4
    exact r.uni i j d e a f1 f2 e3 e4
theorem wipe_eq {σ' : L2.St} {vs : List Nat} (h : ∀ j, j ∉ vs → σ'[j]? = σ[j]?) (hl : σ'.length = σ.length) : wipe σ' vs = wipe σ vs := by
  apply List.ext_getElem?
  intro j
  by_cases hj : j ∈ vs
  · have go : ∀ (τ : L2.St) (ws : List Nat), j ∈ ws → (wipe τ ws)[j]? = if j < τ.length then some none else none := by
      intro τ ws
      induction ws with
      | nil => intro h; cases h
      | cons v ws ih =>
        intro h
        unfold wipe
        rw [List.getElem?_set]
        by_cases e : v = j
        · rw [if_pos e]
          have : (wipe τ ws).length = τ.length := wipe_length τ ws
          rw [this, e]
        · rw [if_neg e]
          exact ih ((List.mem_cons.mp h).resolve_left fun z => e z.symm)
    rw [go σ' vs hj, go σ vs hj, hl]
  · rw [wipe_out' hj, wipe_out' hj]
    exact h j hj
end

section
variable {X : Cx} {W : WX} {H0 : Hp} {L : Addr → Prop} {m : Bool} {a b e : Expr} {es : List Expr} {pos : Pos} {f fe : DEnv → Rs Dat} {fa w : DEnv → Rs (List Dat)} {c : DEnv → Rs Bool} {g : Dat → DEnv → Option DEnv} {tg iter elt : Expr} {ifs : List Expr} {scope : Scope} {own : List (Str × Nat)}
theorem dts_nil : DTs X W H0 L [] yesT := ⟨fun pins s σ H Q I ⟨ε, r, h⟩ => pts_nil.run pins s σ H Q I (h H (Same.refl H))⟩
theorem dts_one (h : DT X W H0 L e c) : DTs X W H0 L [e] c := pts_one h
theorem nox_to {α : Type} {x : Rs α} {P : α → Prop} {E E' : Str → Prop} (h : (x.nox).to P E) : x.to P E' := by
  cases x with
  | ok a => exact h
  | ex n => exact h.elim
  | no => exact h.elim
theorem pgex {t : (Addr → Prop) → TG} (h : ∀ L, PG X tg (t L)) : PG X tg (fun v σ H Q => ∃ L, t L v σ H Q) := ⟨fun pins s σ H v u Q I r ⟨L, q⟩ => (h L).run pins s σ H v u Q I r q⟩
theorem peex {t : (Addr → Prop) → TE} (h : ∀ L, PE X e (t L)) : PE X e (fun σ H Q => ∃ L, t L σ H Q) := ⟨fun pins s σ H Q I ⟨L, q⟩ => (h L).run pins s σ H Q I q⟩
theorem ptsex {t : (Addr → Prop) → TT} (h : ∀ L, PTs X es (t L)) : PTs X es (fun σ H Q => ∃ L, t L σ H Q) := ⟨fun pins s σ H Q I ⟨L, q⟩ => (h L).run pins s σ H Q I q⟩
theorem lc_use {K : PySem.W.Frag} {mg : Str → Option Value} {σ : L2.St} {H : Hp} {Q : VK} {vs : List Nat} (hloc : ∀ d ε ε', g d ε = some ε' → ∀ j, ¬ j ∈ vs → ε'[j]? = ε[j]?) (h : tF K mg W H0 L (compD w g c fe vs) σ H Q) :
    tLc (tI false K mg W H0 L w) (fun v σ H Q => ∃ L, tG (fun j => j ∈ vs) K H0 L g v σ H Q) (fun σ H Q => ∃ L, tT K mg W0 H0 L c σ H Q) (fun σ H Q => ∃ L, tE true K mg W0 H0 L fe σ H Q) vs σ H Q := by
  obtain ⟨ε, r, h⟩ := h
  unfold compD at h
  rw [Rs.to_bind] at h
  refine ⟨ε, r, h.imp (fun ds _ hd J H1 s1 wk D hD => ?_) fun n z => z⟩
  obtain ⟨hz, hd⟩ := chk_to hd
  rw [Bool.and_eq_true] at hz
  have hsz := sz_ok hz.1
  have hHD : H D = none := s1.free hD
  refine ⟨fun i m H2 => m = ds.length - i ∧ i ≤ ds.length ∧ Same H1 H2 ∧ ∃ acc dacc, H2 D = some (.lst acc) ∧ acc.length ≤ i ∧ DenL K H0 (fun b => LO L ε σ b ∨ b = D) H2 dacc acc ∧
      (compL (compT g c fe (wipeD ε vs)) (ds.drop i)).to (fun zs => ∀ a us H', Same H H' → H a = none → H' a = some (.lst us) → DenL K H0 (fun b => LO L ε σ b ∨ b = a) H' (dacc ++ zs) us → Q (.ref a) H') (XW mg W σ H),
    ⟨ds.length, by simp, Nat.zero_le _, same_new hD, [], [], upd_same, Nat.le_refl _, rfl, hd⟩, ?_⟩
  rintro i m H2 ⟨rfl, hi, s2, acc, dacc, hacc, hlen, dden, h2⟩
  have hH2 : Same H H2 := s1.trans s2
  have good : ∀ {H3 : Hp}, Same H2 H3 → Good H0 (fun b => LO L ε σ b ∨ b = D) (fun b => LO L ε σ b ∨ b = D) H3 := fun {H3} s3 => ⟨fun _ z => z, (by
    intro b z e
    rcases z with z | z
    · exact r.lo b z ((hH2.trans s3).free e)
    · rw [z, s3 _ _ hacc] at e
      cases e), fun b e => r.same.free ((hH2.trans s3).free e)⟩
  have wi := wk.run (fun b => LO L ε σ b ∨ b = D) H2 (good (Same.refl _)) (kp_or s2 hD) (fun _ => s2) i
  by_cases hlt : i < ds.length
  · have hdi : ds[i]? = some ds[i] := List.getElem?_eq_getElem hlt
    have hdrop : ds.drop i = ds[i] :: ds.drop (i + 1) := List.drop_eq_getElem_cons hlt
    rw [hdrop] at h2
    unfold compL at h2
    rw [Rs.to_bind] at h2
    unfold compT at h2
    rw [Rs.to_bind] at h2
    obtain ⟨ε2, he2, h3⟩ := Rs.to_of h2
    rw [Rs.to_bind] at h3
    obtain ⟨go, yl⟩ := wi.1 _ hdi
    refine .inr ⟨go, fun H' => Same H1 H' ∧ ∃ acc dacc, H' D = some (.lst acc) ∧ acc.length ≤ i + 1 ∧ DenL K H0 (fun b => LO L ε σ b ∨ b = D) H' dacc acc ∧
      (compL (compT g c fe (wipeD ε vs)) (ds.drop (i + 1))).to (fun zs => ∀ a us H', Same H H' → H a = none → H' a = some (.lst us) → DenL K H0 (fun b => LO L ε σ b ∨ b = a) H' (dacc ++ zs) us → Q (.ref a) H') (XW mg W σ H),
      fun H' z => ⟨ds.length - (i + 1), by omega, rfl, hlt, z⟩, fun x H3 hy => ?_⟩
    obtain ⟨s3, q3⟩ := yl x H3 hy
    have hD3 : H3 D = some (.lst acc) := s3 _ _ hacc
    obtain ⟨r3, lo3⟩ := r.block hz.2 (hH2.trans s3) hHD (by rw [hD3]; exact fun z => nomatch z)
    refine ⟨fun b => L b ∨ b = D, wipeD ε vs, ds[i], r3, q3.kp (fun b o n e => ⟨fun z => n ((lo3 b).mp z), e⟩) fun _ z => z, ε2, he2, fun σ2 r4 k4 j4 l4 => ⟨?_, ?_⟩⟩
    · exact wipe_eq (fun j hj => (j4 j hj).trans (wipe_out' hj)) (l4.trans (wipe_length _ _))
    · have losub : ∀ b, (LO L ε σ b ∨ b = D) → LO (fun b => L b ∨ b = D) ε2 σ2 b := fun b hb => by
        rcases (lo3 b).mpr hb with z | ⟨j, d, e1, e2⟩
        · exact .inl z
        · have hj := (wipeD_get e1).2
          exact .inr ⟨j, d, by rw [hloc _ _ _ he2 j hj]; exact e1, by rw [j4 j hj]; exact e2⟩
      refine ⟨fun b => L b ∨ b = D, ε2, r4, (nox_to h3).imp (fun b _ hb H4 s4 => ?_) fun n z => z⟩
      cases b with
      | true =>
        simp only [if_true] at hb ⊢
        rw [Rs.to_bind] at hb
        refine ⟨fun b => L b ∨ b = D, ε2, r4.mono s4, (nox_to hb).imp (fun z _ hz y H5 s5 dz => ?_) fun n z => z⟩
        have hD5 : H5 D = some (.lst acc) := s5 _ _ (s4 _ _ hD3)
        have sn : ∀ {L' : Addr → Prop}, L' D → Kp L' L' H5 (upd H5 D (.lst (acc ++ [y]))) := fun {L'} hL b o n e => ⟨n, by rw [upd_ne (fun q => n (by rw [q]; exact hL))]; exact e⟩
        refine ⟨acc, hD5, by omega, fun b o e => ?_, acc ++ [y], dacc ++ [z], upd_same, by rw [List.length_append]; simp; exact hlen, ?_, ?_⟩
        · rw [upd_ne (ne_of_none e hD)]
          exact s5 _ _ (s4 _ _ (s3 _ _ (s2 _ _ e)))
        · refine DenL.app ?_ ⟨y, [], rfl, ?_, rfl⟩
          · exact (dden.same (s3.trans (s4.trans s5))).kp (sn (.inr rfl)) fun _ z => z
          · exact (Den.kp (fun b o n e => ⟨fun q => n (losub b q), e⟩) (fun _ z => z) (show Den _ _ _ _ _ _ from dz)).kp (sn (.inr rfl)) fun _ z => z
        · have hz' : (compL (compT g c fe (wipeD ε vs)) (ds.drop (i + 1)) >>= fun zs => Rs.ok (z :: zs)).to _ _ := hz
          rw [Rs.to_bind] at hz'
          refine hz'.imp (fun zs _ q a us H' s hn ha dd => ?_) fun n z => z
          rw [List.append_assoc] at dd
          exact q a us H' s hn ha dd
      | false =>
        simp only [Bool.false_eq_true, if_false] at hb ⊢
        have hb' : (compL (compT g c fe (wipeD ε vs)) (ds.drop (i + 1)) >>= fun zs => Rs.ok zs).to _ _ := hb
        rw [Rs.to_bind] at hb'
        exact ⟨s2.trans (s3.trans s4), acc, dacc, s4 _ _ hD3, Nat.le_succ_of_le hlen, dden.same (s3.trans s4), hb'⟩
  · have e : i = ds.length := by omega
    subst e
    rw [List.drop_length] at h2
    refine .inl ⟨wi.2 (Nat.le_refl _), ?_⟩
    have h2' : ∀ a us H', Same H H' → H a = none → H' a = some (.lst us) → DenL K H0 (fun b => LO L ε σ b ∨ b = a) H' (dacc ++ []) us → Q (.ref a) H' := h2
    rw [List.append_nil] at h2'
    exact h2' D acc H2 hH2 hHD hacc dden

theorem df_lc (hc : X.calm = true) (hN : X.N.Nodup) (hi : DI false X W H0 L tg iter w) (ok : BlkOk X.N X.env.scope scope own)
    {vs : List Nat} (hg : ∀ (s : Shared) (H : Hp) (C : Addr) (cl : List (Str × Addr)) (fp : List Addr) (L : Addr → Prop), DG (fun j => j ∈ vs) (X.blk s H scope (compEnvC scope cl C X.env) fp) H0 L tg g)
    (ht : ∀ (s : Shared) (H : Hp) (C : Addr) (cl : List (Str × Addr)) (fp : List Addr) (L : Addr → Prop), DTs (X.blk s H scope (compEnvC scope cl C X.env) fp) W0 H0 L ifs c)
    (he : ∀ (s : Shared) (H : Hp) (C : Addr) (cl : List (Str × Addr)) (fp : List Addr) (L : Addr → Prop), DE true (X.blk s H scope (compEnvC scope cl C X.env) fp) W0 H0 L elt fe)
    (hvs : own.map (·.2) = vs := by rfl) (hs : ∀ x, foldedSetIterable iter X.env x = pure x := by intro _; rfl) :
    DF X W H0 L (.ListComp elt [⟨tg, iter, ifs, 0⟩] scope pos) (compD w g c fe vs) := by
  subst hvs
  exact peimp (pe_lc hc hN hi ok (fun s H C cl fp => pgex (t := fun L => tG (fun j => j ∈ own.map (·.2)) X.K H0 L g) fun L => (hg s H C cl fp L).pg) (fun s H C cl fp => ptsex (t := fun L => tT X.K X.mg W0 H0 L c) fun L => ht s H C cl fp L) (fun s H C cl fp => peex (t := fun L => tE true X.K X.mg W0 H0 L fe) fun L => he s H C cl fp L) hs) fun σ H Q h => lc_use (hg X.s_0 H 0 [] [] L).loc h
theorem ds_setLc (i : Nat) {y : Str} {py spos : Pos} (hc : X.calm = true) (hN : X.N.Nodup) (hi : DI false X W H0 L tg iter w) (ok : BlkOk X.N X.env.scope scope own)
    {vs : List Nat} (hg : ∀ (s : Shared) (H : Hp) (C : Addr) (cl : List (Str × Addr)) (fp : List Addr) (L : Addr → Prop), DG (fun j => j ∈ vs) (X.blk s H scope (compEnvC scope cl C X.env) fp) H0 L tg g)
    (ht : ∀ (s : Shared) (H : Hp) (C : Addr) (cl : List (Str × Addr)) (fp : List Addr) (L : Addr → Prop), DTs (X.blk s H scope (compEnvC scope cl C X.env) fp) W0 H0 L ifs c)
    (he : ∀ (s : Shared) (H : Hp) (C : Addr) (cl : List (Str × Addr)) (fp : List Addr) (L : Addr → Prop), DE true (X.blk s H scope (compEnvC scope cl C X.env) fp) W0 H0 L elt fe)
    (hy : X.N[i]? = some y := by rfl) (hyl : X.env.scope.names.lookup y = some .local := by rfl)
    (hsw : swapsWith (.ListComp elt [⟨tg, iter, ifs, 0⟩] scope pos) (some (.Name y py)) spos.line X.env = pure true := by exact sw_true rfl rfl rfl (by decide +kernel)) (hvs : own.map (·.2) = vs := by rfl) (hs : ∀ x, foldedSetIterable iter X.env x = pure x := by intro _; rfl) :
    DS X W H0 L (.Assign [.Name y py] (.ListComp elt [⟨tg, iter, ifs, 0⟩] scope pos) spos) (setD i (lstD (compD w g c fe vs))) ∧ DS X W H0 L (.Assign [.Name y py] (.ListComp elt [⟨tg, iter, ifs, 0⟩] scope pos) spos) (ownD i (compD w g c fe vs)) := by
  subst hvs
  have base := ps_setLc (i := i) hc hN hy hyl hsw hi ok (fun s H C cl fp => pgex (t := fun L => tG (fun j => j ∈ own.map (·.2)) X.K H0 L g) fun L => (hg s H C cl fp L).pg) (fun s H C cl fp => ptsex (t := fun L => tT X.K X.mg W0 H0 L c) fun L => ht s H C cl fp L) (fun s H C cl fp => peex (t := fun L => tE true X.K X.mg W0 H0 L fe) fun L => he s H C cl fp L) hs
  refine ⟨psimp base fun D σ H ⟨ε, r, h⟩ => ?_, psimp base fun D σ H ⟨ε, r, h⟩ => ?_⟩
  · refine lc_use (W := W) (L := L) (hg X.s_0 H 0 [] [] L).loc ⟨ε, r, ?_⟩
    unfold setD lstD at h
    rw [Rs.to_bind, Rs.to_bind] at h
    refine h.imp (fun ds _ hd a vs H' s hn ha q => ?_) fun n z => z.w r.same
    obtain ⟨r1, k1⟩ := (r.mono s).setv (d := .lst true ds) (v := .ref a) i ⟨a, vs, rfl, fun z => r.lo a z hn, fun _ => r.same.free hn, ha, q.sub fun _ z => .inl z⟩
    exact hd _ _ r1 ((Kp.same s).trans k1)
  · refine lc_use (W := W) (L := L) (hg X.s_0 H 0 [] [] L).loc ⟨ε, r, ?_⟩
    unfold ownD at h
    rw [Rs.to_bind] at h
    refine h.imp (fun ds _ hd a vs H' s hn ha q => ?_) fun n z => z.w r.same
    obtain ⟨r1, k1⟩ := r.setown (d := .lst true ds) i s hn ⟨vs, ha, q⟩
    exact hd _ _ r1 k1

/-! ### defs -/
variable {P : Program} {w' : World} {K : PySem.W.Frag} {mg : Str → Option Value} {base : Heap} {x qual : Str} {st : Stmt} {f' : Addr} {fd : FuncData} {N ps : List Str} {k : Nat} {fs : DEnv → Rs Out}
def startD (n : Nat) (ds : List Dat) : DEnv := ds.map (fun d => some (false, d)) ++ List.replicate (n - ds.length) none
def runF (n : Nat) (fs : DEnv → Rs Out) (ds : List Dat) : Rs Dat := fs (startD n ds) >>= fun o => match o with
  | .nx _ => .ok .non
  | .rt d => .ok d
  | _ => .no
theorem start_rel {H : Hp} {L : Addr → Prop} {ds : List Dat} {vs : List V} {n : Nat} (hl : ∀ a, L a → H a ≠ none) (q : DenL K H L H ds vs) (N : List Str) : Rel K H L (startD N.length ds) (L2.start N vs) H := by
  have hlen := q.length
  have none_own : ∀ (i : Nat) (d : Dat), (startD N.length ds)[i]? = some (some (true, d)) → False := fun i d e => by
    unfold startD at e
    rw [List.getElem?_append] at e
    split at e
    · rw [List.getElem?_map] at e
      cases h : ds[i]? with
      | none => rw [h] at e; cases e
      | some d' => rw [h] at e; cases e
    · rw [List.getElem?_replicate] at e
      split at e <;> cases e
  have lo : ∀ b, LO L (startD N.length ds) (L2.start N vs) b → L b := by
    rintro b (h | ⟨i, d, e, _⟩)
    · exact h
    · exact (none_own i d e).elim
  refine ⟨Same.refl H, hl, ?_, fun i d e => ?_, fun i d e => (none_own i d e).elim, fun i j d e a e1 _ _ _ => (none_own i d e1).elim⟩
  · unfold startD L2.start
    simp [hlen]
  · unfold startD at e
    rw [List.getElem?_append] at e
    split at e
    · rw [List.getElem?_map] at e
      cases h : ds[i]? with
      | none => rw [h] at e; cases e
      | some d' =>
        rw [h] at e
        cases e
        obtain ⟨v, hv, qd⟩ := q.get h
        refine ⟨v, ?_, qd.kp (fun b o n e => ⟨fun z => n (lo b z), e⟩) fun _ z => z⟩
        unfold L2.start
        rw [List.getElem?_append_left (by rw [List.length_map]; exact lt_of_get hv), List.getElem?_map, hv]
        rfl
    · rw [List.getElem?_replicate] at e
      split at e <;> cases e
theorem fn_okD (Fn : Fun K x qual st f' fd) (S : FnScope N ps (defScope st))
    (hbody : ∀ (cdv : Value) (A : Around) (outer : List Env) (s : Shared) (H : Hp) (E : XK), Room k (A.deeper (envOfC qual (defScope st) s.heap.objs.size f' cdv)) → ∀ L : Addr → Prop,
      DSs (cxOf (L2.CX P w') P w' K mg base N qual (defScope st) f' cdv A outer s H E) (fun c d _ H' => E c d H') H L (defBody st) fs) : FnOk P w' K mg base (L2.CX P w') (k + 1) f' fd ps (spD K mg ps.length (runF N.length fs)) := by
  refine Fn.okX S (fun vs H Q E h => h.1) fun cdv A outer s H vs Q E hr ⟨hl, L, ds, trk, den, h⟩ => ⟨_, hbody cdv A outer s H E hr L, startD N.length ds, start_rel (n := N.length) trk den N, ?_⟩
  unfold runF at h
  rw [Rs.to_bind] at h
  refine h.imp (fun o _ ho => ?_) fun n z C dd σ H' hm s => z C dd H' hm s
  cases o with
  | nx ε => exact fun σ' H' r k => ho .non H' r.same rfl
  | rt d => exact ho
  | bk ε => exact ho.elim
  | ct ε => exact ho.elim
theorem FnOk.spD_imp {n : Nat} {F G : List Dat → Rs Dat} (h : FnOk P w' K mg base (L2.CX P w') k f' fd ps (spD K mg n F)) (e : ∀ ds, F ds = G ds) : FnOk P w' K mg base (L2.CX P w') k f' fd ps (spD K mg n G) := by
  have : F = G := funext e
  rw [← this]
  exact h
end
end DL

set_option maxRecDepth 100000
set_option maxHeartbeats 4000000
/-! DLh: tests, subscripts, slices, built-ins, stores. -/
namespace DL
open PySem PySem.Spec PyProof.Rows L2

section
variable {X : Cx} {W : WX} {H0 : Hp} {L LL : Addr → Prop} {m : Bool} {a b e : Expr} {es rest : List Expr} {pos : Pos} {f g : DEnv → Rs Dat} {fa : DEnv → Rs (List Dat)} {c c' : DEnv → Rs Bool}
variable {K : PySem.W.Frag} {mg : Str → Option Value} {σ : L2.St} {H : Hp} {ε : DEnv}
/-! ### tests -/
def notT (c : DEnv → Rs Bool) (ε : DEnv) : Rs Bool := c ε >>= fun b => .ok (!b)
theorem dt_not (h : DT X W H0 L a c) : DT X W H0 L (.UnaryOp .Not a pos) (notT c) :=
  ptimp (pt_not h) fun σ H Q ⟨ε, r, h⟩ => by
    unfold notT at h
    rw [Rs.to_bind] at h
    exact ⟨ε, r, h⟩
def DW (X : Cx) (W : WX) (H0 : Hp) (L : Addr → Prop) (e : Expr) (f : DEnv → Rs Bool) : Prop := PW X e (tT X.K X.mg W H0 L f)
theorem pwimp {t t' : TT} (h : PW X e t) (k : ∀ σ H Q, t' σ H Q → t σ H Q) : PW X e t' := ⟨fun wh pins s σ H Q I q => h.run wh pins s σ H Q I (k σ H Q q)⟩
theorem DW.t (h : DW X W H0 L e c) : DT X W H0 L e c := PW.pt h
def andT (c c' : DEnv → Rs Bool) (ε : DEnv) : Rs Bool := c ε >>= fun b => if b = true then c' ε else .ok false
def orT (c c' : DEnv → Rs Bool) (ε : DEnv) : Rs Bool := c ε >>= fun b => if b = true then .ok true else c' ε
theorem dw_and1 (h : DT X W H0 L a c) : DW X W H0 L (.BoolOp .And [a] pos) c := pw_and1 h
theorem dw_or1 (h : DT X W H0 L a c) : DW X W H0 L (.BoolOp .Or [a] pos) c := pw_or1 h
theorem dw_and (h : DT X W H0 L a c) (h' : DW X W H0 L (.BoolOp .And (b :: rest) pos) c') : DW X W H0 L (.BoolOp .And (a :: b :: rest) pos) (andT c c') :=
  pwimp (pw_and h h') fun σ H Q ⟨ε, r, h⟩ => by
    unfold andT at h
    rw [Rs.to_bind] at h
    refine ⟨ε, r, h.imp (fun b _ hb H1 s1 => ?_) fun n z => z⟩
    cases b with
    | true => exact ⟨ε, r.mono s1, (show (c' ε).to _ _ from hb).imp (fun b _ z H2 s2 => z H2 (s1.trans s2)) fun n z => z.mono s1⟩
    | false => exact hb H1 s1
theorem dw_or (h : DT X W H0 L a c) (h' : DW X W H0 L (.BoolOp .Or (b :: rest) pos) c') : DW X W H0 L (.BoolOp .Or (a :: b :: rest) pos) (orT c c') :=
  pwimp (pw_or h h') fun σ H Q ⟨ε, r, h⟩ => by
    unfold orT at h
    rw [Rs.to_bind] at h
    refine ⟨ε, r, h.imp (fun b _ hb H1 s1 => ?_) fun n z => z⟩
    cases b with
    | true => exact hb H1 s1
    | false => exact ⟨ε, r.mono s1, (show (c' ε).to _ _ from hb).imp (fun b _ z H2 s2 => z H2 (s1.trans s2)) fun n z => z.mono s1⟩
def andV (f g : DEnv → Rs Dat) (ε : DEnv) : Rs Dat := f ε >>= fun d => asB d >>= fun b => if b = true then g ε else .ok (.bl false)
def orV (f g : DEnv → Rs Dat) (ε : DEnv) : Rs Dat := f ε >>= fun d => asB d >>= fun b => if b = true then .ok (.bl true) else g ε
theorem de_one {op} (h : DE m X W H0 L a f) : DE m X W H0 L (.BoolOp op [a] pos) f := pe_one h
theorem bl_den {d : Dat} {v : V} {P : Bool → Prop} {E : Str → Prop} (hd : DenS K H0 L LL H d v) (h : (asB d).to P E) : ∃ b, v = .bl b ∧ P b := by
  cases d with
  | bl b => exact ⟨b, hd, h⟩
  | _ => exact h.elim
theorem de_and (ha : DE false X W H0 L a f) (hb : DE m X W H0 L (.BoolOp .And (b :: rest) pos) g) : DE m X W H0 L (.BoolOp .And (a :: b :: rest) pos) (andV f g) :=
  peimp (pe_and ha hb) fun σ H Q ⟨ε, r, h⟩ => by
    unfold andV at h
    rw [Rs.to_bind] at h
    refine ⟨ε, r, h.imp (fun d _ hd v H1 s1 q => ?_) fun n z => z⟩
    rw [Rs.to_bind] at hd
    obtain ⟨b, ev, hb⟩ := bl_den q hd
    refine ⟨b, ev, ?_⟩
    cases b with
    | true => exact ⟨ε, r.mono s1, (show (g ε).to _ _ from hb).imp (fun b _ z v H2 s2 => z v H2 (s1.trans s2)) fun n z => z.mono s1⟩
    | false => exact hb (.bl false) H1 s1 (Den.m (d := .bl false) r.good.sub rfl)
theorem de_or (ha : DE false X W H0 L a f) (hb : DE m X W H0 L (.BoolOp .Or (b :: rest) pos) g) : DE m X W H0 L (.BoolOp .Or (a :: b :: rest) pos) (orV f g) :=
  peimp (pe_or ha hb) fun σ H Q ⟨ε, r, h⟩ => by
    unfold orV at h
    rw [Rs.to_bind] at h
    refine ⟨ε, r, h.imp (fun d _ hd v H1 s1 q => ?_) fun n z => z⟩
    rw [Rs.to_bind] at hd
    obtain ⟨b, ev, hb⟩ := bl_den q hd
    refine ⟨b, ev, ?_⟩
    cases b with
    | true => exact hb (.bl true) H1 s1 (Den.m (d := .bl true) r.good.sub rfl)
    | false => exact ⟨ε, r.mono s1, (show (g ε).to _ _ from hb).imp (fun b _ z v H2 s2 => z v H2 (s1.trans s2)) fun n z => z.mono s1⟩

/-! ### subscripts -/
theorem atI_den {ds : List Dat} {vs : List V} {i : Int} {d : Dat} (q : DenL K H0 L H ds vs) (h : atI ds i = some d) : ∃ v, atI vs i = some v ∧ Den K H0 L H d v := by
  unfold atI at h ⊢
  rw [← q.length]
  cases e : ixN ds.length i with
  | none => rw [e] at h; cases h
  | some j => rw [e] at h; exact q.get h
noncomputable def dIx : Dat → Dat → Option Dat
  | .lst _ ds, .int i => atI ds i
  | .tup ds, .int i => atI ds i
  | .str z, .int i => if sz z.length = true then (atI z.cps.toList i).map fun c => .str ⟨#[c]⟩ else none
  | _, _ => none
theorem opd_ix : OpD K (rIx K) dIx := by
  intro H0 L LL H x y d e z Q gd hx hy hz hq
  unfold dIx at hz
  split at hz
  · obtain ⟨p, vs, rfl, _, _, hp, q⟩ := hx
    obtain ⟨v, hv, qd⟩ := atI_den q hz
    exact .inl ⟨p, vs, _, v, rfl, hy, .of hp, hv, hq _ _ (Same.refl _) qd⟩
  · obtain ⟨p, vs, rfl, hp, q⟩ := hx
    obtain ⟨v, hv, qd⟩ := atI_den q hz
    exact .inr (.inl ⟨p, vs, _, v, rfl, hy, hp.sq, hv, hq _ _ (Same.refl _) qd⟩)
  · split at hz
    · rename_i s i hs
      cases hc : atI s.cps.toList i with
      | none => rw [hc] at hz; cases hz
      | some c =>
        rw [hc] at hz
        cases hz
        exact .inr (.inr ⟨s, i, c, hx, hy, sz_ok hs, hc, hq _ _ (Same.refl _) rfl⟩)
    · cases hz
  · cases hz
theorem de_ix (ha : DE false X W H0 L a f) (hb : DE false X W H0 L b g) (hs : PlainIx b := by intro _ _; rfl) : DE m X W H0 L (.Subscript a b pos) (bop dIx f g) :=
  peimp (pe_ix ix_seq ha hb hs) fun _ _ _ h => bin_use opd_ix h

/-! ### slices -/
def tO (K : PySem.W.Frag) (mg : Str → Option Value) (W : WX) (H0 : Hp) (L : Addr → Prop) (f : DEnv → Rs (Option Int)) : TO := fun σ H Q => ∃ ε, Rel K H0 L ε σ H ∧
  (f ε).to (fun i => ∀ H', Same H H' → Q i H') (XW mg W σ H)
def DO (X : Cx) (W : WX) (H0 : Hp) (L : Addr → Prop) (e : Option Expr) (f : DEnv → Rs (Option Int)) : Prop := PO X e (tO X.K X.mg W H0 L f)
theorem poimp {o : Option Expr} {t t' : TO} (h : PO X o t) (k : ∀ σ H Q, t' σ H Q → t σ H Q) : PO X o t' := ⟨fun pins s σ H Q I q => h.run pins s σ H Q I (k σ H Q q)⟩
def noO (_ : DEnv) : Rs (Option Int) := .ok none
def asI : Dat → Rs Int
  | .int i => .ok i
  | _ => .no
def smO (f : DEnv → Rs Dat) (ε : DEnv) : Rs (Option Int) := f ε >>= fun d => asI d >>= fun i => .ok (some i)
theorem do_none : DO X W H0 L none noO := poimp po_none fun σ H Q ⟨ε, r, h⟩ => h H (Same.refl _)
theorem do_some (he : DE false X W H0 L e f) : DO X W H0 L (some e) (smO f) := poimp (po_some he) fun σ H Q ⟨ε, r, h⟩ => by
  unfold smO at h
  rw [Rs.to_bind] at h
  refine ⟨ε, r, h.imp (fun d _ hd v H1 s1 q => ?_) fun n z => z⟩
  rw [Rs.to_bind] at hd
  cases d with
  | int i => exact ⟨i, q, hd H1 s1⟩
  | _ => exact hd.elim
def cutD {α : Type} (xs : List α) (lo hi : Option Int) : List α := (xs.drop (HT.sIx xs.length 0 lo)).take (HT.sIx xs.length xs.length hi - HT.sIx xs.length 0 lo)
theorem cut_den {ds : List Dat} {vs : List V} (q : DenL K H0 L H ds vs) (lo hi : Option Int) : DenL K H0 L H (cutD ds lo hi) (cutV vs lo hi) := by
  unfold cutD cutV
  rw [q.length]
  exact (q.drop _).take _
theorem denL_int : ∀ ns : List Int, DenL K H0 L H (ns.map .int) (ns.map V.int)
  | [] => rfl
  | n :: r => ⟨_, _, rfl, rfl, denL_int r⟩
theorem cut_map {α β : Type} (h : α → β) (xs : List α) (lo hi : Option Int) : cutD (xs.map h) lo hi = (cutD xs lo hi).map h := by
  unfold cutD
  rw [List.length_map, ← List.map_drop, ← List.map_take]
noncomputable def dSl : Dat → Option Int → Option Int → Option Dat
  | .lst _ ds, lo, hi => some (.lst true (cutD ds lo hi))
  | .tup ds, lo, hi => some (.tup (cutD ds lo hi))
  | .scr ns, lo, hi => some (.lst true ((cutD ns lo hi).map .int))
  | .str z, lo, hi => if sz z.length = true then some (.str (cutS z lo hi)) else none
  | _, _, _ => none
theorem cut_whole {α : Type} {xs : List α} {lo hi : Option Int} (h : HT.sIx xs.length 0 lo = 0 ∧ HT.sIx xs.length xs.length hi = xs.length) : cutD xs lo hi = xs := by
  unfold cutD
  rw [h.1, h.2]
  simp
theorem opd_sl {H0 : Hp} {x : V} {d z : Dat} {lo hi : Option Int} {Q : VK} (gd : Good H0 L LL H) (hx : DenS K H0 L LL H d x) (hz : dSl d lo hi = some z) (hq : ∀ v H', Same H H' → Den K H0 LL H' z v → Q v H') :
    rSlL K x lo hi H Q ∨ rSlA K x lo hi H Q ∨ rSlS x lo hi H Q := by
  unfold dSl at hz
  split at hz
  · cases hz
    obtain ⟨p, vs, rfl, _, _, hp, q⟩ := hx
    exact .inl ⟨p, vs, rfl, .of hp, fun r hr => hq _ _ (same_new hr) (gd.lst hr (cut_den q lo hi))⟩
  · cases hz
    obtain ⟨p, vs, rfl, hp, q⟩ := hx
    refine .inr (.inl ⟨p, vs, rfl, hp.sq, fun hw => ?_, fun hw r hr => hq _ _ (same_new hr) (gd.tup hr (cut_den q lo hi))⟩)
    rw [← q.length] at hw
    exact hq _ _ (Same.refl _) (by rw [cut_whole hw]; exact ⟨p, vs, rfl, hp, q⟩)
  · cases hz
    rename_i ns
    obtain ⟨p, rfl, hp⟩ := hx
    refine .inl ⟨p, _, rfl, hp.sq, fun r hr => hq _ _ (same_new hr) ?_⟩
    rw [← cut_map]
    exact gd.lst hr (cut_den (denL_int ns) lo hi)
  · split at hz
    · rename_i hs
      cases hz
      exact .inr (.inr ⟨_, hx, sz_ok hs, hq _ _ (Same.refl _) rfl⟩)
    · cases hz
  · cases hz
noncomputable def slD (f : DEnv → Rs Dat) (l h : DEnv → Rs (Option Int)) (ε : DEnv) : Rs Dat := f ε >>= fun d => l ε >>= fun lo => h ε >>= fun hi => Rs.of (dSl d lo hi)
theorem de_slice {lo hi : Option Expr} {p2 : Pos} {fl fh : DEnv → Rs (Option Int)} (he : DE false X W H0 L e f) (hl : DO X W H0 L lo fl) (hu : DO X W H0 L hi fh) : DE m X W H0 L (.Subscript e (.Slice lo hi none p2) pos) (slD f fl fh) :=
  peimp (pe_slice (sl_list.or (sl_tupA.or sl_str)) he hl hu) fun σ H Q ⟨ε, r, h⟩ => by
    unfold slD at h
    rw [Rs.to_bind] at h
    refine ⟨ε, r, h.imp (fun d _ hd v H1 s1 q => ?_) fun n z => z⟩
    rw [Rs.to_bind] at hd
    refine ⟨ε, r.mono s1, hd.imp (fun lo _ hd H2 s2 => ?_) fun n z => z.mono s1⟩
    rw [Rs.to_bind] at hd
    refine ⟨ε, r.mono (s1.trans s2), hd.imp (fun hi _ hd H3 s3 => ?_) fun n z => z.mono (s1.trans s2)⟩
    obtain ⟨z, hz, hq⟩ := Rs.to_of hd
    have s := s1.trans (s2.trans s3)
    exact opd_sl (r.mono s).good (DenS.same (s2.trans s3) q) hz fun v H' s' dd => hq v H' (s.trans s') (dd.m r.good.sub)
/-- xs[::-1] -/
def dRev : Dat → Option Dat
  | .lst _ ds => some (.lst true ds.reverse)
  | _ => none
theorem de_rev {k : Nat} {p1 p2 p3 : Pos} (he : DE false X W H0 L e f) : DE m X W H0 L (.Subscript e (.Slice none none (some (.UnaryOp .USub (.Constant (.int 1) k p1) p2)) p3) pos) (uop dRev f) :=
  peimp (pe_revL he) fun σ H Q h => un_use (r := fun x H1 Q => ∃ a xs, x = .ref a ∧ SqL X.K H1 a xs ∧ ∀ p, H1 p = none → Q (.ref p) (upd H1 p (.lst xs.reverse))) (fun {H0 L LL H x d z Q} gd hx hz hq => by
    unfold dRev at hz
    split at hz
    · cases hz
      obtain ⟨p, vs, rfl, _, _, hp, q⟩ := hx
      exact ⟨p, vs, rfl, .of hp, fun r hr => hq _ _ (same_new hr) (gd.lst hr q.rev)⟩
    · cases hz) h

/-! ### built-ins, by values -/
def OpL (K : PySem.W.Frag) (r : List V → Hp → VK → Prop) (F : List Dat → Option Dat) : Prop := ∀ {H0 : Hp} {L LL : Addr → Prop} {H : Hp} {vs : List V} {ds : List Dat} {z : Dat} {Q : VK}, Good H0 L LL H → Paired (DM false K H0 L LL H) ds vs → F ds = some z →
  (∀ v H', Same H H' → Den K H0 LL H' z v → Q v H') → r vs H Q
def biD (F : List Dat → Option Dat) (fa : DEnv → Rs (List Dat)) (ε : DEnv) : Rs Dat := fa ε >>= fun ds => Rs.of (F ds)
theorem l_use {r : List V → Hp → VK → Prop} {F : List Dat → Option Dat} {Q : VK} (hF : OpL K r F) (h : tE m K mg W H0 L (biD F fa) σ H Q) : tCB r (tA false K mg W H0 L fa) σ H Q := by
  obtain ⟨ε, rel, h⟩ := h
  unfold biD at h
  rw [Rs.to_bind] at h
  refine ⟨ε, rel, h.imp (fun ds _ hd vs H1 s1 q => ?_) fun n z => z⟩
  obtain ⟨z, hz, hq⟩ := Rs.to_of hd
  exact hF (rel.mono s1).good q hz fun v H3 s3 q => hq v H3 (s1.trans s3) (q.m rel.good.sub)
variable {x : Str} {idn T : String} {p : Pos} {r : List V → Hp → VK → Prop} {F : List Dat → Option Dat}
theorem de_bi (hc : CallR X (.builtin idn) r) (hF : OpL X.K r F) (hm : X.mg x = none) (hv : bootBuiltins x = some (.builtin idn)) (ha : DA false X W H0 L (e :: es) fa) (hg : Gl X x := by rfl) (hn : x ≠ "__name__" := by decide) (hdb : (x == ("__debug__" : Str)) = false := by decide)
    (he : starEach (e :: es) X.env = (false, eval e X.env) :: starEach es X.env := by rfl) (hpl : (backTo pos (starEach es X.env)).any (·.1) = false := by rfl) : DE m X W H0 L (.Call (.Name x p) (e :: es) [] pos) (biD F fa) :=
  peimp (pe_callB hc hg hm hv ha hn hdb he hpl) fun _ _ _ h => l_use hF h
theorem de_ty (hc : CallR X (.type T) r) (hF : OpL X.K r F) (hm : X.mg x = none) (hv : bootBuiltins x = some (.type T)) (ha : DA false X W H0 L (e :: es) fa) (hg : Gl X x := by rfl) (hn : x ≠ "__name__" := by decide) (hdb : (x == ("__debug__" : Str)) = false := by decide)
    (he : starEach (e :: es) X.env = (false, eval e X.env) :: starEach es X.env := by rfl) (hpl : (backTo pos (starEach es X.env)).any (·.1) = false := by rfl) : DE m X W H0 L (.Call (.Name x p) (e :: es) [] pos) (biD F fa) :=
  peimp (pe_callTy hc hg hm hv ha hn hdb he hpl) fun _ _ _ h => l_use hF h
theorem p1 {ds : List Dat} {d : Dat} {vs : List V} (h : Paired (DM false K H0 L LL H) [d] vs) : ∃ v, vs = [v] ∧ DenS K H0 L LL H d v := pair1 h
/-- len -/
noncomputable def dLen : List Dat → Option Dat
  | [.lst _ ds] => some (.int ds.length)
  | [.tup ds] => some (.int ds.length)
  | [.str z] => if sz z.length = true then some (.int z.length) else none
  | _ => none
theorem opl_len : OpL K (fun xs H Q => (∃ p ys, xs = [.ref p] ∧ (SqL K H p ys ∨ SqT K H p ys) ∧ Q (.int ys.length) H) ∨ ∃ z, xs = [.str z] ∧ z.length ≤ sizeLine ∧ Q (.int z.length) H) dLen := by
  intro H0 L LL H vs ds z Q gd hp hz hq
  unfold dLen at hz
  split at hz
  · obtain ⟨v, rfl, p, ws, rfl, _, _, h, q⟩ := pair1 hp
    cases hz
    exact .inl ⟨p, ws, rfl, .inl (.of h), by rw [← q.length]; exact hq _ _ (Same.refl _) rfl⟩
  · obtain ⟨v, rfl, p, ws, rfl, h, q⟩ := pair1 hp
    cases hz
    exact .inl ⟨p, ws, rfl, .inr h.sq, by rw [← q.length]; exact hq _ _ (Same.refl _) rfl⟩
  · split at hz
    · rename_i hs
      obtain ⟨v, rfl, hv⟩ := pair1 hp
      cases hz
      exact .inr ⟨_, by rw [show v = V.str _ from hv], sz_ok hs, hq _ _ (Same.refl _) rfl⟩
    · cases hz
  · cases hz
theorem de_len (hm : X.mg "len" = none) (ha : DA false X W H0 L (e :: es) fa) (hg : Gl X "len" := by rfl)
    (he : starEach (e :: es) X.env = (false, eval e X.env) :: starEach es X.env := by rfl) (hpl : (backTo pos (starEach es X.env)).any (·.1) = false := by rfl) : DE m X W H0 L (.Call (.Name "len" p) (e :: es) [] pos) (biD dLen fa) :=
  de_bi (call_len_seq.or call_len_str) opl_len hm PySem.boot_len ha hg (by decide) (by decide) he hpl
/-- truths -/
def blsD : List Dat → Option (List Bool)
  | [] => some []
  | .bl i :: r => (blsD r).map (i :: ·)
  | _ :: _ => none
theorem denL_bls : ∀ {ds : List Dat} {vs : List V} {ns : List Bool}, DenL K H0 L H ds vs → blsD ds = some ns → vs = ns.map V.bl
  | [], _, _, h, e => by cases h; cases e; rfl
  | d :: r, _, ns, ⟨v, vr, e1, h, t⟩, e => by
    subst e1
    unfold blsD at e
    split at e
    · rename_i e2; cases e2
    · rename_i i r' e2
      cases e2
      cases q : blsD r with
      | none => rw [q] at e; cases e
      | some ms =>
        rw [q] at e
        cases e
        rw [denL_bls t q]
        cases h
        rfl
    · cases e
def dAny : List Dat → Option Dat
  | [.lst _ ds] => (blsD ds).map fun bs => .bl (bs.any id)
  | _ => none
def dAll : List Dat → Option Dat
  | [.lst _ ds] => (blsD ds).map fun bs => .bl (bs.all id)
  | _ => none
theorem opl_any : OpL K (rAny K) dAny := by
  intro H0 L LL H vs ds z Q gd hp hz hq
  unfold dAny at hz
  split at hz
  · rename_i tt ds
    obtain ⟨v, rfl, p, ws, rfl, _, _, h, q⟩ := pair1 hp
    cases hb : blsD ds with
    | none => rw [hb] at hz; cases hz
    | some bs =>
      rw [hb] at hz
      cases hz
      have := denL_bls q hb
      subst this
      exact ⟨p, bs, rfl, .of h, hq _ _ (Same.refl _) rfl⟩
  · cases hz
theorem opl_all : OpL K (rAll K) dAll := by
  intro H0 L LL H vs ds z Q gd hp hz hq
  unfold dAll at hz
  split at hz
  · rename_i tt ds
    obtain ⟨v, rfl, p, ws, rfl, _, _, h, q⟩ := pair1 hp
    cases hb : blsD ds with
    | none => rw [hb] at hz; cases hz
    | some bs =>
      rw [hb] at hz
      cases hz
      have := denL_bls q hb
      subst this
      exact ⟨p, bs, rfl, .of h, hq _ _ (Same.refl _) rfl⟩
  · cases hz
def dSum : List Dat → Option Dat
  | [.lst _ ds] => (intsD ds).map fun bs => .int bs.sum
  | _ => none
theorem opl_sum : OpL K (rSum K) dSum := by
  intro H0 L LL H vs ds z Q gd hp hz hq
  unfold dSum at hz
  split at hz
  · rename_i tt ds
    obtain ⟨v, rfl, p, ws, rfl, _, _, h, q⟩ := pair1 hp
    cases hb : intsD ds with
    | none => rw [hb] at hz; cases hz
    | some bs =>
      rw [hb] at hz
      cases hz
      have := denL_ints q hb
      subst this
      exact ⟨p, bs, rfl, .of h, hq _ _ (Same.refl _) rfl⟩
  · cases hz
theorem de_any (hc : X.calm = true) (hm : X.mg "any" = none) (ha : DA false X W H0 L (e :: es) fa) (hg : Gl X "any" := by rfl)
    (he : starEach (e :: es) X.env = (false, eval e X.env) :: starEach es X.env := by rfl) (hpl : (backTo pos (starEach es X.env)).any (·.1) = false := by rfl) : DE m X W H0 L (.Call (.Name "any" p) (e :: es) [] pos) (biD dAny fa) :=
  de_bi (cr_any hc) opl_any hm (by decide +kernel) ha hg (by decide) (by decide) he hpl
theorem de_all (hc : X.calm = true) (hm : X.mg "all" = none) (ha : DA false X W H0 L (e :: es) fa) (hg : Gl X "all" := by rfl)
    (he : starEach (e :: es) X.env = (false, eval e X.env) :: starEach es X.env := by rfl) (hpl : (backTo pos (starEach es X.env)).any (·.1) = false := by rfl) : DE m X W H0 L (.Call (.Name "all" p) (e :: es) [] pos) (biD dAll fa) :=
  de_bi (cr_all hc) opl_all hm (by decide +kernel) ha hg (by decide) (by decide) he hpl
theorem de_sum (hc : X.calm = true) (hm : X.mg "sum" = none) (ha : DA false X W H0 L (e :: es) fa) (hg : Gl X "sum" := by rfl)
    (he : starEach (e :: es) X.env = (false, eval e X.env) :: starEach es X.env := by rfl) (hpl : (backTo pos (starEach es X.env)).any (·.1) = false := by rfl) : DE m X W H0 L (.Call (.Name "sum" p) (e :: es) [] pos) (biD dSum fa) :=
  de_bi (cr_sum hc) opl_sum hm (by decide +kernel) ha hg (by decide) (by decide) he hpl
def dMin2 : List Dat → Option Dat
  | [.int i, .int j] => some (.int (if j < i then j else i))
  | _ => none
def dMax2 : List Dat → Option Dat
  | [.int i, .int j] => some (.int (if j > i then j else i))
  | _ => none
theorem opl_min2 : OpL K (fun xs H Q => ∃ i j, xs = [.int i, .int j] ∧ Q (.int (if j < i then j else i)) H) dMin2 := by
  intro H0 L LL H vs ds z Q gd hp hz hq
  unfold dMin2 at hz
  split at hz
  · obtain ⟨v, w, rfl, h1, h2⟩ := pair2 hp
    cases hz
    have h1 : v = _ := h1
    have h2 : w = _ := h2
    subst h1 h2
    exact ⟨_, _, rfl, hq _ _ (Same.refl _) rfl⟩
  · cases hz
theorem opl_max2 : OpL K (fun xs H Q => ∃ i j, xs = [.int i, .int j] ∧ Q (.int (if j > i then j else i)) H) dMax2 := by
  intro H0 L LL H vs ds z Q gd hp hz hq
  unfold dMax2 at hz
  split at hz
  · obtain ⟨v, w, rfl, h1, h2⟩ := pair2 hp
    cases hz
    have h1 : v = _ := h1
    have h2 : w = _ := h2
    subst h1 h2
    exact ⟨_, _, rfl, hq _ _ (Same.refl _) rfl⟩
  · cases hz
theorem de_min2 (hc : X.calm = true) (hm : X.mg "min" = none) (ha : DA false X W H0 L (e :: es) fa) (hg : Gl X "min" := by rfl)
    (he : starEach (e :: es) X.env = (false, eval e X.env) :: starEach es X.env := by rfl) (hpl : (backTo pos (starEach es X.env)).any (·.1) = false := by rfl) : DE m X W H0 L (.Call (.Name "min" p) (e :: es) [] pos) (biD dMin2 fa) :=
  de_bi (call_min2 hc) opl_min2 hm (by decide +kernel) ha hg (by decide) (by decide) he hpl
theorem de_max2 (hc : X.calm = true) (hm : X.mg "max" = none) (ha : DA false X W H0 L (e :: es) fa) (hg : Gl X "max" := by rfl)
    (he : starEach (e :: es) X.env = (false, eval e X.env) :: starEach es X.env := by rfl) (hpl : (backTo pos (starEach es X.env)).any (·.1) = false := by rfl) : DE m X W H0 L (.Call (.Name "max" p) (e :: es) [] pos) (biD dMax2 fa) :=
  de_bi (call_max2 hc) opl_max2 hm (by decide +kernel) ha hg (by decide) (by decide) he hpl
/-- tuple(x) -/
def dTuple : List Dat → Option Dat
  | [.lst _ ds] => some (.tup ds)
  | [.tup ds] => some (.tup ds)
  | _ => none
theorem opl_tuple : OpL K (fun xs H Q => ∃ p ys, xs = [.ref p] ∧ ((SqL K H p ys ∧ ∀ l, H l = none → Q (.ref l) (upd H l (.tup ys))) ∨ (SqT K H p ys ∧ Q (.ref p) H))) dTuple := by
  intro H0 L LL H vs ds z Q gd hp hz hq
  unfold dTuple at hz
  split at hz
  · obtain ⟨v, rfl, p, ws, rfl, _, _, h, q⟩ := pair1 hp
    cases hz
    exact ⟨p, ws, rfl, .inl ⟨.of h, fun l hl => hq _ _ (same_new hl) (gd.tup hl q)⟩⟩
  · obtain ⟨v, rfl, p, ws, rfl, h, q⟩ := pair1 hp
    cases hz
    exact ⟨p, ws, rfl, .inr ⟨h.sq, hq _ _ (Same.refl _) ⟨p, ws, rfl, h, q⟩⟩⟩
  · cases hz
theorem de_tuple (hm : X.mg "tuple" = none) (ha : DA false X W H0 L (e :: es) fa) (hg : Gl X "tuple" := by rfl)
    (he : starEach (e :: es) X.env = (false, eval e X.env) :: starEach es X.env := by rfl) (hpl : (backTo pos (starEach es X.env)).any (·.1) = false := by rfl) : DE m X W H0 L (.Call (.Name "tuple" p) (e :: es) [] pos) (biD dTuple fa) :=
  de_ty call_tuple_of opl_tuple hm (by decide +kernel) ha hg (by decide) (by decide) he hpl

/-! ### built-ins that make a list -/
def OpF (K : PySem.W.Frag) (r : List V → Hp → VK → Prop) (F : List Dat → Option (List Dat)) : Prop := ∀ {H0 : Hp} {L LL : Addr → Prop} {H : Hp} {vs : List V} {ds es : List Dat} {Q : VK}, Good H0 L LL H → Paired (DM false K H0 L LL H) ds vs → F ds = some es →
  (∀ p us, H p = none → DenL K H0 LL H es us → Q (.ref p) (upd H p (.lst us))) → r vs H Q
def mkD (F : List Dat → Option (List Dat)) (fa : DEnv → Rs (List Dat)) (ε : DEnv) : Rs (List Dat) := fa ε >>= fun ds => Rs.of (F ds)
theorem f_use {r : List V → Hp → VK → Prop} {F : List Dat → Option (List Dat)} {Q : VK} (hF : OpF K r F) (h : tF K mg W H0 L (mkD F fa) σ H Q) : tCB r (tA false K mg W H0 L fa) σ H Q := by
  obtain ⟨ε, rel, h⟩ := h
  unfold mkD at h
  rw [Rs.to_bind] at h
  refine ⟨ε, rel, h.imp (fun ds _ hd vs H1 s1 q => ?_) fun n z => z⟩
  obtain ⟨z, hz, hq⟩ := Rs.to_of hd
  exact hF (rel.mono s1).good q hz fun p us hp hd => hq p us _ (s1.trans (same_new hp)) (s1.free hp) upd_same (hd.kp (kp_or (same_new hp) hp) fun _ z => z)
theorem df_bi {F : List Dat → Option (List Dat)} (hc : CallR X (.builtin idn) r) (hF : OpF X.K r F) (hm : X.mg x = none) (hv : bootBuiltins x = some (.builtin idn)) (ha : DA false X W H0 L (e :: es) fa) (hg : Gl X x := by rfl) (hn : x ≠ "__name__" := by decide) (hdb : (x == ("__debug__" : Str)) = false := by decide)
    (he : starEach (e :: es) X.env = (false, eval e X.env) :: starEach es X.env := by rfl) (hpl : (backTo pos (starEach es X.env)).any (·.1) = false := by rfl) : DF X W H0 L (.Call (.Name x p) (e :: es) [] pos) (mkD F fa) :=
  peimp (pe_callB hc hg hm hv ha hn hdb he hpl) fun _ _ _ h => f_use hF h
theorem df_ty {F : List Dat → Option (List Dat)} (hc : CallR X (.type T) r) (hF : OpF X.K r F) (hm : X.mg x = none) (hv : bootBuiltins x = some (.type T)) (ha : DA false X W H0 L (e :: es) fa) (hg : Gl X x := by rfl) (hn : x ≠ "__name__" := by decide) (hdb : (x == ("__debug__" : Str)) = false := by decide)
    (he : starEach (e :: es) X.env = (false, eval e X.env) :: starEach es X.env := by rfl) (hpl : (backTo pos (starEach es X.env)).any (·.1) = false := by rfl) : DF X W H0 L (.Call (.Name x p) (e :: es) [] pos) (mkD F fa) :=
  peimp (pe_callTy hc hg hm hv ha hn hdb he hpl) fun _ _ _ h => f_use hF h
def dList : List Dat → Option (List Dat)
  | [.lst _ ds] => some ds
  | [.tup ds] => some ds
  | _ => none
theorem opf_list : OpF K (fun xs H Q => ∃ p ys, xs = [.ref p] ∧ (SqL K H p ys ∨ SqT K H p ys) ∧ ∀ l, H l = none → Q (.ref l) (upd H l (.lst ys))) dList := by
  intro H0 L LL H vs ds z Q gd hp hz hq
  unfold dList at hz
  split at hz
  · obtain ⟨v, rfl, p, ws, rfl, _, _, h, q⟩ := pair1 hp
    cases hz
    exact ⟨p, ws, rfl, .inl (.of h), fun l hl => hq _ _ hl q⟩
  · obtain ⟨v, rfl, p, ws, rfl, h, q⟩ := pair1 hp
    cases hz
    exact ⟨p, ws, rfl, .inr h.sq, fun l hl => hq _ _ hl q⟩
  · cases hz
theorem df_list (hm : X.mg "list" = none) (ha : DA false X W H0 L (e :: es) fa) (hg : Gl X "list" := by rfl)
    (he : starEach (e :: es) X.env = (false, eval e X.env) :: starEach es X.env := by rfl) (hpl : (backTo pos (starEach es X.env)).any (·.1) = false := by rfl) : DF X W H0 L (.Call (.Name "list" p) (e :: es) [] pos) (mkD dList fa) :=
  df_ty call_list_of opf_list hm (by decide +kernel) ha hg (by decide) (by decide) he hpl

/-! ### isinstance(x, a built-in type) -/
def tyN : Dat → Option String
  | .non => some "NoneType"
  | .bl _ => some "bool"
  | .int _ => some "int"
  | .str _ => some "str"
  | .tup _ => some "tuple"
  | .lst _ _ => some "list"
  | _ => none
def dIsi (T : String) (d : Dat) : Option Dat := (tyN d).bind fun a => (kitB a T).map .bl
theorem ty_of {d : Dat} {v : V} {a : String} (h : DenS K H0 L LL H d v) (e : tyN d = some a) : TyX K H v (.type a) := by
  cases d with
  | non => cases e; cases h; exact .base .non
  | bl b => cases e; cases h; exact .base (.bl _)
  | int b => cases e; cases h; exact .base (.int _)
  | str b => cases e; cases h; exact .base (.str _)
  | tup ds => cases e; obtain ⟨p, vs, rfl, t, _⟩ := h; exact .base (.tup t.2)
  | lst t ds => cases e; obtain ⟨p, vs, rfl, _, _, t, _⟩ := h; exact .base (.lst t)
  | _ => cases e
def isiD (T : String) (f : DEnv → Rs Dat) (ε : DEnv) : Rs Dat := f ε >>= fun d => Rs.of (dIsi T d)
theorem pe_tyn {n : Str} {p2 : Pos} (hg : Gl X n) (hm : X.mg n = none) (hv : bootBuiltins n = some (.type T)) (hn : n ≠ "__name__") (hd : (n == ("__debug__" : Str)) = false) : PE X (.Name n p2) (tC (.ty T)) := pe_bltn hg hm hv rfl hn hd
theorem de_isi {n : Str} {p2 : Pos} (hm : X.mg "isinstance" = none) (hm2 : X.mg n = none) (hv : bootBuiltins n = some (.type T)) (ha : DE false X W H0 L a f) (hg : Gl X "isinstance" := by rfl) (hg2 : Gl X n := by rfl) (hn : n ≠ "__name__" := by decide) (hd : (n == ("__debug__" : Str)) = false := by decide)
    (he1 : starEach [a, .Name n p2] X.env = (false, eval a X.env) :: starEach [.Name n p2] X.env := by rfl) (he2 : starEach [.Name n p2] X.env = (false, eval (.Name n p2) X.env) :: starEach [] X.env := by rfl) (hpl : (backTo pos (starEach [.Name n p2] X.env)).any (·.1) = false := by rfl) :
    DE m X W H0 L (.Call (.Name "isinstance" p) [a, .Name n p2] [] pos) (isiD T f) :=
  peimp (pe_callB call_isi hg hm (by decide +kernel) (pa_cons ha (pa_cons (pe_tyn hg2 hm2 hv hn hd) pa_nil he2) he1) (by decide) (by decide) he1 hpl) fun σ H Q ⟨ε, r, h⟩ => by
    unfold isiD at h
    rw [Rs.to_bind] at h
    refine ⟨ε, r, h.imp (fun d _ hd v H1 s1 q => ?_) fun n z => z⟩
    obtain ⟨z, hz, hq⟩ := Rs.to_of hd
    unfold dIsi at hz
    cases ha : tyN d with
    | none => rw [ha] at hz; cases hz
    | some a =>
      rw [ha] at hz
      cases hk : kitB a T with
      | none => rw [Option.bind_some, hk] at hz; cases hz
      | some b =>
        rw [Option.bind_some, hk] at hz
        cases hz
        exact ⟨v, .ty T, _, _, b, rfl, .ty T, ty_of q ha, kit_ty hk, hq _ _ s1 (Den.m (d := .bl b) r.good.sub rfl)⟩

/-! ### stores into a list of one's own -/
def ownL (i : Nat) (ε : DEnv) : Rs (Bool × List Dat) := match ε[i]? with
  | some (some (true, .lst t ds)) => .ok (t, ds)
  | _ => .no
theorem ownL_to {i : Nat} {P : Bool × List Dat → Prop} {E : Str → Prop} (h : (ownL i ε).to P E) : ∃ t ds, ε[i]? = some (some (true, .lst t ds)) ∧ P (t, ds) := by
  unfold ownL at h
  split at h
  · rename_i t ds he
    exact ⟨t, ds, he, h⟩
  · exact h.elim
noncomputable def appD (i : Nat) (f : DEnv → Rs Dat) (ε : DEnv) : Rs Out := ownL i ε >>= fun p => f ε >>= fun d => chk (sz (p.2.length + 1)) (.ok (.nx (ε.set i (some (true, .lst p.1 (p.2 ++ [d]))))))
theorem app_use {i : Nat} {D : Ends} (h : tD K mg W H0 L (appD i f) D σ H) : tDrop (tBM K "list" rAppend (tVar i) (tCons (tE true K mg W H0 L f) tNil)) D σ H := by
  obtain ⟨ε, r, h⟩ := h
  unfold appD at h
  rw [Rs.to_bind] at h
  obtain ⟨t, ds, he, h⟩ := ownL_to h
  obtain ⟨a, ha, h0, hL, vs, hv, q⟩ := r.own i _ he
  rw [Rs.to_bind] at h
  refine ⟨_, ha, .inl ⟨rfl, vs, .of hv⟩, ε, r, h.imp (fun d _ hd v H1 s1 qd => ?_) fun n z => z.w r.same⟩
  obtain ⟨hs, hd⟩ := chk_to hd
  have r1 := r.mono s1
  have hv1 : H1 a = some (.lst vs) := s1 _ _ hv
  refine ⟨a, vs, v, rfl, rfl, hv1, by rw [← q.length]; exact sz_ok hs, ?_⟩
  have own : LO L ε σ a := .inr ⟨i, _, he, ha⟩
  have kp : Kp (LO L ε σ) (LO L ε σ) H1 (upd H1 a (.lst (vs ++ [v]))) := fun b o n e => ⟨n, by rw [upd_ne (fun q => n (by rw [q]; exact own))]; exact e⟩
  obtain ⟨r2, k2⟩ := r1.mut (d := .lst t (ds ++ [d])) he ha (o := .lst (vs ++ [v])) ⟨_, upd_same, ((q.same s1).app (show DenL K H0 (LO L ε σ) H1 [d] [v] from ⟨v, [], rfl, qd, rfl⟩)).kp kp fun _ z => z⟩
  exact hd _ _ r2 ((Kp.same s1).trans k2)
theorem ds_app (i : Nat) {x : Str} {px pa pc : Pos} (he : DE true X W H0 L e f) 
    (h1 : PA X [e] (tCons (tE true X.K X.mg W H0 L f) tNil) → PE X (.Call (.Attribute (.Name x px) "append" pa) [e] [] pc) (tBM X.K "list" rAppend (tVar i) (tCons (tE true X.K X.mg W H0 L f) tNil)) := by
      exact fun b => pe_bm PySem.F.plainAttrs_list PySem.F.slot_list_append PySem.F.type_list_append mt_append (pv i) b)
    (he1 : starEach [e] X.env = (false, eval e X.env) :: starEach [] X.env := by rfl)
    (hs : swapsWith (.Call (.Attribute (.Name x px) "append" pa) [e] [] pc) none pos.line X.env = pure false := by rfl) :
    DS X W H0 L (.Expr (.Call (.Attribute (.Name x px) "append" pa) [e] [] pc) pos) (appD i f) :=
  psimp (ps_expr (h1 (pa_cons he pa_nil he1)) hs) fun D σ H h => app_use h
/-- x[k] = v -/
def stD (i : Nat) (fk fv : DEnv → Rs Dat) (ε : DEnv) : Rs Out := fv ε >>= fun d => ownL i ε >>= fun p => fk ε >>= fun k => asI k >>= fun n => Rs.of (ixN p.2.length n) >>= fun j => .ok (.nx (ε.set i (some (true, .lst p.1 (p.2.set j d)))))
theorem st_use {i : Nat} {D : Ends} {fk fv : DEnv → Rs Dat} (h : tD K mg W H0 L (stD i fk fv) D σ H) : tAsg (tE true K mg W H0 L fv) (gSub (tVar i) (tE false K mg W H0 L fk) rSetL) D σ H := by
  obtain ⟨ε, r, h⟩ := h
  unfold stD at h
  rw [Rs.to_bind] at h
  refine ⟨ε, r, h.imp (fun d _ hd v H1 s1 qd => ?_) fun n z => z.w r.same⟩
  rw [Rs.to_bind] at hd
  obtain ⟨t, ds, he, hd⟩ := ownL_to hd
  obtain ⟨a, ha, h0, hL, vs, hv, q⟩ := r.own i _ he
  rw [Rs.to_bind] at hd
  refine ⟨_, ha, ε, r.mono s1, hd.imp (fun k _ hk y H2 s2 qk => ?_) fun n z => z.w (r.mono s1).same⟩
  rw [Rs.to_bind] at hk
  cases k with
  | int n =>
    have hk : (Rs.of (ixN ds.length n) >>= fun j => Rs.ok (Out.nx (ε.set i (some (true, .lst t (ds.set j d)))))).to _ _ := hk
    rw [Rs.to_bind] at hk
    obtain ⟨j, hj, hk⟩ := Rs.to_of hk
    have s := s1.trans s2
    have r1 := r.mono s
    have hv1 : H2 a = some (.lst vs) := s _ _ hv
    refine ⟨a, vs, n, j, rfl, qk, hv1, by rw [← q.length]; exact hj, ?_⟩
    have own : LO L ε σ a := .inr ⟨i, _, he, ha⟩
    have kp : Kp (LO L ε σ) (LO L ε σ) H2 (upd H2 a (.lst (vs.set j v))) := fun b o n e => ⟨n, by rw [upd_ne (fun q => n (by rw [q]; exact own))]; exact e⟩
    obtain ⟨r2, k2⟩ := r1.mut (d := .lst t (ds.set j d)) he ha (o := .lst (vs.set j v)) ⟨_, upd_same, ((q.same s).set j (Den.same s2 qd)).kp kp fun _ z => z⟩
    exact hk _ _ r2 ((Kp.same s).trans k2)
  | _ => exact hk.elim
theorem ds_st (i : Nat) {x : Str} {px p2 : Pos} {fk fv : DEnv → Rs Dat} (hk : DE false X W H0 L a fk) (hv : DE true X W H0 L e fv)
    (h1 : PE X a (tE false X.K X.mg W H0 L fk) → PG X (.Subscript (.Name x px) a p2) (gSub (tVar i) (tE false X.K X.mg W H0 L fk) rSetL) := by exact fun b => pg_sub (pv i) b set_list)
    (hs : swapsWithSole [.Subscript (.Name x px) a p2] e pos.line X.env = pure false := by rfl) (hw : swappedStores [.Subscript (.Name x px) a p2] e X.env = pure none := by rfl)
    (h2 : (assignEach [.Subscript (.Name x px) a p2] X.env).map (·.2) = [assign (.Subscript (.Name x px) a p2) X.env] := by rfl) : DS X W H0 L (.Assign [.Subscript (.Name x px) a p2] e pos) (stD i fk fv) :=
  psimp (ps_asg hv (h1 hk) hs hw h2) fun D σ H h => st_use h
end
end DL

set_option maxRecDepth 100000
set_option maxHeartbeats 4000000
/-! DLi: defs by name; the law's own promise. -/
namespace DL
open PySem PySem.Spec PyProof.Rows L2

/-- the def that the module's name x holds computes F, n arguments, at most k calls deep -/
structure DefOk (P : Program) (w : World) (K : PySem.W.Frag) (mg : Str → Option Value) (base : Heap) (x : Str) (n k : Nat) (F : List Dat → Rs Dat) : Prop where
  ex : ∃ f fd ps, FnOk P w K mg base (L2.CX P w) k f fd ps (spD K mg n F) ∧ mg x = some (.ref f) ∧ PySem.W.keepIn K (.ref f) = true ∧ Binds K fd ps []
section
variable {P : Program} {w : World} {K : PySem.W.Frag} {mg : Str → Option Value} {base : Heap} {x qual : Str} {n k j : Nat} {F G : List Dat → Rs Dat}
theorem DefOk.mono (D : DefOk P w K mg base x n k F) (h : k ≤ j) : DefOk P w K mg base x n j F := by
  obtain ⟨f, fd, ps, a, b, c, d⟩ := D.ex
  exact ⟨⟨f, fd, ps, a.mono h, b, c, d⟩⟩
theorem DefOk.eq (D : DefOk P w K mg base x n k F) (h : ∀ ds, F ds = G ds) : DefOk P w K mg base x n k G := by
  have : F = G := funext h
  rw [← this]
  exact D
/-- a weaker function -/
theorem DefOk.imp (D : DefOk P w K mg base x n k F) (h : ∀ ds d, G ds = .ok d → F ds = .ok d) (h2 : ∀ ds c, G ds = .ex c → F ds = .ex c) : DefOk P w K mg base x n k G := by
  obtain ⟨f, fd, ps, a, b, c, d⟩ := D.ex
  refine ⟨⟨f, fd, ps, a.imp fun vs H Q E ⟨hl, L, ds, trk, den, q⟩ => ⟨hl, L, ds, trk, den, ?_⟩, b, c, d⟩⟩
  cases e : G ds with
  | no => rw [e] at q; exact q.elim
  | ok z => rw [e] at q; rw [h _ _ e]; exact q
  | ex z => rw [e] at q; rw [h2 _ _ e]; exact q
theorem DefOk.none : ∀ {f : Addr} {fd : FuncData} {ps : List Str}, mg x = some (.ref f) → PySem.W.keepIn K (.ref f) = true → Binds K fd ps [] → DefOk P w K mg base x n 0 (fun _ => .no) := fun {f fd ps} a b c => by
  have no : ∀ vs H Q E, ¬ spD K mg n (fun _ => .no) vs H Q E := fun vs H Q E ⟨_, _, _, _, _, h⟩ => h
  exact ⟨⟨f, fd, ps, ⟨fun vs H Q E h => absurd h (no vs H Q E), fun A outer s H args us vs Q E _ _ _ _ h => absurd h (no vs H Q E)⟩, a, b, c⟩⟩
end
section
variable {X : Cx} {W : WX} {H0 : Hp} {L LL : Addr → Prop} {m : Bool} {a b e : Expr} {es rest : List Expr} {pos p : Pos} {f g : DEnv → Rs Dat} {fa : DEnv → Rs (List Dat)} {x : Str} {n k j : Nat} {F : List Dat → Rs Dat}
theorem dcall (G : DefOk X.prog X.w X.K X.mg X.base x n k F) (hr : Room j X.A) (hkj : k ≤ j) (tk : Takes X W) (ha : DA true X W H0 L (e :: es) fa) (hg : Gl X x := by rfl) (hdb : (x == ("__debug__" : Str)) = false := by decide) (he : starEach (e :: es) X.env = (false, eval e X.env) :: starEach es X.env := by rfl) (hpl : (backTo pos (starEach es X.env)).any (·.1) = false := by rfl) :
    DE m X W H0 L (.Call (.Name x p) (e :: es) [] pos) (callD n F fa) := by
  obtain ⟨f, fd, ps, a, b, c, d⟩ := G.ex
  exact de_call a (hr.mono hkj) b c d tk ha hg hdb he hpl
theorem dcallB (G : DefOk X.prog X.w X.K X.mg X.base x n k F) (hr : Room j X.A) (hkj : k ≤ j) (tk : Takes X W) (ha : DA false X W H0 L (e :: es) fa) (hg : Gl X x := by rfl) (hdb : (x == ("__debug__" : Str)) = false := by decide) (he : starEach (e :: es) X.env = (false, eval e X.env) :: starEach es X.env := by rfl) (hpl : (backTo pos (starEach es X.env)).any (·.1) = false := by rfl) :
    DE m X W H0 L (.Call (.Name x p) (e :: es) [] pos) (callB n F fa) := by
  obtain ⟨f, fd, ps, a, b, c, d⟩ := G.ex
  exact de_callB a (hr.mono hkj) b c d tk ha hg hdb he hpl
theorem dcallF (G : DefOk X.prog X.w X.K X.mg X.base x n k F) (hr : Room j X.A) (hkj : k ≤ j) (tk : Takes X W) (ha : DA true X W H0 L (e :: es) fa) (hg : Gl X x := by rfl) (hdb : (x == ("__debug__" : Str)) = false := by decide) (he : starEach (e :: es) X.env = (false, eval e X.env) :: starEach es X.env := by rfl) (hpl : (backTo pos (starEach es X.env)).any (·.1) = false := by rfl) :
    DF X W H0 L (.Call (.Name x p) (e :: es) [] pos) (ownC (callD n F fa)) := by
  obtain ⟨f, fd, ps, a, b, c, d⟩ := G.ex
  exact df_call a (hr.mono hkj) b c d tk ha hg hdb he hpl
end
section
variable {P : Program} {w : World} {K : PySem.W.Frag} {mg : Str → Option Value} {base : Heap} {x qual : Str} {st : Stmt} {f : Addr} {fd : FuncData} {N ps : List Str} {k : Nat} {fs : DEnv → Rs Out}
/-- THE RULE for a def -/
theorem def_ok (Fn : Fun K x qual st f fd) (hm : mg x = some (.ref f)) (hb : Binds K fd ps []) (S : FnScope N ps (defScope st))
    (hbody : ∀ (cdv : Value) (A : Around) (outer : List Env) (s : Shared) (H : Hp) (E : XK), Room k (A.deeper (envOfC qual (defScope st) s.heap.objs.size f cdv)) → ∀ L : Addr → Prop,
      DSs (cxOf (L2.CX P w) P w K mg base N qual (defScope st) f cdv A outer s H E) (fun c d _ H' => E c d H') H L (defBody st) fs) : DefOk P w K mg base x ps.length (k + 1) (runF N.length fs) :=
  ⟨⟨f, fd, ps, fn_okD Fn S hbody, hm, Fn.kp, hb⟩⟩
/-- what the law promises -/
def spLaw (K : PySem.W.Frag) : Sp := fun vs H Q _ => ∃ (a : Addr) (ns : List Int), vs = [.ref a] ∧ SqL K H a (ns.map V.int) ∧ ns.length ≤ 63 ∧ ∀ H', Q (.bl true) H'
theorem law_ok {F : List Dat → Rs Dat} {x : Str} (G : FnOk P w K mg base (L2.CX P w) k f fd [x] (spD K mg 1 F)) (hF : ∀ ns : List Int, ns.length ≤ 63 → F [.scr ns] = .ok (.bl true)) : FnOk P w K mg base (L2.CX P w) k f fd [x] (spLaw K) :=
  G.imp fun vs H Q E ⟨a, ns, e, hS, hn, q⟩ => by
    subst e
    refine ⟨rfl, fun _ => False, [.scr ns], fun _ z => z.elim, ⟨_, [], rfl, ⟨a, rfl, ?_⟩, rfl⟩, ?_⟩
    · rcases hS with h | h
      · exact .inl ⟨id, h⟩
      · exact .inr (.inr h)
    · rw [hF ns hn]
      exact fun v H' _ hv => by
        have hv : v = .bl true := hv
        rw [hv]
        exact q H'
theorem cx_false {outer : List Env} {H : Hp} {s s' : Shared} {e : Value} (h : L2.CX P w outer H s (fun _ _ _ => False) e s') : False := by
  obtain ⟨_, _, _, _, _, _, _, _, _, _, _, _, z⟩ := h
  exact z
end
end DL

set_option maxRecDepth 100000
set_option maxHeartbeats 4000000
/-! DLm: reckoning with the pure functions. -/
namespace DL
open PySem PySem.Spec PyProof.Rows L2

/-! ### the combinators by one step each -/
@[simp] theorem runF_eq (n : Nat) (fs : DEnv → Rs Out) (ds : List Dat) : runF n fs ds = (fs (startD n ds) >>= fun o => match o with
  | .nx _ => .ok .non
  | .rt d => .ok d
  | _ => .no) := rfl
theorem startD_eq (n : Nat) (ds : List Dat) : startD n ds = ds.map (fun d => some (false, d)) ++ List.replicate (n - ds.length) none := rfl
variable {ε : DEnv} {f g : DEnv → Rs Dat} {fa : DEnv → Rs (List Dat)} {fs gs : DEnv → Rs Out} {c c' : DEnv → Rs Bool} {m : Bool} {i : Nat}
@[simp] theorem seqD_eq : seqD fs gs ε = (fs ε >>= fun o => match o with
  | .nx ε' => gs ε'
  | o => .ok o) := rfl
@[simp] theorem setD_eq : setD i f ε = (f ε >>= fun d => .ok (.nx (ε.set i (some (false, d))))) := rfl
@[simp] theorem ownD_eq : ownD i fa ε = (fa ε >>= fun ds => .ok (.nx (ε.set i (some (true, .lst true ds))))) := rfl
@[simp] theorem retD_eq : retD f ε = (f ε >>= fun d => .ok (.rt d)) := rfl
@[simp] theorem iteD_eq : iteD c fs gs ε = (c ε >>= fun b => if b = true then fs ε else gs ε) := rfl
@[simp] theorem drpD_eq : drpD f ε = (f ε >>= fun _ => .ok (.nx ε)) := rfl
@[simp] theorem tst_eq : tst f ε = (f ε >>= asB) := rfl
@[simp] theorem asB_bl (b : Bool) : asB (.bl b) = .ok b := rfl
@[simp] theorem asI_int (b : Int) : asI (.int b) = .ok b := rfl
@[simp] theorem bop_eq {F : Dat → Dat → Option Dat} : bop F f g ε = (f ε >>= fun d => g ε >>= fun e => Rs.of (F d e)) := rfl
@[simp] theorem uop_eq {F : Dat → Option Dat} : uop F f ε = (f ε >>= fun d => Rs.of (F d)) := rfl
@[simp] theorem kst_eq {d : Dat} : kst d ε = .ok d := rfl
@[simp] theorem argsN_eq : argsN ε = .ok [] := rfl
@[simp] theorem argsC_eq : argsC f fa ε = (f ε >>= fun d => fa ε >>= fun ds => .ok (d :: ds)) := rfl
@[simp] theorem biD_eq {F : List Dat → Option Dat} : biD F fa ε = (fa ε >>= fun ds => Rs.of (F ds)) := rfl
@[simp] theorem mkD_eq {F : List Dat → Option (List Dat)} : mkD F fa ε = (fa ε >>= fun ds => Rs.of (F ds)) := rfl
@[simp] theorem callD_eq {n : Nat} {F : List Dat → Rs Dat} : callD n F fa ε = (fa ε >>= fun ds => chk (ds.length == n) (F (olds ds))) := rfl
@[simp] theorem callB_eq {n : Nat} {F : List Dat → Rs Dat} : callB n F fa ε = (fa ε >>= fun ds => chk (ds.length == n) (F (olds ds) >>= fun d => chk (fresh d) (.ok d))) := rfl
@[simp] theorem tupD_eq : tupD fa ε = (fa ε >>= fun ds => chk (sz ds.length) (.ok (.tup ds))) := rfl
@[simp] theorem lstD_eq : lstD fa ε = (fa ε >>= fun ds => .ok (.lst true ds)) := rfl
@[simp] theorem dspD_eq : dspD fa ε = (fa ε >>= fun ds => chk (sz ds.length) (.ok ds)) := rfl
@[simp] theorem ownC_eq : ownC f ε = (f ε >>= lstOf) := rfl
@[simp] theorem notT_eq : notT c ε = (c ε >>= fun b => .ok (!b)) := rfl
@[simp] theorem andT_eq : andT c c' ε = (c ε >>= fun b => if b = true then c' ε else .ok false) := rfl
@[simp] theorem orT_eq : orT c c' ε = (c ε >>= fun b => if b = true then .ok true else c' ε) := rfl
@[simp] theorem andV_eq : andV f g ε = (f ε >>= fun d => asB d >>= fun b => if b = true then g ε else .ok (.bl false)) := rfl
@[simp] theorem orV_eq : orV f g ε = (f ε >>= fun d => asB d >>= fun b => if b = true then .ok (.bl true) else g ε) := rfl
@[simp] theorem noO_eq : noO ε = .ok none := rfl
@[simp] theorem smO_eq : smO f ε = (f ε >>= fun d => asI d >>= fun i => .ok (some i)) := rfl
@[simp] theorem slD_eq {l h : DEnv → Rs (Option Int)} : slD f l h ε = (f ε >>= fun d => l ε >>= fun lo => h ε >>= fun hi => Rs.of (dSl d lo hi)) := rfl
@[simp] theorem isiD_eq {T : String} : isiD T f ε = (f ε >>= fun d => Rs.of (dIsi T d)) := rfl
@[simp] theorem fgtD_eq {is : List Nat} : fgtD is fs ε = (fs ε >>= fun o => .ok (o.fgt is)) := rfl
@[simp] theorem outfgt_nx {is : List Nat} : (Out.nx ε).fgt is = .nx (fgt is ε) := rfl
@[simp] theorem outfgt_ct {is : List Nat} : (Out.ct ε).fgt is = .ct (fgt is ε) := rfl
@[simp] theorem outfgt_bk {is : List Nat} : (Out.bk ε).fgt is = .bk ε := rfl
@[simp] theorem outfgt_rt {is : List Nat} {d : Dat} : (Out.rt d).fgt is = .rt d := rfl
@[simp] theorem fgt_nil : fgt [] ε = ε := rfl
@[simp] theorem fgt_cons {j : Nat} {is : List Nat} : fgt (j :: is) ε = fgt is (ε.set j none) := rfl
@[simp] theorem walkD_eq : walkD f ε = (f ε >>= asL) := rfl
@[simp] theorem walkT_eq : walkT f ε = (f ε >>= asT) := rfl
@[simp] theorem asL_lst {t : Bool} {ds : List Dat} : asL (.lst t ds) = .ok ds := rfl
@[simp] theorem asT_tup {ds : List Dat} : asT (.tup ds) = .ok ds := rfl
@[simp] theorem rngD_eq {F : List Dat → Rs (List Dat)} : rngD F fa ε = (fa ε >>= F) := rfl
@[simp] theorem loopD_eq {w : DEnv → Rs (List Dat)} {body : Dat → DEnv → Rs Out} : loopD w body ε = (w ε >>= fun ds => forD body ds ε) := rfl
@[simp] theorem asgD_eq {G : Dat → DEnv → Option DEnv} : asgD G f ε = (f ε >>= fun d => Rs.of (G d ε) >>= fun ε' => .ok (.nx ε')) := rfl
@[simp] theorem trn_eq {G : Dat → DEnv → Option DEnv} {d : Dat} : trn G fs d ε = (Rs.of (G d ε) >>= fs) := rfl
@[simp] theorem gN_eq {d : Dat} : gN i d ε = some (ε.set i (some (false, d))) := rfl
@[simp] theorem gT_eq {G : List Dat → DEnv → Option DEnv} {ds : List Dat} : gT G (.tup ds) ε = G ds ε := rfl
@[simp] theorem gNil_eq : gNil' [] ε = some ε := rfl
@[simp] theorem gCons_eq {G : Dat → DEnv → Option DEnv} {Gs : List Dat → DEnv → Option DEnv} {d : Dat} {ds : List Dat} : gCons' G Gs (d :: ds) ε = (G d ε).bind (Gs ds) := rfl
@[simp] theorem forD_nil {body : Dat → DEnv → Rs Out} : forD body [] ε = .ok (.nx ε) := rfl
@[simp] theorem yesT_eq : yesT ε = .ok true := rfl
@[simp] theorem olds_nil : olds [] = [] := rfl
@[simp] theorem olds_cons {d : Dat} {ds : List Dat} : olds (d :: ds) = old d :: olds ds := rfl
@[simp] theorem old_int {k : Int} : old (.int k) = .int k := rfl
@[simp] theorem old_bl {k : Bool} : old (.bl k) = .bl k := rfl
@[simp] theorem old_str {k : Str} : old (.str k) = .str k := rfl
@[simp] theorem old_non : old .non = .non := rfl
@[simp] theorem old_tup {ds : List Dat} : old (.tup ds) = .tup (olds ds) := rfl
@[simp] theorem old_lst {t : Bool} {ds : List Dat} : old (.lst t ds) = .lst false (olds ds) := rfl
@[simp] theorem fresh_int {k : Int} : fresh (.int k) = true := rfl
@[simp] theorem fresh_bl {k : Bool} : fresh (.bl k) = true := rfl
@[simp] theorem fresh_str {k : Str} : fresh (.str k) = true := rfl
@[simp] theorem fresh_non : fresh .non = true := rfl
@[simp] theorem fresh_tup {ds : List Dat} : fresh (.tup ds) = freshs ds := rfl
@[simp] theorem fresh_lst {t : Bool} {ds : List Dat} : fresh (.lst t ds) = (t && freshs ds) := rfl
@[simp] theorem freshs_nil : freshs [] = true := rfl
@[simp] theorem freshs_cons {d : Dat} {ds : List Dat} : freshs (d :: ds) = (fresh d && freshs ds) := rfl
theorem olds_map {α : Type} (h : α → Dat) (k : α → Dat) (e : ∀ a, old (h a) = k a) : ∀ l : List α, olds (l.map h) = l.map k
  | [] => rfl
  | a :: l => by simp [e, olds_map h k e l]
@[simp] theorem olds_ints (l : List Int) : olds (l.map .int) = l.map .int := olds_map _ _ (fun _ => rfl) l
@[simp] theorem freshs_ints : ∀ l : List Int, freshs (l.map .int) = true
  | [] => rfl
  | a :: l => by simp [freshs_ints l]

/-! ### slots -/
theorem rdv_some {o : Bool} {d : Dat} (h : ε[i]? = some (some (o, d))) : rdv m i ε = if (m && o) = true then .no else .ok d := by
  unfold rdv
  rw [h]
@[simp] theorem rdv_zero {o : Bool} {d : Dat} {r : DEnv} : rdv m 0 (some (o, d) :: r) = if (m && o) = true then .no else .ok d := rfl
@[simp] theorem rdv_succ {s : Option (Bool × Dat)} {r : DEnv} : rdv m (i + 1) (s :: r) = rdv m i r := by
  unfold rdv
  rw [List.getElem?_cons_succ]
@[simp] theorem ownL_zero {t : Bool} {ds : List Dat} {r : DEnv} : ownL 0 (some (true, .lst t ds) :: r) = .ok (t, ds) := rfl
@[simp] theorem ownL_succ {s : Option (Bool × Dat)} {r : DEnv} : ownL (i + 1) (s :: r) = ownL i r := by
  unfold ownL
  rw [List.getElem?_cons_succ]
@[simp] theorem fz_own {d : Dat} {r : DEnv} : fz 0 (some (true, d) :: r) = some (false, d) :: r := rfl
@[simp] theorem fz_val {d : Dat} {r : DEnv} : fz 0 (some (false, d) :: r) = some (false, d) :: r := rfl
@[simp] theorem fz_none {r : DEnv} : fz 0 (none :: r) = none :: r := rfl
@[simp] theorem fz_succ {s : Option (Bool × Dat)} {r : DEnv} : fz (i + 1) (s :: r) = s :: fz i r := by
  unfold fz
  rw [List.getElem?_cons_succ]
  split
  · rename_i e
    rw [e]
    rfl
  · rfl

/-! ### numbers -/
@[simp] theorem sz_small {n : Nat} (h : n ≤ 16777216) : sz n = true := sz_le h
theorem dI_ok {C : Int → Int → Prop} {h : Int → Int → Int} {x y : Int} (hc : C x y) : dI C h (.int x) (.int y) = some (.int (h x y)) := by
  show (if cls (C x y) = true then _ else _) = _
  rw [if_pos (cls_true hc)]
@[simp] theorem dAdd_int {x y : Int} : dAdd (.int x) (.int y) = some (.int (x + y)) := rfl
@[simp] theorem dSub_int {x y : Int} : dSub (.int x) (.int y) = some (.int (x - y)) := dI_ok trivial
@[simp] theorem dNeg_int {x : Int} : dNeg (.int x) = some (.int (-x)) := rfl
theorem dMod_int {x y : Int} (h : 0 < y) : dMod (.int x) (.int y) = some (.int (x % y)) := dI_ok h
theorem dFdiv_int {x y : Int} (h : 0 < y) (h2 : y < 2 ^ 64) : dFdiv (.int x) (.int y) = some (.int (x / y)) := by
  refine dI_ok ⟨h, ?_⟩
  have h3 : y.natAbs < 2 ^ 64 := by omega
  exact Nat.lt_of_lt_of_le (Nat.log2_lt (by omega) |>.mpr h3) (by decide)
theorem dMul_l {x y : Int} (h : -(2 ^ 64) < x) (h2 : x < 2 ^ 64) : dMul (.int x) (.int y) = some (.int (x * y)) := dI_ok (.inl (.inl ⟨h, h2⟩))
theorem dMul_r {x y : Int} (h : -(2 ^ 64) < y) (h2 : y < 2 ^ 64) : dMul (.int x) (.int y) = some (.int (x * y)) := dI_ok (.inl (.inr ⟨h, h2⟩))
theorem dPow_int {x y : Int} (h : 0 ≤ y) (h2 : y ≤ 1000000) (h3 : x.natAbs < 2 ^ 64) : dPow (.int x) (.int y) = some (.int (x ^ y.toNat)) := dI_ok ⟨h, h2, h3⟩
theorem dShr_int {x y : Int} (h : 0 ≤ y) : dShr (.int x) (.int y) = some (.int (x / 2 ^ y.toNat)) := dI_ok h
@[simp] theorem dLt_int {x y : Int} : dLt (.int x) (.int y) = some (.bl (decide (x < y))) := rfl
@[simp] theorem dLe_int {x y : Int} : dLe (.int x) (.int y) = some (.bl (decide (x ≤ y))) := rfl
@[simp] theorem dGt_int {x y : Int} : dGt (.int x) (.int y) = some (.bl (decide (y < x))) := rfl
@[simp] theorem dGe_int {x y : Int} : dGe (.int x) (.int y) = some (.bl (decide (y ≤ x))) := rfl
@[simp] theorem dEq_int {x y : Int} : dEq (.int x) (.int y) = some (.bl (decide (x = y))) := by
  unfold dEq
  rw [if_pos (show eqOk (.int x) (.int y) = true from rfl)]
  simp [deq, toP, PyData.eqv, Bool.beq_eq_decide_eq]
@[simp] theorem dNe_int {x y : Int} : dNe (.int x) (.int y) = some (.bl (!decide (x = y))) := by
  unfold dNe
  rw [if_pos (show eqOk (.int x) (.int y) = true from rfl)]
  simp [deq, toP, PyData.eqv, Bool.beq_eq_decide_eq]
@[simp] theorem dEq_str {x y : Str} : dEq (.str x) (.str y) = some (.bl (decide (x = y))) := by
  unfold dEq
  rw [if_pos (show eqOk (.str x) (.str y) = true from rfl)]
  simp [deq, toP, PyData.eqv, Bool.beq_eq_decide_eq]
@[simp] theorem dNe_str {x y : Str} : dNe (.str x) (.str y) = some (.bl (!decide (x = y))) := by
  unfold dNe
  rw [if_pos (show eqOk (.str x) (.str y) = true from rfl)]
  simp [deq, toP, PyData.eqv, Bool.beq_eq_decide_eq]
@[simp] theorem dEq_bl {x y : Bool} : dEq (.bl x) (.bl y) = some (.bl (decide (x = y))) := by
  unfold dEq
  rw [if_pos (show eqOk (.bl x) (.bl y) = true from rfl)]
  simp [deq, toP, PyData.eqv, Bool.beq_eq_decide_eq]
@[simp] theorem dNe_bl {x y : Bool} : dNe (.bl x) (.bl y) = some (.bl (!decide (x = y))) := by
  unfold dNe
  rw [if_pos (show eqOk (.bl x) (.bl y) = true from rfl)]
  simp [deq, toP, PyData.eqv, Bool.beq_eq_decide_eq]
@[simp] theorem dNot_bl {x : Bool} : dNot (.bl x) = some (.bl (!x)) := rfl
@[simp] theorem dIsN_non : dIsN .non .non = some (.bl true) := rfl
@[simp] theorem dIsN_int {x : Int} : dIsN (.int x) .non = some (.bl false) := rfl
@[simp] theorem dNotN_non : dNotN .non .non = some (.bl false) := rfl
@[simp] theorem dNotN_int {x : Int} : dNotN (.int x) .non = some (.bl true) := rfl
@[simp] theorem dIx_lst {t : Bool} {ds : List Dat} {k : Int} : dIx (.lst t ds) (.int k) = atI ds k := rfl
@[simp] theorem dIx_tup {ds : List Dat} {k : Int} : dIx (.tup ds) (.int k) = atI ds k := rfl
@[simp] theorem dLen_lst {t : Bool} {ds : List Dat} : dLen [.lst t ds] = some (.int ds.length) := rfl
@[simp] theorem dLen_tup {ds : List Dat} : dLen [.tup ds] = some (.int ds.length) := rfl
@[simp] theorem dTuple_lst {t : Bool} {ds : List Dat} : dTuple [.lst t ds] = some (.tup ds) := rfl
@[simp] theorem dTuple_tup {ds : List Dat} : dTuple [.tup ds] = some (.tup ds) := rfl
@[simp] theorem dSl_lst {t : Bool} {ds : List Dat} {lo hi : Option Int} : dSl (.lst t ds) lo hi = some (.lst true (cutD ds lo hi)) := rfl
@[simp] theorem dSl_tup {ds : List Dat} {lo hi : Option Int} : dSl (.tup ds) lo hi = some (.tup (cutD ds lo hi)) := rfl
@[simp] theorem dSl_scr {ds : List Int} {lo hi : Option Int} : dSl (.scr ds) lo hi = some (.lst true ((cutD ds lo hi).map .int)) := rfl
theorem atI_at {α : Type} {l : List α} {k : Int} {x : α} (h0 : 0 ≤ k) (h : l[k.toNat]? = some x) : atI l k = some x := by
  have e : k = ((k.toNat : Nat) : Int) := by omega
  rw [e]
  exact atI_nat h
@[simp] theorem atI_zero {α : Type} {l : List α} {x : α} : atI (x :: l) 0 = some x := atI_at (by decide) rfl
@[simp] theorem atI_one {α : Type} {l : List α} {x y : α} : atI (x :: y :: l) 1 = some y := atI_at (by decide) rfl
@[simp] theorem atI_two {α : Type} {l : List α} {x y z : α} : atI (x :: y :: z :: l) 2 = some z := atI_at (by decide) rfl
theorem atI_map {α β : Type} {l : List α} {k : Int} {x : α} (h : β = β) (g : α → β) (h0 : 0 ≤ k) (h : l[k.toNat]? = some x) : atI (l.map g) k = some (g x) := atI_at h0 (by rw [List.getElem?_map, h]; rfl)
end DL
namespace DL
open PySem PySem.Spec PyProof.Rows L2
/-! ### comprehensions, slices -/
variable {ε : DEnv}
@[simp] theorem compD_eq {w : DEnv → Rs (List Dat)} {G : Dat → DEnv → Option DEnv} {c : DEnv → Rs Bool} {fe : DEnv → Rs Dat} {vs : List Nat} : compD w G c fe vs ε =
    (w ε >>= fun ds => chk (sz ds.length && noOwn ε vs) (compL (compT G c fe (wipeD ε vs)) ds)) := rfl
@[simp] theorem compT_eq {G : Dat → DEnv → Option DEnv} {c : DEnv → Rs Bool} {fe : DEnv → Rs Dat} {d : Dat} : compT G c fe ε d =
    (Rs.of (G d ε) >>= fun ε2 => (c ε2).nox >>= fun b => if b = true then (fe ε2).nox >>= fun z => .ok (some z) else .ok none) := rfl
@[simp] theorem wipeD_nil : wipeD ε [] = ε := rfl
@[simp] theorem wipeD_cons {v : Nat} {vs : List Nat} : wipeD ε (v :: vs) = (wipeD ε vs).set v none := rfl
@[simp] theorem noOwn_nil : noOwn ε [] = true := rfl
@[simp] theorem compL_nil {F : Dat → Rs (Option Dat)} : compL F [] = .ok [] := rfl
theorem compL_map {α : Type} {F : Dat → Rs (Option Dat)} {e : α → Dat} {k : α → Dat} : ∀ {l : List α}, (∀ a ∈ l, F (e a) = .ok (some (k a))) → compL F (l.map e) = .ok (l.map k)
  | [], _ => rfl
  | a :: l, h => by
    have ih := compL_map (F := F) (e := e) (k := k) (l := l) fun b hb => h b (List.mem_cons_of_mem _ hb)
    simp only [List.map_cons]
    unfold compL
    rw [h a List.mem_cons_self, ih]
    rfl
theorem compL_filter {α : Type} {F : Dat → Rs (Option Dat)} {e : α → Dat} {p : α → Bool} {k : α → Dat} : ∀ {l : List α}, (∀ a ∈ l, F (e a) = .ok (if p a = true then some (k a) else none)) → compL F (l.map e) = .ok ((l.filter p).map k)
  | [], _ => rfl
  | a :: l, h => by
    have ih := compL_filter (F := F) (e := e) (p := p) (k := k) (l := l) fun b hb => h b (List.mem_cons_of_mem _ hb)
    simp only [List.map_cons]
    unfold compL
    rw [h a List.mem_cons_self, ih]
    cases hp : p a <;> simp [hp]
theorem compL_rng {F : Dat → Rs (Option Dat)} {n : Nat} {lo : Int} {k : Nat → Dat} (h : ∀ i, i < n → F (.int (lo + (i : Nat))) = .ok (some (k i))) : compL F (rng lo n) = .ok ((List.range n).map k) :=
  compL_map fun a ha => h a (List.mem_range.mp ha)
@[simp] theorem rng_length {lo : Int} {n : Nat} : (rng lo n).length = n := by simp [rng]
theorem cut_take {α : Type} (l : List α) (n : Nat) : cutD l none (some (n : Int)) = l.take n := by
  unfold cutD
  rw [HT.sIx_none, HT.sIx_nat]
  simp
theorem cut_drop {α : Type} (l : List α) (n : Nat) : cutD l (some (n : Int)) none = l.drop n := by
  unfold cutD
  rw [HT.sIx_none, HT.sIx_nat, List.take_of_length_le (by simp)]
  by_cases h : n ≤ l.length
  · rw [Nat.min_eq_left h]
  · rw [Nat.min_eq_right (by omega), List.drop_length, List.drop_eq_nil_of_le (by omega)]
theorem cut_both {α : Type} (l : List α) (n k : Nat) : cutD l (some (n : Int)) (some (k : Int)) = (l.drop n).take (k - n) := by
  unfold cutD
  rw [HT.sIx_nat, HT.sIx_nat]
  by_cases h : n ≤ l.length
  · rw [Nat.min_eq_left h]
    by_cases h2 : k ≤ l.length
    · rw [Nat.min_eq_left h2]
    · rw [Nat.min_eq_right (by omega)]
      rw [List.take_of_length_le (by simp), List.take_of_length_le (by simp; omega)]
  · rw [Nat.min_eq_right (show l.length ≤ n by omega), List.drop_length, List.drop_eq_nil_of_le (show l.length ≤ n by omega)]
    simp
@[simp] theorem dAdd_lst {t u : Bool} {a b : List Dat} (h : a.length + b.length ≤ sizeLine) : dAdd (.lst t a) (.lst u b) = some (.lst true (a ++ b)) := if_pos h
theorem dAdd_lst' {t u : Bool} {a b : List Dat} (h : a.length + b.length ≤ 16777216) : dAdd (.lst t a) (.lst u b) = some (.lst true (a ++ b)) := if_pos (by rw [sizeLine_eq]; exact h)
theorem dAdd_tup' {a b : List Dat} (h : a.length + b.length ≤ 16777216) : dAdd (.tup a) (.tup b) = some (.tup (a ++ b)) := if_pos (by rw [sizeLine_eq]; exact h)
theorem kit_bool : kitB "bool" "bool" = some true := by decide +kernel
theorem kit_int_bool : kitB "int" "bool" = some false := by decide +kernel
theorem kit_int : kitB "int" "int" = some true := by decide +kernel
theorem kit_list : kitB "list" "list" = some true := by decide +kernel
theorem kit_tuple : kitB "tuple" "tuple" = some true := by decide +kernel
theorem kit_non_int : kitB "NoneType" "int" = some false := by decide +kernel
@[simp] theorem isi_bool {b : Bool} : dIsi "bool" (.bl b) = some (.bl true) := by simp [dIsi, tyN, kit_bool]
@[simp] theorem isi_int_bool {b : Int} : dIsi "bool" (.int b) = some (.bl false) := by simp [dIsi, tyN, kit_int_bool]
@[simp] theorem isi_int {b : Int} : dIsi "int" (.int b) = some (.bl true) := by simp [dIsi, tyN, kit_int]
@[simp] theorem isi_list {t : Bool} {ds : List Dat} : dIsi "list" (.lst t ds) = some (.bl true) := by simp [dIsi, tyN, kit_list]
@[simp] theorem isi_tuple {ds : List Dat} : dIsi "tuple" (.tup ds) = some (.bl true) := by simp [dIsi, tyN, kit_tuple]
end DL

set_option maxRecDepth 100000
set_option maxHeartbeats 4000000
/-! law_k31_conditions: the walk, printed by gen.py -/
namespace K31
open PySem PySem.Spec PyProof.Rows L2 DL
/-! the text -/
def topS (i : Nat) : Stmt := PySem.Challenge.pw_whenrows_k31_conditions.main.body.getD i (.Pass ⟨0, 0, 0, 0⟩)
structure Bt (mg : Str → Option Value) : Prop where
  b_bool : mg "bool" = none
  b_isinstance : mg "isinstance" = none
  b_range : mg "range" = none
  b_tuple : mg "tuple" = none
/-! ### meets -/
abbrev s_meets : Stmt := topS 1
abbrev nm_meets : List Str := ["condition", "row", "word"]
theorem sc_meets : FnScope ["condition", "row", "word"] ["condition", "row"] (defScope s_meets) := ⟨rfl, rfl, rfl, by decide +kernel, rfl, by decide +kernel, by decide +kernel⟩
noncomputable def F_meets : Nat → List Dat → Rs Dat
  | 0 => fun _ => .no
  | n + 1 => runF 3 (seqD (setD 2 (bop dIx (rdv false 0) (kst (.int 0))))
  (seqD (iteD (tst (bop dEq (rdv false 2) (kst (.str "same"))))
  (retD (bop dEq (bop dIx (rdv false 1) (bop dIx (rdv false 0) (kst (.int 1)))) (bop dIx (rdv false 1) (bop dIx (rdv false 0) (kst (.int 2))))))
  (fun ε => .ok (.nx ε)))
  (seqD (iteD (tst (bop dEq (rdv false 2) (kst (.str "is"))))
  (retD (bop dEq (bop dIx (rdv false 1) (bop dIx (rdv false 0) (kst (.int 1)))) (bop dIx (rdv false 0) (kst (.int 2)))))
  (fun ε => .ok (.nx ε)))
  (seqD (iteD (tst (bop dEq (rdv false 2) (kst (.str "below"))))
  (retD (bop dLt (bop dIx (rdv false 1) (bop dIx (rdv false 0) (kst (.int 1)))) (bop dIx (rdv false 1) (bop dIx (rdv false 0) (kst (.int 2))))))
  (fun ε => .ok (.nx ε)))
  (seqD (iteD (tst (bop dEq (rdv false 2) (kst (.str "under"))))
  (retD (bop dLt (bop dIx (rdv false 1) (bop dIx (rdv false 0) (kst (.int 1)))) (bop dIx (rdv false 0) (kst (.int 2)))))
  (fun ε => .ok (.nx ε)))
  (seqD (iteD (tst (bop dEq (rdv false 2) (kst (.str "not"))))
  (retD (uop dNot (callD 2 (F_meets n) (argsC (bop dIx (rdv false 0) (kst (.int 1))) (argsC (rdv true 1) argsN)))))
  (fun ε => .ok (.nx ε)))
  (seqD (iteD (tst (bop dEq (rdv false 2) (kst (.str "both"))))
  (retD (andV (callD 2 (F_meets n) (argsC (bop dIx (rdv false 0) (kst (.int 1))) (argsC (rdv true 1) argsN))) (callD 2 (F_meets n) (argsC (bop dIx (rdv false 0) (kst (.int 2))) (argsC (rdv true 1) argsN)))))
  (fun ε => .ok (.nx ε)))
  (retD (orV (callD 2 (F_meets n) (argsC (bop dIx (rdv false 0) (kst (.int 1))) (argsC (rdv true 1) argsN))) (callD 2 (F_meets n) (argsC (bop dIx (rdv false 0) (kst (.int 2))) (argsC (rdv true 1) argsN))))))))))))
theorem ok1_meets {P : Program} {w : World} {K : PySem.W.Frag} {mg : Str → Option Value} {base : Heap} {f : Addr} {fd : FuncData} (Fn : Fun K "meets" "meets" s_meets f fd) (mf : mg "meets" = some (.ref f)) (bf : Binds K fd ["condition", "row"] []) (B : Bt mg)  (n j : Nat) (hj : 0 ≤ j) (G_meets : DefOk P w K mg base "meets" 2 j (F_meets n)) : DefOk P w K mg base "meets" 2 (j + 1) (F_meets (n + 1)) :=
  def_ok (ps := ["condition", "row"]) Fn mf bf sc_meets fun cdv A outer s H E hr L => 
  (ds_cons (ds_set 2 sc_meets.nd (de_ix (dv 0) de_int))
  (ds_cons (ds_if (dt_eq hr.units (dv 2) de_str)
  (ds_one (ds_ret (de_eq hr.units (de_ix (dv 1) (de_ix (dv 0) de_int)) (de_ix (dv 1) (de_ix (dv 0) de_int)))))
  ds_nil)
  (ds_cons (ds_if (dt_eq hr.units (dv 2) de_str)
  (ds_one (ds_ret (de_eq hr.units (de_ix (dv 1) (de_ix (dv 0) de_int)) (de_ix (dv 0) de_int))))
  ds_nil)
  (ds_cons (ds_if (dt_eq hr.units (dv 2) de_str)
  (ds_one (ds_ret (de_lt hr.units0 (de_ix (dv 1) (de_ix (dv 0) de_int)) (de_ix (dv 1) (de_ix (dv 0) de_int)))))
  ds_nil)
  (ds_cons (ds_if (dt_eq hr.units (dv 2) de_str)
  (ds_one (ds_ret (de_lt hr.units0 (de_ix (dv 1) (de_ix (dv 0) de_int)) (de_ix (dv 0) de_int))))
  ds_nil)
  (ds_cons (ds_if (dt_eq hr.units (dv 2) de_str)
  (ds_one (ds_ret (de_not (dcall G_meets hr (by omega) (takes_of rfl rfl rfl rfl) (da_cons (de_ix (dv 0) de_int) (da_cons (dv 1) da_nil))))))
  ds_nil)
  (ds_cons (ds_if (dt_eq hr.units (dv 2) de_str)
  (ds_one (ds_ret (de_and (dcall G_meets hr (by omega) (takes_of rfl rfl rfl rfl) (da_cons (de_ix (dv 0) de_int) (da_cons (dv 1) da_nil))) (de_one (dcall G_meets hr (by omega) (takes_of rfl rfl rfl rfl) (da_cons (de_ix (dv 0) de_int) (da_cons (dv 1) da_nil)))))))
  ds_nil)
  (ds_one (ds_ret (de_or (dcall G_meets hr (by omega) (takes_of rfl rfl rfl rfl) (da_cons (de_ix (dv 0) de_int) (da_cons (dv 1) da_nil))) (de_one (dcall G_meets hr (by omega) (takes_of rfl rfl rfl rfl) (da_cons (de_ix (dv 0) de_int) (da_cons (dv 1) da_nil))))))))))))))
theorem ok_meets {P : Program} {w : World} {K : PySem.W.Frag} {mg : Str → Option Value} {base : Heap} {f : Addr} {fd : FuncData} (Fn : Fun K "meets" "meets" s_meets f fd) (mf : mg "meets" = some (.ref f)) (bf : Binds K fd ["condition", "row"] []) (B : Bt mg)  : ∀ n, DefOk P w K mg base "meets" 2 (n + 0) (F_meets n)
  | 0 => (DefOk.none mf Fn.kp bf).mono (Nat.zero_le _)
  | n + 1 => (ok1_meets Fn mf bf B  n (n + 0) (by omega) (ok_meets Fn mf bf B  n)).mono (by omega)
/-! ### _law_mixed -/
abbrev s__law_mixed : Stmt := topS 3
abbrev nm__law_mixed : List Str := ["_law_cell", "_law_k", "_law_left", "_law_j", "_law_one"]
theorem sc__law_mixed : FnScope ["_law_cell", "_law_k", "_law_left", "_law_j", "_law_one"] ["_law_cell", "_law_k"] (defScope s__law_mixed) := ⟨rfl, rfl, rfl, by decide +kernel, rfl, by decide +kernel, by decide +kernel⟩
noncomputable def L__law_mixed_1 : DEnv → Rs Out := (fgtD [3] (setD 2 (bop dFdiv (rdv false 2) (bop dPow (kst (.int 10)) (kst (.int 7))))))
noncomputable def F__law_mixed : List Dat → Rs Dat := runF 5 (seqD (iteD (tst (bop dGt (rdv false 0) (bop dPow (kst (.int 10)) (kst (.int 8)))))
  (seqD (setD 2 (bop dFdiv (rdv false 0) (kst (.int 1000))))
  (seqD (loopD (rngD asR1 (argsC (rdv false 1) argsN)) (trn (gN 3) L__law_mixed_1))
  (retD (bop dMod (rdv false 2) (bop dPow (kst (.int 10)) (kst (.int 7)))))))
  (fun ε => .ok (.nx ε)))
  (seqD (setD 4 (bop dMod (bop dMul (bop dAdd (bop dAdd (bop dMod (rdv false 0) (kst (.int 2147483647))) (bop dMul (bop dMul (kst (.int 40503)) (rdv false 1)) (rdv false 1))) (bop dMul (kst (.int 17)) (rdv false 1))) (kst (.int 48271))) (kst (.int 2147483647))))
  (retD (bop dMod (bop dMul (rdv false 4) (bop dAdd (bop dAdd (bop dMod (rdv false 4) (kst (.int 65537))) (bop dMul (kst (.int 3)) (rdv false 1))) (kst (.int 1)))) (kst (.int 2147483629))))))
theorem ok__law_mixed {P : Program} {w : World} {K : PySem.W.Frag} {mg : Str → Option Value} {base : Heap} {f : Addr} {fd : FuncData} (Fn : Fun K "_law_mixed" "_law_mixed" s__law_mixed f fd) (mf : mg "_law_mixed" = some (.ref f)) (bf : Binds K fd ["_law_cell", "_law_k"] []) (B : Bt mg)  : DefOk P w K mg base "_law_mixed" 2 1 F__law_mixed :=
  def_ok (ps := ["_law_cell", "_law_k"]) Fn mf bf sc__law_mixed fun cdv A outer s H E hr L => 
  (ds_cons (ds_if (dt_gt (dv 0) (de_pow de_int de_int))
  (ds_cons (ds_set 2 sc__law_mixed.nd (de_fdiv (dv 0) de_int))
  (ds_cons (ds_for rfl (passes_of rfl) (di_range1 B.b_range (da_cons (dv 1) da_nil)) (dg_name 3 sc__law_mixed.nd trivial)
  (ds_fgt [3] (ds_one (ds_set 2 sc__law_mixed.nd (de_fdiv (dv 2) (de_pow de_int de_int))))))
  (ds_one (ds_ret (de_mod (dv 2) (de_pow de_int de_int))))))
  ds_nil)
  (ds_cons (ds_set 4 sc__law_mixed.nd (de_mod (de_mul (de_add (de_add (de_mod (dv 0) de_int) (de_mul (de_mul de_int (dv 1)) (dv 1))) (de_mul de_int (dv 1))) de_int) de_int))
  (ds_one (ds_ret (de_mod (de_mul (dv 4) (de_add (de_add (de_mod (dv 4) de_int) (de_mul de_int (dv 1))) de_int)) de_int)))))
/-! ### _law_pool -/
abbrev s__law_pool : Stmt := topS 4
abbrev nm__law_pool : List Str := ["_law_cell", "_law_first"]
theorem sc__law_pool : FnScope ["_law_cell", "_law_first"] ["_law_cell"] (defScope s__law_pool) := ⟨rfl, rfl, rfl, by decide +kernel, rfl, by decide +kernel, by decide +kernel⟩
noncomputable def F__law_pool : List Dat → Rs Dat := runF 2 (seqD (setD 1 (bop dSub (bop dMod (bop dMul (bop dMul (callD 2 F__law_mixed (argsC (rdv true 0) (argsC (kst (.int 30)) argsN))) (callD 2 F__law_mixed (argsC (rdv true 0) (argsC (kst (.int 31)) argsN)))) (callD 2 F__law_mixed (argsC (rdv true 0) (argsC (kst (.int 32)) argsN)))) (bop dMul (kst (.int 2)) (bop dPow (kst (.int 10)) (kst (.int 26))))) (bop dPow (kst (.int 10)) (kst (.int 26)))))
  (seqD (iteD (tst (bop dGt (rdv false 0) (bop dPow (kst (.int 10)) (kst (.int 8)))))
  (setD 1 (bop dSub (bop dMod (bop dFdiv (rdv false 0) (kst (.int 1000))) (bop dMul (kst (.int 2)) (bop dPow (kst (.int 10)) (kst (.int 26))))) (bop dPow (kst (.int 10)) (kst (.int 26)))))
  (fun ε => .ok (.nx ε)))
  (seqD (iteD (tst (bop dEq (bop dMod (rdv false 0) (kst (.int 3))) (kst (.int 0))))
  (setD 1 (bop dSub (kst (.int 0)) (bop dMod (bop dFdiv (rdv false 0) (kst (.int 3))) (kst (.int 2)))))
  (fun ε => .ok (.nx ε)))
  (retD (lstD (dspD (argsC (rdv true 1) (argsC (bop dAdd (bop dAdd (rdv false 1) (kst (.int 1))) (bop dMod (callD 2 F__law_mixed (argsC (rdv true 0) (argsC (kst (.int 33)) argsN))) (kst (.int 5)))) (argsC (bop dAdd (bop dAdd (rdv false 1) (kst (.int 9))) (callD 2 F__law_mixed (argsC (rdv true 0) (argsC (kst (.int 34)) argsN)))) argsN)))))))))
theorem ok__law_pool {P : Program} {w : World} {K : PySem.W.Frag} {mg : Str → Option Value} {base : Heap} {f : Addr} {fd : FuncData} (Fn : Fun K "_law_pool" "_law_pool" s__law_pool f fd) (mf : mg "_law_pool" = some (.ref f)) (bf : Binds K fd ["_law_cell"] []) (B : Bt mg) (G__law_mixed : DefOk P w K mg base "_law_mixed" 2 1 F__law_mixed) : DefOk P w K mg base "_law_pool" 1 2 F__law_pool :=
  def_ok (ps := ["_law_cell"]) Fn mf bf sc__law_pool fun cdv A outer s H E hr L => 
  (ds_cons (ds_set 1 sc__law_pool.nd (de_sub (de_mod (de_mul (de_mul (dcall G__law_mixed hr (by decide) (takes_of rfl rfl rfl rfl) (da_cons (dv 0) (da_cons de_int da_nil))) (dcall G__law_mixed hr (by decide) (takes_of rfl rfl rfl rfl) (da_cons (dv 0) (da_cons de_int da_nil)))) (dcall G__law_mixed hr (by decide) (takes_of rfl rfl rfl rfl) (da_cons (dv 0) (da_cons de_int da_nil)))) (de_mul de_int (de_pow de_int de_int))) (de_pow de_int de_int)))
  (ds_cons (ds_if (dt_gt (dv 0) (de_pow de_int de_int))
  (ds_one (ds_set 1 sc__law_pool.nd (de_sub (de_mod (de_fdiv (dv 0) de_int) (de_mul de_int (de_pow de_int de_int))) (de_pow de_int de_int))))
  ds_nil)
  (ds_cons (ds_if (dt_eq hr.units (de_mod (dv 0) de_int) de_int)
  (ds_one (ds_set 1 sc__law_pool.nd (de_sub de_int (de_mod (de_fdiv (dv 0) de_int) de_int))))
  ds_nil)
  (ds_one (ds_ret (DF.de (df_lst (da_cons (dv 1) (da_cons (de_add (de_add (dv 1) de_int) (de_mod (dcall G__law_mixed hr (by decide) (takes_of rfl rfl rfl rfl) (da_cons (dv 0) (da_cons de_int da_nil))) de_int)) (da_cons (de_add (de_add (dv 1) de_int) (dcall G__law_mixed hr (by decide) (takes_of rfl rfl rfl rfl) (da_cons (dv 0) (da_cons de_int da_nil)))) da_nil))))))))))
/-! ### _law_plain_condition -/
abbrev s__law_plain_condition : Stmt := topS 5
abbrev nm__law_plain_condition : List Str := ["_law_number", "_law_size", "_law_pool_here", "_law_i"]
theorem sc__law_plain_condition : FnScope ["_law_number", "_law_size", "_law_pool_here", "_law_i"] ["_law_number", "_law_size", "_law_pool_here"] (defScope s__law_plain_condition) := ⟨rfl, rfl, rfl, by decide +kernel, rfl, by decide +kernel, by decide +kernel⟩
noncomputable def F__law_plain_condition : List Dat → Rs Dat := runF 4 (seqD (setD 3 (bop dMod (bop dFdiv (rdv false 0) (kst (.int 4))) (rdv false 1)))
  (seqD (iteD (tst (bop dEq (bop dMod (rdv false 0) (kst (.int 4))) (kst (.int 0))))
  (retD (tupD (argsC (kst (.str "same")) (argsC (rdv true 3) (argsC (bop dMod (bop dFdiv (rdv false 0) (kst (.int 60))) (rdv false 1)) argsN)))))
  (fun ε => .ok (.nx ε)))
  (seqD (iteD (tst (bop dEq (bop dMod (rdv false 0) (kst (.int 4))) (kst (.int 1))))
  (retD (tupD (argsC (kst (.str "is")) (argsC (rdv true 3) (argsC (bop dIx (rdv false 2) (bop dMod (bop dFdiv (rdv false 0) (kst (.int 60))) (kst (.int 3)))) argsN)))))
  (fun ε => .ok (.nx ε)))
  (seqD (iteD (tst (bop dEq (bop dMod (rdv false 0) (kst (.int 4))) (kst (.int 2))))
  (retD (tupD (argsC (kst (.str "below")) (argsC (rdv true 3) (argsC (bop dMod (bop dFdiv (rdv false 0) (kst (.int 60))) (rdv false 1)) argsN)))))
  (fun ε => .ok (.nx ε)))
  (retD (tupD (argsC (kst (.str "under")) (argsC (rdv true 3) (argsC (bop dIx (rdv false 2) (bop dMod (bop dFdiv (rdv false 0) (kst (.int 60))) (kst (.int 3)))) argsN)))))))))
theorem ok__law_plain_condition {P : Program} {w : World} {K : PySem.W.Frag} {mg : Str → Option Value} {base : Heap} {f : Addr} {fd : FuncData} (Fn : Fun K "_law_plain_condition" "_law_plain_condition" s__law_plain_condition f fd) (mf : mg "_law_plain_condition" = some (.ref f)) (bf : Binds K fd ["_law_number", "_law_size", "_law_pool_here"] []) (B : Bt mg)  : DefOk P w K mg base "_law_plain_condition" 3 1 F__law_plain_condition :=
  def_ok (ps := ["_law_number", "_law_size", "_law_pool_here"]) Fn mf bf sc__law_plain_condition fun cdv A outer s H E hr L => 
  (ds_cons (ds_set 3 sc__law_plain_condition.nd (de_mod (de_fdiv (dv 0) de_int) (dv 1)))
  (ds_cons (ds_if (dt_eq hr.units (de_mod (dv 0) de_int) de_int)
  (ds_one (ds_ret (de_tup (da_cons de_str (da_cons (dv 3) (da_cons (de_mod (de_fdiv (dv 0) de_int) (dv 1)) da_nil))))))
  ds_nil)
  (ds_cons (ds_if (dt_eq hr.units (de_mod (dv 0) de_int) de_int)
  (ds_one (ds_ret (de_tup (da_cons de_str (da_cons (dv 3) (da_cons (de_ix (dv 2) (de_mod (de_fdiv (dv 0) de_int) de_int)) da_nil))))))
  ds_nil)
  (ds_cons (ds_if (dt_eq hr.units (de_mod (dv 0) de_int) de_int)
  (ds_one (ds_ret (de_tup (da_cons de_str (da_cons (dv 3) (da_cons (de_mod (de_fdiv (dv 0) de_int) (dv 1)) da_nil))))))
  ds_nil)
  (ds_one (ds_ret (de_tup (da_cons de_str (da_cons (dv 3) (da_cons (de_ix (dv 2) (de_mod (de_fdiv (dv 0) de_int) de_int)) da_nil))))))))))
/-! ### _law_meets -/
abbrev s__law_meets : Stmt := topS 6
abbrev nm__law_meets : List Str := ["_law_condition", "_law_row", "_law_word", "_law_there"]
theorem sc__law_meets : FnScope ["_law_condition", "_law_row", "_law_word", "_law_there"] ["_law_condition", "_law_row"] (defScope s__law_meets) := ⟨rfl, rfl, rfl, by decide +kernel, rfl, by decide +kernel, by decide +kernel⟩
noncomputable def F__law_meets : Nat → List Dat → Rs Dat
  | 0 => fun _ => .no
  | n + 1 => runF 4 (seqD (setD 2 (bop dIx (rdv false 0) (kst (.int 0))))
  (seqD (iteD (orT (tst (bop dEq (rdv false 2) (kst (.str "same")))) (tst (bop dEq (rdv false 2) (kst (.str "below")))))
  (setD 3 (bop dIx (rdv false 1) (bop dIx (rdv false 0) (kst (.int 2)))))
  (fun ε => .ok (.nx ε)))
  (seqD (iteD (orT (tst (bop dEq (rdv false 2) (kst (.str "is")))) (tst (bop dEq (rdv false 2) (kst (.str "under")))))
  (setD 3 (bop dIx (rdv false 0) (kst (.int 2))))
  (fun ε => .ok (.nx ε)))
  (seqD (iteD (orT (tst (bop dEq (rdv false 2) (kst (.str "same")))) (tst (bop dEq (rdv false 2) (kst (.str "is")))))
  (retD (bop dEq (bop dIx (rdv false 1) (bop dIx (rdv false 0) (kst (.int 1)))) (rdv false 3)))
  (fun ε => .ok (.nx ε)))
  (seqD (iteD (orT (tst (bop dEq (rdv false 2) (kst (.str "below")))) (tst (bop dEq (rdv false 2) (kst (.str "under")))))
  (retD (bop dLt (bop dIx (rdv false 1) (bop dIx (rdv false 0) (kst (.int 1)))) (rdv false 3)))
  (fun ε => .ok (.nx ε)))
  (seqD (iteD (tst (bop dEq (rdv false 2) (kst (.str "not"))))
  (retD (uop dNot (callD 2 (F__law_meets n) (argsC (bop dIx (rdv false 0) (kst (.int 1))) (argsC (rdv true 1) argsN)))))
  (fun ε => .ok (.nx ε)))
  (seqD (iteD (tst (bop dEq (rdv false 2) (kst (.str "both"))))
  (retD (andV (callD 2 (F__law_meets n) (argsC (bop dIx (rdv false 0) (kst (.int 1))) (argsC (rdv true 1) argsN))) (callD 2 (F__law_meets n) (argsC (bop dIx (rdv false 0) (kst (.int 2))) (argsC (rdv true 1) argsN)))))
  (fun ε => .ok (.nx ε)))
  (retD (orV (callD 2 (F__law_meets n) (argsC (bop dIx (rdv false 0) (kst (.int 1))) (argsC (rdv true 1) argsN))) (callD 2 (F__law_meets n) (argsC (bop dIx (rdv false 0) (kst (.int 2))) (argsC (rdv true 1) argsN))))))))))))
theorem ok1__law_meets {P : Program} {w : World} {K : PySem.W.Frag} {mg : Str → Option Value} {base : Heap} {f : Addr} {fd : FuncData} (Fn : Fun K "_law_meets" "_law_meets" s__law_meets f fd) (mf : mg "_law_meets" = some (.ref f)) (bf : Binds K fd ["_law_condition", "_law_row"] []) (B : Bt mg)  (n j : Nat) (hj : 0 ≤ j) (G__law_meets : DefOk P w K mg base "_law_meets" 2 j (F__law_meets n)) : DefOk P w K mg base "_law_meets" 2 (j + 1) (F__law_meets (n + 1)) :=
  def_ok (ps := ["_law_condition", "_law_row"]) Fn mf bf sc__law_meets fun cdv A outer s H E hr L => 
  (ds_cons (ds_set 2 sc__law_meets.nd (de_ix (dv 0) de_int))
  (ds_cons (ds_if (DW.t (dw_or (dt_eq hr.units (dv 2) de_str) (dw_or1 (dt_eq hr.units (dv 2) de_str))))
  (ds_one (ds_set 3 sc__law_meets.nd (de_ix (dv 1) (de_ix (dv 0) de_int))))
  ds_nil)
  (ds_cons (ds_if (DW.t (dw_or (dt_eq hr.units (dv 2) de_str) (dw_or1 (dt_eq hr.units (dv 2) de_str))))
  (ds_one (ds_set 3 sc__law_meets.nd (de_ix (dv 0) de_int)))
  ds_nil)
  (ds_cons (ds_if (DW.t (dw_or (dt_eq hr.units (dv 2) de_str) (dw_or1 (dt_eq hr.units (dv 2) de_str))))
  (ds_one (ds_ret (de_eq hr.units (de_ix (dv 1) (de_ix (dv 0) de_int)) (dv 3))))
  ds_nil)
  (ds_cons (ds_if (DW.t (dw_or (dt_eq hr.units (dv 2) de_str) (dw_or1 (dt_eq hr.units (dv 2) de_str))))
  (ds_one (ds_ret (de_lt hr.units0 (de_ix (dv 1) (de_ix (dv 0) de_int)) (dv 3))))
  ds_nil)
  (ds_cons (ds_if (dt_eq hr.units (dv 2) de_str)
  (ds_one (ds_ret (de_not (dcall G__law_meets hr (by omega) (takes_of rfl rfl rfl rfl) (da_cons (de_ix (dv 0) de_int) (da_cons (dv 1) da_nil))))))
  ds_nil)
  (ds_cons (ds_if (dt_eq hr.units (dv 2) de_str)
  (ds_one (ds_ret (de_and (dcall G__law_meets hr (by omega) (takes_of rfl rfl rfl rfl) (da_cons (de_ix (dv 0) de_int) (da_cons (dv 1) da_nil))) (de_one (dcall G__law_meets hr (by omega) (takes_of rfl rfl rfl rfl) (da_cons (de_ix (dv 0) de_int) (da_cons (dv 1) da_nil)))))))
  ds_nil)
  (ds_one (ds_ret (de_or (dcall G__law_meets hr (by omega) (takes_of rfl rfl rfl rfl) (da_cons (de_ix (dv 0) de_int) (da_cons (dv 1) da_nil))) (de_one (dcall G__law_meets hr (by omega) (takes_of rfl rfl rfl rfl) (da_cons (de_ix (dv 0) de_int) (da_cons (dv 1) da_nil))))))))))))))
theorem ok__law_meets {P : Program} {w : World} {K : PySem.W.Frag} {mg : Str → Option Value} {base : Heap} {f : Addr} {fd : FuncData} (Fn : Fun K "_law_meets" "_law_meets" s__law_meets f fd) (mf : mg "_law_meets" = some (.ref f)) (bf : Binds K fd ["_law_condition", "_law_row"] []) (B : Bt mg)  : ∀ n, DefOk P w K mg base "_law_meets" 2 (n + 0) (F__law_meets n)
  | 0 => (DefOk.none mf Fn.kp bf).mono (Nat.zero_le _)
  | n + 1 => (ok1__law_meets Fn mf bf B  n (n + 0) (by omega) (ok__law_meets Fn mf bf B  n)).mono (by omega)
/-! ### _law_same -/
abbrev s__law_same : Stmt := topS 7
abbrev nm__law_same : List Str := ["_law_condition", "_law_row", "_law_found"]
theorem sc__law_same : FnScope ["_law_condition", "_law_row", "_law_found"] ["_law_condition", "_law_row"] (defScope s__law_same) := ⟨rfl, rfl, rfl, by decide +kernel, rfl, by decide +kernel, by decide +kernel⟩
noncomputable def F__law_same : List Dat → Rs Dat := runF 3 (seqD (setD 2 (callD 2 (F_meets 8) (argsC (rdv true 0) (argsC (rdv true 1) argsN))))
  (retD (andV (isiD "bool" (rdv false 2)) (bop dEq (rdv false 2) (callD 2 (F__law_meets 8) (argsC (rdv true 0) (argsC (rdv true 1) argsN)))))))
theorem ok__law_same {P : Program} {w : World} {K : PySem.W.Frag} {mg : Str → Option Value} {base : Heap} {f : Addr} {fd : FuncData} (Fn : Fun K "_law_same" "_law_same" s__law_same f fd) (mf : mg "_law_same" = some (.ref f)) (bf : Binds K fd ["_law_condition", "_law_row"] []) (B : Bt mg) (G_meets : DefOk P w K mg base "meets" 2 8 (F_meets 8)) (G__law_meets : DefOk P w K mg base "_law_meets" 2 8 (F__law_meets 8)) : DefOk P w K mg base "_law_same" 2 9 F__law_same :=
  def_ok (ps := ["_law_condition", "_law_row"]) Fn mf bf sc__law_same fun cdv A outer s H E hr L => 
  (ds_cons (ds_set 2 sc__law_same.nd (dcall G_meets hr (by decide) (takes_of rfl rfl rfl rfl) (da_cons (dv 0) (da_cons (dv 1) da_nil))))
  (ds_one (ds_ret (de_and (de_isi (T := "bool") B.b_isinstance B.b_bool (by decide +kernel) (dv 2)) (de_one (de_eq hr.units (dv 2) (dcall G__law_meets hr (by decide) (takes_of rfl rfl rfl rfl) (da_cons (dv 0) (da_cons (dv 1) da_nil)))))))))
/-! ### law -/
abbrev s_law : Stmt := topS 8
abbrev nm_law : List Str := ["_law_script", "_law_cells", "_law_pool_here", "_law_built", "_law_deep", "_law_cell", "_law_size", "_law_row", "_law_one", "_law_k"]
theorem sc_law : FnScope ["_law_script", "_law_cells", "_law_pool_here", "_law_built", "_law_deep", "_law_cell", "_law_size", "_law_row", "_law_one", "_law_k"] ["_law_script"] (defScope s_law) := ⟨rfl, rfl, rfl, by decide +kernel, rfl, by decide +kernel, by decide +kernel⟩
noncomputable def C_law_1 : DEnv → Rs (List Dat) := compD (rngD asR1 (argsC (rdv false 6) argsN)) (gN 9) yesT (bop dIx (rdv false 2) (bop dMod (callD 2 F__law_mixed (argsC (rdv true 5) (argsC (rdv true 9) argsN))) (kst (.int 3)))) [9]
noncomputable def L_law_1 : DEnv → Rs Out := (fgtD [5, 6, 7, 8] (seqD (setD 6 (bop dAdd (kst (.int 1)) (bop dMod (rdv false 5) (kst (.int 4)))))
  (seqD (setD 7 (biD dTuple (argsC (lstD C_law_1) argsN)))
  (seqD (setD 8 (callD 3 F__law_plain_condition (argsC (callD 2 F__law_mixed (argsC (rdv true 5) (argsC (kst (.int 9)) argsN))) (argsC (rdv true 6) (argsC (rdv true 2) argsN)))))
  (seqD (iteD (notT (tst (callD 2 F__law_same (argsC (rdv true 8) (argsC (rdv true 7) argsN)))))
  (retD (kst (.bl false)))
  (fun ε => .ok (.nx ε)))
  (seqD (setD 8 (callD 3 F__law_plain_condition (argsC (callD 2 F__law_mixed (argsC (rdv true 5) (argsC (kst (.int 9)) argsN))) (argsC (kst (.int 1)) (argsC (rdv true 2) argsN)))))
  (seqD (setD 3 (bop dIx (lstD (dspD (argsC (tupD (argsC (kst (.str "both")) (argsC (rdv true 8) (argsC (rdv true 3) argsN)))) (argsC (tupD (argsC (kst (.str "either")) (argsC (rdv true 3) (argsC (rdv true 8) argsN)))) (argsC (tupD (argsC (kst (.str "not")) (argsC (rdv true 3) argsN))) argsN))))) (bop dMod (bop dFdiv (rdv false 5) (kst (.int 4))) (kst (.int 3)))))
  (seqD (setD 4 (bop dAdd (rdv false 4) (kst (.int 1))))
  (seqD (iteD (orT (notT (tst (callD 2 F__law_same (argsC (rdv true 3) (argsC (rdv true 7) argsN))))) (notT (tst (callD 2 F__law_same (argsC (rdv true 3) (argsC (rdv true 7) argsN))))))
  (retD (kst (.bl false)))
  (fun ε => .ok (.nx ε)))
  (iteD (tst (bop dGt (rdv false 4) (kst (.int 4))))
  (seqD (setD 3 (rdv true 8))
  (setD 4 (kst (.int 1))))
  (fun ε => .ok (.nx ε))))))))))))
noncomputable def F_law : List Dat → Rs Dat := runF 10 (seqD (setD 1 (bop dAdd (slD (rdv false 0) noO (smO (kst (.int 63)))) (lstD (dspD (argsC (kst (.int 0)) argsN)))))
  (seqD (setD 2 (callD 1 F__law_pool (argsC (bop dIx (rdv false 1) (kst (.int 0))) argsN)))
  (seqD (setD 3 (tupD (argsC (kst (.str "is")) (argsC (kst (.int 0)) (argsC (bop dIx (rdv false 2) (kst (.int 0))) argsN)))))
  (seqD (setD 4 (kst (.int 1)))
  (seqD (loopD (walkD (rdv true 1)) (trn (gN 5) L_law_1))
  (retD (kst (.bl true))))))))
theorem ok_law {P : Program} {w : World} {K : PySem.W.Frag} {mg : Str → Option Value} {base : Heap} {f : Addr} {fd : FuncData} (Fn : Fun K "law" "law" s_law f fd) (mf : mg "law" = some (.ref f)) (bf : Binds K fd ["_law_script"] []) (B : Bt mg) (G__law_pool : DefOk P w K mg base "_law_pool" 1 2 F__law_pool) (G__law_plain_condition : DefOk P w K mg base "_law_plain_condition" 3 1 F__law_plain_condition) (G__law_mixed : DefOk P w K mg base "_law_mixed" 2 1 F__law_mixed) (G__law_same : DefOk P w K mg base "_law_same" 2 9 F__law_same) : FnOk P w K mg base (L2.CX P w) 10 f fd ["_law_script"] (spD K mg 1 F_law) :=
  fn_okD (ps := ["_law_script"]) Fn sc_law fun cdv A outer s H E hr L => 
  (ds_cons (ds_set 1 sc_law.nd (de_add (de_slice (dv 0) do_none (do_some de_int)) (DF.de (df_lst (da_cons de_int da_nil)))))
  (ds_cons (ds_set 2 sc_law.nd (dcall G__law_pool hr (by decide) (takes_of rfl rfl rfl rfl) (da_cons (de_ix (dv 1) de_int) da_nil)))
  (ds_cons (ds_set 3 sc_law.nd (de_tup (da_cons de_str (da_cons de_int (da_cons (de_ix (dv 2) de_int) da_nil)))))
  (ds_cons (ds_set 4 sc_law.nd de_int)
  (ds_cons (ds_for rfl (passes_of rfl) (di_list (dv 1)) (dg_name 5 sc_law.nd trivial)
  (ds_fgt [5, 6, 7, 8] (ds_cons (ds_set 6 sc_law.nd (de_add de_int (de_mod (dv 5) de_int)))
  (ds_cons (ds_set 7 sc_law.nd (de_tuple B.b_tuple (da_cons (DF.de (df_lc rfl sc_law.nd (di_range1 B.b_range (da_cons (dv 6) da_nil)) (blkOk_by (N := nm_law) (sc := defScope s_law) (own := [("_law_k", 9)]) (by decide +kernel)) (fun _ _ _ _ _ _ => (dg_name 9 sc_law.nd (by decide))) (fun _ _ _ _ _ _ => dts_nil) (fun _ _ _ _ _ _ => (de_ix (dv 2) (de_mod (dcall G__law_mixed hr (by decide) takes0 (da_cons (dv 5) (da_cons (dv 9) da_nil))) de_int))))) da_nil)))
  (ds_cons (ds_set 8 sc_law.nd (dcall G__law_plain_condition hr (by decide) (takes_of rfl rfl rfl rfl) (da_cons (dcall G__law_mixed hr (by decide) (takes_of rfl rfl rfl rfl) (da_cons (dv 5) (da_cons de_int da_nil))) (da_cons (dv 6) (da_cons (dv 2) da_nil)))))
  (ds_cons (ds_if (dt_not (dt_val (dcall G__law_same hr (by decide) (takes_of rfl rfl rfl rfl) (da_cons (dv 8) (da_cons (dv 7) da_nil)))))
  (ds_one (ds_ret de_bl))
  ds_nil)
  (ds_cons (ds_set 8 sc_law.nd (dcall G__law_plain_condition hr (by decide) (takes_of rfl rfl rfl rfl) (da_cons (dcall G__law_mixed hr (by decide) (takes_of rfl rfl rfl rfl) (da_cons (dv 5) (da_cons de_int da_nil))) (da_cons de_int (da_cons (dv 2) da_nil)))))
  (ds_cons (ds_set 3 sc_law.nd (de_ix (DF.de (df_lst (da_cons (de_tup (da_cons de_str (da_cons (dv 8) (da_cons (dv 3) da_nil)))) (da_cons (de_tup (da_cons de_str (da_cons (dv 3) (da_cons (dv 8) da_nil)))) (da_cons (de_tup (da_cons de_str (da_cons (dv 3) da_nil))) da_nil))))) (de_mod (de_fdiv (dv 5) de_int) de_int)))
  (ds_cons (ds_set 4 sc_law.nd (de_add (dv 4) de_int))
  (ds_cons (ds_if (DW.t (dw_or (dt_not (dt_val (dcall G__law_same hr (by decide) (takes_of rfl rfl rfl rfl) (da_cons (dv 3) (da_cons (dv 7) da_nil))))) (dw_or1 (dt_not (dt_val (dcall G__law_same hr (by decide) (takes_of rfl rfl rfl rfl) (da_cons (dv 3) (da_cons (dv 7) da_nil))))))))
  (ds_one (ds_ret de_bl))
  ds_nil)
  (ds_one (ds_if (dt_gt (dv 4) de_int)
  (ds_cons (ds_set 3 sc_law.nd (dv 8))
  (ds_one (ds_set 4 sc_law.nd de_int)))
  ds_nil))))))))))))
  (ds_one (ds_ret de_bl)))))))
theorem all_mk {l : PySem.W.OpenLaw} {w : World} {K : PySem.W.Frag} {h : Heap} {mg : Str → Option Value} {fa : Addr} (X : K.In h) (G : h.Ns mainGlobals mg) (hfa : mg "law" = some (.ref fa))
    {f_meets f__law_mixed f__law_pool f__law_plain_condition f__law_meets f__law_same f_law : Addr} {od_meets an_meets od__law_mixed an__law_mixed od__law_pool an__law_pool od__law_plain_condition an__law_plain_condition od__law_meets an__law_meets od__law_same an__law_same od_law an_law : Option Addr} {sl_meets sl__law_mixed sl__law_pool sl__law_plain_condition sl__law_meets sl__law_same sl_law : Array (Option Value)} {oc_meets kV_meets dc_meets pm_meets cd_meets ct_meets oc__law_mixed kV__law_mixed dc__law_mixed pm__law_mixed cd__law_mixed ct__law_mixed oc__law_pool kV__law_pool dc__law_pool pm__law_pool cd__law_pool ct__law_pool oc__law_plain_condition kV__law_plain_condition dc__law_plain_condition pm__law_plain_condition cd__law_plain_condition ct__law_plain_condition oc__law_meets kV__law_meets dc__law_meets pm__law_meets cd__law_meets ct__law_meets oc__law_same kV__law_same dc__law_same pm__law_same cd__law_same ct__law_same oc_law kV_law dc_law pm_law cd_law ct_law : Value}
    (a_meets : PySem.W.nsIn K mainGlobals "meets" = some (some (.ref f_meets))) (l_meets : K.lookup f_meets = some ⟨oc_meets, od_meets, .func (PySem.W.fnOf "meets" "meets" (defArgs s_meets) (defBody s_meets) (defScope s_meets) .none kV_meets dc_meets pm_meets an_meets cd_meets ct_meets), sl_meets⟩) (c_meets : PySem.W.codeIn K cd_meets "meets" = true) (k_meets : PySem.W.keepIn K (.ref f_meets) = true)
    (a__law_mixed : PySem.W.nsIn K mainGlobals "_law_mixed" = some (some (.ref f__law_mixed))) (l__law_mixed : K.lookup f__law_mixed = some ⟨oc__law_mixed, od__law_mixed, .func (PySem.W.fnOf "_law_mixed" "_law_mixed" (defArgs s__law_mixed) (defBody s__law_mixed) (defScope s__law_mixed) .none kV__law_mixed dc__law_mixed pm__law_mixed an__law_mixed cd__law_mixed ct__law_mixed), sl__law_mixed⟩) (c__law_mixed : PySem.W.codeIn K cd__law_mixed "_law_mixed" = true) (k__law_mixed : PySem.W.keepIn K (.ref f__law_mixed) = true)
    (a__law_pool : PySem.W.nsIn K mainGlobals "_law_pool" = some (some (.ref f__law_pool))) (l__law_pool : K.lookup f__law_pool = some ⟨oc__law_pool, od__law_pool, .func (PySem.W.fnOf "_law_pool" "_law_pool" (defArgs s__law_pool) (defBody s__law_pool) (defScope s__law_pool) .none kV__law_pool dc__law_pool pm__law_pool an__law_pool cd__law_pool ct__law_pool), sl__law_pool⟩) (c__law_pool : PySem.W.codeIn K cd__law_pool "_law_pool" = true) (k__law_pool : PySem.W.keepIn K (.ref f__law_pool) = true)
    (a__law_plain_condition : PySem.W.nsIn K mainGlobals "_law_plain_condition" = some (some (.ref f__law_plain_condition))) (l__law_plain_condition : K.lookup f__law_plain_condition = some ⟨oc__law_plain_condition, od__law_plain_condition, .func (PySem.W.fnOf "_law_plain_condition" "_law_plain_condition" (defArgs s__law_plain_condition) (defBody s__law_plain_condition) (defScope s__law_plain_condition) .none kV__law_plain_condition dc__law_plain_condition pm__law_plain_condition an__law_plain_condition cd__law_plain_condition ct__law_plain_condition), sl__law_plain_condition⟩) (c__law_plain_condition : PySem.W.codeIn K cd__law_plain_condition "_law_plain_condition" = true) (k__law_plain_condition : PySem.W.keepIn K (.ref f__law_plain_condition) = true)
    (a__law_meets : PySem.W.nsIn K mainGlobals "_law_meets" = some (some (.ref f__law_meets))) (l__law_meets : K.lookup f__law_meets = some ⟨oc__law_meets, od__law_meets, .func (PySem.W.fnOf "_law_meets" "_law_meets" (defArgs s__law_meets) (defBody s__law_meets) (defScope s__law_meets) .none kV__law_meets dc__law_meets pm__law_meets an__law_meets cd__law_meets ct__law_meets), sl__law_meets⟩) (c__law_meets : PySem.W.codeIn K cd__law_meets "_law_meets" = true) (k__law_meets : PySem.W.keepIn K (.ref f__law_meets) = true)
    (a__law_same : PySem.W.nsIn K mainGlobals "_law_same" = some (some (.ref f__law_same))) (l__law_same : K.lookup f__law_same = some ⟨oc__law_same, od__law_same, .func (PySem.W.fnOf "_law_same" "_law_same" (defArgs s__law_same) (defBody s__law_same) (defScope s__law_same) .none kV__law_same dc__law_same pm__law_same an__law_same cd__law_same ct__law_same), sl__law_same⟩) (c__law_same : PySem.W.codeIn K cd__law_same "_law_same" = true) (k__law_same : PySem.W.keepIn K (.ref f__law_same) = true)
    (a_law : PySem.W.nsIn K mainGlobals "law" = some (some (.ref f_law))) (l_law : K.lookup f_law = some ⟨oc_law, od_law, .func (PySem.W.fnOf "law" "law" (defArgs s_law) (defBody s_law) (defScope s_law) .none kV_law dc_law pm_law an_law cd_law ct_law), sl_law⟩) (c_law : PySem.W.codeIn K cd_law "law" = true) (k_law : PySem.W.keepIn K (.ref f_law) = true)
    (z_bool : PySem.W.nsIn K mainGlobals "bool" = some none) (z_isinstance : PySem.W.nsIn K mainGlobals "isinstance" = some none) (z_range : PySem.W.nsIn K mainGlobals "range" = some none) (z_tuple : PySem.W.nsIn K mainGlobals "tuple" = some none)
    (hF : ∀ ns : List Int, ns.length ≤ 63 → F_law [.scr ns] = .ok (.bl true)) :
    ∃ fd : FuncData, (∀ (s : Shared) (v : Value), BindsTo s fd ⟨[v], []⟩ [("_law_script", v)]) ∧ ∀ base : Heap, K.In base → base.Ns mainGlobals mg → FnOk l.prog w K mg base (L2.CX l.prog w) 10 fa fd ["_law_script"] (spLaw K) := by
  have e := hfa.symm.trans (PySem.W.mg_of X G a_law)
  cases e
  have B : Bt mg := ⟨PySem.W.mg_none_of X G z_bool, PySem.W.mg_none_of X G z_isinstance, PySem.W.mg_none_of X G z_range, PySem.W.mg_none_of X G z_tuple⟩
  have n_meets := fun_mk (st := s_meets) l_meets c_meets k_meets
  have b_meets := n_meets.binds (ps := ["condition", "row"]) fun _ _ _ _ _ _ us hl => match us, hl with | [_, _], _ => rfl
  have n__law_mixed := fun_mk (st := s__law_mixed) l__law_mixed c__law_mixed k__law_mixed
  have b__law_mixed := n__law_mixed.binds (ps := ["_law_cell", "_law_k"]) fun _ _ _ _ _ _ us hl => match us, hl with | [_, _], _ => rfl
  have n__law_pool := fun_mk (st := s__law_pool) l__law_pool c__law_pool k__law_pool
  have b__law_pool := n__law_pool.binds (ps := ["_law_cell"]) fun _ _ _ _ _ _ us hl => match us, hl with | [_], _ => rfl
  have n__law_plain_condition := fun_mk (st := s__law_plain_condition) l__law_plain_condition c__law_plain_condition k__law_plain_condition
  have b__law_plain_condition := n__law_plain_condition.binds (ps := ["_law_number", "_law_size", "_law_pool_here"]) fun _ _ _ _ _ _ us hl => match us, hl with | [_, _, _], _ => rfl
  have n__law_meets := fun_mk (st := s__law_meets) l__law_meets c__law_meets k__law_meets
  have b__law_meets := n__law_meets.binds (ps := ["_law_condition", "_law_row"]) fun _ _ _ _ _ _ us hl => match us, hl with | [_, _], _ => rfl
  have n__law_same := fun_mk (st := s__law_same) l__law_same c__law_same k__law_same
  have b__law_same := n__law_same.binds (ps := ["_law_condition", "_law_row"]) fun _ _ _ _ _ _ us hl => match us, hl with | [_, _], _ => rfl
  have n_law := fun_mk (st := s_law) l_law c_law k_law
  have b_law := n_law.binds (ps := ["_law_script"]) fun _ _ _ _ _ _ us hl => match us, hl with | [_], _ => rfl
  refine ⟨PySem.W.fnOf "law" "law" (defArgs s_law) (defBody s_law) (defScope s_law) .none kV_law dc_law pm_law an_law cd_law ct_law, fun s v => .of_eq rfl, fun base _ _ => ?_⟩
  have G_meets := ok_meets (P := l.prog) (w := w) (base := base) n_meets (PySem.W.mg_of X G a_meets) b_meets B  8
  have G__law_mixed := ok__law_mixed (P := l.prog) (w := w) (base := base) n__law_mixed (PySem.W.mg_of X G a__law_mixed) b__law_mixed B 
  have G__law_pool := ok__law_pool (P := l.prog) (w := w) (base := base) n__law_pool (PySem.W.mg_of X G a__law_pool) b__law_pool B G__law_mixed
  have G__law_plain_condition := ok__law_plain_condition (P := l.prog) (w := w) (base := base) n__law_plain_condition (PySem.W.mg_of X G a__law_plain_condition) b__law_plain_condition B 
  have G__law_meets := ok__law_meets (P := l.prog) (w := w) (base := base) n__law_meets (PySem.W.mg_of X G a__law_meets) b__law_meets B  8
  have G__law_same := ok__law_same (P := l.prog) (w := w) (base := base) n__law_same (PySem.W.mg_of X G a__law_same) b__law_same B G_meets G__law_meets
  exact law_ok (ok_law (P := l.prog) (w := w) (base := base) n_law (PySem.W.mg_of X G a_law) b_law B G__law_pool G__law_plain_condition G__law_mixed G__law_same) hF
end K31

set_option maxRecDepth 100000
set_option maxHeartbeats 4000000
namespace K31
open PySem PySem.Spec PyProof.Rows L2 DL
noncomputable section

theorem mixed_loop (c k : Dat) : ∀ (ds : List Dat) (x : Int), ∃ y : Int, forD (trn (gN 3) L__law_mixed_1) ds
    [some (false, c), some (false, k), some (false, .int x), none, none] = .ok (.nx [some (false, c), some (false, k), some (false, .int y), none, none])
  | [], x => ⟨x, rfl⟩
  | d :: ds, x => by
    obtain ⟨y, hy⟩ := mixed_loop c k ds (x / 10 ^ 7)
    refine ⟨y, ?_⟩
    unfold forD
    simp [L__law_mixed_1, dPow_int, dFdiv_int]
    exact hy
theorem mixed_ok (c k : Int) (hk : 0 ≤ k) (hk2 : k ≤ 1000) : ∃ z, F__law_mixed [.int c, .int k] = .ok (.int z) ∧ 0 ≤ z ∧ z < 2147483647 := by
  unfold F__law_mixed
  by_cases hc : (100000000 : Int) < c
  · obtain ⟨y, hy⟩ := mixed_loop (.int c) (.int k) (rng 0 k.toNat) (c / 1000)
    refine ⟨y % 10000000, ?_, by omega, by omega⟩
    have h1 : DL.inR k = true := inR_true (by omega) (by omega)
    simp [startD_eq, List.replicate, dPow_int, dFdiv_int, dMod_int, asR1, hc, h1, hy]
  · have h3 : dMul (.int (40503 * k)) (.int k) = some (.int (40503 * k * k)) := dMul_r (by omega) (by omega)
    have h4 : ∀ x y : Int, 0 ≤ y → y < 100000 → dMul (.int x) (.int y) = some (.int (x * y)) := fun x y h1 h2 => dMul_r (by omega) (by omega)
    generalize hone : (c % 2147483647 + 40503 * k * k + 17 * k) * 48271 % 2147483647 = one
    refine ⟨one * (one % 65537 + 3 * k + 1) % 2147483629, ?_, by omega, by omega⟩
    have h5 := h4 one (one % 65537 + 3 * k + 1) (by omega) (by omega)
    simp [startD_eq, List.replicate, dPow_int, dMod_int, hc, dMul_l, dMul_r, h3, hone, h5]
def mixV (c k : Int) : Int := match F__law_mixed [.int c, .int k] with
  | .ok (.int z) => z
  | _ => 0
theorem mixed_eq {c k : Int} (hk : 0 ≤ k) (hk2 : k ≤ 1000) : F__law_mixed [.int c, .int k] = .ok (.int (mixV c k)) ∧ 0 ≤ mixV c k ∧ mixV c k < 2147483647 := by
  obtain ⟨z, h, h1, h2⟩ := mixed_ok c k hk hk2
  unfold mixV
  rw [h]
  exact ⟨rfl, h1, h2⟩

/-! ### conditions -/
inductive Cond where
  | sm (i j : Nat) | iq (i : Nat) (v : Int) | lw (i j : Nat) | un (i : Nat) (v : Int)
  | bo (a b : Cond) | ei (a b : Cond) | no (a : Cond)
def enc : Cond → Dat
  | .sm i j => .tup [.str "same", .int i, .int j]
  | .iq i v => .tup [.str "is", .int i, .int v]
  | .lw i j => .tup [.str "below", .int i, .int j]
  | .un i v => .tup [.str "under", .int i, .int v]
  | .bo a b => .tup [.str "both", enc a, enc b]
  | .ei a b => .tup [.str "either", enc a, enc b]
  | .no a => .tup [.str "not", enc a]
def dep : Cond → Nat
  | .bo a b => max (dep a) (dep b) + 1
  | .ei a b => max (dep a) (dep b) + 1
  | .no a => dep a + 1
  | _ => 1
/-- the columns are there -/
def fits (n : Nat) : Cond → Prop
  | .sm i j => i < n ∧ j < n
  | .iq i _ => i < n
  | .lw i j => i < n ∧ j < n
  | .un i _ => i < n
  | .bo a b => fits n a ∧ fits n b
  | .ei a b => fits n a ∧ fits n b
  | .no a => fits n a
def ev (r : List Int) : Cond → Bool
  | .sm i j => decide (r.getD i 0 = r.getD j 0)
  | .iq i v => decide (r.getD i 0 = v)
  | .lw i j => decide (r.getD i 0 < r.getD j 0)
  | .un i v => decide (r.getD i 0 < v)
  | .bo a b => ev r a && ev r b
  | .ei a b => ev r a || ev r b
  | .no a => !ev r a
@[simp] theorem w_same_is : (("same" : Str) = "is") = False := eq_false (by decide +kernel)
@[simp] theorem w_same_below : (("same" : Str) = "below") = False := eq_false (by decide +kernel)
@[simp] theorem w_same_under : (("same" : Str) = "under") = False := eq_false (by decide +kernel)
@[simp] theorem w_same_not : (("same" : Str) = "not") = False := eq_false (by decide +kernel)
@[simp] theorem w_same_both : (("same" : Str) = "both") = False := eq_false (by decide +kernel)
@[simp] theorem w_same_either : (("same" : Str) = "either") = False := eq_false (by decide +kernel)
@[simp] theorem w_is_same : (("is" : Str) = "same") = False := eq_false (by decide +kernel)
@[simp] theorem w_is_below : (("is" : Str) = "below") = False := eq_false (by decide +kernel)
@[simp] theorem w_is_under : (("is" : Str) = "under") = False := eq_false (by decide +kernel)
@[simp] theorem w_is_not : (("is" : Str) = "not") = False := eq_false (by decide +kernel)
@[simp] theorem w_is_both : (("is" : Str) = "both") = False := eq_false (by decide +kernel)
@[simp] theorem w_is_either : (("is" : Str) = "either") = False := eq_false (by decide +kernel)
@[simp] theorem w_below_same : (("below" : Str) = "same") = False := eq_false (by decide +kernel)
@[simp] theorem w_below_is : (("below" : Str) = "is") = False := eq_false (by decide +kernel)
@[simp] theorem w_below_under : (("below" : Str) = "under") = False := eq_false (by decide +kernel)
@[simp] theorem w_below_not : (("below" : Str) = "not") = False := eq_false (by decide +kernel)
@[simp] theorem w_below_both : (("below" : Str) = "both") = False := eq_false (by decide +kernel)
@[simp] theorem w_below_either : (("below" : Str) = "either") = False := eq_false (by decide +kernel)
@[simp] theorem w_under_same : (("under" : Str) = "same") = False := eq_false (by decide +kernel)
@[simp] theorem w_under_is : (("under" : Str) = "is") = False := eq_false (by decide +kernel)
@[simp] theorem w_under_below : (("under" : Str) = "below") = False := eq_false (by decide +kernel)
@[simp] theorem w_under_not : (("under" : Str) = "not") = False := eq_false (by decide +kernel)
@[simp] theorem w_under_both : (("under" : Str) = "both") = False := eq_false (by decide +kernel)
@[simp] theorem w_under_either : (("under" : Str) = "either") = False := eq_false (by decide +kernel)
@[simp] theorem w_not_same : (("not" : Str) = "same") = False := eq_false (by decide +kernel)
@[simp] theorem w_not_is : (("not" : Str) = "is") = False := eq_false (by decide +kernel)
@[simp] theorem w_not_below : (("not" : Str) = "below") = False := eq_false (by decide +kernel)
@[simp] theorem w_not_under : (("not" : Str) = "under") = False := eq_false (by decide +kernel)
@[simp] theorem w_not_both : (("not" : Str) = "both") = False := eq_false (by decide +kernel)
@[simp] theorem w_not_either : (("not" : Str) = "either") = False := eq_false (by decide +kernel)
@[simp] theorem w_both_same : (("both" : Str) = "same") = False := eq_false (by decide +kernel)
@[simp] theorem w_both_is : (("both" : Str) = "is") = False := eq_false (by decide +kernel)
@[simp] theorem w_both_below : (("both" : Str) = "below") = False := eq_false (by decide +kernel)
@[simp] theorem w_both_under : (("both" : Str) = "under") = False := eq_false (by decide +kernel)
@[simp] theorem w_both_not : (("both" : Str) = "not") = False := eq_false (by decide +kernel)
@[simp] theorem w_both_either : (("both" : Str) = "either") = False := eq_false (by decide +kernel)
@[simp] theorem w_either_same : (("either" : Str) = "same") = False := eq_false (by decide +kernel)
@[simp] theorem w_either_is : (("either" : Str) = "is") = False := eq_false (by decide +kernel)
@[simp] theorem w_either_below : (("either" : Str) = "below") = False := eq_false (by decide +kernel)
@[simp] theorem w_either_under : (("either" : Str) = "under") = False := eq_false (by decide +kernel)
@[simp] theorem w_either_not : (("either" : Str) = "not") = False := eq_false (by decide +kernel)
@[simp] theorem w_either_both : (("either" : Str) = "both") = False := eq_false (by decide +kernel)
theorem cell {r : List Int} {i : Nat} (h : i < r.length) : atI (r.map Dat.int) (i : Int) = some (.int (r.getD i 0)) := by
  refine atI_nat ?_
  rw [List.getElem?_map, List.getElem?_eq_getElem h]
  simp [h]
theorem old_enc : ∀ c : Cond, old (enc c) = enc c
  | .sm i j => by simp [enc]
  | .iq i v => by simp [enc]
  | .lw i j => by simp [enc]
  | .un i v => by simp [enc]
  | .bo a b => by simp [enc, old_enc a, old_enc b]
  | .ei a b => by simp [enc, old_enc a, old_enc b]
  | .no a => by simp [enc, old_enc a]
theorem meets_ok (r : List Int) : ∀ (c : Cond) (n : Nat), fits r.length c → dep c ≤ n → F_meets n [enc c, .tup (r.map .int)] = .ok (.bl (ev r c))
  | c, 0, _, h => by cases c <;> simp [dep] at h
  | .sm i j, n + 1, h, _ => by
    obtain ⟨h1, h2⟩ := h
    unfold F_meets
    simp [startD_eq, List.replicate, enc, cell h1, cell h2, ev]
  | .iq i v, n + 1, h, _ => by
    unfold F_meets
    simp [startD_eq, List.replicate, enc, cell h, ev]
  | .lw i j, n + 1, h, _ => by
    obtain ⟨h1, h2⟩ := h
    unfold F_meets
    simp [startD_eq, List.replicate, enc, cell h1, cell h2, ev]
  | .un i v, n + 1, h, _ => by
    unfold F_meets
    simp [startD_eq, List.replicate, enc, cell h, ev]
  | .no a, n + 1, h, hd => by
    have ih := meets_ok r a n h (by simp [dep] at hd; omega)
    unfold F_meets
    simp [startD_eq, List.replicate, enc, ev, old_enc, ih]
  | .bo a b, n + 1, h, hd => by
    obtain ⟨h1, h2⟩ := h
    have ih := meets_ok r a n h1 (by simp [dep] at hd; omega)
    have ih2 := meets_ok r b n h2 (by simp [dep] at hd; omega)
    unfold F_meets
    cases e : ev r a <;> simp [startD_eq, List.replicate, enc, ev, old_enc, ih, ih2, e]
  | .ei a b, n + 1, h, hd => by
    obtain ⟨h1, h2⟩ := h
    have ih := meets_ok r a n h1 (by simp [dep] at hd; omega)
    have ih2 := meets_ok r b n h2 (by simp [dep] at hd; omega)
    unfold F_meets
    cases e : ev r a <;> simp [startD_eq, List.replicate, enc, ev, old_enc, ih, ih2, e]
end
end K31

set_option maxRecDepth 100000
set_option maxHeartbeats 4000000
namespace K31
open PySem PySem.Spec PyProof.Rows L2 DL
noncomputable section

theorem lmeets_ok (r : List Int) : ∀ (c : Cond) (n : Nat), fits r.length c → dep c ≤ n → F__law_meets n [enc c, .tup (r.map .int)] = .ok (.bl (ev r c))
  | c, 0, _, h => by cases c <;> simp [dep] at h
  | .sm i j, n + 1, h, _ => by
    obtain ⟨h1, h2⟩ := h
    unfold F__law_meets
    simp [startD_eq, List.replicate, enc, cell h1, cell h2, ev]
  | .iq i v, n + 1, h, _ => by
    unfold F__law_meets
    simp [startD_eq, List.replicate, enc, cell h, ev]
  | .lw i j, n + 1, h, _ => by
    obtain ⟨h1, h2⟩ := h
    unfold F__law_meets
    simp [startD_eq, List.replicate, enc, cell h1, cell h2, ev]
  | .un i v, n + 1, h, _ => by
    unfold F__law_meets
    simp [startD_eq, List.replicate, enc, cell h, ev]
  | .no a, n + 1, h, hd => by
    have ih := lmeets_ok r a n h (by simp [dep] at hd; omega)
    unfold F__law_meets
    simp [startD_eq, List.replicate, enc, ev, old_enc, ih]
  | .bo a b, n + 1, h, hd => by
    obtain ⟨h1, h2⟩ := h
    have ih := lmeets_ok r a n h1 (by simp [dep] at hd; omega)
    have ih2 := lmeets_ok r b n h2 (by simp [dep] at hd; omega)
    unfold F__law_meets
    cases e : ev r a <;> simp [startD_eq, List.replicate, enc, ev, old_enc, ih, ih2, e]
  | .ei a b, n + 1, h, hd => by
    obtain ⟨h1, h2⟩ := h
    have ih := lmeets_ok r a n h1 (by simp [dep] at hd; omega)
    have ih2 := lmeets_ok r b n h2 (by simp [dep] at hd; omega)
    unfold F__law_meets
    cases e : ev r a <;> simp [startD_eq, List.replicate, enc, ev, old_enc, ih, ih2, e]
theorem same_ok (r : List Int) (c : Cond) (h : fits r.length c) (hd : dep c ≤ 8) : F__law_same [enc c, .tup (r.map .int)] = .ok (.bl true) := by
  unfold F__law_same
  simp [startD_eq, List.replicate, old_enc, meets_ok r c 8 h hd, lmeets_ok r c 8 h hd]
theorem pool_ok (c : Int) : ∃ p q s : Int, F__law_pool [.int c] = .ok (.lst true [.int p, .int q, .int s]) := by
  obtain ⟨h0, a0, b0⟩ := mixed_eq (c := c) (k := 30) (by decide) (by decide)
  obtain ⟨h1, a1, b1⟩ := mixed_eq (c := c) (k := 31) (by decide) (by decide)
  obtain ⟨h2, a2, b2⟩ := mixed_eq (c := c) (k := 32) (by decide) (by decide)
  obtain ⟨h3, a3, b3⟩ := mixed_eq (c := c) (k := 33) (by decide) (by decide)
  obtain ⟨h4, a4, b4⟩ := mixed_eq (c := c) (k := 34) (by decide) (by decide)
  have e1 : dMul (.int (mixV c 30)) (.int (mixV c 31)) = some (.int (mixV c 30 * mixV c 31)) := dMul_r (by omega) (by omega)
  have e2 : dMul (.int (mixV c 30 * mixV c 31)) (.int (mixV c 32)) = some (.int (mixV c 30 * mixV c 31 * mixV c 32)) := dMul_r (by omega) (by omega)
  unfold F__law_pool
  by_cases k1 : (100000000 : Int) < c <;> by_cases k2 : c % 3 = 0 <;>
    simp [startD_eq, List.replicate, dPow_int, dFdiv_int, dMod_int, dMul_l, h0, h1, h2, h3, h4, e1, e2, k1, k2]
theorem plain_ok (x : Int) (n : Nat) (hn : 0 < n) (p q s : Int) : ∃ c : Cond, F__law_plain_condition [.int x, .int n, .lst false [.int p, .int q, .int s]] = .ok (enc c) ∧ fits n c ∧ dep c = 1 := by
  have hi : x / 4 % (n : Int) = ((x / 4 % (n : Int)).toNat : Nat) := by
    have := Int.emod_nonneg (x / 4) (show (n : Int) ≠ 0 by omega)
    omega
  have hj : x / 60 % (n : Int) = ((x / 60 % (n : Int)).toNat : Nat) := by
    have := Int.emod_nonneg (x / 60) (show (n : Int) ≠ 0 by omega)
    omega
  have hi2 : (x / 4 % (n : Int)).toNat < n := by
    have := Int.emod_lt_of_pos (x / 4) (show (0 : Int) < n by omega)
    omega
  have hj2 : (x / 60 % (n : Int)).toNat < n := by
    have := Int.emod_lt_of_pos (x / 60) (show (0 : Int) < n by omega)
    omega
  have m1 : ∀ y, dMod (.int y) (.int (n : Int)) = some (.int (y % n)) := fun y => dMod_int (by omega)
  obtain ⟨v, hv⟩ : ∃ v, atI [Dat.int p, Dat.int q, Dat.int s] (x / 60 % 3) = some (.int v) := by
    have h : x / 60 % 3 = 0 ∨ x / 60 % 3 = 1 ∨ x / 60 % 3 = 2 := by omega
    rcases h with h | h | h
    · exact ⟨p, by rw [h]; simp⟩
    · exact ⟨q, by rw [h]; simp⟩
    · exact ⟨s, by rw [h]; simp⟩
  unfold F__law_plain_condition
  generalize (x / 4 % (n : Int)).toNat = i at hi hi2
  generalize (x / 60 % (n : Int)).toNat = j at hj hj2
  by_cases k0 : x % 4 = 0
  · exact ⟨.sm i j, by simp [startD_eq, List.replicate, dFdiv_int, dMod_int, m1, k0, hi, hj, enc], ⟨hi2, hj2⟩, rfl⟩
  · by_cases k1 : x % 4 = 1
    · exact ⟨.iq i v, by simp [startD_eq, List.replicate, dFdiv_int, dMod_int, m1, k0, k1, hi, hj, hv, enc], hi2, rfl⟩
    · by_cases k2 : x % 4 = 2
      · exact ⟨.lw i j, by simp [startD_eq, List.replicate, dFdiv_int, dMod_int, m1, k0, k1, k2, hi, hj, enc], ⟨hi2, hj2⟩, rfl⟩
      · exact ⟨.un i v, by simp [startD_eq, List.replicate, dFdiv_int, dMod_int, m1, k0, k1, k2, hi, hj, hv, enc], hi2, rfl⟩
theorem fits_mono : ∀ {c : Cond} {n : Nat}, fits 1 c → 1 ≤ n → fits n c
  | .sm i j, n, ⟨h1, h2⟩, h => ⟨by omega, by omega⟩
  | .iq i v, n, h1, h => Nat.lt_of_lt_of_le h1 h
  | .lw i j, n, ⟨h1, h2⟩, h => ⟨by omega, by omega⟩
  | .un i v, n, h1, h => Nat.lt_of_lt_of_le h1 h
  | .bo a b, n, ⟨h1, h2⟩, h => ⟨fits_mono h1 h, fits_mono h2 h⟩
  | .ei a b, n, ⟨h1, h2⟩, h => ⟨fits_mono h1 h, fits_mono h2 h⟩
  | .no a, n, h1, h => fits_mono (c := a) h1 h
end
end K31

set_option maxRecDepth 100000
set_option maxHeartbeats 4000000
namespace K31
open PySem PySem.Spec PyProof.Rows L2 DL
noncomputable section

theorem three {p q s : Int} (x : Int) : ∃ v, atI [Dat.int p, Dat.int q, Dat.int s] (x % 3) = some (.int v) := by
  have h : x % 3 = 0 ∨ x % 3 = 1 ∨ x % 3 = 2 := by omega
  rcases h with h | h | h
  · exact ⟨p, by rw [h]; simp⟩
  · exact ⟨q, by rw [h]; simp⟩
  · exact ⟨s, by rw [h]; simp⟩
def pk (p q s x : Int) : Int := match atI [Dat.int p, Dat.int q, Dat.int s] (x % 3) with
  | some (.int v) => v
  | _ => 0
theorem pk_eq (p q s x : Int) : atI [Dat.int p, Dat.int q, Dat.int s] (x % 3) = some (.int (pk p q s x)) := by
  obtain ⟨v, hv⟩ := three (p := p) (q := q) (s := s) x
  unfold pk
  rw [hv]
/-- the row of a cell -/
def row (p q s c : Int) (n : Nat) : List Int := (List.range n).map fun (i : Nat) => pk p q s (mixV c i)
theorem row_ok {p q s c : Int} {n : Nat} {a b : Dat} {e3 e4 : Bool × Dat} (hn : n ≤ 4) :
    C_law_1 [some (false, a), some (false, b), some (false, .lst true [.int p, .int q, .int s]), some e3, some e4, some (false, .int c), some (false, .int n), none, none, none] = .ok ((row p q s c n).map .int) := by
  have h1 : DL.inR (n : Int) = true := inR_true (by omega) (by omega)
  unfold C_law_1
  simp [asR1, h1, noOwn, sz_small (show n ≤ 16777216 by omega)]
  rw [compL_rng (k := fun i => .int (pk p q s (mixV c (i : Nat))))]
  · simp [row]
  · intro i hi
    obtain ⟨hm, h0, h2⟩ := mixed_eq (c := c) (k := (i : Int)) (by omega) (by omega)
    simp [hm, dMod_int, pk_eq]
theorem row_len (p q s c : Int) (n : Nat) : (row p q s c n).length = n := by simp [row]
/-- one turn of the law's loop -/
theorem turn {p q s c : Int} {a b : Dat} {cond : Cond} {dp : Nat} (hf : fits 1 cond) (hd : dep cond ≤ dp) (h1 : 1 ≤ dp) (h4 : dp ≤ 4) : ∃ (cond' : Cond) (dp' : Nat), fits 1 cond' ∧ dep cond' ≤ dp' ∧ 1 ≤ dp' ∧ dp' ≤ 4 ∧
    L_law_1 [some (false, a), some (false, b), some (false, .lst true [.int p, .int q, .int s]), some (false, enc cond), some (false, .int dp), some (false, .int c), none, none, none, none] =
      .ok (.nx [some (false, a), some (false, b), some (false, .lst true [.int p, .int q, .int s]), some (false, enc cond'), some (false, .int dp'), none, none, none, none, none]) := by
  obtain ⟨n, hn, hn1, hn4⟩ : ∃ n : Nat, 1 + c % 4 = (n : Int) ∧ 1 ≤ n ∧ n ≤ 4 := ⟨(1 + c % 4).toNat, by omega, by omega, by omega⟩
  obtain ⟨hm, m0, m2⟩ := mixed_eq (c := c) (k := 9) (by decide) (by decide)
  obtain ⟨c1, p1, f1, d1⟩ := plain_ok (mixV c 9) n hn1 p q s
  obtain ⟨c2, p2, f2, d2⟩ := plain_ok (mixV c 9) 1 (by decide) p q s
  have p2 : F__law_plain_condition [.int (mixV c 9), .int 1, .lst false [.int p, .int q, .int s]] = .ok (enc c2) := p2
  have s1 := same_ok (row p q s c n) c1 (by rw [row_len]; exact f1) (by omega)
  have hrow := row_ok (p := p) (q := q) (s := s) (c := c) (a := a) (b := b) (e3 := (false, enc cond)) (e4 := (false, .int dp)) hn4
  have three : c / 4 % 3 = 0 ∨ c / 4 % 3 = 1 ∨ c / 4 % 3 = 2 := by omega
  obtain ⟨c3, hc3, f3, d3⟩ : ∃ c3 : Cond, atI [Dat.tup [.str "both", enc c2, enc cond], Dat.tup [.str "either", enc cond, enc c2], Dat.tup [.str "not", enc cond]] (c / 4 % 3) = some (enc c3) ∧ fits 1 c3 ∧ dep c3 ≤ dp + 1 := by
    rcases three with h | h | h
    · exact ⟨.bo c2 cond, by rw [h]; simp [enc], ⟨f2, hf⟩, by simp [dep]; omega⟩
    · exact ⟨.ei cond c2, by rw [h]; simp [enc], ⟨hf, f2⟩, by simp [dep]; omega⟩
    · exact ⟨.no cond, by rw [h]; simp [enc], hf, by simp [dep]; omega⟩
  have s3 := same_ok (row p q s c n) c3 (fits_mono f3 (by rw [row_len]; exact hn1)) (by omega)
  by_cases h5 : (4 : Int) < (dp : Int) + 1
  · refine ⟨c2, 1, f2, by omega, by omega, by omega, ?_⟩
    unfold L_law_1
    simp [dMod_int, dFdiv_int, hn, hrow, hm, p1, old_enc, s1, p2, hc3, s3, h5]
  · refine ⟨c3, dp + 1, f3, by omega, by omega, by omega, ?_⟩
    unfold L_law_1
    simp [dMod_int, dFdiv_int, hn, hrow, hm, p1, old_enc, s1, p2, hc3, s3, h5]
theorem loop {p q s : Int} {a b : Dat} : ∀ (cs : List Int) {cond : Cond} {dp : Nat}, fits 1 cond → dep cond ≤ dp → 1 ≤ dp → dp ≤ 4 → ∃ ε,
    forD (trn (gN 5) L_law_1) (cs.map .int) [some (false, a), some (false, b), some (false, .lst true [.int p, .int q, .int s]), some (false, enc cond), some (false, .int dp), none, none, none, none, none] = .ok (.nx ε)
  | [], cond, dp, _, _, _, _ => ⟨_, rfl⟩
  | c :: cs, cond, dp, hf, hd, h1, h4 => by
    obtain ⟨cond', dp', f', d', h1', h4', e⟩ := turn (p := p) (q := q) (s := s) (c := c) (a := a) (b := b) hf hd h1 h4
    obtain ⟨ε, he⟩ := loop (p := p) (q := q) (s := s) (a := a) (b := b) cs f' d' h1' h4'
    refine ⟨ε, ?_⟩
    simp only [List.map_cons]
    unfold forD
    simp [e]
    exact he
theorem law_true : ∀ ns : List Int, ns.length ≤ 63 → F_law [.scr ns] = .ok (.bl true) := by
  intro ns hns
  obtain ⟨c0, cs, hcs⟩ : ∃ c0 cs, ns.take 63 ++ [0] = c0 :: cs := by
    cases ns with
    | nil => exact ⟨0, [], rfl⟩
    | cons x r => exact ⟨x, _, rfl⟩
  have hl : (cs.length : Nat) ≤ 63 := by
    have := congrArg List.length hcs
    simp at this
    omega
  obtain ⟨p, q, s, hp⟩ := pool_ok c0
  have hcut : cutD ns none (some 63) = ns.take 63 := cut_take ns 63
  have hadd : dAdd (.lst true ((ns.take 63).map .int)) (.lst true [.int 0]) = some (.lst true (.int c0 :: cs.map .int)) := by
    rw [dAdd_lst' (by simp; omega)]
    rw [show (List.map Dat.int (ns.take 63) ++ [Dat.int 0]) = (ns.take 63 ++ [0]).map Dat.int by simp, hcs]
    rfl
  obtain ⟨ε, he⟩ := loop (p := p) (q := q) (s := s) (a := .scr ns) (b := .lst true (.int c0 :: cs.map .int)) (c0 :: cs) (cond := .iq 0 p) (dp := 1) (Nat.lt_succ_self 0) (Nat.le_refl 1) (by decide) (by decide)
  have he : forD (trn (gN 5) L_law_1) (.int c0 :: cs.map .int) [some (false, .scr ns), some (false, .lst true (.int c0 :: cs.map .int)), some (false, .lst true [.int p, .int q, .int s]), some (false, .tup [.str "is", .int 0, .int p]), some (false, .int 1), none, none, none, none, none] = .ok (.nx ε) := he
  rw [List.map_take] at hadd
  unfold F_law
  simp [startD_eq, List.replicate, hcut, hadd, hp, he]
end
end K31

open PySem PySem.W PyProof.Rows
set_option maxRecDepth 100000 in
set_option maxHeartbeats 0 in
theorem PySem.Challenge.cw_whenrows_k31_conditions_holds : PySem.Challenge.rw_whenrows_k31_conditions.Holds := by
  w_on; o_law; k_head; (case hw => w_witness2)
  k_fill
  refine L2.walk_of (l := PySem.Challenge.rw_whenrows_k31_conditions) (n := 63) (k := 10) (x := "_law_script") (CX := fun w => L2.CX PySem.Challenge.rw_whenrows_k31_conditions.prog w) (sp := fun w => DL.spLaw _) rfl (by decide) rfl ⟨rfl, by decide, by decide⟩ (fun w h Y => PySem.W.kIn_of Y) ?F (fun _ _ a ns hl _ hS => ⟨a, ns, rfl, hS, hl, fun _ => rfl⟩) (fun _ _ _ _ _ h => DL.cx_false h)
  case F =>
    intro w mg fa h KX G hmg
    refine' K31.all_mk KX G hmg ?a_meets ?l_meets ?c_meets ?k_meets ?a__law_mixed ?l__law_mixed ?c__law_mixed ?k__law_mixed ?a__law_pool ?l__law_pool ?c__law_pool ?k__law_pool ?a__law_plain_condition ?l__law_plain_condition ?c__law_plain_condition ?k__law_plain_condition ?a__law_meets ?l__law_meets ?c__law_meets ?k__law_meets ?a__law_same ?l__law_same ?c__law_same ?k__law_same ?a_law ?l_law ?c_law ?k_law ?z_bool ?z_isinstance ?z_range ?z_tuple K31.law_true
    (case a_meets => k_is); (case l_meets => k_is); (case c_meets => k_is); (case k_meets => k_is); (case a__law_mixed => k_is); (case l__law_mixed => k_is); (case c__law_mixed => k_is); (case k__law_mixed => k_is); (case a__law_pool => k_is); (case l__law_pool => k_is); (case c__law_pool => k_is); (case k__law_pool => k_is); (case a__law_plain_condition => k_is); (case l__law_plain_condition => k_is); (case c__law_plain_condition => k_is); (case k__law_plain_condition => k_is); (case a__law_meets => k_is); (case l__law_meets => k_is); (case c__law_meets => k_is); (case k__law_meets => k_is); (case a__law_same => k_is); (case l__law_same => k_is); (case c__law_same => k_is); (case k__law_same => k_is); (case a_law => k_is); (case l_law => k_is); (case c_law => k_is); (case k_law => k_is); (case z_bool => k_is); (case z_isinstance => k_is); (case z_range => k_is); (case z_tuple => k_is)

#print axioms PySem.Challenge.cw_whenrows_k31_conditions_holds
