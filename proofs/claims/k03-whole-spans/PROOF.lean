import PyProof.Rows.All
import Wide.All
import OpenK.AllK
import Wide.FinOn
import HandS.ForMost
import HandS.ForExc
import HandS.TupAny
import HandS.Deep
import HandS.Wide
import HandS.CallSlots
import HandS.IsInst
import HandS.Style
import HandS.SortInts
import KE.SortKeyHeap
import HandS.SortKw
import HandS.Keys
import HandS.Zip
import PySem.Challenge.RW_whenrows_k03_whole_spans
set_option Elab.async false
set_option linter.all false
set_option maxRecDepth 100000
set_option maxHeartbeats 4000000
/-! DLa: plain data over the heap, and what a value denotes. -/
namespace DL
open PySem PySem.Spec PyProof.Rows L2

/-- plain data. A list bears a mark: made by the def that looks at it. scr: the script; cst: a tuple of texts of the module -/
inductive Dat where
  | non
  | bl (b : Bool)
  | int (i : Int)
  | str (s : Str)
  | tup (xs : List Dat)
  | lst (t : Bool) (xs : List Dat)
  | dK (ks : List Key) (vs : List Dat)
  | dT (ks : List (List Key)) (vs : List Dat)
  | scr (ns : List Int)
  | cst (ss : List Str)

def noHp : Hp := fun _ => none
def TupAt (L : Addr → Prop) (H : Hp) (a : Addr) (vs : List V) : Prop := ¬ L a ∧ H a = some (.tup vs)
def ScrAt (K : PySem.W.Frag) (L : Addr → Prop) (H : Hp) (a : Addr) (vs : List V) : Prop := (¬ L a ∧ Rd H a (.lst vs)) ∨ SqL K noHp a vs

mutual
/-- the value denotes the data; L: addresses that it does not lean on -/
def Den (K : PySem.W.Frag) (H0 : Hp) (L : Addr → Prop) (H : Hp) : Dat → V → Prop
  | .non, v => v = .non
  | .bl b, v => v = .bl b
  | .int i, v => v = .int i
  | .str x, v => v = .str x
  | .tup ds, v => ∃ a vs, v = .ref a ∧ TupAt L H a vs ∧ DenL K H0 L H ds vs
  | .lst t ds, v => ∃ a vs, v = .ref a ∧ ¬ L a ∧ (t = true → H0 a = none) ∧ H a = some (.lst vs) ∧ DenL K H0 L H ds vs
  | .dK ks ds, v => ∃ a vs, v = .ref a ∧ ¬ L a ∧ Rd H a (.dK (ks.zip vs)) ∧ ks.length = vs.length ∧ DenL K H0 L H ds vs
  | .dT ks ds, v => ∃ a vs, v = .ref a ∧ ¬ L a ∧ Rd H a (.dT (ks.zip vs)) ∧ ks.length = vs.length ∧ DenL K H0 L H ds vs
  | .scr ns, v => ∃ a, v = .ref a ∧ ScrAt K L H a (ns.map V.int)
  | .cst ss, v => ∃ a, v = .ref a ∧ SqT K noHp a (ss.map V.str)
def DenL (K : PySem.W.Frag) (H0 : Hp) (L : Addr → Prop) (H : Hp) : List Dat → List V → Prop
  | [], vs => vs = []
  | d :: ds, vs => ∃ v r, vs = v :: r ∧ Den K H0 L H d v ∧ DenL K H0 L H ds r
end

section
variable {K : PySem.W.Frag} {H0 H1 H H' : Hp} {L L' : Addr → Prop}
theorem rd_none {a : Addr} {u : HO} : ¬ Rd noHp a u := by
  rintro (h | ⟨o, h⟩) <;> cases h
theorem TupAt.sq {a : Addr} {vs : List V} (h : TupAt L H a vs) : SqT K H a vs := .of h.2
theorem cst_sq {a : Addr} {vs : List V} (h : SqT K noHp a vs) : SqT K H a vs := by
  rcases h with h | h
  · exact (rd_none h).elim
  · exact .inr h
theorem ScrAt.sq {a : Addr} {vs : List V} (h : ScrAt K L H a vs) : SqL K H a vs := by
  rcases h with ⟨_, h⟩ | h
  · exact .inl h
  · rcases h with h | h
    · exact (rd_none h).elim
    · exact .inr h
/-- what is kept outside of L -/
def Kp (L L' : Addr → Prop) (H H' : Hp) : Prop := ∀ a o, ¬ L a → H a = some o → ¬ L' a ∧ H' a = some o
theorem Kp.rd (k : Kp L L' H H') {a : Addr} {u : HO} (hl : ¬ L a) (h : Rd H a u) : ¬ L' a ∧ Rd H' a u := by
  rcases h with h | ⟨o, h⟩
  · exact ⟨(k _ _ hl h).1, .inl (k _ _ hl h).2⟩
  · exact ⟨(k _ _ hl h).1, .inr ⟨o, (k _ _ hl h).2⟩⟩
theorem TupAt.kp (k : Kp L L' H H') {a : Addr} {vs : List V} (h : TupAt L H a vs) : TupAt L' H' a vs := k _ _ h.1 h.2
theorem ScrAt.kp (k : Kp L L' H H') {a : Addr} {vs : List V} (h : ScrAt K L H a vs) : ScrAt K L' H' a vs := by
  rcases h with ⟨hl, h⟩ | h
  · exact .inl (k.rd hl h)
  · exact .inr h
mutual
theorem Den.kp (k : Kp L L' H H') (hn : ∀ a, H0 a = none → H1 a = none) : ∀ {d : Dat} {v : V}, Den K H0 L H d v → Den K H1 L' H' d v
  | .non, _, h => h
  | .bl _, _, h => h
  | .int _, _, h => h
  | .str _, _, h => h
  | .tup ds, _, ⟨a, vs, e, t, h⟩ => ⟨a, vs, e, t.kp k, DenL.kp k hn h⟩
  | .lst t ds, _, ⟨a, vs, e, hl, ht, ha, h⟩ => ⟨a, vs, e, (k _ _ hl ha).1, fun z => hn _ (ht z), (k _ _ hl ha).2, DenL.kp k hn h⟩
  | .dK ks ds, _, ⟨a, vs, e, hl, ha, z, h⟩ => ⟨a, vs, e, (k.rd hl ha).1, (k.rd hl ha).2, z, DenL.kp k hn h⟩
  | .dT ks ds, _, ⟨a, vs, e, hl, ha, z, h⟩ => ⟨a, vs, e, (k.rd hl ha).1, (k.rd hl ha).2, z, DenL.kp k hn h⟩
  | .scr ns, _, ⟨a, e, h⟩ => ⟨a, e, h.kp k⟩
  | .cst ss, _, h => h
theorem DenL.kp (k : Kp L L' H H') (hn : ∀ a, H0 a = none → H1 a = none) : ∀ {ds : List Dat} {vs : List V}, DenL K H0 L H ds vs → DenL K H1 L' H' ds vs
  | [], _, h => h
  | d :: ds, _, ⟨v, r, e, h, t⟩ => ⟨v, r, e, h.kp k hn, DenL.kp k hn t⟩
end
theorem Kp.same (s : Same H H') : Kp L L H H' := fun a o hl h => ⟨hl, s a o h⟩
theorem Den.same (s : Same H H') {d : Dat} {v : V} (h : Den K H0 L H d v) : Den K H0 L H' d v := h.kp (.same s) fun _ z => z
theorem DenL.same (s : Same H H') {d : List Dat} {v : List V} (h : DenL K H0 L H d v) : DenL K H0 L H' d v := h.kp (.same s) fun _ z => z
theorem DenL.length : ∀ {ds : List Dat} {vs : List V}, DenL K H0 L H ds vs → ds.length = vs.length
  | [], _, h => by cases h; rfl
  | d :: ds, _, ⟨v, r, e, _, t⟩ => by subst e; exact congrArg (· + 1) t.length
theorem DenL.get : ∀ {ds : List Dat} {vs : List V} {i : Nat} {d : Dat}, DenL K H0 L H ds vs → ds[i]? = some d → ∃ v, vs[i]? = some v ∧ Den K H0 L H d v
  | [], _, _, _, _, h => by simp at h
  | d :: ds, _, 0, _, ⟨v, r, e, h, _⟩, z => by subst e; simp at z; subst z; exact ⟨v, rfl, h⟩
  | d :: ds, _, i + 1, _, ⟨v, r, e, _, t⟩, z => by
    subst e
    obtain ⟨u, h1, h2⟩ := t.get (i := i) (by simpa using z)
    exact ⟨u, by simpa using h1, h2⟩
theorem DenL.get' : ∀ {ds : List Dat} {vs : List V} {i : Nat} {v : V}, DenL K H0 L H ds vs → vs[i]? = some v → ∃ d, ds[i]? = some d ∧ Den K H0 L H d v
  | [], _, _, _, h, z => by cases h; simp at z
  | d :: ds, _, 0, _, ⟨v, r, e, h, _⟩, z => by subst e; simp at z; subst z; exact ⟨d, rfl, h⟩
  | d :: ds, _, i + 1, _, ⟨v, r, e, _, t⟩, z => by
    subst e
    obtain ⟨u, h1, h2⟩ := t.get' (i := i) (by simpa using z)
    exact ⟨u, by simpa using h1, h2⟩
theorem DenL.app : ∀ {ds es : List Dat} {vs ws : List V}, DenL K H0 L H ds vs → DenL K H0 L H es ws → DenL K H0 L H (ds ++ es) (vs ++ ws)
  | [], _, _, _, h, g => by cases h; exact g
  | d :: ds, _, _, _, ⟨v, r, e, h, t⟩, g => by subst e; exact ⟨v, _, rfl, h, t.app g⟩
theorem DenL.set : ∀ {ds : List Dat} {vs : List V} {d : Dat} {v : V} (i : Nat), DenL K H0 L H ds vs → Den K H0 L H d v → DenL K H0 L H (ds.set i d) (vs.set i v)
  | [], _, _, _, _, h, _ => by cases h; rfl
  | _ :: _, _, _, _, 0, ⟨v, r, e, h, t⟩, g => by subst e; exact ⟨_, _, rfl, g, t⟩
  | _ :: _, _, _, _, i + 1, ⟨v, r, e, h, t⟩, g => by subst e; exact ⟨_, _, rfl, h, t.set i g⟩
theorem DenL.drop : ∀ {ds : List Dat} {vs : List V} (i : Nat), DenL K H0 L H ds vs → DenL K H0 L H (ds.drop i) (vs.drop i)
  | [], _, i, h => by cases h; simp [DenL]
  | _ :: _, _, 0, h => h
  | _ :: _, _, i + 1, ⟨v, r, e, h, t⟩ => by subst e; exact t.drop i
theorem DenL.take : ∀ {ds : List Dat} {vs : List V} (i : Nat), DenL K H0 L H ds vs → DenL K H0 L H (ds.take i) (vs.take i)
  | [], _, i, h => by cases h; simp [DenL]
  | _ :: _, _, 0, h => by simp [DenL]
  | _ :: _, _, i + 1, ⟨v, r, e, h, t⟩ => by subst e; exact ⟨_, _, rfl, h, t.take i⟩
theorem DenL.rev : ∀ {ds : List Dat} {vs : List V}, DenL K H0 L H ds vs → DenL K H0 L H ds.reverse vs.reverse
  | [], _, h => by cases h; rfl
  | _ :: _, _, ⟨v, r, e, h, t⟩ => by subst e; rw [List.reverse_cons, List.reverse_cons]; exact t.rev.app ⟨_, _, rfl, h, rfl⟩
end
end DL

set_option maxRecDepth 100000
set_option maxHeartbeats 4000000
/-! DLb: slots over data, the judgements of expressions. -/
namespace DL
open PySem PySem.Spec PyProof.Rows L2

/-- what a pure function gives: nothing is known, an error, a value -/
inductive Rs (α : Type) where
  | no
  | ex (n : Str)
  | ok (a : α)
def Rs.bind {α β : Type} (x : Rs α) (f : α → Rs β) : Rs β := match x with
  | .no => .no
  | .ex n => .ex n
  | .ok a => f a
instance : Monad Rs where
  pure := Rs.ok
  bind := Rs.bind
@[simp] theorem Rs.ok_bind {α β : Type} (a : α) (f : α → Rs β) : (Rs.ok a >>= f) = f a := rfl
@[simp] theorem Rs.no_bind {α β : Type} (f : α → Rs β) : ((Rs.no : Rs α) >>= f) = Rs.no := rfl
@[simp] theorem Rs.ex_bind {α β : Type} (n : Str) (f : α → Rs β) : ((Rs.ex n : Rs α) >>= f) = Rs.ex n := rfl
@[simp] theorem Rs.pure_eq {α : Type} (a : α) : (pure a : Rs α) = .ok a := rfl
def Rs.of {α : Type} : Option α → Rs α
  | some a => .ok a
  | none => .no
@[simp] theorem Rs.of_some {α : Type} (a : α) : Rs.of (some a) = .ok a := rfl
@[simp] theorem Rs.of_none {α : Type} : Rs.of (none : Option α) = .no := rfl

/-- the slots: what they hold; true: a list or dict that stands nowhere else -/
abbrev DEnv := List (Option (Bool × Dat))
def Owned (ε : DEnv) (σ : L2.St) (a : Addr) : Prop := ∃ (i : Nat) (d : Dat), ε[i]? = some (some (true, d)) ∧ σ[i]? = some (some (V.ref a))
def LO (L : Addr → Prop) (ε : DEnv) (σ : L2.St) : Addr → Prop := fun a => L a ∨ Owned ε σ a
def OwnD (K : PySem.W.Frag) (H0 : Hp) (LL : Addr → Prop) (H : Hp) (a : Addr) : Dat → Prop
  | .lst _ ds => ∃ vs, H a = some (.lst vs) ∧ DenL K H0 LL H ds vs
  | .dK ks ds => ∃ vs, H a = some (.dK (ks.zip vs)) ∧ ks.length = vs.length ∧ DenL K H0 LL H ds vs
  | .dT ks ds => ∃ vs, H a = some (.dT (ks.zip vs)) ∧ ks.length = vs.length ∧ DenL K H0 LL H ds vs
  | _ => False
structure Rel (K : PySem.W.Frag) (H0 : Hp) (L : Addr → Prop) (ε : DEnv) (σ : L2.St) (H : Hp) : Prop where
  same : Same H0 H
  trk : ∀ a, L a → H a ≠ none
  len : ε.length = σ.length
  val : ∀ (i : Nat) (d : Dat), ε[i]? = some (some (false, d)) → ∃ v, σ[i]? = some (some v) ∧ Den K H0 (LO L ε σ) H d v
  own : ∀ (i : Nat) (d : Dat), ε[i]? = some (some (true, d)) → ∃ a, σ[i]? = some (some (V.ref a)) ∧ H0 a = none ∧ ¬ L a ∧ OwnD K H0 (LO L ε σ) H a d
  uni : ∀ (i j : Nat) (d e : Dat) (a : Addr), ε[i]? = some (some (true, d)) → ε[j]? = some (some (true, e)) → σ[i]? = some (some (V.ref a)) → σ[j]? = some (some (V.ref a)) → i = j

section
variable {K : PySem.W.Frag} {H0 H1 H H' : Hp} {L L' LL : Addr → Prop} {ε : DEnv} {σ : L2.St} {a : Addr} {d e z : Dat} {v x y : V} {vs : List V} {ds : List Dat}
theorem OwnD.there (h : OwnD K H0 LL H a d) : ∃ o, H a = some o ∧ Mut (some o) := by
  cases d with
  | lst t ds => obtain ⟨vs, h, _⟩ := h; exact ⟨_, h, trivial⟩
  | dK ks ds => obtain ⟨vs, h, _⟩ := h; exact ⟨_, h, trivial⟩
  | dT ks ds => obtain ⟨vs, h, _⟩ := h; exact ⟨_, h, trivial⟩
  | _ => exact h.elim
theorem OwnD.kp (k : Kp LL L' H H') (hn : ∀ a, H0 a = none → H1 a = none) (ha : ∀ o, H a = some o → H' a = some o) (h : OwnD K H0 LL H a d) : OwnD K H1 L' H' a d := by
  cases d with
  | lst t ds => obtain ⟨vs, h, g⟩ := h; exact ⟨vs, ha _ h, g.kp k hn⟩
  | dK ks ds => obtain ⟨vs, h, z, g⟩ := h; exact ⟨vs, ha _ h, z, g.kp k hn⟩
  | dT ks ds => obtain ⟨vs, h, z, g⟩ := h; exact ⟨vs, ha _ h, z, g.kp k hn⟩
  | _ => exact h.elim
theorem Rel.ownAt (r : Rel K H0 L ε σ H) (o : Owned ε σ a) : H0 a = none ∧ ¬ L a ∧ ∃ o, H a = some o ∧ Mut (some o) := by
  obtain ⟨i, d, e1, e2⟩ := o
  obtain ⟨b, e3, h0, hl, hd⟩ := r.own i d e1
  rw [e2] at e3
  cases e3
  exact ⟨h0, hl, hd.there⟩
theorem Rel.lo (r : Rel K H0 L ε σ H) : ∀ a, LO L ε σ a → H a ≠ none := by
  rintro a (h | h)
  · exact r.trk a h
  · obtain ⟨_, _, o, e, _⟩ := r.ownAt h
    rw [e]
    exact fun z => nomatch z
theorem Rel.mono (r : Rel K H0 L ε σ H) (s : Same H H') : Rel K H0 L ε σ H' where
  same := r.same.trans s
  trk := fun a h z => r.trk a h (s.free z)
  len := r.len
  val := fun i d e => let ⟨v, e1, h⟩ := r.val i d e; ⟨v, e1, h.same s⟩
  own := fun i d e => let ⟨a, e1, h0, hl, h⟩ := r.own i d e; ⟨a, e1, h0, hl, h.kp (.same s) (fun _ z => z) fun o z => s _ _ z⟩
  uni := r.uni

/-! ### what a part of an expression may know of an operand: a list of its own, whose items are data -/
def DenS (K : PySem.W.Frag) (H0 : Hp) (L LL : Addr → Prop) (H : Hp) : Dat → V → Prop
  | .lst t ds, v => ∃ a vs, v = .ref a ∧ ¬ L a ∧ (t = true → H0 a = none) ∧ H a = some (.lst vs) ∧ DenL K H0 LL H ds vs
  | .dK ks ds, v => ∃ a vs, v = .ref a ∧ ¬ L a ∧ Rd H a (.dK (ks.zip vs)) ∧ ks.length = vs.length ∧ DenL K H0 LL H ds vs
  | .dT ks ds, v => ∃ a vs, v = .ref a ∧ ¬ L a ∧ Rd H a (.dT (ks.zip vs)) ∧ ks.length = vs.length ∧ DenL K H0 LL H ds vs
  | d, v => Den K H0 LL H d v
theorem Den.s (hs : ∀ a, L a → LL a) (h : Den K H0 LL H d v) : DenS K H0 L LL H d v := by
  cases d with
  | lst t ds => obtain ⟨a, vs, e, hl, q⟩ := h; exact ⟨a, vs, e, fun z => hl (hs _ z), q⟩
  | dK t ds => obtain ⟨a, vs, e, hl, q⟩ := h; exact ⟨a, vs, e, fun z => hl (hs _ z), q⟩
  | dT t ds => obtain ⟨a, vs, e, hl, q⟩ := h; exact ⟨a, vs, e, fun z => hl (hs _ z), q⟩
  | _ => exact h
theorem Den.sub (hs : ∀ a, L a → LL a) (h : Den K H0 LL H d v) : Den K H0 L H d v := h.kp (fun a o n e => ⟨fun z => n (hs _ z), e⟩) fun _ z => z
theorem DenL.sub (hs : ∀ a, L a → LL a) (h : DenL K H0 LL H ds vs) : DenL K H0 L H ds vs := h.kp (fun a o n e => ⟨fun z => n (hs _ z), e⟩) fun _ z => z
theorem DenS.den (hs : ∀ a, L a → LL a) (h : DenS K H0 L LL H d v) : Den K H0 L H d v := by
  cases d with
  | lst t ds => obtain ⟨a, vs, e, hl, t, ha, q⟩ := h; exact ⟨a, vs, e, hl, t, ha, q.sub hs⟩
  | dK t ds => obtain ⟨a, vs, e, hl, t, z, q⟩ := h; exact ⟨a, vs, e, hl, t, z, q.sub hs⟩
  | dT t ds => obtain ⟨a, vs, e, hl, t, z, q⟩ := h; exact ⟨a, vs, e, hl, t, z, q.sub hs⟩
  | non => exact Den.sub hs h
  | bl b => exact Den.sub hs h
  | int b => exact Den.sub hs h
  | str b => exact Den.sub hs h
  | tup b => exact Den.sub (d := .tup b) hs h
  | scr b => exact Den.sub (d := .scr b) hs h
  | cst b => exact h
theorem DenS.same (s : Same H H') (h : DenS K H0 L LL H d v) : DenS K H0 L LL H' d v := by
  cases d with
  | lst t ds => obtain ⟨a, vs, e, hl, t, ha, q⟩ := h; exact ⟨a, vs, e, hl, t, s _ _ ha, q.same s⟩
  | dK t ds => obtain ⟨a, vs, e, hl, t, z, q⟩ := h; exact ⟨a, vs, e, hl, ((Kp.same (L := L) s).rd hl t).2, z, q.same s⟩
  | dT t ds => obtain ⟨a, vs, e, hl, t, z, q⟩ := h; exact ⟨a, vs, e, hl, ((Kp.same (L := L) s).rd hl t).2, z, q.same s⟩
  | non => exact h
  | bl b => exact h
  | int b => exact h
  | str b => exact h
  | tup b => exact Den.same (H0 := H0) (d := .tup b) s h
  | scr b => exact Den.same (H0 := H0) (d := .scr b) s h
  | cst b => exact h
def DM (m : Bool) (K : PySem.W.Frag) (H0 : Hp) (L LL : Addr → Prop) (H : Hp) (d : Dat) (v : V) : Prop := match m with
  | true => Den K H0 LL H d v
  | false => DenS K H0 L LL H d v
theorem Den.m {m : Bool} (hs : ∀ a, L a → LL a) (h : Den K H0 LL H d v) : DM m K H0 L LL H d v := by
  cases m with
  | true => exact h
  | false => exact h.s hs
theorem DM.same {m : Bool} (s : Same H H') (h : DM m K H0 L LL H d v) : DM m K H0 L LL H' d v := by
  cases m with
  | true => exact Den.same s h
  | false => exact DenS.same s h
/-- where operands stand -/
structure Good (H0 : Hp) (L LL : Addr → Prop) (H : Hp) : Prop where
  sub : ∀ a, L a → LL a
  trk : ∀ a, LL a → H a ≠ none
  fr : ∀ a, H a = none → H0 a = none
theorem Rel.good (r : Rel K H0 L ε σ H) : Good H0 L (LO L ε σ) H := ⟨fun _ h => .inl h, r.lo, fun _ h => r.same.free h⟩
theorem Good.mono (g : Good H0 L LL H) (s : Same H H') : Good H0 L LL H' := ⟨g.sub, fun a h z => g.trk a h (s.free z), fun a h => g.fr a (s.free h)⟩
theorem Good.not (g : Good H0 L LL H) (h : H a = none) : ¬ LL a := fun z => g.trk a z h
theorem same_new {p : Addr} {o : HO} (h : H p = none) : Same H (upd H p o) := fun b u q => by rw [upd_ne (ne_of_none q h)]; exact q
/-- a new list -/
theorem Good.lst (g : Good H0 L LL H) {p : Addr} (h : H p = none) (hd : DenL K H0 LL H ds vs) {t : Bool} : Den K H0 LL (upd H p (.lst vs)) (.lst t ds) (.ref p) :=
  ⟨p, vs, rfl, g.not h, fun _ => g.fr _ h, upd_same, hd.same (same_new h)⟩
theorem Good.tup (g : Good H0 L LL H) {p : Addr} (h : H p = none) (hd : DenL K H0 LL H ds vs) : Den K H0 LL (upd H p (.tup vs)) (.tup ds) (.ref p) :=
  ⟨p, vs, rfl, ⟨g.not h, upd_same⟩, hd.same (same_new h)⟩
end

/-! ### expressions -/
abbrev WX := Value → Option Addr → L2.St → Hp → Prop
def Rs.to {α : Type} (R : Rs α) (P : α → Prop) (E : Str → Prop) : Prop := match R with
  | .ok a => P a
  | .ex n => E n
  | .no => False
theorem Rs.to_bind {α β : Type} {R : Rs α} {F : α → Rs β} {P : β → Prop} {E : Str → Prop} : (R >>= F).to P E ↔ R.to (fun a => (F a).to P E) E := by
  cases R <;> exact Iff.rfl
theorem Rs.to.imp {α : Type} {R : Rs α} {P P' : α → Prop} {E E' : Str → Prop} (h : R.to P E) (k : ∀ a, R = .ok a → P a → P' a) (l : ∀ n, E n → E' n) : R.to P' E' := by
  cases R with
  | no => exact h
  | ex n => exact l _ h
  | ok a => exact k a rfl h
theorem Rs.to_of {α : Type} {o : Option α} {P : α → Prop} {E : Str → Prop} (h : (Rs.of o).to P E) : ∃ a, o = some a ∧ P a := by
  cases o with
  | none => exact h.elim
  | some a => exact ⟨a, rfl, h⟩
/-- what is wanted of an error by its class's name -/
def XW (mg : Str → Option Value) (W : WX) (σ : L2.St) (H : Hp) (n : Str) : Prop := ∀ C dd H', mg n = some (Value.ref C) → Same H H' → W (.ref C) dd σ H'
theorem XW.mono {mg : Str → Option Value} {W : WX} {σ : L2.St} {H H' : Hp} {n : Str} (h : XW mg W σ H n) (s : Same H H') : XW mg W σ H' n := fun C dd H2 hm s2 => h C dd H2 hm (s.trans s2)
def tE (m : Bool) (K : PySem.W.Frag) (mg : Str → Option Value) (W : WX) (H0 : Hp) (L : Addr → Prop) (f : DEnv → Rs Dat) : TE := fun σ H Q => ∃ ε, Rel K H0 L ε σ H ∧
  (f ε).to (fun d => ∀ v H', Same H H' → DM m K H0 L (LO L ε σ) H' d v → Q v H') (XW mg W σ H)
/-- e computes f -/
def DE (m : Bool) (X : Cx) (W : WX) (H0 : Hp) (L : Addr → Prop) (e : Expr) (f : DEnv → Rs Dat) : Prop := PE X e (tE m X.K X.mg W H0 L f)
/-- as a test -/
def tT (K : PySem.W.Frag) (mg : Str → Option Value) (W : WX) (H0 : Hp) (L : Addr → Prop) (f : DEnv → Rs Bool) : TT := fun σ H Q => ∃ ε, Rel K H0 L ε σ H ∧
  (f ε).to (fun b => ∀ H', Same H H' → Q b H') (XW mg W σ H)
def DT (X : Cx) (W : WX) (H0 : Hp) (L : Addr → Prop) (e : Expr) (f : DEnv → Rs Bool) : Prop := PT X e (tT X.K X.mg W H0 L f)
/-- arguments -/
def tA (m : Bool) (K : PySem.W.Frag) (mg : Str → Option Value) (W : WX) (H0 : Hp) (L : Addr → Prop) (f : DEnv → Rs (List Dat)) : TA := fun σ H Q => ∃ ε, Rel K H0 L ε σ H ∧
  (f ε).to (fun ds => ∀ vs H', Same H H' → Paired (DM m K H0 L (LO L ε σ) H') ds vs → Q vs H') (XW mg W σ H)
def DA (m : Bool) (X : Cx) (W : WX) (H0 : Hp) (L : Addr → Prop) (es : List Expr) (f : DEnv → Rs (List Dat)) : Prop := PA X es (tA m X.K X.mg W H0 L f)
/-- a list just made: it stands nowhere else -/
def tF (K : PySem.W.Frag) (mg : Str → Option Value) (W : WX) (H0 : Hp) (L : Addr → Prop) (f : DEnv → Rs (List Dat)) : TE := fun σ H Q => ∃ ε, Rel K H0 L ε σ H ∧
  (f ε).to (fun ds => ∀ a vs H', Same H H' → H a = none → H' a = some (.lst vs) → DenL K H0 (fun b => LO L ε σ b ∨ b = a) H' ds vs → Q (.ref a) H') (XW mg W σ H)
def DF (X : Cx) (W : WX) (H0 : Hp) (L : Addr → Prop) (e : Expr) (f : DEnv → Rs (List Dat)) : Prop := PE X e (tF X.K X.mg W H0 L f)

theorem peimp {X : Cx} {e : Expr} {t t' : TE} (h : PE X e t) (k : ∀ σ H Q, t' σ H Q → t σ H Q) : PE X e t' := ⟨fun pins s σ H Q I q => h.run pins s σ H Q I (k σ H Q q)⟩
theorem ptimp {X : Cx} {e : Expr} {t t' : TT} (h : PT X e t) (k : ∀ σ H Q, t' σ H Q → t σ H Q) : PT X e t' := ⟨fun pins s σ H Q I q => h.run pins s σ H Q I (k σ H Q q)⟩
theorem paimp {X : Cx} {e : List Expr} {t t' : TA} (h : PA X e t) (k : ∀ σ H Q, t' σ H Q → t σ H Q) : PA X e t' := ⟨fun pos pins s σ H Q I q => h.run pos pins s σ H Q I (k σ H Q q)⟩

section
variable {X : Cx} {W : WX} {H0 : Hp} {L : Addr → Prop} {m m1 m2 : Bool} {a b e : Expr} {es : List Expr} {pos : Pos} {f g : DEnv → Rs Dat} {fs : DEnv → Rs (List Dat)}
variable {K : PySem.W.Frag} {mg : Str → Option Value} {σ : L2.St} {H : Hp} {ε : DEnv}

/-! ### names and constants -/
def rdv (m : Bool) (i : Nat) (ε : DEnv) : Rs Dat := match ε[i]? with
  | some (some (o, d)) => if m && o then .no else .ok d
  | _ => .no
theorem Rel.rd (r : Rel K H0 L ε σ H) {i : Nat} {d : Dat} (h : rdv m i ε = .ok d) : ∃ v, σ[i]? = some (some v) ∧ DM m K H0 L (LO L ε σ) H d v := by
  unfold rdv at h
  split at h
  · rename_i o e he
    split at h
    · cases h
    · rename_i hc
      cases h
      cases o with
      | false =>
        obtain ⟨v, e1, q⟩ := r.val i d he
        exact ⟨v, e1, q.m r.good.sub⟩
      | true =>
        cases m with
        | true => exact (hc rfl).elim
        | false =>
          obtain ⟨a, e1, h0, hl, q⟩ := r.own i d he
          refine ⟨_, e1, ?_⟩
          show DenS _ _ _ _ _ _ _
          cases d with
          | lst t ds => obtain ⟨vs, q1, q2⟩ := q; exact ⟨a, vs, rfl, hl, fun _ => h0, q1, q2⟩
          | dK t ds => obtain ⟨vs, q1, q2, q3⟩ := q; exact ⟨a, vs, rfl, hl, .inl q1, q2, q3⟩
          | dT t ds => obtain ⟨vs, q1, q2, q3⟩ := q; exact ⟨a, vs, rfl, hl, .inl q1, q2, q3⟩
          | _ => exact q.elim
  · cases h
theorem dv (i : Nat) {x : Str} {pos : Pos} (hN : X.N[i]? = some x := by rfl) (hv : Vis X.env.scope x := by first | exact Or.inl rfl | exact Or.inr (Or.inl rfl) | exact Or.inr (Or.inr rfl)) (hd : (x == ("__debug__" : Str)) = false := by decide)
    (hcd : (x == ("__classdict__" : Str)) = false := by decide) : DE m X W H0 L (.Name x pos) (rdv m i) := by
  refine peimp (pe_var hN hv hd hcd) fun σ H Q ⟨ε, r, h⟩ => ?_
  cases e : rdv m i ε with
  | no => rw [e] at h; exact h.elim
  | ex n =>
    unfold rdv at e
    split at e
    · split at e <;> cases e
    · cases e
  | ok d =>
    rw [e] at h
    obtain ⟨v, e1, q⟩ := r.rd e
    exact ⟨v, e1, h v H (Same.refl H) q⟩
def kst (d : Dat) (_ : DEnv) : Rs Dat := .ok d
theorem de_const {d : Dat} {v : V} (h : PE X e (tC v)) (hd : ∀ K H0 LL H, Den K H0 LL H d v) : DE m X W H0 L e (kst d) := by
  refine peimp h fun σ H Q ⟨ε, r, h⟩ => ?_
  exact h v H (Same.refl H) ((hd _ _ _ _).m r.good.sub)
theorem de_int {i : Int} {j pos} : DE m X W H0 L (.Constant (.int i) j pos) (kst (.int i)) := de_const pe_int fun _ _ _ _ => rfl
theorem de_bl {i : Bool} {j pos} : DE m X W H0 L (.Constant (.bool i) j pos) (kst (.bl i)) := de_const pe_bl fun _ _ _ _ => rfl
theorem de_str {i : Str} {j pos} : DE m X W H0 L (.Constant (.str i) j pos) (kst (.str i)) := de_const pe_str fun _ _ _ _ => rfl
theorem de_non {j pos} : DE m X W H0 L (.Constant .none j pos) (kst .non) := de_const pe_non fun _ _ _ _ => rfl

/-! ### operators, by values -/
/-- F: what the operator makes of two data -/
def OpD (K : PySem.W.Frag) (r : R2) (F : Dat → Dat → Option Dat) : Prop := ∀ {H0 : Hp} {L LL : Addr → Prop} {H : Hp} {x y : V} {d e z : Dat} {Q : VK}, Good H0 L LL H → DenS K H0 L LL H d x → DenS K H0 L LL H e y → F d e = some z →
  (∀ v H', Same H H' → Den K H0 LL H' z v → Q v H') → r x y H Q
def bop (F : Dat → Dat → Option Dat) (f g : DEnv → Rs Dat) (ε : DEnv) : Rs Dat := f ε >>= fun d => g ε >>= fun e => Rs.of (F d e)
theorem bin_use {r : R2} {F : Dat → Dat → Option Dat} {Q : VK} (hF : OpD K r F) (h : tE m K mg W H0 L (bop F f g) σ H Q) : tOp r (tE false K mg W H0 L f) (tE false K mg W H0 L g) σ H Q := by
  obtain ⟨ε, rel, h⟩ := h
  unfold bop at h
  rw [Rs.to_bind] at h
  refine ⟨ε, rel, h.imp (fun d _ hd x H1 s1 dx => ?_) fun n z => z⟩
  rw [Rs.to_bind] at hd
  refine ⟨ε, rel.mono s1, hd.imp (fun e _ he y H2 s2 dy => ?_) fun n z => z.mono s1⟩
  obtain ⟨z, hz, hq⟩ := Rs.to_of he
  exact hF (rel.mono (s1.trans s2)).good (DenS.same s2 dx) dy hz fun v H3 s3 q => hq v H3 (s1.trans (s2.trans s3)) (q.m rel.good.sub)
theorem de_op {op : Operator} {r : R2} {F : Dat → Dat → Option Dat} (ho : OpR X (binaryOp op) r) (hF : OpD X.K r F) (ha : DE false X W H0 L a f) (hb : DE false X W H0 L b g) : DE m X W H0 L (.BinOp a op b pos) (bop F f g) :=
  peimp (pe_op ho ha hb) fun _ _ _ h => bin_use hF h
theorem de_cmp {op : CmpOp} {r : R2} {F : Dat → Dat → Option Dat} (ho : OpR X (compareOp op) r) (hF : OpD X.K r F) (ha : DE false X W H0 L a f) (hb : DE false X W H0 L b g) (hm : behindInMarks op b = false) : DE m X W H0 L (.Compare a [op] [b] pos) (bop F f g) :=
  peimp (pe_cmpR ho ha hb hm) fun _ _ _ h => bin_use hF h
/-- a value that must be a truth -/
def asB : Dat → Rs Bool
  | .bl b => .ok b
  | _ => .no
def tst (f : DEnv → Rs Dat) (ε : DEnv) : Rs Bool := f ε >>= asB
theorem tst_use {Q : Bool → Hp → Prop} (h : tT K mg W H0 L (tst f) σ H Q) : tTest (tE false K mg W H0 L f) σ H Q := by
  obtain ⟨ε, rel, h⟩ := h
  unfold tst at h
  rw [Rs.to_bind] at h
  refine ⟨ε, rel, h.imp (fun d _ hd x H1 s1 dx => ?_) fun n z => z⟩
  cases d with
  | bl b => exact ⟨b, dx, hd H1 s1⟩
  | _ => exact hd.elim
theorem dt_cmp {op : CmpOp} {r : R2} {F : Dat → Dat → Option Dat} (ho : OpR X (compareOp op) r) (hF : OpD X.K r F) (ha : DE false X W H0 L a f) (hb : DE false X W H0 L b g) (hm : behindInMarks op b = false) : DT X W H0 L (.Compare a [op] [b] pos) (tst (bop F f g)) :=
  ptimp (pt_cmpR ho ha hb hm) fun σ H Q h => by
    have h2 := tst_use h
    unfold tTest at h2 ⊢
    exact bin_use (m := false) hF h2
theorem dt_val (h : DE false X W H0 L e f) (he : ∀ whole, isTrue e X.env whole = (do let v ← whole; standAt e.pos; holding [v] (truthy v)) := by intro _; rfl) : DT X W H0 L e (tst f) :=
  ptimp (pt_val h he) fun σ H Q q => tst_use q
end
end DL

set_option maxRecDepth 100000
set_option maxHeartbeats 4000000
/-! DLc: operators over data. -/
namespace DL
open PySem PySem.Spec PyProof.Rows L2

section
variable {K : PySem.W.Frag} {X : Cx} {H0 H : Hp} {L LL : Addr → Prop}
/-! ### ints -/
noncomputable def cls (p : Prop) : Bool := @decide p (Classical.propDecidable p)
theorem cls_true {p : Prop} (h : p) : cls p = true := @decide_eq_true p (Classical.propDecidable p) h
theorem cls_ok {p : Prop} (h : cls p = true) : p := @of_decide_eq_true p (Classical.propDecidable p) h
noncomputable def dI (C : Int → Int → Prop) (g : Int → Int → Int) : Dat → Dat → Option Dat
  | .int i, .int j => if cls (C i j) = true then some (.int (g i j)) else none
  | _, _ => none
theorem opd_I {C : Int → Int → Prop} {g : Int → Int → Int} : OpD K (rI C fun i j => .int (g i j)) (dI C g) := by
  intro H0 L LL H x y d e z Q gd hx hy hz hq
  unfold dI at hz
  split at hz
  · split at hz
    · rename_i hc
      cases hz
      exact ⟨_, _, hx, hy, cls_ok hc, hq _ _ (Same.refl _) rfl⟩
    · cases hz
  · cases hz
def cmul (i j : Int) : Prop := ((-(2 ^ 64) < i ∧ i < 2 ^ 64) ∨ (-(2 ^ 64) < j ∧ j < 2 ^ 64)) ∨ i.natAbs.log2 + j.natAbs.log2 < 1000000
theorem cmul.ok {i j : Int} (h : cmul i j) : IntMulOk i j := by
  rcases h with h | h
  · exact CMul.ok h
  · exact CMulW.ok h
theorem op_mulD : OpR X (binaryOp .Mult) (rI cmul fun i j => .int (i * j)) := opI fun _ _ _ _ _ _ _ hc q => mul_int q hc.ok
noncomputable def dSub := dI (fun _ _ => True) (fun i j => i - j)
noncomputable def dMul := dI cmul (fun i j => i * j)
noncomputable def dFdiv := dI CDivW (fun i j => i / j)
noncomputable def dMod := dI (fun _ j => 0 < j) (fun i j => i % j)
noncomputable def dPow := dI CPow (fun i j => i ^ j.toNat)
noncomputable def dShr := dI (fun _ j => 0 ≤ j) (fun i j => i / 2 ^ j.toNat)
theorem rI_true {g : Int → Int → V} {f : Value → Value → Sem Value} (h : OpR X f (rI0 g)) : OpR X f (rI (fun _ _ => True) g) := by
  intro pins s σ H x y v u Q I rx ry ⟨i, j, e1, e2, _, q⟩
  exact h pins s σ H x y v u Q I rx ry ⟨i, j, e1, e2, q⟩
variable {m : Bool} {W : WX} {a b e : Expr} {pos : Pos} {f g : DEnv → Rs Dat}
theorem de_sub (ha : DE false X W H0 L a f) (hb : DE false X W H0 L b g) : DE m X W H0 L (.BinOp a .Sub b pos) (bop dSub f g) := de_op (rI_true op_sub) opd_I ha hb
theorem de_mul (ha : DE false X W H0 L a f) (hb : DE false X W H0 L b g) : DE m X W H0 L (.BinOp a .Mult b pos) (bop dMul f g) := de_op op_mulD opd_I ha hb
theorem de_fdiv (ha : DE false X W H0 L a f) (hb : DE false X W H0 L b g) : DE m X W H0 L (.BinOp a .FloorDiv b pos) (bop dFdiv f g) := de_op op_fdivW opd_I ha hb
theorem de_mod (ha : DE false X W H0 L a f) (hb : DE false X W H0 L b g) : DE m X W H0 L (.BinOp a .Mod b pos) (bop dMod f g) := de_op op_mod opd_I ha hb
theorem de_pow (ha : DE false X W H0 L a f) (hb : DE false X W H0 L b g) : DE m X W H0 L (.BinOp a .Pow b pos) (bop dPow f g) := de_op op_pow opd_I ha hb
theorem de_shr (ha : DE false X W H0 L a f) (hb : DE false X W H0 L b g) : DE m X W H0 L (.BinOp a .RShift b pos) (bop dShr f g) := de_op op_shr opd_I ha hb

/-! ### + -/
def dAdd : Dat → Dat → Option Dat
  | .int i, .int j => some (.int (i + j))
  | .str i, .str j => if i.length + j.length ≤ sizeLine then some (.str (i ++ j)) else none
  | .tup i, .tup j => if i.length + j.length ≤ sizeLine then some (.tup (i ++ j)) else none
  | .lst _ i, .lst _ j => if i.length + j.length ≤ sizeLine then some (.lst true (i ++ j)) else none
  | .cst i, .tup (j :: js) => if i.length + (js.length + 1) ≤ sizeLine then some (.tup (i.map .str ++ j :: js)) else none
  | _, _ => none
theorem denL_strs {K : PySem.W.Frag} {H0 H : Hp} {L : Addr → Prop} : ∀ ss : List Str, DenL K H0 L H (ss.map .str) (ss.map V.str)
  | [] => rfl
  | s :: r => ⟨_, _, rfl, rfl, denL_strs r⟩
theorem tupcat {x y : Addr} {xs ys : List V} {ds es : List Dat} {Q : VK} (gd : Good H0 L LL H) (hx : SqT K H x xs) (hy : SqT K H y ys) (dx : DenL K H0 LL H ds xs) (dy : DenL K H0 LL H es ys) (hl : ds.length + es.length ≤ sizeLine)
    (kx : ys = [] → Den K H0 LL H (.tup ds) (.ref x)) (ky : Den K H0 LL H (.tup es) (.ref y))
    (hq : ∀ v H', Same H H' → Den K H0 LL H' (.tup (ds ++ es)) v → Q v H') : rCatA K (.ref x) (.ref y) H Q := by
  refine ⟨x, y, xs, ys, rfl, rfl, hx, hy, by rw [← dx.length, ← dy.length]; exact hl, fun e => ?_, fun _ e => ?_, fun _ _ p hp => ?_⟩
  · subst e
    have : ds = [] := List.length_eq_zero_iff.mp dx.length
    subst this
    exact hq _ _ (Same.refl _) ky
  · have k := kx e
    subst e
    have : es = [] := List.length_eq_zero_iff.mp dy.length
    subst this
    rw [List.append_nil] at hq
    exact hq _ _ (Same.refl _) k
  · exact hq _ _ (same_new hp) (gd.tup hp (dx.app dy))
theorem opd_add : OpD K (fun x y H Q => (rI0 fun i j => .int (i + j)) x y H Q ∨ rCatA K x y H Q ∨ rCat x y H Q ∨ ∃ i j, x = .str i ∧ y = .str j ∧ i.length + j.length ≤ sizeLine ∧ Q (.str (i ++ j)) H) dAdd := by
  intro H0 L LL H x y d e z Q gd hx hy hz hq
  unfold dAdd at hz
  split at hz
  · cases hz
    exact .inl ⟨_, _, hx, hy, hq _ _ (Same.refl _) rfl⟩
  · split at hz
    · rename_i hc
      cases hz
      exact .inr (.inr (.inr ⟨_, _, hx, hy, hc, hq _ _ (Same.refl _) rfl⟩))
    · cases hz
  · split at hz
    · rename_i hc
      cases hz
      obtain ⟨p, vs, rfl, tp, hp⟩ := id hx
      obtain ⟨q, ws, rfl, tq, hq'⟩ := id hy
      refine .inr (.inl (tupcat gd tp.sq tq.sq hp hq' hc (fun _ => hx) hy hq))
    · cases hz
  · split at hz
    · rename_i hc
      cases hz
      obtain ⟨p, vs, rfl, lp, _, tp, hp⟩ := hx
      obtain ⟨q, ws, rfl, lq, _, tq, hq'⟩ := hy
      exact .inr (.inr (.inl ⟨p, q, vs, ws, rfl, rfl, tp, tq, by rw [← hp.length, ← hq'.length]; exact hc, fun r hr => hq _ _ (same_new hr) (gd.lst hr (hp.app hq'))⟩))
    · cases hz
  · split at hz
    · rename_i i j js hc
      cases hz
      obtain ⟨p, rfl, tp⟩ := hx
      obtain ⟨q, ws, rfl, tq, hq'⟩ := id hy
      have hl := hq'.length
      refine .inr (.inl ⟨p, q, _, ws, rfl, rfl, cst_sq tp, tq.sq, by rw [← hl, List.length_map]; exact hc, fun e => ?_, fun _ e => ?_, fun _ _ r hr => ?_⟩)
      · have e2 : i = [] := List.map_eq_nil_iff.mp e
        subst e2
        exact hq _ _ (Same.refl _) hy
      · subst e
        cases hl
      · exact hq _ _ (same_new hr) (gd.tup hr ((denL_strs i).app hq'))
    · cases hz
  · cases hz
theorem de_add (ha : DE false X W H0 L a f) (hb : DE false X W H0 L b g) : DE m X W H0 L (.BinOp a .Add b pos) (bop dAdd f g) := de_op (op_add.or (op_catA.or (op_cat.or op_add_str))) opd_add ha hb

/-! ### one operand -/
def OpU (K : PySem.W.Frag) (r : V → Hp → VK → Prop) (F : Dat → Option Dat) : Prop := ∀ {H0 : Hp} {L LL : Addr → Prop} {H : Hp} {x : V} {d z : Dat} {Q : VK}, Good H0 L LL H → DenS K H0 L LL H d x → F d = some z →
  (∀ v H', Same H H' → Den K H0 LL H' z v → Q v H') → r x H Q
def uop (F : Dat → Option Dat) (f : DEnv → Rs Dat) (ε : DEnv) : Rs Dat := f ε >>= fun d => Rs.of (F d)
theorem un_use {r : V → Hp → VK → Prop} {F : Dat → Option Dat} {mg : Str → Option Value} {σ : L2.St} {Q : VK} (hF : OpU K r F) (h : tE m K mg W H0 L (uop F f) σ H Q) : tE false K mg W H0 L f σ H (fun x H1 => r x H1 Q) := by
  obtain ⟨ε, rel, h⟩ := h
  unfold uop at h
  rw [Rs.to_bind] at h
  refine ⟨ε, rel, h.imp (fun d _ hd x H1 s1 dx => ?_) fun n z => z⟩
  obtain ⟨z, hz, hq⟩ := Rs.to_of hd
  exact hF (rel.mono s1).good dx hz fun v H3 s3 q => hq v H3 (s1.trans s3) (q.m rel.good.sub)
def dNeg : Dat → Option Dat
  | .int i => some (.int (-i))
  | _ => none
theorem de_neg (ha : DE false X W H0 L a f) : DE m X W H0 L (.UnaryOp .USub a pos) (uop dNeg f) :=
  peimp (pe_un un_neg ha) fun _ _ _ h => un_use (r := rU fun i => .int (-i)) (fun {H0 L LL H x d z Q} gd hx hz hq => by
    unfold dNeg at hz
    split at hz
    · cases hz; exact ⟨_, hx, hq _ _ (Same.refl _) rfl⟩
    · cases hz) h
def dNot : Dat → Option Dat
  | .bl i => some (.bl (!i))
  | _ => none
theorem de_not (ha : DE false X W H0 L a f) : DE m X W H0 L (.UnaryOp .Not a pos) (uop dNot f) :=
  peimp (pe_not ha) fun _ _ _ h => un_use (r := fun x H Q => ∃ c, x = .bl c ∧ Q (.bl (!c)) H) (fun {H0 L LL H x d z Q} gd hx hz hq => by
    unfold dNot at hz
    split at hz
    · cases hz; exact ⟨_, hx, hq _ _ (Same.refl _) rfl⟩
    · cases hz) h

/-! ### order -/
def intsD : List Dat → Option (List Int)
  | [] => some []
  | .int i :: r => (intsD r).map (i :: ·)
  | _ :: _ => none
theorem denL_ints : ∀ {ds : List Dat} {vs : List V} {ns : List Int}, DenL K H0 L H ds vs → intsD ds = some ns → vs = ns.map V.int
  | [], _, _, h, e => by cases h; cases e; rfl
  | d :: r, _, ns, ⟨v, vr, e1, h, t⟩, e => by
    subst e1
    unfold intsD at e
    split at e
    · rename_i e2; cases e2
    · rename_i i r' e2
      cases e2
      cases q : intsD r with
      | none => rw [q] at e; cases e
      | some ms =>
        rw [q] at e
        cases e
        rw [denL_ints t q]
        cases h
        rfl
    · cases e
def dCmp (p : Int → Int → Bool) (q : List Int → List Int → Bool) : Dat → Dat → Option Dat
  | .int i, .int j => some (.bl (p i j))
  | .tup i, .tup j => match intsD i, intsD j with
    | some ns, some ms => some (.bl (q ns ms))
    | _, _ => none
  | _, _ => none
theorem opd_cmp {p : Int → Int → Bool} {q : List Int → List Int → Bool} : OpD K (fun x y H Q => (rI0 fun i j => .bl (p i j)) x y H Q ∨ (∃ a b ns ms, x = .ref a ∧ y = .ref b ∧ SqT K H a (ns.map V.int) ∧ SqT K H b (ms.map V.int) ∧ Q (.bl (q ns ms)) H)) (dCmp p q) := by
  intro H0 L LL H x y d e z Q gd hx hy hz hq
  unfold dCmp at hz
  split at hz
  · cases hz
    exact .inl ⟨_, _, hx, hy, hq _ _ (Same.refl _) rfl⟩
  · split at hz
    · rename_i e1 e2
      cases hz
      obtain ⟨a, vs, rfl, ta, da⟩ := hx
      obtain ⟨b, ws, rfl, tb, db⟩ := hy
      have q1 := denL_ints da e1
      have q2 := denL_ints db e2
      subst q1 q2
      exact .inr ⟨a, b, _, _, rfl, rfl, ta.sq, tb.sq, hq _ _ (Same.refl _) rfl⟩
    · cases hz
  · cases hz
def noTup (_ _ : List Int) : Bool := false
def dLt := dCmp (fun i j => decide (i < j)) HT.lexLt
def dI2 (p : Int → Int → Bool) : Dat → Dat → Option Dat
  | .int i, .int j => some (.bl (p i j))
  | _, _ => none
theorem opd_I2 {p : Int → Int → Bool} : OpD K (rI0 fun i j => .bl (p i j)) (dI2 p) := by
  intro H0 L LL H x y d e z Q gd hx hy hz hq
  unfold dI2 at hz
  split at hz
  · cases hz
    exact ⟨_, _, hx, hy, hq _ _ (Same.refl _) rfl⟩
  · cases hz
def dLe := dI2 (fun i j => decide (i ≤ j))
def dGt := dI2 (fun i j => decide (j < i))
def dGe := dI2 (fun i j => decide (j ≤ i))
theorem de_lt (hu : X.A.units < cLine) (ha : DE false X W H0 L a f) (hb : DE false X W H0 L b g) : DE m X W H0 L (.Compare a [.Lt] [b] pos) (bop dLt f g) := de_cmp (op_lt.or (op_ltT hu)) opd_cmp ha hb (nomark _)
theorem de_le (ha : DE false X W H0 L a f) (hb : DE false X W H0 L b g) : DE m X W H0 L (.Compare a [.LtE] [b] pos) (bop dLe f g) := de_cmp op_le opd_I2 ha hb (nomark _)
theorem de_gt (ha : DE false X W H0 L a f) (hb : DE false X W H0 L b g) : DE m X W H0 L (.Compare a [.Gt] [b] pos) (bop dGt f g) := de_cmp op_gt opd_I2 ha hb (nomark _)
theorem de_ge (ha : DE false X W H0 L a f) (hb : DE false X W H0 L b g) : DE m X W H0 L (.Compare a [.GtE] [b] pos) (bop dGe f g) := de_cmp op_ge opd_I2 ha hb (nomark _)
theorem dt_lt (hu : X.A.units < cLine) (ha : DE false X W H0 L a f) (hb : DE false X W H0 L b g) : DT X W H0 L (.Compare a [.Lt] [b] pos) (tst (bop dLt f g)) := dt_cmp (op_lt.or (op_ltT hu)) opd_cmp ha hb (nomark _)
theorem dt_le (ha : DE false X W H0 L a f) (hb : DE false X W H0 L b g) : DT X W H0 L (.Compare a [.LtE] [b] pos) (tst (bop dLe f g)) := dt_cmp op_le opd_I2 ha hb (nomark _)
theorem dt_gt (ha : DE false X W H0 L a f) (hb : DE false X W H0 L b g) : DT X W H0 L (.Compare a [.Gt] [b] pos) (tst (bop dGt f g)) := dt_cmp op_gt opd_I2 ha hb (nomark _)
theorem dt_ge (ha : DE false X W H0 L a f) (hb : DE false X W H0 L b g) : DT X W H0 L (.Compare a [.GtE] [b] pos) (tst (bop dGe f g)) := dt_cmp op_ge opd_I2 ha hb (nomark _)

/-! ### is None -/
def isNon : Dat → Bool
  | .non => true
  | _ => false
def dIsN : Dat → Dat → Option Dat
  | d, .non => some (.bl (isNon d))
  | _, _ => none
def dNotN : Dat → Dat → Option Dat
  | d, .non => some (.bl (!isNon d))
  | _, _ => none
theorem isN_eq {d : Dat} {x : V} (h : DenS K H0 L LL H d x) : decide (x = .non) = isNon d := by
  cases d with
  | non => cases (show x = V.non from h); rfl
  | bl b => cases (show x = V.bl b from h); rfl
  | int b => cases (show x = V.int b from h); rfl
  | str b => cases (show x = V.str b from h); rfl
  | tup ds => obtain ⟨a, vs, rfl, _⟩ := h; rfl
  | lst t ds => obtain ⟨a, vs, rfl, _⟩ := h; rfl
  | dK t ds => obtain ⟨a, vs, rfl, _⟩ := h; rfl
  | dT t ds => obtain ⟨a, vs, rfl, _⟩ := h; rfl
  | scr ds => obtain ⟨a, rfl, _⟩ := h; rfl
  | cst ds => obtain ⟨a, rfl, _⟩ := h; rfl
theorem opd_isN : OpD K (fun x y H Q => y = .non ∧ Q (.bl (decide (x = .non))) H) dIsN := by
  intro H0 L LL H x y d e z Q gd hx hy hz hq
  unfold dIsN at hz
  split at hz
  · cases hz
    exact ⟨hy, hq _ _ (Same.refl _) (by rw [isN_eq hx]; rfl)⟩
  · cases hz
theorem opd_notN : OpD K (fun x y H Q => y = .non ∧ Q (.bl (!decide (x = .non))) H) dNotN := by
  intro H0 L LL H x y d e z Q gd hx hy hz hq
  unfold dNotN at hz
  split at hz
  · cases hz
    exact ⟨hy, hq _ _ (Same.refl _) (by rw [isN_eq hx]; rfl)⟩
  · cases hz
theorem de_isN (ha : DE false X W H0 L a f) (hb : DE false X W H0 L b g) : DE m X W H0 L (.Compare a [.Is] [b] pos) (bop dIsN f g) := de_cmp op_isN opd_isN ha hb (nomark _)
theorem de_notN (ha : DE false X W H0 L a f) (hb : DE false X W H0 L b g) : DE m X W H0 L (.Compare a [.IsNot] [b] pos) (bop dNotN f g) := de_cmp op_notN opd_notN ha hb (nomark _)
theorem dt_isN (ha : DE false X W H0 L a f) (hb : DE false X W H0 L b g) : DT X W H0 L (.Compare a [.Is] [b] pos) (tst (bop dIsN f g)) := dt_cmp op_isN opd_isN ha hb (nomark _)
theorem dt_notN (ha : DE false X W H0 L a f) (hb : DE false X W H0 L b g) : DT X W H0 L (.Compare a [.IsNot] [b] pos) (tst (bop dNotN f g)) := dt_cmp op_notN opd_notN ha hb (nomark _)

/-! ### == -/
mutual
def toP : Dat → PyData
  | .non => .none
  | .bl b => .bool b
  | .int i => .int i
  | .str s => .str s
  | .tup ds => .tuple (toPs ds)
  | .lst _ ds => .list (toPs ds)
  | .dK _ _ => .dict []
  | .dT _ _ => .dict []
  | .scr _ => .dict []
  | .cst _ => .dict []
def toPs : List Dat → List PyData
  | [] => []
  | d :: r => toP d :: toPs r
end
mutual
theorem dp_of : ∀ {d : Dat} {v : V}, Den K H0 L H d v → (toP d).canLay0 = true → Dp K H v (toP d)
  | .non, _, h, _ => by cases h; exact .non
  | .bl _, _, h, _ => by cases h; exact .bl _
  | .int _, _, h, _ => by cases h; exact .int _
  | .str _, _, h, _ => by cases h; exact .str _
  | .tup ds, _, ⟨a, vs, e, t, h⟩, c => by subst e; exact .tup t.sq (dps_of h c)
  | .lst t ds, _, ⟨a, vs, e, _, _, ha, h⟩, c => by subst e; exact .lst (.of ha) (dps_of h c)
  | .dK _ _, _, _, c => by cases c
  | .dT _ _, _, _, c => by cases c
  | .scr _, _, _, c => by cases c
  | .cst _, _, _, c => by cases c
theorem dps_of : ∀ {ds : List Dat} {vs : List V}, DenL K H0 L H ds vs → PyData.canLayAll0 (toPs ds) = true → DpAll K H vs (toPs ds)
  | [], _, h, _ => by cases h; exact .nil
  | d :: r, _, ⟨v, vr, e, h, t⟩, c => by
    subst e
    have c' : ((toP d).canLay0 && PyData.canLayAll0 (toPs r)) = true := c
    rw [Bool.and_eq_true] at c'
    exact .cons (dp_of h c'.1) (dps_of t c'.2)
end
def scalD : Dat → Dat → Bool
  | .non, .non => true | .non, .int _ => true | .int _, .non => true | .non, .bl _ => true | .bl _, .non => true | .non, .str _ => true | .str _, .non => true
  | .int _, .int _ => true | .bl _, .bl _ => true | .str _, .str _ => true
  | .int _, .str _ => true | .str _, .int _ => true | .bl _, .str _ => true | .str _, .bl _ => true
  | _, _ => false
def eqOk (d e : Dat) : Bool := scalD d e || (SeqAt.shaped (toP d) && SeqAt.shaped (toP e))
def deq (d e : Dat) : Bool := PyData.eqv (toP d) (toP e)
def dEq (d e : Dat) : Option Dat := if eqOk d e then some (.bl (deq d e)) else none
def dNe (d e : Dat) : Option Dat := if eqOk d e then some (.bl (!deq d e)) else none
def isS : Dat → Bool
  | .non | .bl _ | .int _ | .str _ => true
  | _ => false
def fv : Dat → V
  | .non => .non
  | .bl b => .bl b
  | .int i => .int i
  | .str s => .str s
  | _ => .non
theorem fv_of {d : Dat} {x : V} (h : DenS K H0 L LL H d x) (s : isS d = true) : x = fv d := by
  cases d <;> first | exact h | cases s
theorem scalD_s {d e : Dat} (h : scalD d e = true) : isS d = true ∧ isS e = true ∧ scal (fv d) (fv e) = true ∧ decide (fv d = fv e) = deq d e := by
  cases d <;> cases e <;> first
    | (refine ⟨rfl, rfl, rfl, ?_⟩; simp [fv, deq, toP, PyData.eqv]; done)
    | (refine ⟨rfl, rfl, rfl, ?_⟩; simp [fv, deq, toP, PyData.eqv]; rw [Bool.eq_iff_iff]; simp; done)
    | exact absurd h Bool.false_ne_true
theorem scal_ok {d e : Dat} {x y : V} (hx : DenS K H0 L LL H d x) (hy : DenS K H0 L LL H e y) (h : scalD d e = true) : scal x y = true ∧ decide (x = y) = deq d e := by
  obtain ⟨h1, h2, h3, h4⟩ := scalD_s h
  rw [fv_of hx h1, fv_of hy h2]
  exact ⟨h3, h4⟩
theorem opd_eq : OpD K (fun x y H Q => rEq x y H Q ∨ rEqD K x y H Q) dEq := by
  intro H0 L LL H x y d e z Q gd hx hy hz hq
  unfold dEq at hz
  split at hz
  · rename_i hc
    cases hz
    rcases Bool.or_eq_true_iff.mp hc with hc | hc
    · obtain ⟨h1, h2⟩ := scal_ok hx hy hc
      exact .inl ⟨h1, by rw [h2]; exact hq _ _ (Same.refl _) rfl⟩
    · rw [Bool.and_eq_true] at hc
      exact .inr ⟨_, _, dp_of (hx.den gd.sub) (SeqAt.canLay_of_shaped hc.1), dp_of (hy.den gd.sub) (SeqAt.canLay_of_shaped hc.2), hc.1, hc.2, hq _ _ (Same.refl _) rfl⟩
  · cases hz
theorem opd_ne : OpD K (fun x y H Q => rNe x y H Q ∨ rNeD K x y H Q) dNe := by
  intro H0 L LL H x y d e z Q gd hx hy hz hq
  unfold dNe at hz
  split at hz
  · rename_i hc
    cases hz
    rcases Bool.or_eq_true_iff.mp hc with hc | hc
    · obtain ⟨h1, h2⟩ := scal_ok hx hy hc
      exact .inl ⟨h1, by rw [h2]; exact hq _ _ (Same.refl _) rfl⟩
    · rw [Bool.and_eq_true] at hc
      exact .inr ⟨_, _, dp_of (hx.den gd.sub) (SeqAt.canLay_of_shaped hc.1), dp_of (hy.den gd.sub) (SeqAt.canLay_of_shaped hc.2), hc.1, hc.2, hq _ _ (Same.refl _) rfl⟩
  · cases hz
theorem de_eq (hu : X.A.units + 64 < cLine) (ha : DE false X W H0 L a f) (hb : DE false X W H0 L b g) : DE m X W H0 L (.Compare a [.Eq] [b] pos) (bop dEq f g) := de_cmp (op_eq.or (op_eqD hu)) opd_eq ha hb (nomark _)
theorem de_ne (hu : X.A.units + 64 < cLine) (ha : DE false X W H0 L a f) (hb : DE false X W H0 L b g) : DE m X W H0 L (.Compare a [.NotEq] [b] pos) (bop dNe f g) := de_cmp (op_ne.or (op_neD hu)) opd_ne ha hb (nomark _)
theorem dt_eq (hu : X.A.units + 64 < cLine) (ha : DE false X W H0 L a f) (hb : DE false X W H0 L b g) : DT X W H0 L (.Compare a [.Eq] [b] pos) (tst (bop dEq f g)) := dt_cmp (op_eq.or (op_eqD hu)) opd_eq ha hb (nomark _)
theorem dt_ne (hu : X.A.units + 64 < cLine) (ha : DE false X W H0 L a f) (hb : DE false X W H0 L b g) : DT X W H0 L (.Compare a [.NotEq] [b] pos) (tst (bop dNe f g)) := dt_cmp (op_ne.or (op_neD hu)) opd_ne ha hb (nomark _)
end
end DL

set_option maxRecDepth 100000
set_option maxHeartbeats 4000000
/-! DLd: slots stored; statements. -/
namespace DL
open PySem PySem.Spec PyProof.Rows L2

section
variable {K : PySem.W.Frag} {H0 H H' : Hp} {L LL : Addr → Prop} {ε : DEnv} {σ : L2.St} {d : Dat} {v : V} {ds : List Dat} {vs : List V} {a : Addr}
theorem get_set {α : Type} (l : List α) (i j : Nat) (x y : α) (h : (l.set i x)[j]? = some y) : (j = i ∧ i < l.length ∧ x = y) ∨ (j ≠ i ∧ l[j]? = some y) := by
  rw [List.getElem?_set] at h
  split at h
  · rename_i e
    split at h
    · rename_i hl
      exact .inl ⟨e.symm, hl, Option.some.inj h⟩
    · cases h
  · rename_i e
    exact .inr ⟨fun z => e z.symm, h⟩
theorem set_get {α : Type} {l : List α} {i : Nat} {x : α} (h : i < l.length) : (l.set i x)[i]? = some x := by
  rw [List.getElem?_set_self h]
theorem set_get_ne {α : Type} {l : List α} {i j : Nat} {x : α} (h : j ≠ i) : (l.set i x)[j]? = l[j]? := List.getElem?_set_ne (Ne.symm h)
theorem lt_of_get {α : Type} {l : List α} {i : Nat} {x : α} (h : l[i]? = some x) : i < l.length := (List.getElem?_eq_some_iff.mp h).1
theorem Kp.sub (h : ∀ b, LL b → L b) : Kp L LL H H := fun b o n e => ⟨fun z => n (h b z), e⟩
theorem Kp.trans {L1 L2 L3 : Addr → Prop} {H1 H2 H3 : Hp} (a : Kp L1 L2 H1 H2) (b : Kp L2 L3 H2 H3) : Kp L1 L3 H1 H3 := fun c o n e => b c o (a c o n e).1 (a c o n e).2
theorem Kp.refl : Kp L L H H := fun b o n e => ⟨n, e⟩

/-- a slot stored (or told nothing of) -/
theorem Rel.setG (r : Rel K H0 L ε σ H) {i : Nat} {s : Option (Bool × Dat)} {x : Option V} {σ' : L2.St} (hσ : σ' = σ ∨ σ' = σ.set i x) (hs : ∀ o d, s = some (o, d) → o = false ∧ ∃ v, (i < σ.length → σ'[i]? = some (some v)) ∧ Den K H0 (LO L (ε.set i s) σ') H d v)
    : Rel K H0 L (ε.set i s) σ' H ∧ ∀ b, LO L (ε.set i s) σ' b → LO L ε σ b := by
  have hne : ∀ j, j ≠ i → σ'[j]? = σ[j]? := fun j hj => by
    rcases hσ with e | e
    · rw [e]
    · rw [e, set_get_ne hj]
  have hsub : ∀ b, LO L (ε.set i s) σ' b → LO L ε σ b := by
    rintro b (h | ⟨j, d, e1, e2⟩)
    · exact .inl h
    · rcases get_set _ _ _ _ _ e1 with ⟨rfl, hl, e⟩ | ⟨hj, e⟩
      · obtain ⟨z, _⟩ := hs _ _ e
        cases z
      · rw [hne j hj] at e2
        exact .inr ⟨j, d, e, e2⟩
  refine ⟨⟨r.same, r.trk, ?_, fun j d e => ?_, fun j d e => ?_, fun j k d e a e1 e2 e3 e4 => ?_⟩, hsub⟩
  · rcases hσ with e | e
    · rw [e, List.length_set]; exact r.len
    · rw [e, List.length_set, List.length_set]; exact r.len
  · rcases get_set _ _ _ _ _ e with ⟨rfl, hl, e⟩ | ⟨hj, e⟩
    · obtain ⟨_, v, e1, q⟩ := hs _ _ e
      exact ⟨v, e1 (by rw [← r.len]; exact hl), q⟩
    · obtain ⟨v, e1, q⟩ := r.val j d e
      exact ⟨v, by rw [hne j hj]; exact e1, q.sub hsub⟩
  · rcases get_set _ _ _ _ _ e with ⟨rfl, hl, e⟩ | ⟨hj, e⟩
    · obtain ⟨z, _⟩ := hs _ _ e
      cases z
    · obtain ⟨a, e1, h0, hL, q⟩ := r.own j d e
      exact ⟨a, by rw [hne j hj]; exact e1, h0, hL, q.kp (fun b o n e => ⟨fun z => n (hsub b z), e⟩) (fun _ z => z) fun _ z => z⟩
  · rcases get_set _ _ _ _ _ e1 with ⟨_, _, z⟩ | ⟨hj, e1⟩
    · obtain ⟨z, _⟩ := hs _ _ z
      cases z
    · rcases get_set _ _ _ _ _ e2 with ⟨_, _, z⟩ | ⟨hk, e2⟩
      · obtain ⟨z, _⟩ := hs _ _ z
        cases z
      · rw [hne j hj] at e3
        rw [hne k hk] at e4
        exact r.uni j k d e a e1 e2 e3 e4
theorem lo_sub_set {i : Nat} {s : Option (Bool × Dat)} {x : Option V} (hs : ∀ o d, s = some (o, d) → o = false) : ∀ b, LO L (ε.set i s) (σ.set i x) b → LO L ε σ b := by
  rintro b (h | ⟨j, d, e1, e2⟩)
  · exact .inl h
  · rcases get_set _ _ _ _ _ e1 with ⟨rfl, hl, e⟩ | ⟨hj, e⟩
    · cases hs _ _ e
    · rw [set_get_ne hj] at e2
      exact .inr ⟨j, d, e, e2⟩
theorem Rel.setv (r : Rel K H0 L ε σ H) (i : Nat) (hd : Den K H0 (LO L ε σ) H d v) : Rel K H0 L (ε.set i (some (false, d))) (σ.set i (some v)) H ∧ Kp (LO L ε σ) (LO L (ε.set i (some (false, d))) (σ.set i (some v))) H H := by
  obtain ⟨h1, h2⟩ := r.setG (i := i) (s := some (false, d)) (x := some v) (σ' := σ.set i (some v)) (.inr rfl) fun o e z => by
    cases z
    exact ⟨rfl, v, fun hl => set_get hl, hd.sub (lo_sub_set fun o e z => by cases z; rfl)⟩
  exact ⟨h1, .sub h2⟩
theorem Rel.fgt (r : Rel K H0 L ε σ H) (i : Nat) : Rel K H0 L (ε.set i none) σ H ∧ Kp (LO L ε σ) (LO L (ε.set i none) σ) H H := by
  obtain ⟨h1, h2⟩ := r.setG (i := i) (s := none) (x := none) (σ' := σ) (.inl rfl) fun o e z => by cases z
  exact ⟨h1, .sub h2⟩
/-- a list of one's own becomes data -/
def fz (i : Nat) (ε : DEnv) : DEnv := match ε[i]? with
  | some (some (true, d)) => ε.set i (some (false, d))
  | _ => ε
theorem Rel.frz (r : Rel K H0 L ε σ H) (i : Nat) : Rel K H0 L (fz i ε) σ H ∧ Kp (LO L ε σ) (LO L (fz i ε) σ) H H := by
  unfold fz
  split
  · rename_i d he
    have hsub : ∀ b, LO L (ε.set i (some (false, d))) σ b → LO L ε σ b ∧ σ[i]? ≠ some (some (V.ref b)) := by
      rintro b (h | ⟨j, e, e1, e2⟩)
      · refine ⟨.inl h, fun z => ?_⟩
        exact (r.ownAt ⟨i, d, he, z⟩).2.1 h
      · rcases get_set _ _ _ _ _ e1 with ⟨rfl, hl, z⟩ | ⟨hj, e'⟩
        · cases z
        · exact ⟨.inr ⟨j, e, e', e2⟩, fun z => hj (r.uni j i e d b e' he e2 z)⟩
    obtain ⟨h1, h2⟩ := r.setG (i := i) (s := some (false, d)) (x := none) (σ' := σ) (.inl rfl) fun o e z => by
      cases z
      obtain ⟨a, e1, h0, hl, q⟩ := r.own i d he
      refine ⟨rfl, _, fun _ => e1, ?_⟩
      have hna : ¬ LO L (ε.set i (some (false, d))) σ a := fun z => (hsub a z).2 e1
      have hs : ∀ b, LO L (ε.set i (some (false, d))) σ b → LO L ε σ b := fun b z => (hsub b z).1
      cases d with
      | lst t ds => obtain ⟨vs, q1, q2⟩ := q; exact ⟨a, vs, rfl, hna, fun _ => h0, q1, q2.sub hs⟩
      | dK t ds => obtain ⟨vs, q1, q2, q3⟩ := q; exact ⟨a, vs, rfl, hna, .inl q1, q2, q3.sub hs⟩
      | dT t ds => obtain ⟨vs, q1, q2, q3⟩ := q; exact ⟨a, vs, rfl, hna, .inl q1, q2, q3.sub hs⟩
      | _ => exact q.elim
    exact ⟨h1, .sub h2⟩
  · exact ⟨r, .refl⟩
/-- a new object of one's own in a slot -/
theorem Rel.setown (r : Rel K H0 L ε σ H) (i : Nat) (s : Same H H') (hn : H a = none) (ho : OwnD K H0 (fun b => LO L ε σ b ∨ b = a) H' a d) :
    Rel K H0 L (ε.set i (some (true, d))) (σ.set i (some (.ref a))) H' ∧ Kp (LO L ε σ) (LO L (ε.set i (some (true, d))) (σ.set i (some (.ref a)))) H H' := by
  have r' := r.mono s
  have hnl : ¬ LO L ε σ a := fun z => r.lo a z hn
  have hsub : ∀ b, LO L (ε.set i (some (true, d))) (σ.set i (some (.ref a))) b → LO L ε σ b ∨ b = a := by
    rintro b (h | ⟨j, e, e1, e2⟩)
    · exact .inl (.inl h)
    · rcases get_set _ _ _ _ _ e1 with ⟨rfl, hl, z⟩ | ⟨hj, e'⟩
      · rw [set_get (by rw [← r.len]; exact hl)] at e2
        cases e2
        exact .inr rfl
      · rw [set_get_ne hj] at e2
        exact .inl (.inr ⟨j, e, e', e2⟩)
  have kp : Kp (LO L ε σ) (LO L (ε.set i (some (true, d))) (σ.set i (some (.ref a)))) H H' := fun b o n e => ⟨(by
    intro z
    rcases hsub b z with z | z
    · exact n z
    · rw [z, hn] at e
      cases e), s _ _ e⟩
  refine ⟨⟨r'.same, r'.trk, by rw [List.length_set, List.length_set]; exact r.len, fun j e e1 => ?_, fun j e e1 => ?_, fun j k e e' b e1 e2 e3 e4 => ?_⟩, kp⟩
  · rcases get_set _ _ _ _ _ e1 with ⟨rfl, hl, z⟩ | ⟨hj, e1⟩
    · cases z
    · obtain ⟨v, e2, q⟩ := r.val j e e1
      exact ⟨v, by rw [set_get_ne hj]; exact e2, q.kp kp fun _ z => z⟩
  · rcases get_set _ _ _ _ _ e1 with ⟨rfl, hl, z⟩ | ⟨hj, e1⟩
    · cases z
      refine ⟨a, set_get (by rw [← r.len]; exact hl), r.same.free hn, fun z => hnl (.inl z), ho.kp (fun b o n e => ⟨fun z => n (hsub b z), e⟩) (fun _ z => z) fun _ z => z⟩
    · obtain ⟨b, e2, h0, hL, q⟩ := r.own j e e1
      exact ⟨b, by rw [set_get_ne hj]; exact e2, h0, hL, q.kp kp (fun _ z => z) fun o z => s _ _ z⟩
  · rcases get_set _ _ _ _ _ e1 with ⟨rfl, hl, z⟩ | ⟨hj, e1⟩
    · rw [set_get (by rw [← r.len]; exact hl)] at e3
      cases e3
      rcases get_set _ _ _ _ _ e2 with ⟨rfl, hl, z⟩ | ⟨hk, e2⟩
      · rfl
      · rw [set_get_ne hk] at e4
        exact (hnl (.inr ⟨k, e', e2, e4⟩)).elim
    · rename_i e1'
      rw [set_get_ne hj] at e3
      rcases get_set _ _ _ _ _ e2 with ⟨rfl, hl, z⟩ | ⟨hk, e2⟩
      · rw [set_get (by rw [← r.len]; exact hl)] at e4
        cases e4
        exact (hnl (.inr ⟨j, e, e1, e3⟩)).elim
      · rw [set_get_ne hk] at e4
        exact r.uni j k e e' b e1 e2 e3 e4
/-- one's own object is written -/
theorem Rel.mut (r : Rel K H0 L ε σ H) {i : Nat} {e : Dat} {o : HO} (he : ε[i]? = some (some (true, e))) (ha : σ[i]? = some (some (V.ref a))) (ho : OwnD K H0 (LO L ε σ) (upd H a o) a d) :
    Rel K H0 L (ε.set i (some (true, d))) σ (upd H a o) ∧ Kp (LO L ε σ) (LO L (ε.set i (some (true, d))) σ) H (upd H a o) := by
  obtain ⟨h0, hL, oo, hoo, mu⟩ := r.ownAt ⟨i, e, he, ha⟩
  have hil : i < ε.length := lt_of_get he
  have hsub : ∀ b, LO L (ε.set i (some (true, d))) σ b → LO L ε σ b := by
    rintro b (h | ⟨j, e', e1, e2⟩)
    · exact .inl h
    · rcases get_set _ _ _ _ _ e1 with ⟨rfl, hl, z⟩ | ⟨hj, e1⟩
      · exact .inr ⟨j, e, he, e2⟩
      · exact .inr ⟨j, e', e1, e2⟩
  have own : LO L ε σ a := .inr ⟨i, e, he, ha⟩
  have kp : Kp (LO L ε σ) (LO L (ε.set i (some (true, d))) σ) H (upd H a o) := fun b u n z => ⟨fun q => n (hsub b q), by
    rw [upd_ne (fun q => n (by rw [q]; exact own))]
    exact z⟩
  refine ⟨⟨fun b u z => ?_, fun b z => ?_, by rw [List.length_set]; exact r.len, fun j e' e1 => ?_, fun j e' e1 => ?_, fun j k e' e'' b e1 e2 e3 e4 => ?_⟩, kp⟩
  · rw [upd_ne (fun q => by rw [q, h0] at z; cases z)]
    exact r.same b u z
  · by_cases hb : b = a
    · rw [hb, upd_same]
      exact fun q => nomatch q
    · rw [upd_ne hb]
      exact r.trk b z
  · rcases get_set _ _ _ _ _ e1 with ⟨rfl, hl, z⟩ | ⟨hj, e1⟩
    · cases z
    · obtain ⟨v, e2, q⟩ := r.val j e' e1
      exact ⟨v, e2, q.kp kp fun _ z => z⟩
  · rcases get_set _ _ _ _ _ e1 with ⟨rfl, hl, z⟩ | ⟨hj, e1⟩
    · cases z
      exact ⟨a, ha, h0, hL, ho.kp (fun b o n e => ⟨fun z => n (hsub b z), e⟩) (fun _ z => z) fun _ z => z⟩
    · obtain ⟨b, e2, h0b, hLb, q⟩ := r.own j e' e1
      refine ⟨b, e2, h0b, hLb, q.kp kp (fun _ z => z) fun u z => ?_⟩
      rw [upd_ne (fun q => hj (r.uni j i e' e b e1 he e2 (by rw [q]; exact ha)))]
      exact z
  · obtain ⟨e', e1⟩ : ∃ e', ε[j]? = some (some (true, e')) := by
      rcases get_set _ _ _ _ _ e1 with ⟨rfl, hl, z⟩ | ⟨hj, e1⟩
      · exact ⟨_, he⟩
      · exact ⟨_, e1⟩
    obtain ⟨e'', e2⟩ : ∃ e', ε[k]? = some (some (true, e')) := by
      rcases get_set _ _ _ _ _ e2 with ⟨rfl, hl, z⟩ | ⟨hj, e2⟩
      · exact ⟨_, he⟩
      · exact ⟨_, e2⟩
    exact r.uni j k e' e'' b e1 e2 e3 e4
end

/-! ### statements -/
inductive Out where
  | nx (ε : DEnv)
  | rt (d : Dat)
  | bk (ε : DEnv)
  | ct (ε : DEnv)
def XS (mg : Str → Option Value) (W : WX) (H0 : Hp) (n : Str) : Prop := ∀ C dd σ H', mg n = some (Value.ref C) → Same H0 H' → W (.ref C) dd σ H'
theorem XS.w {mg : Str → Option Value} {W : WX} {H0 H : Hp} {n : Str} {σ : L2.St} (h : XS mg W H0 n) (s : Same H0 H) : XW mg W σ H n := fun C dd H' hm s' => h C dd σ H' hm (s.trans s')
/-- what is wanted behind a statement, of its pure end -/
def OutP (K : PySem.W.Frag) (H0 : Hp) (L LL : Addr → Prop) (H : Hp) (D : Ends) : Out → Prop
  | .nx ε' => ∀ σ' H', Rel K H0 L ε' σ' H' → Kp LL (LO L ε' σ') H H' → D.nx σ' H'
  | .bk ε' => ∀ σ' H', Rel K H0 L ε' σ' H' → Kp LL (LO L ε' σ') H H' → D.bk σ' H'
  | .ct ε' => ∀ σ' H', Rel K H0 L ε' σ' H' → Kp LL (LO L ε' σ') H H' → D.ct σ' H'
  | .rt d => ∀ v H', Same H0 H' → Den K H0 L H' d v → D.rt v H'
theorem OutP.mono {K : PySem.W.Frag} {H0 : Hp} {L LL LL' : Addr → Prop} {H H' : Hp} {D : Ends} {o : Out} (k : Kp LL LL' H H') (h : OutP K H0 L LL H D o) : OutP K H0 L LL' H' D o := by
  cases o with
  | nx ε => exact fun σ' H2 r k2 => h σ' H2 r (k.trans k2)
  | bk ε => exact fun σ' H2 r k2 => h σ' H2 r (k.trans k2)
  | ct ε => exact fun σ' H2 r k2 => h σ' H2 r (k.trans k2)
  | rt d => exact h
def tD (K : PySem.W.Frag) (mg : Str → Option Value) (W : WX) (H0 : Hp) (L : Addr → Prop) (f : DEnv → Rs Out) : TS := fun D σ H => ∃ ε, Rel K H0 L ε σ H ∧ (f ε).to (OutP K H0 L (LO L ε σ) H D) (XS mg W H0)
def DS (X : Cx) (W : WX) (H0 : Hp) (L : Addr → Prop) (st : Stmt) (f : DEnv → Rs Out) : Prop := PS X st (tD X.K X.mg W H0 L f)
def DSs (X : Cx) (W : WX) (H0 : Hp) (L : Addr → Prop) (st : List Stmt) (f : DEnv → Rs Out) : Prop := PSs X st (tD X.K X.mg W H0 L f)
theorem psimp {X : Cx} {st : Stmt} {t t' : TS} (h : PS X st t) (k : ∀ D σ H, t' D σ H → t D σ H) : PS X st t' := ⟨fun pins s σ H D I q => h.run pins s σ H D I (k D σ H q)⟩
theorem pssimp {X : Cx} {st : List Stmt} {t t' : TS} (h : PSs X st t) (k : ∀ D σ H, t' D σ H → t D σ H) : PSs X st t' := ⟨fun pins s σ H D I q => h.run pins s σ H D I (k D σ H q)⟩

section
variable {X : Cx} {W : WX} {H0 : Hp} {L : Addr → Prop} {m : Bool} {a b e : Expr} {pos : Pos} {f g : DEnv → Rs Dat} {fc : DEnv → Rs Bool} {st : Stmt} {sts : List Stmt} {fs gs : DEnv → Rs Out}
variable {K : PySem.W.Frag} {mg : Str → Option Value} {σ : L2.St} {H : Hp} {ε : DEnv}
/-- an expression within a statement -/
theorem tD.expr {F : DEnv → Dat → Rs Out} {D : Ends} {R : VK} (h : tD K mg W H0 L (fun ε => f ε >>= F ε) D σ H)
    (k : ∀ ε d v H', Rel K H0 L ε σ H' → DM m K H0 L (LO L ε σ) H' d v → (F ε d).to (OutP K H0 L (LO L ε σ) H' D) (XS mg W H0) → R v H') : tE m K mg W H0 L f σ H R := by
  obtain ⟨ε, rel, h⟩ := h
  dsimp only at h
  rw [Rs.to_bind] at h
  exact ⟨ε, rel, h.imp (fun d _ hd v H' s q => k ε d v H' (rel.mono s) q (hd.imp (fun o _ ho => ho.mono (.same s)) fun _ z => z)) fun n z => z.w rel.same⟩
theorem ds_nil : DSs X W H0 L [] (fun ε => .ok (.nx ε)) := pssimp pss_nil fun D σ H ⟨ε, r, h⟩ => h σ H r .refl
def seqD (f g : DEnv → Rs Out) (ε : DEnv) : Rs Out := f ε >>= fun o => match o with
  | .nx ε' => g ε'
  | o => .ok o
theorem ds_cons (h1 : DS X W H0 L st fs) (h2 : DSs X W H0 L sts gs) : DSs X W H0 L (st :: sts) (seqD fs gs) :=
  pssimp (pss_cons h1 h2) fun D σ H ⟨ε, r, h⟩ => by
    unfold seqD at h
    rw [Rs.to_bind] at h
    refine ⟨ε, r, h.imp (fun o _ ho => ?_) fun n z => z⟩
    cases o with
    | nx ε' => exact fun σ' H' r' k => ⟨ε', r', ho.imp (fun o _ z => z.mono k) fun n z => z⟩
    | bk ε' => exact ho
    | ct ε' => exact ho
    | rt d => exact ho
theorem ds_one (h1 : DS X W H0 L st fs) : DSs X W H0 L [st] fs := pss_one h1
def retD (f : DEnv → Rs Dat) (ε : DEnv) : Rs Out := f ε >>= fun d => .ok (.rt d)
theorem ds_ret (he : DE true X W H0 L e f) : DS X W H0 L (.Return (some e) pos) (retD f) :=
  psimp (ps_ret he) fun D σ H h => tD.expr (m := true) h fun ε d v H' r q h => h v H' r.same (Den.sub r.good.sub q)
def iteD (c : DEnv → Rs Bool) (f g : DEnv → Rs Out) (ε : DEnv) : Rs Out := c ε >>= fun b => if b = true then f ε else g ε
theorem ds_if {ta tb : List Stmt} (hc : DT X W H0 L e fc) (ha : DSs X W H0 L ta fs) (hb : DSs X W H0 L tb gs) : DS X W H0 L (.If e ta tb pos) (iteD fc fs gs) :=
  psimp (ps_if hc ha hb) fun D σ H ⟨ε, r, h⟩ => by
    unfold iteD at h
    rw [Rs.to_bind] at h
    refine ⟨ε, r, h.imp (fun b _ hb H' s => ?_) fun n z => z.w r.same⟩
    cases b with
    | true => exact ⟨ε, r.mono s, (show (fs ε).to _ _ from hb).imp (fun o _ z => z.mono (.same s)) fun n z => z⟩
    | false => exact ⟨ε, r.mono s, (show (gs ε).to _ _ from hb).imp (fun o _ z => z.mono (.same s)) fun n z => z⟩
def setD (i : Nat) (f : DEnv → Rs Dat) (ε : DEnv) : Rs Out := f ε >>= fun d => .ok (.nx (ε.set i (some (false, d))))
theorem ds_set (i : Nat) {x : Str} {pos' : Pos} (hN : X.N.Nodup) (he : DE true X W H0 L e f) (hi : X.N[i]? = some x := by rfl) (hx : Loc X.env.scope x := by first | exact .inl rfl | exact .inr rfl) (hs : swapsWith e (some (.Name x pos')) pos.line X.env = pure false := by rfl) (hf : X.fn x = true ∨ X.env.scope.names.lookup x = some .local := by first | exact .inl rfl | exact .inr rfl | assumption) :
    DS X W H0 L (.Assign [.Name x pos'] e pos) (setD i f) :=
  psimp (ps_set hN hi hx he hs hf) fun D σ H h => tD.expr (m := true) h fun ε d v H' r q h => by
    obtain ⟨r1, k1⟩ := r.setv i q
    exact h _ _ r1 k1
def ownD (i : Nat) (f : DEnv → Rs (List Dat)) (ε : DEnv) : Rs Out := f ε >>= fun ds => .ok (.nx (ε.set i (some (true, .lst true ds))))
theorem ds_own (i : Nat) {x : Str} {pos' : Pos} {f : DEnv → Rs (List Dat)} (hN : X.N.Nodup) (he : DF X W H0 L e f) (hi : X.N[i]? = some x := by rfl) (hx : Loc X.env.scope x := by first | exact .inl rfl | exact .inr rfl) (hs : swapsWith e (some (.Name x pos')) pos.line X.env = pure false := by rfl) (hf : X.fn x = true ∨ X.env.scope.names.lookup x = some .local := by first | exact .inl rfl | exact .inr rfl | assumption) :
    DS X W H0 L (.Assign [.Name x pos'] e pos) (ownD i f) :=
  psimp (ps_set hN hi hx he hs hf) fun D σ H ⟨ε, r, h⟩ => by
    unfold ownD at h
    rw [Rs.to_bind] at h
    refine ⟨ε, r, h.imp (fun ds _ hd a vs H' s hn ha q => ?_) fun n z => z.w r.same⟩
    obtain ⟨r1, k1⟩ := r.setown (d := .lst true ds) i s hn ⟨vs, ha, q⟩
    exact hd _ _ r1 k1
def drpD (f : DEnv → Rs Dat) (ε : DEnv) : Rs Out := f ε >>= fun _ => .ok (.nx ε)
theorem ds_expr (he : DE false X W H0 L e f) (hs : swapsWith e none pos.line X.env = pure false := by rfl) : DS X W H0 L (.Expr e pos) (drpD f) :=
  psimp (ps_expr he hs) fun D σ H h => tD.expr (m := false) h fun ε d v H' r q h => h _ _ r .refl
theorem ds_pass : DS X W H0 L (.Pass pos) (fun ε => .ok (.nx ε)) := psimp ps_pass fun D σ H ⟨ε, r, h⟩ => h σ H r .refl
theorem ds_break : DS X W H0 L (.Break pos) (fun ε => .ok (.bk ε)) := psimp ps_break fun D σ H ⟨ε, r, h⟩ => h σ H r .refl
theorem ds_continue : DS X W H0 L (.Continue pos) (fun ε => .ok (.ct ε)) := psimp ps_continue fun D σ H ⟨ε, r, h⟩ => h σ H r .refl
/-- ahead of statements: lists of one's own become data -/
theorem ds_fz (i : Nat) (h : DSs X W H0 L sts fs) : DSs X W H0 L sts (fun ε => fs (fz i ε)) :=
  pssimp h fun D σ H ⟨ε, r, h⟩ => ⟨fz i ε, (r.frz i).1, h.imp (fun o _ z => z.mono (r.frz i).2) fun n z => z⟩
def fgt : List Nat → DEnv → DEnv
  | [], ε => ε
  | i :: r, ε => fgt r (ε.set i none)
theorem Rel.fgts {H : Hp} : ∀ (is : List Nat) {ε : DEnv}, Rel K H0 L ε σ H → Rel K H0 L (DL.fgt is ε) σ H ∧ Kp (LO L ε σ) (LO L (DL.fgt is ε) σ) H H
  | [], ε, r => ⟨r, .refl⟩
  | i :: t, ε, r => ⟨((r.fgt i).1.fgts t).1, (r.fgt i).2.trans ((r.fgt i).1.fgts t).2⟩
theorem ds_fgt0 (is : List Nat) (h : DSs X W H0 L sts fs) : DSs X W H0 L sts (fun ε => fs (fgt is ε)) :=
  pssimp h fun D σ H ⟨ε, r, h⟩ => ⟨fgt is ε, (r.fgts is).1, h.imp (fun o _ z => z.mono (r.fgts is).2) fun n z => z⟩
/-- behind statements: slots that nobody asks any more -/
def Out.fgt (is : List Nat) : Out → Out
  | .nx ε => .nx (DL.fgt is ε)
  | .ct ε => .ct (DL.fgt is ε)
  | o => o
def fgtD (is : List Nat) (f : DEnv → Rs Out) (ε : DEnv) : Rs Out := f ε >>= fun o => .ok (o.fgt is)
theorem OutP.fgt {LL : Addr → Prop} {D : Ends} {o : Out} {is : List Nat} (h : OutP K H0 L LL H D (o.fgt is)) : OutP K H0 L LL H D o := by
  cases o with
  | nx ε => exact fun σ' H' r k => h σ' H' (r.fgts is).1 (k.trans (r.fgts is).2)
  | ct ε => exact fun σ' H' r k => h σ' H' (r.fgts is).1 (k.trans (r.fgts is).2)
  | bk ε => exact h
  | rt d => exact h
theorem ds_fgt (is : List Nat) (h : DSs X W H0 L sts fs) : DSs X W H0 L sts (fgtD is fs) :=
  pssimp h fun D σ H ⟨ε, r, h⟩ => by
    unfold fgtD at h
    rw [Rs.to_bind] at h
    exact ⟨ε, r, h.imp (fun o _ z => OutP.fgt z) fun n z => z⟩
end
end DL

set_option maxRecDepth 100000
set_option maxHeartbeats 4000000
/-! DLe: arguments, displays, calls, loops, comprehensions. -/
namespace DL
open PySem PySem.Spec PyProof.Rows L2

noncomputable def sz (n : Nat) : Bool := cls (n ≤ sizeLine)
theorem sz_le {n : Nat} (h : n ≤ 16777216) : sz n = true := cls_true (by rw [sizeLine_eq]; exact h)
theorem sz_ok {n : Nat} (h : sz n = true) : n ≤ sizeLine := cls_ok h
/-- a check -/
def chk {α : Type} (b : Bool) (x : Rs α) : Rs α := if b = true then x else .no
@[simp] theorem chk_true {α : Type} (x : Rs α) : chk true x = x := rfl
@[simp] theorem chk_false {α : Type} (x : Rs α) : chk false x = .no := rfl
theorem chk_to {α : Type} {b : Bool} {x : Rs α} {P : α → Prop} {E : Str → Prop} (h : (chk b x).to P E) : b = true ∧ x.to P E := by
  cases b with
  | true => exact ⟨rfl, h⟩
  | false => exact h.elim

section
variable {X : Cx} {W : WX} {H0 : Hp} {L : Addr → Prop} {m : Bool} {a b e : Expr} {es : List Expr} {pos : Pos} {f g : DEnv → Rs Dat} {fa : DEnv → Rs (List Dat)}
variable {K : PySem.W.Frag} {mg : Str → Option Value} {σ : L2.St} {H : Hp} {ε : DEnv}
def argsN (_ : DEnv) : Rs (List Dat) := .ok []
def argsC (f : DEnv → Rs Dat) (fa : DEnv → Rs (List Dat)) (ε : DEnv) : Rs (List Dat) := f ε >>= fun d => fa ε >>= fun ds => .ok (d :: ds)
theorem da_nil : DA m X W H0 L [] argsN := paimp pa_nil fun σ H Q ⟨ε, r, h⟩ => h [] H (Same.refl H) .nil
theorem da_cons (he : DE m X W H0 L e f) (ha : DA m X W H0 L es fa) (hs : starEach (e :: es) X.env = (false, eval e X.env) :: starEach es X.env := by rfl) : DA m X W H0 L (e :: es) (argsC f fa) :=
  paimp (pa_cons he ha hs) fun σ H Q ⟨ε, r, h⟩ => by
    unfold argsC at h
    rw [Rs.to_bind] at h
    refine ⟨ε, r, h.imp (fun d _ hd v H1 s1 q1 => ?_) fun n z => z⟩
    rw [Rs.to_bind] at hd
    exact ⟨ε, r.mono s1, hd.imp (fun ds _ hds vs H2 s2 q2 => hds _ H2 (s1.trans s2) (.cons (q1.same s2) q2)) fun n z => z.mono s1⟩
theorem den_pair {LL : Addr → Prop} : ∀ {ds : List Dat} {vs : List V}, Paired (DM true K H0 L LL H) ds vs → DenL K H0 LL H ds vs
  | _, _, .nil => rfl
  | _, _, .cons h t => ⟨_, _, rfl, h, den_pair t⟩
theorem dens_pair {LL : Addr → Prop} (hs : ∀ a, L a → LL a) : ∀ {ds : List Dat} {vs : List V}, Paired (DM false K H0 L LL H) ds vs → DenL K H0 L H ds vs
  | _, _, .nil => rfl
  | _, _, .cons h t => ⟨_, _, rfl, DenS.den hs h, dens_pair hs t⟩

/-! ### displays -/
noncomputable def tupD (fa : DEnv → Rs (List Dat)) (ε : DEnv) : Rs Dat := fa ε >>= fun ds => chk (sz ds.length) (.ok (.tup ds))
theorem de_tup {x1} (ha : DA true X W H0 L es fa) : DE m X W H0 L (.Tuple es x1 pos) (tupD fa) :=
  peimp (pe_tup ha) fun σ H Q ⟨ε, r, h⟩ => by
    unfold tupD at h
    rw [Rs.to_bind] at h
    refine ⟨ε, r, h.imp (fun ds _ hd vs H1 s1 q => ?_) fun n z => z⟩
    obtain ⟨hz, hd⟩ := chk_to hd
    have q' := den_pair q
    exact ⟨by rw [← q'.length]; exact sz_ok hz, fun p hp => hd _ _ (s1.trans (same_new hp)) ((r.mono s1).good.tup hp q' |>.m r.good.sub)⟩
/-- a list just made, as data -/
def lstD (fa : DEnv → Rs (List Dat)) (ε : DEnv) : Rs Dat := fa ε >>= fun ds => .ok (.lst true ds)
theorem DF.de {f : DEnv → Rs (List Dat)} (h : DF X W H0 L e f) : DE m X W H0 L e (lstD f) :=
  peimp h fun σ H Q ⟨ε, r, h⟩ => by
    unfold lstD at h
    rw [Rs.to_bind] at h
    refine ⟨ε, r, h.imp (fun ds _ hd a vs H1 s1 hn ha q => ?_) fun n z => z⟩
    refine hd _ _ s1 (Den.m r.good.sub ⟨a, vs, rfl, fun z => r.lo a z hn, fun _ => r.same.free hn, ha, q.sub fun _ z => .inl z⟩)
noncomputable def dspD (fa : DEnv → Rs (List Dat)) (ε : DEnv) : Rs (List Dat) := fa ε >>= fun ds => chk (sz ds.length) (.ok ds)
theorem kp_or {LL : Addr → Prop} {H H1 : Hp} {p : Addr} (s : Same H H1) (hp : H p = none) : Kp LL (fun b => LL b ∨ b = p) H H1 := fun b o n e => ⟨(by
  intro z
  rcases z with z | z
  · exact n z
  · rw [z, hp] at e
    cases e), s _ _ e⟩
theorem df_lst (ha : DA true X W H0 L es fa) : DF X W H0 L (.List es pos) (dspD fa) :=
  peimp (pe_lst ha) fun σ H Q ⟨ε, r, h⟩ => by
    unfold dspD at h
    rw [Rs.to_bind] at h
    refine ⟨ε, r, h.imp (fun ds _ hd vs H1 s1 q => ?_) fun n z => z⟩
    obtain ⟨hz, hd⟩ := chk_to hd
    have q' := den_pair q
    exact ⟨by rw [← q'.length]; exact sz_ok hz, fun p hp => hd p vs _ (s1.trans (same_new hp)) (s1.free hp) upd_same (q'.kp (kp_or (same_new hp) hp) fun _ z => z)⟩

/-! ### calls of defs -/
mutual
def old : Dat → Dat
  | .tup ds => .tup (olds ds)
  | .lst _ ds => .lst false (olds ds)
  | .dK ks ds => .dK ks (olds ds)
  | .dT ks ds => .dT ks (olds ds)
  | d => d
def olds : List Dat → List Dat
  | [] => []
  | d :: r => old d :: olds r
end
mutual
theorem Den.old {H1 : Hp} : ∀ {d : Dat} {v : V}, Den K H0 L H d v → Den K H1 L H (old d) v
  | .non, _, h => h
  | .bl _, _, h => h
  | .int _, _, h => h
  | .str _, _, h => h
  | .tup ds, _, ⟨a, vs, e, t, h⟩ => ⟨a, vs, e, t, DenL.olds h⟩
  | .lst t ds, _, ⟨a, vs, e, hl, ht, ha, h⟩ => ⟨a, vs, e, hl, fun z => (nomatch z), ha, DenL.olds h⟩
  | .dK ks ds, _, ⟨a, vs, e, hl, ha, z, h⟩ => ⟨a, vs, e, hl, ha, z, DenL.olds h⟩
  | .dT ks ds, _, ⟨a, vs, e, hl, ha, z, h⟩ => ⟨a, vs, e, hl, ha, z, DenL.olds h⟩
  | .scr ns, _, h => h
  | .cst ss, _, h => h
theorem DenL.olds {H1 : Hp} : ∀ {ds : List Dat} {vs : List V}, DenL K H0 L H ds vs → DenL K H1 L H (olds ds) vs
  | [], _, h => h
  | d :: ds, _, ⟨v, r, e, h, t⟩ => ⟨v, r, e, Den.old h, DenL.olds t⟩
end
/-- a def's promise: it computes F -/
def spD (K : PySem.W.Frag) (mg : Str → Option Value) (n : Nat) (F : List Dat → Rs Dat) : Sp := fun vs H Q E => vs.length = n ∧ ∃ (L : Addr → Prop) (ds : List Dat), (∀ a, L a → H a ≠ none) ∧ DenL K H L H ds vs ∧
  (F ds).to (fun d => ∀ v H', Same H H' → Den K H L H' d v → Q v H') (fun c => ∀ C dd H', mg c = some (Value.ref C) → Same H H' → E (.ref C) dd H')
mutual
/-- made by a callee: every list in it is new -/
def fresh : Dat → Bool
  | .tup ds => freshs ds
  | .lst t ds => t && freshs ds
  | .dK _ _ => false
  | .dT _ _ => false
  | .scr _ => false
  | .cst _ => false
  | _ => true
def freshs : List Dat → Bool
  | [] => true
  | d :: r => fresh d && freshs r
end
mutual
theorem Den.fresh {L' : Addr → Prop} (hl : ∀ a, H0 a = none → ¬ L' a) (ht : ∀ a xs, ¬ L a → H a = some (.tup xs) → ¬ L' a) : ∀ {d : Dat} {v : V}, Den K H0 L H d v → fresh d = true → Den K H0 L' H d v
  | .non, _, h, _ => h
  | .bl _, _, h, _ => h
  | .int _, _, h, _ => h
  | .str _, _, h, _ => h
  | .tup ds, _, ⟨a, vs, e, t, h⟩, c => ⟨a, vs, e, ⟨ht _ _ t.1 t.2, t.2⟩, DenL.fresh hl ht h c⟩
  | .lst t ds, _, ⟨a, vs, e, _, tt, ha, h⟩, c => by
    have c' : (t && freshs ds) = true := c
    rw [Bool.and_eq_true] at c'
    exact ⟨a, vs, e, hl _ (tt c'.1), tt, ha, DenL.fresh hl ht h c'.2⟩
  | .dK ks ds, _, _, c => nomatch c
  | .dT ks ds, _, _, c => nomatch c
  | .scr ns, _, _, c => nomatch c
  | .cst ss, _, _, c => nomatch c
theorem DenL.fresh {L' : Addr → Prop} (hl : ∀ a, H0 a = none → ¬ L' a) (ht : ∀ a xs, ¬ L a → H a = some (.tup xs) → ¬ L' a) : ∀ {ds : List Dat} {vs : List V}, DenL K H0 L H ds vs → freshs ds = true → DenL K H0 L' H ds vs
  | [], _, h, _ => h
  | d :: ds, _, ⟨v, r, e, h, t⟩, c => by
    have c' : (fresh d && freshs ds) = true := c
    rw [Bool.and_eq_true] at c'
    exact ⟨v, r, e, Den.fresh hl ht h c'.1, DenL.fresh hl ht t c'.2⟩
end
variable {k : Nat} {f' : Addr} {fd : FuncData} {ps : List Str} {F : List Dat → Rs Dat} {x : Str} {p : Pos} {n : Nat}
/-- n: how many arguments -/
def callD (n : Nat) (F : List Dat → Rs Dat) (fa : DEnv → Rs (List Dat)) (ε : DEnv) : Rs Dat := fa ε >>= fun ds => chk (ds.length == n) (F (olds ds))
/-- arguments that may be lists of one's own: what comes back is new through and through -/
def callB (n : Nat) (F : List Dat → Rs Dat) (fa : DEnv → Rs (List Dat)) (ε : DEnv) : Rs Dat := fa ε >>= fun ds => chk (ds.length == n) (F (olds ds) >>= fun d => chk (fresh d) (.ok d))
theorem Kp.self {LL : Addr → Prop} {H H' : Hp} (s : Same H H') : Kp LL LL H H' := .same s
theorem call_use {LL : Addr → Prop} {F : List Dat → Rs Dat} {ds : List Dat} {vs : List V} {Q : VK} {E : XK} (hl : ∀ a, LL a → H a ≠ none) (hf : ∀ a, H a = none → H0 a = none) (q : DenL K H0 LL H ds vs) (hlen : ds.length = n)
    (h : (F (olds ds)).to (fun d => ∀ v H', Same H H' → Den K H0 LL H' d v → Q v H') (fun c => ∀ C dd H', mg c = some (Value.ref C) → Same H H' → E (.ref C) dd H')) : spD K mg n F vs H Q E :=
  ⟨by rw [← q.length]; exact hlen, LL, olds ds, hl, q.olds, h.imp (fun d _ hd v H' s dd => hd v H' s (dd.kp .refl hf)) fun c z => z⟩
theorem Rel.mutTup (r : Rel K H0 L ε σ H) : ∀ a xs, H a = some (.tup xs) → Owned ε σ a → False := fun a xs e o => by
  obtain ⟨_, _, o, e2, mu⟩ := r.ownAt o
  rw [e] at e2
  cases e2
  exact mu
theorem de_call (G : FnOk X.prog X.w X.K X.mg X.base (L2.CX X.prog X.w) k f' fd ps (spD X.K X.mg n F)) (hr : Room k X.A) (hm : X.mg x = some (.ref f')) (hk : PySem.W.keepIn X.K (.ref f') = true) (hb : Binds X.K fd ps [])
    (tk : Takes X W) (ha : DA true X W H0 L (e :: es) fa) (hg : Gl X x := by rfl) (hdb : (x == ("__debug__" : Str)) = false := by decide) (he : starEach (e :: es) X.env = (false, eval e X.env) :: starEach es X.env := by rfl) (hpl : (backTo pos (starEach es X.env)).any (·.1) = false := by rfl) :
    DE m X W H0 L (.Call (.Name x p) (e :: es) [] pos) (callD n F fa) :=
  peimp (pe_callSD G hr hg hm hk hb .nil (fun σ => passAt tk σ) ha hdb he hpl) fun σ H Q ⟨ε, r, h⟩ => by
    unfold callD at h
    rw [Rs.to_bind] at h
    refine ⟨ε, r, h.imp (fun ds _ hd vs H1 s1 q => ?_) fun n z => z⟩
    obtain ⟨hl, hd⟩ := chk_to hd
    have r1 := r.mono s1
    rw [List.append_nil]
    exact call_use r1.lo r1.good.fr (den_pair q) (by simpa using hl) (hd.imp (fun d _ z v H2 s2 dd => z v H2 (s1.trans s2) (dd.m r.good.sub)) fun c z C dd H2 hm s2 => z C dd H2 hm (s1.trans s2))
theorem de_callB (G : FnOk X.prog X.w X.K X.mg X.base (L2.CX X.prog X.w) k f' fd ps (spD X.K X.mg n F)) (hr : Room k X.A) (hm : X.mg x = some (.ref f')) (hk : PySem.W.keepIn X.K (.ref f') = true) (hb : Binds X.K fd ps [])
    (tk : Takes X W) (ha : DA false X W H0 L (e :: es) fa) (hg : Gl X x := by rfl) (hdb : (x == ("__debug__" : Str)) = false := by decide) (he : starEach (e :: es) X.env = (false, eval e X.env) :: starEach es X.env := by rfl) (hpl : (backTo pos (starEach es X.env)).any (·.1) = false := by rfl) :
    DE m X W H0 L (.Call (.Name x p) (e :: es) [] pos) (callB n F fa) :=
  peimp (pe_callSD G hr hg hm hk hb .nil (fun σ => passAt tk σ) ha hdb he hpl) fun σ H Q ⟨ε, r, h⟩ => by
    unfold callB at h
    rw [Rs.to_bind] at h
    refine ⟨ε, r, h.imp (fun ds _ hd vs H1 s1 q => ?_) fun n z => z⟩
    obtain ⟨hl, hd⟩ := chk_to hd
    have r1 := r.mono s1
    rw [List.append_nil]
    rw [Rs.to_bind] at hd
    have q1 := dens_pair r.good.sub q
    refine ⟨by rw [← q1.length]; simpa using hl, L, olds ds, r1.trk, q1.olds, hd.imp (fun d _ z v H2 s2 dd => ?_) fun c z C dd H2 hm s2 => z C dd H2 hm (s1.trans s2)⟩
    obtain ⟨hfr, z⟩ := chk_to z
    have r2 := r1.mono s2
    refine z v H2 (s1.trans s2) (Den.m r.good.sub ?_)
    refine Den.kp (.refl) (fun a z => r1.good.fr a z) (Den.fresh (fun a ha hz => r1.lo a hz ha) (fun a xs hL ha hz => ?_) dd hfr)
    rcases hz with hz | hz
    · exact hL hz
    · exact r2.mutTup a xs ha hz

/-! ### a list that a call gives back stands nowhere within itself -/
mutual
def size : Dat → Nat
  | .tup ds => sizes ds + 1
  | .lst _ ds => sizes ds + 1
  | _ => 1
def sizes : List Dat → Nat
  | [] => 0
  | d :: r => size d + sizes r
end
variable {H1 H2 : Hp} {L1 : Addr → Prop}
mutual
theorem size_eq : ∀ {d e : Dat} {v : V}, Den K H0 L H d v → Den K H1 L1 H e v → fresh d = true → fresh e = true → size d = size e
  | .non, e, _, h, g, _, c => by cases h; cases e <;> first | rfl | (cases g; done) | (obtain ⟨_, _, q, _⟩ := g; cases q; done) | (cases c; done)
  | .bl _, e, _, h, g, _, c => by cases h; cases e <;> first | rfl | (cases g; done) | (obtain ⟨_, _, q, _⟩ := g; cases q; done) | (cases c; done)
  | .int _, e, _, h, g, _, c => by cases h; cases e <;> first | rfl | (cases g; done) | (obtain ⟨_, _, q, _⟩ := g; cases q; done) | (cases c; done)
  | .str _, e, _, h, g, _, c => by cases h; cases e <;> first | rfl | (cases g; done) | (obtain ⟨_, _, q, _⟩ := g; cases q; done) | (cases c; done)
  | .tup ds, e, _, ⟨a, vs, ev, t, h⟩, g, c1, c => by
    subst ev
    cases e with
    | tup es =>
      obtain ⟨b, ws, ev, u, g⟩ := g
      cases ev
      have q := t.2.symm.trans u.2
      cases q
      exact congrArg (· + 1) (sizes_eq h g c1 c)
    | lst t' es =>
      obtain ⟨b, ws, ev, _, _, u, g⟩ := g
      cases ev
      have q := t.2.symm.trans u
      cases q
    | dK _ _ => cases c
    | dT _ _ => cases c
    | scr _ => cases c
    | cst _ => cases c
    | _ => cases g
  | .lst tt ds, e, _, ⟨a, vs, ev, _, _, t, h⟩, g, c1, c => by
    subst ev
    have c1' : (tt && freshs ds) = true := c1
    rw [Bool.and_eq_true] at c1'
    cases e with
    | tup es =>
      obtain ⟨b, ws, ev, u, g⟩ := g
      cases ev
      have q := t.symm.trans u.2
      cases q
    | lst t' es =>
      have c' : (t' && freshs es) = true := c
      rw [Bool.and_eq_true] at c'
      obtain ⟨b, ws, ev, _, _, u, g⟩ := g
      cases ev
      have q := t.symm.trans u
      cases q
      exact congrArg (· + 1) (sizes_eq h g c1'.2 c'.2)
    | dK _ _ => cases c
    | dT _ _ => cases c
    | scr _ => cases c
    | cst _ => cases c
    | _ => cases g
  | .dK _ _, _, _, _, _, c, _ => nomatch c
  | .dT _ _, _, _, _, _, c, _ => nomatch c
  | .scr _, _, _, _, _, c, _ => nomatch c
  | .cst _, _, _, _, _, c, _ => nomatch c
theorem sizes_eq : ∀ {ds es : List Dat} {vs : List V}, DenL K H0 L H ds vs → DenL K H1 L1 H es vs → freshs ds = true → freshs es = true → sizes ds = sizes es
  | [], [], _, _, _, _, _ => rfl
  | [], _ :: _, _, h, ⟨_, _, e, _, _⟩, _, _ => by cases h; cases e
  | _ :: _, [], _, ⟨_, _, e, _, _⟩, h, _, _ => by cases h; cases e
  | d :: ds, e :: es, _, ⟨v, r, ev, h, t⟩, ⟨v', r', ev', g, u⟩, c1, c2 => by
    subst ev
    cases ev'
    have c1' : (fresh d && freshs ds) = true := c1
    have c2' : (fresh e && freshs es) = true := c2
    rw [Bool.and_eq_true] at c1' c2'
    show size d + sizes ds = size e + sizes es
    rw [size_eq h g c1'.1 c2'.1, sizes_eq t u c1'.2 c2'.2]
end
variable {a0 : Addr} {vs0 : List V} {N : Nat}
mutual
theorem Den.apart (hv : H a0 = some (.lst vs0)) (hN : ∀ e, fresh e = true → Den K H0 L H e (.ref a0) → size e = N) : ∀ {d : Dat} {v : V}, Den K H0 L H d v → fresh d = true → size d < N → Den K H0 (fun b => L b ∨ b = a0) H d v
  | .non, _, h, _, _ => h
  | .bl _, _, h, _, _ => h
  | .int _, _, h, _, _ => h
  | .str _, _, h, _, _ => h
  | .tup ds, _, ⟨a, vs, e, t, h⟩, c, hs => ⟨a, vs, e, ⟨(by
      intro z
      rcases z with z | z
      · exact t.1 z
      · subst z
        have q := hv.symm.trans t.2
        cases q), t.2⟩, DenL.apart hv hN h c (Nat.lt_of_succ_lt hs)⟩
  | .lst tt ds, _, ⟨a, vs, e, hl, ht, ha, h⟩, c, hs => by
    have c' : (tt && freshs ds) = true := c
    rw [Bool.and_eq_true] at c'
    refine ⟨a, vs, e, fun z => ?_, ht, ha, DenL.apart hv hN h c'.2 (Nat.lt_of_succ_lt hs)⟩
    rcases z with z | z
    · exact hl z
    · subst z
      have := hN (.lst tt ds) c ⟨a, vs, rfl, hl, ht, ha, h⟩
      omega
  | .dK _ _, _, _, c, _ => nomatch c
  | .dT _ _, _, _, c, _ => nomatch c
  | .scr _, _, _, c, _ => nomatch c
  | .cst _, _, _, c, _ => nomatch c
theorem DenL.apart (hv : H a0 = some (.lst vs0)) (hN : ∀ e, fresh e = true → Den K H0 L H e (.ref a0) → size e = N) : ∀ {ds : List Dat} {vs : List V}, DenL K H0 L H ds vs → freshs ds = true → sizes ds < N → DenL K H0 (fun b => L b ∨ b = a0) H ds vs
  | [], _, h, _, _ => h
  | d :: ds, _, ⟨v, r, e, h, t⟩, c, hs => by
    have c' : (fresh d && freshs ds) = true := c
    rw [Bool.and_eq_true] at c'
    have hs' : size d + sizes ds < N := hs
    exact ⟨v, r, e, h.apart hv hN c'.1 (by omega), t.apart hv hN c'.2 (by omega)⟩
end
theorem Den.alone {ds : List Dat} {a : Addr} (h : Den K H0 L H (.lst true ds) (.ref a)) (c : freshs ds = true) : ∃ vs, H a = some (.lst vs) ∧ H0 a = none ∧ DenL K H0 (fun b => L b ∨ b = a) H ds vs := by
  obtain ⟨b, vs, e, hl, ht, ha, q⟩ := id h
  cases e
  refine ⟨vs, ha, ht rfl, q.apart (N := sizes ds + 1) ha (fun e c2 g => ?_) c (Nat.lt_succ_self _)⟩
  exact (size_eq g h c2 c)
/-- the list that comes back from a def -/
def lstOf : Dat → Rs (List Dat)
  | .lst true ds => chk (freshs ds) (.ok ds)
  | _ => .no
def ownC (f : DEnv → Rs Dat) (ε : DEnv) : Rs (List Dat) := f ε >>= lstOf
theorem lstOf_to {d : Dat} {P : List Dat → Prop} {E : Str → Prop} (h : (lstOf d).to P E) : ∃ ds, d = .lst true ds ∧ freshs ds = true ∧ P ds := by
  unfold lstOf at h
  split at h
  · obtain ⟨hc, h⟩ := chk_to h
    exact ⟨_, rfl, hc, h⟩
  · exact h.elim
theorem df_call (G : FnOk X.prog X.w X.K X.mg X.base (L2.CX X.prog X.w) k f' fd ps (spD X.K X.mg n F)) (hr : Room k X.A) (hm : X.mg x = some (.ref f')) (hk : PySem.W.keepIn X.K (.ref f') = true) (hb : Binds X.K fd ps [])
    (tk : Takes X W) (ha : DA true X W H0 L (e :: es) fa) (hg : Gl X x := by rfl) (hdb : (x == ("__debug__" : Str)) = false := by decide) (he : starEach (e :: es) X.env = (false, eval e X.env) :: starEach es X.env := by rfl) (hpl : (backTo pos (starEach es X.env)).any (·.1) = false := by rfl) :
    DF X W H0 L (.Call (.Name x p) (e :: es) [] pos) (ownC (callD n F fa)) :=
  peimp (pe_callSD G hr hg hm hk hb .nil (fun σ => passAt tk σ) ha hdb he hpl) fun σ H Q ⟨ε, r, h⟩ => by
    unfold ownC callD at h
    rw [Rs.to_bind, Rs.to_bind] at h
    refine ⟨ε, r, h.imp (fun ds _ hd vs H1 s1 q => ?_) fun n z => z⟩
    obtain ⟨hl, hd⟩ := chk_to hd
    have r1 := r.mono s1
    rw [List.append_nil]
    have q1 := den_pair q
    have hlen : ds.length = n := by simpa using hl
    refine ⟨by rw [← q1.length]; exact hlen, _, olds ds, r1.lo, q1.olds, hd.imp (fun d _ z v H2 s2 dd => ?_) fun c z C dd H2 hm s2 => z C dd H2 hm (s1.trans s2)⟩
    obtain ⟨es, rfl, hc, z⟩ := lstOf_to z
    obtain ⟨a, ws, ev, _⟩ := id dd
    subst ev
    obtain ⟨ws, ha, hn, q2⟩ := Den.alone dd hc
    exact z a ws H2 (s1.trans s2) (s1.free hn) ha (q2.kp .refl r1.good.fr)
end
end DL

set_option maxRecDepth 100000
set_option maxHeartbeats 4000000
/-! DLf: targets, walks, loops, comprehensions, defs. -/
namespace DL
open PySem PySem.Spec PyProof.Rows L2

section
variable {X : Cx} {W : WX} {H0 : Hp} {L : Addr → Prop} {m : Bool} {a b e : Expr} {es : List Expr} {pos : Pos} {f g : DEnv → Rs Dat} {fa : DEnv → Rs (List Dat)} {st : Stmt} {sts body : List Stmt} {fs gs : DEnv → Rs Out}
variable {K : PySem.W.Frag} {mg : Str → Option Value} {σ : L2.St} {H : Hp} {ε : DEnv} {tg iter : Expr} {P : Nat → Prop}
/-! ### targets -/
def tG (P : Nat → Prop) (K : PySem.W.Frag) (H0 : Hp) (L : Addr → Prop) (g : Dat → DEnv → Option DEnv) : TG := fun v σ H Q => ∃ ε d, Rel K H0 L ε σ H ∧ Den K H0 (LO L ε σ) H d v ∧ ∃ ε', g d ε = some ε' ∧
  ∀ σ', Rel K H0 L ε' σ' H → Kp (LO L ε σ) (LO L ε' σ') H H → (∀ j, ¬ P j → σ'[j]? = σ[j]?) → σ'.length = σ.length → Q σ' H
structure DG (P : Nat → Prop) (X : Cx) (H0 : Hp) (L : Addr → Prop) (tg : Expr) (g : Dat → DEnv → Option DEnv) : Prop where
  pg : PG X tg (tG P X.K H0 L g)
  loc : ∀ d ε ε', g d ε = some ε' → ∀ j, ¬ P j → ε'[j]? = ε[j]?
def gN (i : Nat) (d : Dat) (ε : DEnv) : Option DEnv := some (ε.set i (some (false, d)))
theorem dg_name (i : Nat) {x : Str} (hN : X.N.Nodup) (hP : P i) (hi : X.N[i]? = some x := by rfl) (hx : Loc X.env.scope x := by first | exact .inl rfl | exact .inr rfl) (hf : X.fn x = true ∨ X.env.scope.names.lookup x = some .local := by first | exact .inl rfl | exact .inr rfl | assumption) : DG P X H0 L (.Name x pos) (gN i) := by
  refine ⟨?_, fun d ε ε' e j hj => by cases e; exact set_get_ne fun z => hj (by rw [z]; exact hP)⟩
  refine ⟨fun pins s σ H v u Q I r ⟨ε, d, rel, hd, ε', e, h⟩ => ?_⟩
  cases e
  obtain ⟨r1, k1⟩ := rel.setv i hd
  refine (pg_name hN hi hx hf).run pins s σ H v u Q I r (h _ r1 k1 (fun j hj => set_get_ne fun z => hj (by rw [z]; exact hP)) (by rw [List.length_set]))
/-- several names -/
def tGs (P : Nat → Prop) (K : PySem.W.Frag) (H0 : Hp) (L : Addr → Prop) (g : List Dat → DEnv → Option DEnv) : TGs := fun vs σ H Q => ∃ ε ds, Rel K H0 L ε σ H ∧ DenL K H0 (LO L ε σ) H ds vs ∧ ∃ ε', g ds ε = some ε' ∧
  ∀ σ', Rel K H0 L ε' σ' H → Kp (LO L ε σ) (LO L ε' σ') H H → (∀ j, ¬ P j → σ'[j]? = σ[j]?) → σ'.length = σ.length → Q σ' H
structure DGs (P : Nat → Prop) (X : Cx) (H0 : Hp) (L : Addr → Prop) (tg : List Expr) (g : List Dat → DEnv → Option DEnv) : Prop where
  pg : PGs X tg (tGs P X.K H0 L g)
  loc : ∀ d ε ε', g d ε = some ε' → ∀ j, ¬ P j → ε'[j]? = ε[j]?
def gNil' : List Dat → DEnv → Option DEnv
  | [], ε => some ε
  | _, _ => none
def gCons' (g : Dat → DEnv → Option DEnv) (gs : List Dat → DEnv → Option DEnv) : List Dat → DEnv → Option DEnv
  | d :: r, ε => (g d ε).bind (gs r)
  | _, _ => none
theorem dgs_nil : DGs P X H0 L [] gNil' := by
  refine ⟨?_, fun d ε ε' e j hj => by unfold gNil' at e; split at e <;> cases e; rfl⟩
  refine ⟨fun pins s σ H vs us Q I r ⟨ε, ds, rel, hd, ε', e, h⟩ => ?_⟩
  unfold gNil' at e
  split at e
  · cases e
    cases hd
    exact pgs_nil.run pins s σ H [] us Q I r ⟨rfl, h σ rel .refl (fun _ _ => rfl) rfl⟩
  · cases e
theorem dgs_cons {g : Dat → DEnv → Option DEnv} {gs : List Dat → DEnv → Option DEnv} (h1 : DG P X H0 L e g) (h2 : DGs P X H0 L es gs)
    (hs : (assignEach (e :: es) X.env).map (·.2) = assign e X.env :: (assignEach es X.env).map (·.2) := by rfl) : DGs P X H0 L (e :: es) (gCons' g gs) := by
  refine ⟨?_, fun d ε ε' e j hj => by
    unfold gCons' at e
    split at e
    · rename_i d r
      cases hg : g d ε with
      | none => rw [hg] at e; cases e
      | some ε1 => rw [hg] at e; exact (h2.loc _ _ _ e j hj).trans (h1.loc _ _ _ hg j hj)
    · cases e⟩
  refine ⟨fun pins s σ H vs us Q I r ⟨ε, ds, rel, hd, ε', e, h⟩ => ?_⟩
  unfold gCons' at e
  split at e
  · rename_i d r' 
    obtain ⟨v, vr, ev, q1, q2⟩ := hd
    subst ev
    cases hg : g d ε with
    | none => rw [hg] at e; cases e
    | some ε1 =>
      rw [hg] at e
      refine (pgs_cons h1.pg h2.pg hs).run pins s σ H _ us Q I r ⟨v, vr, rfl, ε, d, rel, q1, ε1, hg, fun σ1 r1 k1 j1 l1 => ⟨ε1, r', r1, q2.kp k1 fun _ z => z, ε', e, fun σ2 r2 k2 j2 l2 => h σ2 r2 (k1.trans k2) (fun j hj => (j2 j hj).trans (j1 j hj)) (l2.trans l1)⟩⟩
  · cases e
def gT (gs : List Dat → DEnv → Option DEnv) : Dat → DEnv → Option DEnv
  | .tup ds, ε => gs ds ε
  | _, _ => none
/-- how many names: told by the length that gs takes -/
theorem dg_tup {k n : Nat} {gs : List Dat → DEnv → Option DEnv} (hc : X.calm = true) (h : DGs P X H0 L es gs) (hl : ∀ ds ε ε', gs ds ε = some ε' → ds.length = n)
    (hn : (assignEach es X.env).length = n := by rfl) (hst : (assignEach es X.env).findIdx? (·.1) = none := by rfl) : DG P X H0 L (.Tuple es k pos) (gT gs) := by
  refine ⟨?_, fun d ε ε' e j hj => by
    unfold gT at e
    split at e
    · exact h.loc _ _ _ e j hj
    · cases e⟩
  refine ⟨fun pins s σ H v u Q I r ⟨ε, d, rel, hd, ε', e, h2⟩ => ?_⟩
  unfold gT at e
  split at e
  · obtain ⟨a, vs, ev, t, q⟩ := hd
    exact (pg_tup hc h.pg hn hst).run pins s σ H v u Q I r ⟨a, vs, ev, t.sq, by rw [← q.length]; exact hl _ _ _ e, ε, _, rel, q, ε', e, h2⟩
  · cases e
theorem gl_nil : ∀ ds ε ε', gNil' ds ε = some ε' → ds.length = 0 := fun ds ε ε' h => by
  unfold gNil' at h
  split at h
  · rfl
  · cases h
theorem gl_cons {n : Nat} {g : Dat → DEnv → Option DEnv} {gs : List Dat → DEnv → Option DEnv} (h : ∀ ds ε ε', gs ds ε = some ε' → ds.length = n) : ∀ ds ε ε', gCons' g gs ds ε = some ε' → ds.length = n + 1 := fun ds ε ε' e => by
  unfold gCons' at e
  split at e
  · rename_i d r
    cases hg : g d ε with
    | none => rw [hg] at e; cases e
    | some ε1 => rw [hg] at e; exact congrArg (· + 1) (h _ _ _ e)
  · cases e
/-- target = value -/
def asgD (g : Dat → DEnv → Option DEnv) (f : DEnv → Rs Dat) (ε : DEnv) : Rs Out := f ε >>= fun d => Rs.of (g d ε) >>= fun ε' => .ok (.nx ε')
theorem ds_asg {g : Dat → DEnv → Option DEnv} (he : DE true X W H0 L e f) (hg : DG (fun _ => True) X H0 L tg g) (hs : swapsWithSole [tg] e pos.line X.env = pure false := by rfl) (hw : swappedStores [tg] e X.env = pure none := by rfl)
    (h1 : (assignEach [tg] X.env).map (·.2) = [assign tg X.env] := by rfl) : DS X W H0 L (.Assign [tg] e pos) (asgD g f) :=
  psimp (ps_asg he hg.pg hs hw h1) fun D σ H h => tD.expr (m := true) h fun ε d v H' r q h => by
    rw [Rs.to_bind] at h
    obtain ⟨ε', e, h⟩ := Rs.to_of h
    exact ⟨ε, d, r, q, ε', e, fun σ' r' k _ _ => h σ' H' r' k⟩

/-! ### walks -/
structure Wlk (m : Bool) (K : PySem.W.Frag) (H0 : Hp) (LL : Addr → Prop) (H : Hp) (J : It) (ds : List Dat) : Prop where
  run : ∀ LL2 H2, Good H0 LL2 LL2 H2 → Kp LL LL2 H H2 → (m = false → Same H H2) → ∀ i, (∀ d, ds[i]? = some d → J.go i H2 ∧ ∀ x H3, J.yld i H2 x H3 → Same H2 H3 ∧ Den K H0 LL2 H3 d x) ∧ (ds.length ≤ i → J.stop i H2)
def tI (m : Bool) (K : PySem.W.Frag) (mg : Str → Option Value) (W : WX) (H0 : Hp) (L : Addr → Prop) (w : DEnv → Rs (List Dat)) : TI := fun σ H R => ∃ ε, Rel K H0 L ε σ H ∧
  (w ε).to (fun ds => ∀ J H', Same H H' → Wlk m K H0 (LO L ε σ) H' J ds → R J H') (XW mg W σ H)
def DI (m : Bool) (X : Cx) (W : WX) (H0 : Hp) (L : Addr → Prop) (tg iter : Expr) (w : DEnv → Rs (List Dat)) : Prop := PI X tg iter (tI m X.K X.mg W H0 L w)
theorem piimp {t t' : TI} (h : PI X tg iter t) (k : ∀ σ H R, t' σ H R → t σ H R) : PI X tg iter t' := ⟨fun pins s σ H R I q => h.run pins s σ H R I (k σ H R q)⟩
theorem pior {t t' : TI} (h : PI X tg iter t) (h' : PI X tg iter t') : PI X tg iter (fun σ H R => t σ H R ∨ t' σ H R) :=
  ⟨fun pins s σ H R I q => q.elim (h.run pins s σ H R I) (h'.run pins s σ H R I)⟩
theorem peor {t t' : TE} (h : PE X e t) (h' : PE X e t') : PE X e (fun σ H Q => t σ H Q ∨ t' σ H Q) :=
  ⟨fun pins s σ H Q I q => q.elim (h.run pins s σ H Q I) (h'.run pins s σ H Q I)⟩
/-- the operand's value known ahead: for two rules of one expression -/
theorem tE.alt {f : DEnv → Rs Dat} {Q : VK} {A B : VK} (h : tE m K mg W H0 L f σ H Q) : True := trivial
def asL : Dat → Rs (List Dat)
  | .lst _ ds => .ok ds
  | _ => .no
def asT : Dat → Rs (List Dat)
  | .tup ds => .ok ds
  | _ => .no
theorem wlk_list {LL : Addr → Prop} {p : Addr} {ds : List Dat} {vs : List V} (hp : H p = some (.lst vs)) (hl : m = true → ¬ LL p) (q : DenL K H0 LL H ds vs) : Wlk m K H0 LL H (Itl K p) ds := ⟨fun LL2 H2 g k s i => by
  have hp2 : H2 p = some (.lst vs) := by
    cases m with
    | true => exact (k p _ (hl rfl) hp).2
    | false => exact s rfl _ _ hp
  have hS : SqL K H2 p vs := .of hp2
  refine ⟨fun d hd => ?_, fun hi => ⟨vs, hS, by rw [← q.length]; exact hi⟩⟩
  obtain ⟨v, hv, qd⟩ := q.get hd
  refine ⟨⟨vs, v, hS, hv⟩, fun x H3 ⟨e, y⟩ => ?_⟩
  subst e
  have : v = x := Option.some.inj (hv.symm.trans (y vs hS))
  subst this
  exact ⟨Same.refl _, qd.kp k fun _ z => z⟩⟩
theorem wlk_tup {LL : Addr → Prop} {p : Addr} {ds : List Dat} {vs : List V} (hp : H p = some (.tup vs)) (hl : ¬ LL p) (q : DenL K H0 LL H ds vs) : Wlk m K H0 LL H (Itt K p) ds := ⟨fun LL2 H2 g k s i => by
  have hp2 : H2 p = some (.tup vs) := (k p _ hl hp).2
  have hS : SqT K H2 p vs := .of hp2
  refine ⟨fun d hd => ?_, fun hi => ⟨vs, hS, by rw [← q.length]; exact hi⟩⟩
  obtain ⟨v, hv, qd⟩ := q.get hd
  refine ⟨⟨vs, v, hS, hv⟩, fun x H3 ⟨e, y⟩ => ?_⟩
  subst e
  have : v = x := Option.some.inj (hv.symm.trans (y vs hS))
  subst this
  exact ⟨Same.refl _, qd.kp k fun _ z => z⟩⟩
def walkD (f : DEnv → Rs Dat) (ε : DEnv) : Rs (List Dat) := f ε >>= asL
def walkT (f : DEnv → Rs Dat) (ε : DEnv) : Rs (List Dat) := f ε >>= asT
theorem di_list (he : DE m X W H0 L e f) : DI m X W H0 L tg e (walkD f) :=
  piimp (pi_list he) fun σ H R ⟨ε, r, h⟩ => by
    unfold walkD at h
    rw [Rs.to_bind] at h
    refine ⟨ε, r, h.imp (fun d _ hd v H1 s1 q => ?_) fun n z => z⟩
    cases d with
    | lst t ds =>
      cases m with
      | true =>
        obtain ⟨a, vs, ev, hl, ht, ha, q⟩ := q
        exact ⟨a, ev, ⟨vs, .of ha⟩, hd _ _ s1 (wlk_list ha (fun _ => hl) q)⟩
      | false =>
        obtain ⟨a, vs, ev, hl, ht, ha, q⟩ := q
        exact ⟨a, ev, ⟨vs, .of ha⟩, hd _ _ s1 (wlk_list ha (fun z => nomatch z) q)⟩
    | _ => exact hd.elim
theorem di_tup (he : DE m X W H0 L e f) : DI m X W H0 L tg e (walkT f) :=
  piimp (pi_tup he) fun σ H R ⟨ε, r, h⟩ => by
    unfold walkT at h
    rw [Rs.to_bind] at h
    refine ⟨ε, r, h.imp (fun d _ hd v H1 s1 q => ?_) fun n z => z⟩
    cases d with
    | tup ds =>
      have q' : Den X.K H0 (LO L ε σ) H1 (.tup ds) v := by cases m <;> exact q
      obtain ⟨a, vs, ev, ha, q⟩ := q'
      exact ⟨a, ev, ⟨vs, .of ha.2⟩, hd _ _ s1 (wlk_tup ha.2 ha.1 q)⟩
    | _ => exact hd.elim
def rng (lo : Int) (n : Nat) : List Dat := (List.range n).map fun (i : Nat) => Dat.int (lo + i)
theorem wlk_rng {LL : Addr → Prop} {lo : Int} {n : Nat} : Wlk m K H0 LL H (Itr lo n) (rng lo n) := ⟨fun LL2 H2 g k s i => by
  refine ⟨fun d hd => ?_, fun hi => by simpa [rng, Itr] using hi⟩
  unfold rng at hd
  rw [List.getElem?_map] at hd
  by_cases hi : i < n
  · rw [List.getElem?_range hi] at hd
    cases hd
    exact ⟨hi, fun x H3 ⟨e, y⟩ => by subst e; exact ⟨Same.refl _, y⟩⟩
  · rw [List.getElem?_eq_none (by simp; omega)] at hd
    cases hd⟩
noncomputable def inR (i : Int) : Bool := cls (-(2 ^ 62) ≤ i ∧ i < 2 ^ 62)
theorem inR_true {i : Int} (h : -(2 ^ 62) ≤ i) (h2 : i < 2 ^ 62) : DL.inR i = true := cls_true ⟨h, h2⟩
noncomputable def asR1 : List Dat → Rs (List Dat)
  | [.int j] => chk (DL.inR j) (.ok (rng 0 j.toNat))
  | _ => .no
noncomputable def asR2 : List Dat → Rs (List Dat)
  | [.int i, .int j] => chk (DL.inR i && DL.inR j) (.ok (rng i (j - i).toNat))
  | _ => .no
def rngD (f : List Dat → Rs (List Dat)) (fa : DEnv → Rs (List Dat)) (ε : DEnv) : Rs (List Dat) := fa ε >>= f
theorem pair1 {LL : Addr → Prop} {d : Dat} {vs : List V} (h : Paired (DM m K H0 L LL H) [d] vs) : ∃ v, vs = [v] ∧ DM m K H0 L LL H d v := by
  cases h with
  | cons h t => cases t; exact ⟨_, rfl, h⟩
theorem pair2 {LL : Addr → Prop} {d e : Dat} {vs : List V} (h : Paired (DM m K H0 L LL H) [d, e] vs) : ∃ v w, vs = [v, w] ∧ DM m K H0 L LL H d v ∧ DM m K H0 L LL H e w := by
  cases h with
  | cons h t => obtain ⟨w, ev, t2⟩ := pair1 t; subst ev; exact ⟨_, _, rfl, h, t2⟩
theorem inR_ok {i : Int} (h : DL.inR i = true) : -(2 ^ 62) ≤ i ∧ i < 2 ^ 62 := cls_ok h
theorem di_range1 {p : Pos} (hm : X.mg "range" = none) (ha : DA false X W H0 L [a] fa) (hg : Gl X "range" := by rfl) (hs : starEach [a] X.env = [(false, eval a X.env)] := by rfl) : DI m X W H0 L tg (.Call (.Name "range" p) [a] [] pos) (rngD asR1 fa) :=
  piimp (pi_range1 hg hm ha hs) fun σ H R ⟨ε, r, h⟩ => by
    unfold rngD at h
    rw [Rs.to_bind] at h
    refine ⟨ε, r, h.imp (fun ds _ hd vs H1 s1 q => ?_) fun n z => z⟩
    unfold asR1 at hd
    split at hd
    · obtain ⟨hz, hd⟩ := chk_to hd
      obtain ⟨v, rfl, q1⟩ := pair1 q
      have q1 : v = _ := q1
      subst q1
      exact ⟨_, rfl, (inR_ok hz).1, (inR_ok hz).2, hd _ _ s1 wlk_rng⟩
    · exact hd.elim
theorem di_range2 {p : Pos} (hm : X.mg "range" = none) (ha : DA false X W H0 L [a, b] fa) (hg : Gl X "range" := by rfl) (hs : starEach [a, b] X.env = [(false, eval a X.env), (false, eval b X.env)] := by rfl) (hs2 : starEach [b] X.env = [(false, eval b X.env)] := by rfl) : DI m X W H0 L tg (.Call (.Name "range" p) [a, b] [] pos) (rngD asR2 fa) :=
  piimp (pi_range2 hg hm ha hs hs2) fun σ H R ⟨ε, r, h⟩ => by
    unfold rngD at h
    rw [Rs.to_bind] at h
    refine ⟨ε, r, h.imp (fun ds _ hd vs H1 s1 q => ?_) fun n z => z⟩
    unfold asR2 at hd
    split at hd
    · obtain ⟨hz, hd⟩ := chk_to hd
      rw [Bool.and_eq_true] at hz
      obtain ⟨v, w, rfl, q1, q2⟩ := pair2 q
      have q1 : v = _ := q1
      have q2 : w = _ := q2
      subst q1 q2
      exact ⟨_, _, rfl, ⟨(inR_ok hz.1).1, (inR_ok hz.1).2, (inR_ok hz.2).1, (inR_ok hz.2).2⟩, hd _ _ s1 wlk_rng⟩
    · exact hd.elim

/-! ### for -/
def forD (body : Dat → DEnv → Rs Out) : List Dat → DEnv → Rs Out
  | [], ε => .ok (.nx ε)
  | d :: r, ε => body d ε >>= fun o => match o with
    | .nx ε' => forD body r ε'
    | .ct ε' => forD body r ε'
    | .bk ε' => .ok (.nx ε')
    | .rt d => .ok (.rt d)
def trn (g : Dat → DEnv → Option DEnv) (fs : DEnv → Rs Out) (d : Dat) (ε : DEnv) : Rs Out := Rs.of (g d ε) >>= fs
def loopD (w : DEnv → Rs (List Dat)) (body : Dat → DEnv → Rs Out) (ε : DEnv) : Rs Out := w ε >>= fun ds => forD body ds ε
theorem ds_for {w : DEnv → Rs (List Dat)} {g : Dat → DEnv → Option DEnv} (hc : X.calm = true) (hp : PassesOwn (model X.prog X.w) X.A X.env X.xe) (hi : DI true X W H0 L tg iter w) (hg : DG (fun _ => True) X H0 L tg g) (hb : DSs X W H0 L body fs)
    (hs : ∀ x, foldedSetIterable iter X.env x = pure x := by intro _; rfl) : DS X W H0 L (.For tg iter body [] pos) (loopD w (trn g fs)) :=
  psimp (ps_for hp hc hi hg.pg hb hs) fun D σ H ⟨ε, r, h⟩ => by
    unfold loopD at h
    rw [Rs.to_bind] at h
    refine ⟨ε, r, h.imp (fun ds _ hd J H1 s1 wk => ?_) fun n z => z.w r.same⟩
    refine ⟨fun i m σ2 H2 => m = ds.length - i ∧ i ≤ ds.length ∧ ∃ ε2, Rel X.K H0 L ε2 σ2 H2 ∧ Kp (LO L ε σ) (LO L ε2 σ2) H1 H2 ∧ (forD (trn g fs) (ds.drop i) ε2).to (OutP X.K H0 L (LO L ε2 σ2) H2 D) (XS X.mg W H0),
      ⟨ds.length, by simp, Nat.zero_le _, ε, r.mono s1, .refl, hd.imp (fun o _ z => z.mono (.same s1)) fun n z => z⟩, ?_⟩
    rintro i m σ2 H2 ⟨rfl, hi, ε2, r2, k2, h2⟩
    have wi := wk.run (LO L ε2 σ2) H2 ⟨fun _ z => z, r2.lo, r2.good.fr⟩ k2 (fun z => nomatch z) i
    by_cases hlt : i < ds.length
    · have hdi : ds[i]? = some ds[i] := List.getElem?_eq_getElem hlt
      have hdrop : ds.drop i = ds[i] :: ds.drop (i + 1) := List.drop_eq_getElem_cons hlt
      rw [hdrop] at h2
      have h2 : (trn g fs ds[i] ε2 >>= fun o => match o with
        | .nx ε' => forD (trn g fs) (ds.drop (i + 1)) ε'
        | .ct ε' => forD (trn g fs) (ds.drop (i + 1)) ε'
        | .bk ε' => .ok (.nx ε')
        | .rt d => .ok (.rt d)).to _ _ := h2
      unfold trn at h2
      rw [Rs.to_bind, Rs.to_bind] at h2
      obtain ⟨ε3, he3, h3⟩ := Rs.to_of h2
      obtain ⟨go, yl⟩ := wi.1 _ hdi
      refine .inr ⟨go, fun σ' H' => ∃ ε2, Rel X.K H0 L ε2 σ' H' ∧ Kp (LO L ε σ) (LO L ε2 σ') H1 H' ∧ (forD (trn g fs) (ds.drop (i + 1)) ε2).to (OutP X.K H0 L (LO L ε2 σ') H' D) (XS X.mg W H0),
        fun σ' H' z => ⟨ds.length - (i + 1), by omega, rfl, hlt, z⟩, fun x H3 hy => ?_⟩
      obtain ⟨s3, q3⟩ := yl x H3 hy
      have r3 := r2.mono s3
      refine ⟨ε2, _, r3, q3, ε3, he3, fun σ4 r4 k4 _ _ => ⟨ε3, r4, h3.imp (fun o _ ho => ?_) fun n z => z⟩⟩
      have kk : Kp (LO L ε2 σ2) (LO L ε3 σ4) H2 H3 := (Kp.same s3).trans k4
      cases o with
      | nx ε' => exact fun σ5 H5 r5 k5 => ⟨ε', r5, k2.trans (kk.trans k5), (show (forD (trn g fs) (ds.drop (i + 1)) ε').to _ _ from ho).imp (fun o _ z => z.mono (kk.trans k5)) fun n z => z⟩
      | ct ε' => exact fun σ5 H5 r5 k5 => ⟨ε', r5, k2.trans (kk.trans k5), (show (forD (trn g fs) (ds.drop (i + 1)) ε').to _ _ from ho).imp (fun o _ z => z.mono (kk.trans k5)) fun n z => z⟩
      | bk ε' => exact fun σ5 H5 r5 k5 => ho σ5 H5 r5 (kk.trans k5)
      | rt d => exact ho
    · have e : i = ds.length := by omega
      subst e
      rw [List.drop_length] at h2
      exact .inl ⟨wi.2 (Nat.le_refl _), h2 σ2 H2 r2 .refl⟩

/-! ### while -/
def whileD (c : DEnv → Rs Bool) (fs : DEnv → Rs Out) : Nat → DEnv → Rs Out
  | 0, _ => .no
  | n + 1, ε => c ε >>= fun b => if b = true then (fs ε >>= fun o => match o with
      | .nx ε' => whileD c fs n ε'
      | .ct ε' => whileD c fs n ε'
      | .bk ε' => .ok (.nx ε')
      | .rt d => .ok (.rt d)) else .ok (.nx ε)
theorem ds_while (n : Nat) {c : DEnv → Rs Bool} (hp : PassesOwn (model X.prog X.w) X.A X.env X.xe) (hc : DT X W H0 L e c) (hb : DSs X W H0 L body fs) : DS X W H0 L (.While e body [] pos) (whileD c fs n) :=
  psimp (ps_while hp hc hb) fun D σ H ⟨ε, r, h⟩ => by
    refine ⟨fun m σ2 H2 => ∃ ε2, Rel X.K H0 L ε2 σ2 H2 ∧ (whileD c fs m ε2).to (OutP X.K H0 L (LO L ε2 σ2) H2 D) (XS X.mg W H0), ⟨n, ε, r, h⟩, ?_⟩
    rintro m σ2 H2 ⟨ε2, r2, h2⟩
    cases m with
    | zero => exact h2.elim
    | succ m =>
      unfold whileD at h2
      rw [Rs.to_bind] at h2
      refine ⟨ε2, r2, h2.imp (fun b _ hb H3 s3 => ?_) fun n z => z.w r2.same⟩
      have r3 := r2.mono s3
      cases b with
      | true =>
        have hb : (fs ε2 >>= fun o => match o with
          | .nx ε' => whileD c fs m ε'
          | .ct ε' => whileD c fs m ε'
          | .bk ε' => .ok (.nx ε')
          | .rt d => .ok (.rt d)).to _ _ := hb
        rw [Rs.to_bind] at hb
        refine ⟨fun σ' H' => ∃ ε2, Rel X.K H0 L ε2 σ' H' ∧ (whileD c fs m ε2).to (OutP X.K H0 L (LO L ε2 σ') H' D) (XS X.mg W H0), fun σ' H' z => ⟨m, Nat.lt_succ_self _, z⟩, ε2, r3, hb.imp (fun o _ ho => ?_) fun n z => z⟩
        have kk : Kp (LO L ε2 σ2) (LO L ε2 σ2) H2 H3 := .same s3
        cases o with
        | nx ε' => exact fun σ5 H5 r5 k5 => ⟨ε', r5, (show (whileD c fs m ε').to _ _ from ho).imp (fun o _ z => z.mono (kk.trans k5)) fun n z => z⟩
        | ct ε' => exact fun σ5 H5 r5 k5 => ⟨ε', r5, (show (whileD c fs m ε').to _ _ from ho).imp (fun o _ z => z.mono (kk.trans k5)) fun n z => z⟩
        | bk ε' => exact fun σ5 H5 r5 k5 => ho σ5 H5 r5 (kk.trans k5)
        | rt d => exact ho
      | false => exact hb σ2 H3 r3 (.same s3)
end
end DL

set_option maxRecDepth 100000
set_option maxHeartbeats 4000000
/-! DLg: comprehensions, defs. -/
namespace DL
open PySem PySem.Spec PyProof.Rows L2

/-! ### comprehensions -/
def wipeD (ε : DEnv) : List Nat → DEnv
  | [] => ε
  | v :: vs => (wipeD ε vs).set v none
def noOwn (ε : DEnv) : List Nat → Bool
  | [] => true
  | v :: vs => (match ε[v]? with | some (some (true, _)) => false | _ => true) && noOwn ε vs
def Rs.nox {α : Type} : Rs α → Rs α
  | .ok a => .ok a
  | _ => .no
@[simp] theorem Rs.nox_ok {α : Type} (a : α) : (Rs.ok a).nox = .ok a := rfl
def compL (F : Dat → Rs (Option Dat)) : List Dat → Rs (List Dat)
  | [] => .ok []
  | d :: r => F d >>= fun o => compL F r >>= fun zs => .ok (match o with | some z => z :: zs | none => zs)
def compT (g : Dat → DEnv → Option DEnv) (c : DEnv → Rs Bool) (fe : DEnv → Rs Dat) (ε : DEnv) (d : Dat) : Rs (Option Dat) :=
  Rs.of (g d ε) >>= fun ε2 => (c ε2).nox >>= fun b => if b = true then (fe ε2).nox >>= fun z => .ok (some z) else .ok none
noncomputable def compD (w : DEnv → Rs (List Dat)) (g : Dat → DEnv → Option DEnv) (c : DEnv → Rs Bool) (fe : DEnv → Rs Dat) (vs : List Nat) (ε : DEnv) : Rs (List Dat) :=
  w ε >>= fun ds => chk (sz ds.length && noOwn ε vs) (compL (compT g c fe (wipeD ε vs)) ds)
abbrev W0 : WX := fun _ _ _ _ => False
def DTs (X : Cx) (W : WX) (H0 : Hp) (L : Addr → Prop) (es : List Expr) (f : DEnv → Rs Bool) : Prop := PTs X es (tT X.K X.mg W H0 L f)
def yesT (_ : DEnv) : Rs Bool := .ok true

section
variable {K : PySem.W.Frag} {H0 H H1 H2 : Hp} {L LL : Addr → Prop} {ε : DEnv} {σ : L2.St} {D : Addr}
theorem wipeD_get {i : Nat} {x : Bool × Dat} : ∀ {vs : List Nat}, (wipeD ε vs)[i]? = some (some x) → ε[i]? = some (some x) ∧ i ∉ vs
  | [], h => ⟨h, by simp⟩
  | v :: vs, h => by
    unfold wipeD at h
    rcases get_set _ _ _ _ _ h with ⟨_, _, z⟩ | ⟨hj, e⟩
    · cases z
    · obtain ⟨h1, h2⟩ := wipeD_get e
      exact ⟨h1, by simp only [List.mem_cons, not_or]; exact ⟨hj, h2⟩⟩
theorem wipeD_out {i : Nat} : ∀ {vs : List Nat}, i ∉ vs → (wipeD ε vs)[i]? = ε[i]?
  | [], _ => rfl
  | v :: vs, h => by
    simp only [List.mem_cons, not_or] at h
    unfold wipeD
    rw [set_get_ne h.1, wipeD_out h.2]
theorem wipe_out' {i : Nat} : ∀ {vs : List Nat}, i ∉ vs → (wipe σ vs)[i]? = σ[i]?
  | [], _ => rfl
  | v :: vs, h => by
    simp only [List.mem_cons, not_or] at h
    unfold wipe
    rw [set_get_ne h.1, wipe_out' h.2]
theorem wipeD_length : ∀ vs : List Nat, (wipeD ε vs).length = ε.length
  | [] => rfl
  | v :: vs => by unfold wipeD; rw [List.length_set, wipeD_length vs]
theorem noOwn_not {i : Nat} {d : Dat} : ∀ {vs : List Nat}, noOwn ε vs = true → ε[i]? = some (some (true, d)) → i ∉ vs
  | [], _, _ => by simp
  | v :: vs, h, e => by
    unfold noOwn at h
    rw [Bool.and_eq_true] at h
    simp only [List.mem_cons, not_or]
    refine ⟨fun z => ?_, noOwn_not h.2 e⟩
    rw [← z, e] at h
    exact Bool.false_ne_true h.1
theorem Rel.block (r : Rel K H0 L ε σ H) {vs : List Nat} (hv : noOwn ε vs = true) (hs : Same H H2) (hD : H D = none) (hD2 : H2 D ≠ none) :
    Rel K H0 (fun b => L b ∨ b = D) (wipeD ε vs) (wipe σ vs) H2 ∧ ∀ b, LO (fun b => L b ∨ b = D) (wipeD ε vs) (wipe σ vs) b ↔ LO L ε σ b ∨ b = D := by
  have hlo : ∀ b, LO (fun b => L b ∨ b = D) (wipeD ε vs) (wipe σ vs) b ↔ LO L ε σ b ∨ b = D := fun b => by
    constructor
    · rintro ((h | h) | ⟨i, d, e1, e2⟩)
      · exact .inl (.inl h)
      · exact .inr h
      · obtain ⟨e3, h3⟩ := wipeD_get e1
        rw [wipe_out' h3] at e2
        exact .inl (.inr ⟨i, d, e3, e2⟩)
    · rintro ((h | ⟨i, d, e1, e2⟩) | h)
      · exact .inl (.inl h)
      · have h3 := noOwn_not hv e1
        exact .inr ⟨i, d, by rw [wipeD_out h3]; exact e1, by rw [wipe_out' h3]; exact e2⟩
      · exact .inl (.inr h)
  have kp : Kp (LO L ε σ) (LO (fun b => L b ∨ b = D) (wipeD ε vs) (wipe σ vs)) H H2 := fun b o n e => ⟨(by
    intro z
    rcases (hlo b).mp z with z | z
    · exact n z
    · rw [z, hD] at e
      cases e), hs _ _ e⟩
  refine ⟨⟨r.same.trans hs, fun b h => ?_, by rw [wipeD_length, wipe_length]; exact r.len, fun i d e => ?_, fun i d e => ?_, fun i j d e a e1 e2 e3 e4 => ?_⟩, hlo⟩
  · rcases h with h | h
    · exact fun z => r.trk b h (hs.free z)
    · rw [h]; exact hD2
  · obtain ⟨e1, h1⟩ := wipeD_get e
    obtain ⟨v, e2, q⟩ := r.val i d e1
    exact ⟨v, by rw [wipe_out' h1]; exact e2, q.kp kp fun _ z => z⟩
  · obtain ⟨e1, h1⟩ := wipeD_get e
    obtain ⟨a, e2, h0, hl, q⟩ := r.own i d e1
    refine ⟨a, by rw [wipe_out' h1]; exact e2, h0, fun z => ?_, q.kp kp (fun _ z => z) fun o z => hs _ _ z⟩
    rcases z with z | z
    · exact hl z
    · obtain ⟨o, eo, _⟩ := q.there
      rw [z, hD] at eo
      cases eo
  · obtain ⟨f1, h1⟩ := wipeD_get e1
    obtain ⟨f2, h2⟩ := wipeD_get e2
    rw [wipe_out' h1] at e3
    rw [wipe_out' h2] at e4
    exact r.uni i j d e a f1 f2 e3 e4
theorem wipe_eq {σ' : L2.St} {vs : List Nat} (h : ∀ j, j ∉ vs → σ'[j]? = σ[j]?) (hl : σ'.length = σ.length) : wipe σ' vs = wipe σ vs := by
  apply List.ext_getElem?
  intro j
  by_cases hj : j ∈ vs
  · have go : ∀ (τ : L2.St) (ws : List Nat), j ∈ ws → (wipe τ ws)[j]? = if j < τ.length then some none else none := by
      intro τ ws
      induction ws with
      | nil => intro h; cases h
      | cons v ws ih =>
        intro h
        unfold wipe
        rw [List.getElem?_set]
        by_cases e : v = j
        · rw [if_pos e]
          have : (wipe τ ws).length = τ.length := wipe_length τ ws
          rw [this, e]
        · rw [if_neg e]
          exact ih ((List.mem_cons.mp h).resolve_left fun z => e z.symm)
    rw [go σ' vs hj, go σ vs hj, hl]
  · rw [wipe_out' hj, wipe_out' hj]
    exact h j hj
end

section
variable {X : Cx} {W : WX} {H0 : Hp} {L : Addr → Prop} {m : Bool} {a b e : Expr} {es : List Expr} {pos : Pos} {f fe : DEnv → Rs Dat} {fa w : DEnv → Rs (List Dat)} {c : DEnv → Rs Bool} {g : Dat → DEnv → Option DEnv} {tg iter elt : Expr} {ifs : List Expr} {scope : Scope} {own : List (Str × Nat)}
theorem dts_nil : DTs X W H0 L [] yesT := ⟨fun pins s σ H Q I ⟨ε, r, h⟩ => pts_nil.run pins s σ H Q I (h H (Same.refl H))⟩
theorem dts_one (h : DT X W H0 L e c) : DTs X W H0 L [e] c := pts_one h
theorem nox_to {α : Type} {x : Rs α} {P : α → Prop} {E E' : Str → Prop} (h : (x.nox).to P E) : x.to P E' := by
  cases x with
  | ok a => exact h
  | ex n => exact h.elim
  | no => exact h.elim
theorem pgex {t : (Addr → Prop) → TG} (h : ∀ L, PG X tg (t L)) : PG X tg (fun v σ H Q => ∃ L, t L v σ H Q) := ⟨fun pins s σ H v u Q I r ⟨L, q⟩ => (h L).run pins s σ H v u Q I r q⟩
theorem peex {t : (Addr → Prop) → TE} (h : ∀ L, PE X e (t L)) : PE X e (fun σ H Q => ∃ L, t L σ H Q) := ⟨fun pins s σ H Q I ⟨L, q⟩ => (h L).run pins s σ H Q I q⟩
theorem ptsex {t : (Addr → Prop) → TT} (h : ∀ L, PTs X es (t L)) : PTs X es (fun σ H Q => ∃ L, t L σ H Q) := ⟨fun pins s σ H Q I ⟨L, q⟩ => (h L).run pins s σ H Q I q⟩
theorem lc_use {K : PySem.W.Frag} {mg : Str → Option Value} {σ : L2.St} {H : Hp} {Q : VK} {vs : List Nat} (hloc : ∀ d ε ε', g d ε = some ε' → ∀ j, ¬ j ∈ vs → ε'[j]? = ε[j]?) (h : tF K mg W H0 L (compD w g c fe vs) σ H Q) :
    tLc (tI false K mg W H0 L w) (fun v σ H Q => ∃ L, tG (fun j => j ∈ vs) K H0 L g v σ H Q) (fun σ H Q => ∃ L, tT K mg W0 H0 L c σ H Q) (fun σ H Q => ∃ L, tE true K mg W0 H0 L fe σ H Q) vs σ H Q := by
  obtain ⟨ε, r, h⟩ := h
  unfold compD at h
  rw [Rs.to_bind] at h
  refine ⟨ε, r, h.imp (fun ds _ hd J H1 s1 wk D hD => ?_) fun n z => z⟩
  obtain ⟨hz, hd⟩ := chk_to hd
  rw [Bool.and_eq_true] at hz
  have hsz := sz_ok hz.1
  have hHD : H D = none := s1.free hD
  refine ⟨fun i m H2 => m = ds.length - i ∧ i ≤ ds.length ∧ Same H1 H2 ∧ ∃ acc dacc, H2 D = some (.lst acc) ∧ acc.length ≤ i ∧ DenL K H0 (fun b => LO L ε σ b ∨ b = D) H2 dacc acc ∧
      (compL (compT g c fe (wipeD ε vs)) (ds.drop i)).to (fun zs => ∀ a us H', Same H H' → H a = none → H' a = some (.lst us) → DenL K H0 (fun b => LO L ε σ b ∨ b = a) H' (dacc ++ zs) us → Q (.ref a) H') (XW mg W σ H),
    ⟨ds.length, by simp, Nat.zero_le _, same_new hD, [], [], upd_same, Nat.le_refl _, rfl, hd⟩, ?_⟩
  rintro i m H2 ⟨rfl, hi, s2, acc, dacc, hacc, hlen, dden, h2⟩
  have hH2 : Same H H2 := s1.trans s2
  have good : ∀ {H3 : Hp}, Same H2 H3 → Good H0 (fun b => LO L ε σ b ∨ b = D) (fun b => LO L ε σ b ∨ b = D) H3 := fun {H3} s3 => ⟨fun _ z => z, (by
    intro b z e
    rcases z with z | z
    · exact r.lo b z ((hH2.trans s3).free e)
    · rw [z, s3 _ _ hacc] at e
      cases e), fun b e => r.same.free ((hH2.trans s3).free e)⟩
  have wi := wk.run (fun b => LO L ε σ b ∨ b = D) H2 (good (Same.refl _)) (kp_or s2 hD) (fun _ => s2) i
  by_cases hlt : i < ds.length
  · have hdi : ds[i]? = some ds[i] := List.getElem?_eq_getElem hlt
    have hdrop : ds.drop i = ds[i] :: ds.drop (i + 1) := List.drop_eq_getElem_cons hlt
    rw [hdrop] at h2
    unfold compL at h2
    rw [Rs.to_bind] at h2
    unfold compT at h2
    rw [Rs.to_bind] at h2
    obtain ⟨ε2, he2, h3⟩ := Rs.to_of h2
    rw [Rs.to_bind] at h3
    obtain ⟨go, yl⟩ := wi.1 _ hdi
    refine .inr ⟨go, fun H' => Same H1 H' ∧ ∃ acc dacc, H' D = some (.lst acc) ∧ acc.length ≤ i + 1 ∧ DenL K H0 (fun b => LO L ε σ b ∨ b = D) H' dacc acc ∧
      (compL (compT g c fe (wipeD ε vs)) (ds.drop (i + 1))).to (fun zs => ∀ a us H', Same H H' → H a = none → H' a = some (.lst us) → DenL K H0 (fun b => LO L ε σ b ∨ b = a) H' (dacc ++ zs) us → Q (.ref a) H') (XW mg W σ H),
      fun H' z => ⟨ds.length - (i + 1), by omega, rfl, hlt, z⟩, fun x H3 hy => ?_⟩
    obtain ⟨s3, q3⟩ := yl x H3 hy
    have hD3 : H3 D = some (.lst acc) := s3 _ _ hacc
    obtain ⟨r3, lo3⟩ := r.block hz.2 (hH2.trans s3) hHD (by rw [hD3]; exact fun z => nomatch z)
    refine ⟨fun b => L b ∨ b = D, wipeD ε vs, ds[i], r3, q3.kp (fun b o n e => ⟨fun z => n ((lo3 b).mp z), e⟩) fun _ z => z, ε2, he2, fun σ2 r4 k4 j4 l4 => ⟨?_, ?_⟩⟩
    · exact wipe_eq (fun j hj => (j4 j hj).trans (wipe_out' hj)) (l4.trans (wipe_length _ _))
    · have losub : ∀ b, (LO L ε σ b ∨ b = D) → LO (fun b => L b ∨ b = D) ε2 σ2 b := fun b hb => by
        rcases (lo3 b).mpr hb with z | ⟨j, d, e1, e2⟩
        · exact .inl z
        · have hj := (wipeD_get e1).2
          exact .inr ⟨j, d, by rw [hloc _ _ _ he2 j hj]; exact e1, by rw [j4 j hj]; exact e2⟩
      refine ⟨fun b => L b ∨ b = D, ε2, r4, (nox_to h3).imp (fun b _ hb H4 s4 => ?_) fun n z => z⟩
      cases b with
      | true =>
        simp only [if_true] at hb ⊢
        rw [Rs.to_bind] at hb
        refine ⟨fun b => L b ∨ b = D, ε2, r4.mono s4, (nox_to hb).imp (fun z _ hz y H5 s5 dz => ?_) fun n z => z⟩
        have hD5 : H5 D = some (.lst acc) := s5 _ _ (s4 _ _ hD3)
        have sn : ∀ {L' : Addr → Prop}, L' D → Kp L' L' H5 (upd H5 D (.lst (acc ++ [y]))) := fun {L'} hL b o n e => ⟨n, by rw [upd_ne (fun q => n (by rw [q]; exact hL))]; exact e⟩
        refine ⟨acc, hD5, by omega, fun b o e => ?_, acc ++ [y], dacc ++ [z], upd_same, by rw [List.length_append]; simp; exact hlen, ?_, ?_⟩
        · rw [upd_ne (ne_of_none e hD)]
          exact s5 _ _ (s4 _ _ (s3 _ _ (s2 _ _ e)))
        · refine DenL.app ?_ ⟨y, [], rfl, ?_, rfl⟩
          · exact (dden.same (s3.trans (s4.trans s5))).kp (sn (.inr rfl)) fun _ z => z
          · exact (Den.kp (fun b o n e => ⟨fun q => n (losub b q), e⟩) (fun _ z => z) (show Den _ _ _ _ _ _ from dz)).kp (sn (.inr rfl)) fun _ z => z
        · have hz' : (compL (compT g c fe (wipeD ε vs)) (ds.drop (i + 1)) >>= fun zs => Rs.ok (z :: zs)).to _ _ := hz
          rw [Rs.to_bind] at hz'
          refine hz'.imp (fun zs _ q a us H' s hn ha dd => ?_) fun n z => z
          rw [List.append_assoc] at dd
          exact q a us H' s hn ha dd
      | false =>
        simp only [Bool.false_eq_true, if_false] at hb ⊢
        have hb' : (compL (compT g c fe (wipeD ε vs)) (ds.drop (i + 1)) >>= fun zs => Rs.ok zs).to _ _ := hb
        rw [Rs.to_bind] at hb'
        exact ⟨s2.trans (s3.trans s4), acc, dacc, s4 _ _ hD3, Nat.le_succ_of_le hlen, dden.same (s3.trans s4), hb'⟩
  · have e : i = ds.length := by omega
    subst e
    rw [List.drop_length] at h2
    refine .inl ⟨wi.2 (Nat.le_refl _), ?_⟩
    have h2' : ∀ a us H', Same H H' → H a = none → H' a = some (.lst us) → DenL K H0 (fun b => LO L ε σ b ∨ b = a) H' (dacc ++ []) us → Q (.ref a) H' := h2
    rw [List.append_nil] at h2'
    exact h2' D acc H2 hH2 hHD hacc dden

theorem df_lc (hc : X.calm = true) (hN : X.N.Nodup) (hi : DI false X W H0 L tg iter w) (ok : BlkOk X.N X.env.scope scope own)
    {vs : List Nat} (hg : ∀ (s : Shared) (H : Hp) (C : Addr) (cl : List (Str × Addr)) (fp : List Addr) (L : Addr → Prop), DG (fun j => j ∈ vs) (X.blk s H scope (compEnvC scope cl C X.env) fp) H0 L tg g)
    (ht : ∀ (s : Shared) (H : Hp) (C : Addr) (cl : List (Str × Addr)) (fp : List Addr) (L : Addr → Prop), DTs (X.blk s H scope (compEnvC scope cl C X.env) fp) W0 H0 L ifs c)
    (he : ∀ (s : Shared) (H : Hp) (C : Addr) (cl : List (Str × Addr)) (fp : List Addr) (L : Addr → Prop), DE true (X.blk s H scope (compEnvC scope cl C X.env) fp) W0 H0 L elt fe)
    (hvs : own.map (·.2) = vs := by rfl) (hs : ∀ x, foldedSetIterable iter X.env x = pure x := by intro _; rfl) :
    DF X W H0 L (.ListComp elt [⟨tg, iter, ifs, 0⟩] scope pos) (compD w g c fe vs) := by
  subst hvs
  exact peimp (pe_lc hc hN hi ok (fun s H C cl fp => pgex (t := fun L => tG (fun j => j ∈ own.map (·.2)) X.K H0 L g) fun L => (hg s H C cl fp L).pg) (fun s H C cl fp => ptsex (t := fun L => tT X.K X.mg W0 H0 L c) fun L => ht s H C cl fp L) (fun s H C cl fp => peex (t := fun L => tE true X.K X.mg W0 H0 L fe) fun L => he s H C cl fp L) hs) fun σ H Q h => lc_use (hg X.s_0 H 0 [] [] L).loc h
theorem ds_setLc (i : Nat) {y : Str} {py spos : Pos} (hc : X.calm = true) (hN : X.N.Nodup) (hi : DI false X W H0 L tg iter w) (ok : BlkOk X.N X.env.scope scope own)
    {vs : List Nat} (hg : ∀ (s : Shared) (H : Hp) (C : Addr) (cl : List (Str × Addr)) (fp : List Addr) (L : Addr → Prop), DG (fun j => j ∈ vs) (X.blk s H scope (compEnvC scope cl C X.env) fp) H0 L tg g)
    (ht : ∀ (s : Shared) (H : Hp) (C : Addr) (cl : List (Str × Addr)) (fp : List Addr) (L : Addr → Prop), DTs (X.blk s H scope (compEnvC scope cl C X.env) fp) W0 H0 L ifs c)
    (he : ∀ (s : Shared) (H : Hp) (C : Addr) (cl : List (Str × Addr)) (fp : List Addr) (L : Addr → Prop), DE true (X.blk s H scope (compEnvC scope cl C X.env) fp) W0 H0 L elt fe)
    (hy : X.N[i]? = some y := by rfl) (hyl : X.env.scope.names.lookup y = some .local := by rfl)
    (hsw : swapsWith (.ListComp elt [⟨tg, iter, ifs, 0⟩] scope pos) (some (.Name y py)) spos.line X.env = pure true := by exact sw_true rfl rfl rfl (by decide +kernel)) (hvs : own.map (·.2) = vs := by rfl) (hs : ∀ x, foldedSetIterable iter X.env x = pure x := by intro _; rfl) :
    DS X W H0 L (.Assign [.Name y py] (.ListComp elt [⟨tg, iter, ifs, 0⟩] scope pos) spos) (setD i (lstD (compD w g c fe vs))) ∧ DS X W H0 L (.Assign [.Name y py] (.ListComp elt [⟨tg, iter, ifs, 0⟩] scope pos) spos) (ownD i (compD w g c fe vs)) := by
  subst hvs
  have base := ps_setLc (i := i) hc hN hy hyl hsw hi ok (fun s H C cl fp => pgex (t := fun L => tG (fun j => j ∈ own.map (·.2)) X.K H0 L g) fun L => (hg s H C cl fp L).pg) (fun s H C cl fp => ptsex (t := fun L => tT X.K X.mg W0 H0 L c) fun L => ht s H C cl fp L) (fun s H C cl fp => peex (t := fun L => tE true X.K X.mg W0 H0 L fe) fun L => he s H C cl fp L) hs
  refine ⟨psimp base fun D σ H ⟨ε, r, h⟩ => ?_, psimp base fun D σ H ⟨ε, r, h⟩ => ?_⟩
  · refine lc_use (W := W) (L := L) (hg X.s_0 H 0 [] [] L).loc ⟨ε, r, ?_⟩
    unfold setD lstD at h
    rw [Rs.to_bind, Rs.to_bind] at h
    refine h.imp (fun ds _ hd a vs H' s hn ha q => ?_) fun n z => z.w r.same
    obtain ⟨r1, k1⟩ := (r.mono s).setv (d := .lst true ds) (v := .ref a) i ⟨a, vs, rfl, fun z => r.lo a z hn, fun _ => r.same.free hn, ha, q.sub fun _ z => .inl z⟩
    exact hd _ _ r1 ((Kp.same s).trans k1)
  · refine lc_use (W := W) (L := L) (hg X.s_0 H 0 [] [] L).loc ⟨ε, r, ?_⟩
    unfold ownD at h
    rw [Rs.to_bind] at h
    refine h.imp (fun ds _ hd a vs H' s hn ha q => ?_) fun n z => z.w r.same
    obtain ⟨r1, k1⟩ := r.setown (d := .lst true ds) i s hn ⟨vs, ha, q⟩
    exact hd _ _ r1 k1

/-! ### defs -/
variable {P : Program} {w' : World} {K : PySem.W.Frag} {mg : Str → Option Value} {base : Heap} {x qual : Str} {st : Stmt} {f' : Addr} {fd : FuncData} {N ps : List Str} {k : Nat} {fs : DEnv → Rs Out}
def startD (n : Nat) (ds : List Dat) : DEnv := ds.map (fun d => some (false, d)) ++ List.replicate (n - ds.length) none
def runF (n : Nat) (fs : DEnv → Rs Out) (ds : List Dat) : Rs Dat := fs (startD n ds) >>= fun o => match o with
  | .nx _ => .ok .non
  | .rt d => .ok d
  | _ => .no
theorem start_rel {H : Hp} {L : Addr → Prop} {ds : List Dat} {vs : List V} {n : Nat} (hl : ∀ a, L a → H a ≠ none) (q : DenL K H L H ds vs) (N : List Str) : Rel K H L (startD N.length ds) (L2.start N vs) H := by
  have hlen := q.length
  have none_own : ∀ (i : Nat) (d : Dat), (startD N.length ds)[i]? = some (some (true, d)) → False := fun i d e => by
    unfold startD at e
    rw [List.getElem?_append] at e
    split at e
    · rw [List.getElem?_map] at e
      cases h : ds[i]? with
      | none => rw [h] at e; cases e
      | some d' => rw [h] at e; cases e
    · rw [List.getElem?_replicate] at e
      split at e <;> cases e
  have lo : ∀ b, LO L (startD N.length ds) (L2.start N vs) b → L b := by
    rintro b (h | ⟨i, d, e, _⟩)
    · exact h
    · exact (none_own i d e).elim
  refine ⟨Same.refl H, hl, ?_, fun i d e => ?_, fun i d e => (none_own i d e).elim, fun i j d e a e1 _ _ _ => (none_own i d e1).elim⟩
  · unfold startD L2.start
    simp [hlen]
  · unfold startD at e
    rw [List.getElem?_append] at e
    split at e
    · rw [List.getElem?_map] at e
      cases h : ds[i]? with
      | none => rw [h] at e; cases e
      | some d' =>
        rw [h] at e
        cases e
        obtain ⟨v, hv, qd⟩ := q.get h
        refine ⟨v, ?_, qd.kp (fun b o n e => ⟨fun z => n (lo b z), e⟩) fun _ z => z⟩
        unfold L2.start
        rw [List.getElem?_append_left (by rw [List.length_map]; exact lt_of_get hv), List.getElem?_map, hv]
        rfl
    · rw [List.getElem?_replicate] at e
      split at e <;> cases e
theorem fn_okD (Fn : Fun K x qual st f' fd) (S : FnScope N ps (defScope st))
    (hbody : ∀ (cdv : Value) (A : Around) (outer : List Env) (s : Shared) (H : Hp) (E : XK), Room k (A.deeper (envOfC qual (defScope st) s.heap.objs.size f' cdv)) → ∀ L : Addr → Prop,
      DSs (cxOf (L2.CX P w') P w' K mg base N qual (defScope st) f' cdv A outer s H E) (fun c d _ H' => E c d H') H L (defBody st) fs) : FnOk P w' K mg base (L2.CX P w') (k + 1) f' fd ps (spD K mg ps.length (runF N.length fs)) := by
  refine Fn.okX S (fun vs H Q E h => h.1) fun cdv A outer s H vs Q E hr ⟨hl, L, ds, trk, den, h⟩ => ⟨_, hbody cdv A outer s H E hr L, startD N.length ds, start_rel (n := N.length) trk den N, ?_⟩
  unfold runF at h
  rw [Rs.to_bind] at h
  refine h.imp (fun o _ ho => ?_) fun n z C dd σ H' hm s => z C dd H' hm s
  cases o with
  | nx ε => exact fun σ' H' r k => ho .non H' r.same rfl
  | rt d => exact ho
  | bk ε => exact ho.elim
  | ct ε => exact ho.elim
theorem FnOk.spD_imp {n : Nat} {F G : List Dat → Rs Dat} (h : FnOk P w' K mg base (L2.CX P w') k f' fd ps (spD K mg n F)) (e : ∀ ds, F ds = G ds) : FnOk P w' K mg base (L2.CX P w') k f' fd ps (spD K mg n G) := by
  have : F = G := funext e
  rw [← this]
  exact h
end
end DL

set_option maxRecDepth 100000
set_option maxHeartbeats 4000000
/-! DLh: tests, subscripts, slices, built-ins, stores. -/
namespace DL
open PySem PySem.Spec PyProof.Rows L2

section
variable {X : Cx} {W : WX} {H0 : Hp} {L LL : Addr → Prop} {m : Bool} {a b e : Expr} {es rest : List Expr} {pos : Pos} {f g : DEnv → Rs Dat} {fa : DEnv → Rs (List Dat)} {c c' : DEnv → Rs Bool}
variable {K : PySem.W.Frag} {mg : Str → Option Value} {σ : L2.St} {H : Hp} {ε : DEnv}
/-! ### tests -/
def notT (c : DEnv → Rs Bool) (ε : DEnv) : Rs Bool := c ε >>= fun b => .ok (!b)
theorem dt_not (h : DT X W H0 L a c) : DT X W H0 L (.UnaryOp .Not a pos) (notT c) :=
  ptimp (pt_not h) fun σ H Q ⟨ε, r, h⟩ => by
    unfold notT at h
    rw [Rs.to_bind] at h
    exact ⟨ε, r, h⟩
def DW (X : Cx) (W : WX) (H0 : Hp) (L : Addr → Prop) (e : Expr) (f : DEnv → Rs Bool) : Prop := PW X e (tT X.K X.mg W H0 L f)
theorem pwimp {t t' : TT} (h : PW X e t) (k : ∀ σ H Q, t' σ H Q → t σ H Q) : PW X e t' := ⟨fun wh pins s σ H Q I q => h.run wh pins s σ H Q I (k σ H Q q)⟩
theorem DW.t (h : DW X W H0 L e c) : DT X W H0 L e c := PW.pt h
def andT (c c' : DEnv → Rs Bool) (ε : DEnv) : Rs Bool := c ε >>= fun b => if b = true then c' ε else .ok false
def orT (c c' : DEnv → Rs Bool) (ε : DEnv) : Rs Bool := c ε >>= fun b => if b = true then .ok true else c' ε
theorem dw_and1 (h : DT X W H0 L a c) : DW X W H0 L (.BoolOp .And [a] pos) c := pw_and1 h
theorem dw_or1 (h : DT X W H0 L a c) : DW X W H0 L (.BoolOp .Or [a] pos) c := pw_or1 h
theorem dw_and (h : DT X W H0 L a c) (h' : DW X W H0 L (.BoolOp .And (b :: rest) pos) c') : DW X W H0 L (.BoolOp .And (a :: b :: rest) pos) (andT c c') :=
  pwimp (pw_and h h') fun σ H Q ⟨ε, r, h⟩ => by
    unfold andT at h
    rw [Rs.to_bind] at h
    refine ⟨ε, r, h.imp (fun b _ hb H1 s1 => ?_) fun n z => z⟩
    cases b with
    | true => exact ⟨ε, r.mono s1, (show (c' ε).to _ _ from hb).imp (fun b _ z H2 s2 => z H2 (s1.trans s2)) fun n z => z.mono s1⟩
    | false => exact hb H1 s1
theorem dw_or (h : DT X W H0 L a c) (h' : DW X W H0 L (.BoolOp .Or (b :: rest) pos) c') : DW X W H0 L (.BoolOp .Or (a :: b :: rest) pos) (orT c c') :=
  pwimp (pw_or h h') fun σ H Q ⟨ε, r, h⟩ => by
    unfold orT at h
    rw [Rs.to_bind] at h
    refine ⟨ε, r, h.imp (fun b _ hb H1 s1 => ?_) fun n z => z⟩
    cases b with
    | true => exact hb H1 s1
    | false => exact ⟨ε, r.mono s1, (show (c' ε).to _ _ from hb).imp (fun b _ z H2 s2 => z H2 (s1.trans s2)) fun n z => z.mono s1⟩
def andV (f g : DEnv → Rs Dat) (ε : DEnv) : Rs Dat := f ε >>= fun d => asB d >>= fun b => if b = true then g ε else .ok (.bl false)
def orV (f g : DEnv → Rs Dat) (ε : DEnv) : Rs Dat := f ε >>= fun d => asB d >>= fun b => if b = true then .ok (.bl true) else g ε
theorem de_one {op} (h : DE m X W H0 L a f) : DE m X W H0 L (.BoolOp op [a] pos) f := pe_one h
theorem bl_den {d : Dat} {v : V} {P : Bool → Prop} {E : Str → Prop} (hd : DenS K H0 L LL H d v) (h : (asB d).to P E) : ∃ b, v = .bl b ∧ P b := by
  cases d with
  | bl b => exact ⟨b, hd, h⟩
  | _ => exact h.elim
theorem de_and (ha : DE false X W H0 L a f) (hb : DE m X W H0 L (.BoolOp .And (b :: rest) pos) g) : DE m X W H0 L (.BoolOp .And (a :: b :: rest) pos) (andV f g) :=
  peimp (pe_and ha hb) fun σ H Q ⟨ε, r, h⟩ => by
    unfold andV at h
    rw [Rs.to_bind] at h
    refine ⟨ε, r, h.imp (fun d _ hd v H1 s1 q => ?_) fun n z => z⟩
    rw [Rs.to_bind] at hd
    obtain ⟨b, ev, hb⟩ := bl_den q hd
    refine ⟨b, ev, ?_⟩
    cases b with
    | true => exact ⟨ε, r.mono s1, (show (g ε).to _ _ from hb).imp (fun b _ z v H2 s2 => z v H2 (s1.trans s2)) fun n z => z.mono s1⟩
    | false => exact hb (.bl false) H1 s1 (Den.m (d := .bl false) r.good.sub rfl)
theorem de_or (ha : DE false X W H0 L a f) (hb : DE m X W H0 L (.BoolOp .Or (b :: rest) pos) g) : DE m X W H0 L (.BoolOp .Or (a :: b :: rest) pos) (orV f g) :=
  peimp (pe_or ha hb) fun σ H Q ⟨ε, r, h⟩ => by
    unfold orV at h
    rw [Rs.to_bind] at h
    refine ⟨ε, r, h.imp (fun d _ hd v H1 s1 q => ?_) fun n z => z⟩
    rw [Rs.to_bind] at hd
    obtain ⟨b, ev, hb⟩ := bl_den q hd
    refine ⟨b, ev, ?_⟩
    cases b with
    | true => exact hb (.bl true) H1 s1 (Den.m (d := .bl true) r.good.sub rfl)
    | false => exact ⟨ε, r.mono s1, (show (g ε).to _ _ from hb).imp (fun b _ z v H2 s2 => z v H2 (s1.trans s2)) fun n z => z.mono s1⟩

/-! ### subscripts -/
theorem atI_den {ds : List Dat} {vs : List V} {i : Int} {d : Dat} (q : DenL K H0 L H ds vs) (h : atI ds i = some d) : ∃ v, atI vs i = some v ∧ Den K H0 L H d v := by
  unfold atI at h ⊢
  rw [← q.length]
  cases e : ixN ds.length i with
  | none => rw [e] at h; cases h
  | some j => rw [e] at h; exact q.get h
noncomputable def dIx : Dat → Dat → Option Dat
  | .lst _ ds, .int i => atI ds i
  | .tup ds, .int i => atI ds i
  | .str z, .int i => if sz z.length = true then (atI z.cps.toList i).map fun c => .str ⟨#[c]⟩ else none
  | _, _ => none
theorem opd_ix : OpD K (rIx K) dIx := by
  intro H0 L LL H x y d e z Q gd hx hy hz hq
  unfold dIx at hz
  split at hz
  · obtain ⟨p, vs, rfl, _, _, hp, q⟩ := hx
    obtain ⟨v, hv, qd⟩ := atI_den q hz
    exact .inl ⟨p, vs, _, v, rfl, hy, .of hp, hv, hq _ _ (Same.refl _) qd⟩
  · obtain ⟨p, vs, rfl, hp, q⟩ := hx
    obtain ⟨v, hv, qd⟩ := atI_den q hz
    exact .inr (.inl ⟨p, vs, _, v, rfl, hy, hp.sq, hv, hq _ _ (Same.refl _) qd⟩)
  · split at hz
    · rename_i s i hs
      cases hc : atI s.cps.toList i with
      | none => rw [hc] at hz; cases hz
      | some c =>
        rw [hc] at hz
        cases hz
        exact .inr (.inr ⟨s, i, c, hx, hy, sz_ok hs, hc, hq _ _ (Same.refl _) rfl⟩)
    · cases hz
  · cases hz
theorem de_ix (ha : DE false X W H0 L a f) (hb : DE false X W H0 L b g) (hs : PlainIx b := by intro _ _; rfl) : DE m X W H0 L (.Subscript a b pos) (bop dIx f g) :=
  peimp (pe_ix ix_seq ha hb hs) fun _ _ _ h => bin_use opd_ix h

/-! ### slices -/
def tO (K : PySem.W.Frag) (mg : Str → Option Value) (W : WX) (H0 : Hp) (L : Addr → Prop) (f : DEnv → Rs (Option Int)) : TO := fun σ H Q => ∃ ε, Rel K H0 L ε σ H ∧
  (f ε).to (fun i => ∀ H', Same H H' → Q i H') (XW mg W σ H)
def DO (X : Cx) (W : WX) (H0 : Hp) (L : Addr → Prop) (e : Option Expr) (f : DEnv → Rs (Option Int)) : Prop := PO X e (tO X.K X.mg W H0 L f)
theorem poimp {o : Option Expr} {t t' : TO} (h : PO X o t) (k : ∀ σ H Q, t' σ H Q → t σ H Q) : PO X o t' := ⟨fun pins s σ H Q I q => h.run pins s σ H Q I (k σ H Q q)⟩
def noO (_ : DEnv) : Rs (Option Int) := .ok none
def asI : Dat → Rs Int
  | .int i => .ok i
  | _ => .no
def smO (f : DEnv → Rs Dat) (ε : DEnv) : Rs (Option Int) := f ε >>= fun d => asI d >>= fun i => .ok (some i)
theorem do_none : DO X W H0 L none noO := poimp po_none fun σ H Q ⟨ε, r, h⟩ => h H (Same.refl _)
theorem do_some (he : DE false X W H0 L e f) : DO X W H0 L (some e) (smO f) := poimp (po_some he) fun σ H Q ⟨ε, r, h⟩ => by
  unfold smO at h
  rw [Rs.to_bind] at h
  refine ⟨ε, r, h.imp (fun d _ hd v H1 s1 q => ?_) fun n z => z⟩
  rw [Rs.to_bind] at hd
  cases d with
  | int i => exact ⟨i, q, hd H1 s1⟩
  | _ => exact hd.elim
def cutD {α : Type} (xs : List α) (lo hi : Option Int) : List α := (xs.drop (HT.sIx xs.length 0 lo)).take (HT.sIx xs.length xs.length hi - HT.sIx xs.length 0 lo)
theorem cut_den {ds : List Dat} {vs : List V} (q : DenL K H0 L H ds vs) (lo hi : Option Int) : DenL K H0 L H (cutD ds lo hi) (cutV vs lo hi) := by
  unfold cutD cutV
  rw [q.length]
  exact (q.drop _).take _
theorem denL_int : ∀ ns : List Int, DenL K H0 L H (ns.map .int) (ns.map V.int)
  | [] => rfl
  | n :: r => ⟨_, _, rfl, rfl, denL_int r⟩
theorem cut_map {α β : Type} (h : α → β) (xs : List α) (lo hi : Option Int) : cutD (xs.map h) lo hi = (cutD xs lo hi).map h := by
  unfold cutD
  rw [List.length_map, ← List.map_drop, ← List.map_take]
noncomputable def dSl : Dat → Option Int → Option Int → Option Dat
  | .lst _ ds, lo, hi => some (.lst true (cutD ds lo hi))
  | .tup ds, lo, hi => some (.tup (cutD ds lo hi))
  | .scr ns, lo, hi => some (.lst true ((cutD ns lo hi).map .int))
  | .str z, lo, hi => if sz z.length = true then some (.str (cutS z lo hi)) else none
  | _, _, _ => none
theorem cut_whole {α : Type} {xs : List α} {lo hi : Option Int} (h : HT.sIx xs.length 0 lo = 0 ∧ HT.sIx xs.length xs.length hi = xs.length) : cutD xs lo hi = xs := by
  unfold cutD
  rw [h.1, h.2]
  simp
theorem opd_sl {H0 : Hp} {x : V} {d z : Dat} {lo hi : Option Int} {Q : VK} (gd : Good H0 L LL H) (hx : DenS K H0 L LL H d x) (hz : dSl d lo hi = some z) (hq : ∀ v H', Same H H' → Den K H0 LL H' z v → Q v H') :
    rSlL K x lo hi H Q ∨ rSlA K x lo hi H Q ∨ rSlS x lo hi H Q := by
  unfold dSl at hz
  split at hz
  · cases hz
    obtain ⟨p, vs, rfl, _, _, hp, q⟩ := hx
    exact .inl ⟨p, vs, rfl, .of hp, fun r hr => hq _ _ (same_new hr) (gd.lst hr (cut_den q lo hi))⟩
  · cases hz
    obtain ⟨p, vs, rfl, hp, q⟩ := hx
    refine .inr (.inl ⟨p, vs, rfl, hp.sq, fun hw => ?_, fun hw r hr => hq _ _ (same_new hr) (gd.tup hr (cut_den q lo hi))⟩)
    rw [← q.length] at hw
    exact hq _ _ (Same.refl _) (by rw [cut_whole hw]; exact ⟨p, vs, rfl, hp, q⟩)
  · cases hz
    rename_i ns
    obtain ⟨p, rfl, hp⟩ := hx
    refine .inl ⟨p, _, rfl, hp.sq, fun r hr => hq _ _ (same_new hr) ?_⟩
    rw [← cut_map]
    exact gd.lst hr (cut_den (denL_int ns) lo hi)
  · split at hz
    · rename_i hs
      cases hz
      exact .inr (.inr ⟨_, hx, sz_ok hs, hq _ _ (Same.refl _) rfl⟩)
    · cases hz
  · cases hz
noncomputable def slD (f : DEnv → Rs Dat) (l h : DEnv → Rs (Option Int)) (ε : DEnv) : Rs Dat := f ε >>= fun d => l ε >>= fun lo => h ε >>= fun hi => Rs.of (dSl d lo hi)
theorem de_slice {lo hi : Option Expr} {p2 : Pos} {fl fh : DEnv → Rs (Option Int)} (he : DE false X W H0 L e f) (hl : DO X W H0 L lo fl) (hu : DO X W H0 L hi fh) : DE m X W H0 L (.Subscript e (.Slice lo hi none p2) pos) (slD f fl fh) :=
  peimp (pe_slice (sl_list.or (sl_tupA.or sl_str)) he hl hu) fun σ H Q ⟨ε, r, h⟩ => by
    unfold slD at h
    rw [Rs.to_bind] at h
    refine ⟨ε, r, h.imp (fun d _ hd v H1 s1 q => ?_) fun n z => z⟩
    rw [Rs.to_bind] at hd
    refine ⟨ε, r.mono s1, hd.imp (fun lo _ hd H2 s2 => ?_) fun n z => z.mono s1⟩
    rw [Rs.to_bind] at hd
    refine ⟨ε, r.mono (s1.trans s2), hd.imp (fun hi _ hd H3 s3 => ?_) fun n z => z.mono (s1.trans s2)⟩
    obtain ⟨z, hz, hq⟩ := Rs.to_of hd
    have s := s1.trans (s2.trans s3)
    exact opd_sl (r.mono s).good (DenS.same (s2.trans s3) q) hz fun v H' s' dd => hq v H' (s.trans s') (dd.m r.good.sub)
/-- xs[::-1] -/
def dRev : Dat → Option Dat
  | .lst _ ds => some (.lst true ds.reverse)
  | _ => none
theorem de_rev {k : Nat} {p1 p2 p3 : Pos} (he : DE false X W H0 L e f) : DE m X W H0 L (.Subscript e (.Slice none none (some (.UnaryOp .USub (.Constant (.int 1) k p1) p2)) p3) pos) (uop dRev f) :=
  peimp (pe_revL he) fun σ H Q h => un_use (r := fun x H1 Q => ∃ a xs, x = .ref a ∧ SqL X.K H1 a xs ∧ ∀ p, H1 p = none → Q (.ref p) (upd H1 p (.lst xs.reverse))) (fun {H0 L LL H x d z Q} gd hx hz hq => by
    unfold dRev at hz
    split at hz
    · cases hz
      obtain ⟨p, vs, rfl, _, _, hp, q⟩ := hx
      exact ⟨p, vs, rfl, .of hp, fun r hr => hq _ _ (same_new hr) (gd.lst hr q.rev)⟩
    · cases hz) h

/-! ### built-ins, by values -/
def OpL (K : PySem.W.Frag) (r : List V → Hp → VK → Prop) (F : List Dat → Option Dat) : Prop := ∀ {H0 : Hp} {L LL : Addr → Prop} {H : Hp} {vs : List V} {ds : List Dat} {z : Dat} {Q : VK}, Good H0 L LL H → Paired (DM false K H0 L LL H) ds vs → F ds = some z →
  (∀ v H', Same H H' → Den K H0 LL H' z v → Q v H') → r vs H Q
def biD (F : List Dat → Option Dat) (fa : DEnv → Rs (List Dat)) (ε : DEnv) : Rs Dat := fa ε >>= fun ds => Rs.of (F ds)
theorem l_use {r : List V → Hp → VK → Prop} {F : List Dat → Option Dat} {Q : VK} (hF : OpL K r F) (h : tE m K mg W H0 L (biD F fa) σ H Q) : tCB r (tA false K mg W H0 L fa) σ H Q := by
  obtain ⟨ε, rel, h⟩ := h
  unfold biD at h
  rw [Rs.to_bind] at h
  refine ⟨ε, rel, h.imp (fun ds _ hd vs H1 s1 q => ?_) fun n z => z⟩
  obtain ⟨z, hz, hq⟩ := Rs.to_of hd
  exact hF (rel.mono s1).good q hz fun v H3 s3 q => hq v H3 (s1.trans s3) (q.m rel.good.sub)
variable {x : Str} {idn T : String} {p : Pos} {r : List V → Hp → VK → Prop} {F : List Dat → Option Dat}
theorem de_bi (hc : CallR X (.builtin idn) r) (hF : OpL X.K r F) (hm : X.mg x = none) (hv : bootBuiltins x = some (.builtin idn)) (ha : DA false X W H0 L (e :: es) fa) (hg : Gl X x := by rfl) (hn : x ≠ "__name__" := by decide) (hdb : (x == ("__debug__" : Str)) = false := by decide)
    (he : starEach (e :: es) X.env = (false, eval e X.env) :: starEach es X.env := by rfl) (hpl : (backTo pos (starEach es X.env)).any (·.1) = false := by rfl) : DE m X W H0 L (.Call (.Name x p) (e :: es) [] pos) (biD F fa) :=
  peimp (pe_callB hc hg hm hv ha hn hdb he hpl) fun _ _ _ h => l_use hF h
theorem de_ty (hc : CallR X (.type T) r) (hF : OpL X.K r F) (hm : X.mg x = none) (hv : bootBuiltins x = some (.type T)) (ha : DA false X W H0 L (e :: es) fa) (hg : Gl X x := by rfl) (hn : x ≠ "__name__" := by decide) (hdb : (x == ("__debug__" : Str)) = false := by decide)
    (he : starEach (e :: es) X.env = (false, eval e X.env) :: starEach es X.env := by rfl) (hpl : (backTo pos (starEach es X.env)).any (·.1) = false := by rfl) : DE m X W H0 L (.Call (.Name x p) (e :: es) [] pos) (biD F fa) :=
  peimp (pe_callTy hc hg hm hv ha hn hdb he hpl) fun _ _ _ h => l_use hF h
theorem p1 {ds : List Dat} {d : Dat} {vs : List V} (h : Paired (DM false K H0 L LL H) [d] vs) : ∃ v, vs = [v] ∧ DenS K H0 L LL H d v := pair1 h
/-- len -/
noncomputable def dLen : List Dat → Option Dat
  | [.lst _ ds] => some (.int ds.length)
  | [.tup ds] => some (.int ds.length)
  | [.str z] => if sz z.length = true then some (.int z.length) else none
  | _ => none
theorem opl_len : OpL K (fun xs H Q => (∃ p ys, xs = [.ref p] ∧ (SqL K H p ys ∨ SqT K H p ys) ∧ Q (.int ys.length) H) ∨ ∃ z, xs = [.str z] ∧ z.length ≤ sizeLine ∧ Q (.int z.length) H) dLen := by
  intro H0 L LL H vs ds z Q gd hp hz hq
  unfold dLen at hz
  split at hz
  · obtain ⟨v, rfl, p, ws, rfl, _, _, h, q⟩ := pair1 hp
    cases hz
    exact .inl ⟨p, ws, rfl, .inl (.of h), by rw [← q.length]; exact hq _ _ (Same.refl _) rfl⟩
  · obtain ⟨v, rfl, p, ws, rfl, h, q⟩ := pair1 hp
    cases hz
    exact .inl ⟨p, ws, rfl, .inr h.sq, by rw [← q.length]; exact hq _ _ (Same.refl _) rfl⟩
  · split at hz
    · rename_i hs
      obtain ⟨v, rfl, hv⟩ := pair1 hp
      cases hz
      exact .inr ⟨_, by rw [show v = V.str _ from hv], sz_ok hs, hq _ _ (Same.refl _) rfl⟩
    · cases hz
  · cases hz
theorem de_len (hm : X.mg "len" = none) (ha : DA false X W H0 L (e :: es) fa) (hg : Gl X "len" := by rfl)
    (he : starEach (e :: es) X.env = (false, eval e X.env) :: starEach es X.env := by rfl) (hpl : (backTo pos (starEach es X.env)).any (·.1) = false := by rfl) : DE m X W H0 L (.Call (.Name "len" p) (e :: es) [] pos) (biD dLen fa) :=
  de_bi (call_len_seq.or call_len_str) opl_len hm PySem.boot_len ha hg (by decide) (by decide) he hpl
/-- truths -/
def blsD : List Dat → Option (List Bool)
  | [] => some []
  | .bl i :: r => (blsD r).map (i :: ·)
  | _ :: _ => none
theorem denL_bls : ∀ {ds : List Dat} {vs : List V} {ns : List Bool}, DenL K H0 L H ds vs → blsD ds = some ns → vs = ns.map V.bl
  | [], _, _, h, e => by cases h; cases e; rfl
  | d :: r, _, ns, ⟨v, vr, e1, h, t⟩, e => by
    subst e1
    unfold blsD at e
    split at e
    · rename_i e2; cases e2
    · rename_i i r' e2
      cases e2
      cases q : blsD r with
      | none => rw [q] at e; cases e
      | some ms =>
        rw [q] at e
        cases e
        rw [denL_bls t q]
        cases h
        rfl
    · cases e
def dAny : List Dat → Option Dat
  | [.lst _ ds] => (blsD ds).map fun bs => .bl (bs.any id)
  | _ => none
def dAll : List Dat → Option Dat
  | [.lst _ ds] => (blsD ds).map fun bs => .bl (bs.all id)
  | _ => none
theorem opl_any : OpL K (rAny K) dAny := by
  intro H0 L LL H vs ds z Q gd hp hz hq
  unfold dAny at hz
  split at hz
  · rename_i tt ds
    obtain ⟨v, rfl, p, ws, rfl, _, _, h, q⟩ := pair1 hp
    cases hb : blsD ds with
    | none => rw [hb] at hz; cases hz
    | some bs =>
      rw [hb] at hz
      cases hz
      have := denL_bls q hb
      subst this
      exact ⟨p, bs, rfl, .of h, hq _ _ (Same.refl _) rfl⟩
  · cases hz
theorem opl_all : OpL K (rAll K) dAll := by
  intro H0 L LL H vs ds z Q gd hp hz hq
  unfold dAll at hz
  split at hz
  · rename_i tt ds
    obtain ⟨v, rfl, p, ws, rfl, _, _, h, q⟩ := pair1 hp
    cases hb : blsD ds with
    | none => rw [hb] at hz; cases hz
    | some bs =>
      rw [hb] at hz
      cases hz
      have := denL_bls q hb
      subst this
      exact ⟨p, bs, rfl, .of h, hq _ _ (Same.refl _) rfl⟩
  · cases hz
def dSum : List Dat → Option Dat
  | [.lst _ ds] => (intsD ds).map fun bs => .int bs.sum
  | _ => none
theorem opl_sum : OpL K (rSum K) dSum := by
  intro H0 L LL H vs ds z Q gd hp hz hq
  unfold dSum at hz
  split at hz
  · rename_i tt ds
    obtain ⟨v, rfl, p, ws, rfl, _, _, h, q⟩ := pair1 hp
    cases hb : intsD ds with
    | none => rw [hb] at hz; cases hz
    | some bs =>
      rw [hb] at hz
      cases hz
      have := denL_ints q hb
      subst this
      exact ⟨p, bs, rfl, .of h, hq _ _ (Same.refl _) rfl⟩
  · cases hz
theorem de_any (hc : X.calm = true) (hm : X.mg "any" = none) (ha : DA false X W H0 L (e :: es) fa) (hg : Gl X "any" := by rfl)
    (he : starEach (e :: es) X.env = (false, eval e X.env) :: starEach es X.env := by rfl) (hpl : (backTo pos (starEach es X.env)).any (·.1) = false := by rfl) : DE m X W H0 L (.Call (.Name "any" p) (e :: es) [] pos) (biD dAny fa) :=
  de_bi (cr_any hc) opl_any hm (by decide +kernel) ha hg (by decide) (by decide) he hpl
theorem de_all (hc : X.calm = true) (hm : X.mg "all" = none) (ha : DA false X W H0 L (e :: es) fa) (hg : Gl X "all" := by rfl)
    (he : starEach (e :: es) X.env = (false, eval e X.env) :: starEach es X.env := by rfl) (hpl : (backTo pos (starEach es X.env)).any (·.1) = false := by rfl) : DE m X W H0 L (.Call (.Name "all" p) (e :: es) [] pos) (biD dAll fa) :=
  de_bi (cr_all hc) opl_all hm (by decide +kernel) ha hg (by decide) (by decide) he hpl
theorem de_sum (hc : X.calm = true) (hm : X.mg "sum" = none) (ha : DA false X W H0 L (e :: es) fa) (hg : Gl X "sum" := by rfl)
    (he : starEach (e :: es) X.env = (false, eval e X.env) :: starEach es X.env := by rfl) (hpl : (backTo pos (starEach es X.env)).any (·.1) = false := by rfl) : DE m X W H0 L (.Call (.Name "sum" p) (e :: es) [] pos) (biD dSum fa) :=
  de_bi (cr_sum hc) opl_sum hm (by decide +kernel) ha hg (by decide) (by decide) he hpl
def dMin2 : List Dat → Option Dat
  | [.int i, .int j] => some (.int (if j < i then j else i))
  | _ => none
def dMax2 : List Dat → Option Dat
  | [.int i, .int j] => some (.int (if j > i then j else i))
  | _ => none
theorem opl_min2 : OpL K (fun xs H Q => ∃ i j, xs = [.int i, .int j] ∧ Q (.int (if j < i then j else i)) H) dMin2 := by
  intro H0 L LL H vs ds z Q gd hp hz hq
  unfold dMin2 at hz
  split at hz
  · obtain ⟨v, w, rfl, h1, h2⟩ := pair2 hp
    cases hz
    have h1 : v = _ := h1
    have h2 : w = _ := h2
    subst h1 h2
    exact ⟨_, _, rfl, hq _ _ (Same.refl _) rfl⟩
  · cases hz
theorem opl_max2 : OpL K (fun xs H Q => ∃ i j, xs = [.int i, .int j] ∧ Q (.int (if j > i then j else i)) H) dMax2 := by
  intro H0 L LL H vs ds z Q gd hp hz hq
  unfold dMax2 at hz
  split at hz
  · obtain ⟨v, w, rfl, h1, h2⟩ := pair2 hp
    cases hz
    have h1 : v = _ := h1
    have h2 : w = _ := h2
    subst h1 h2
    exact ⟨_, _, rfl, hq _ _ (Same.refl _) rfl⟩
  · cases hz
theorem de_min2 (hc : X.calm = true) (hm : X.mg "min" = none) (ha : DA false X W H0 L (e :: es) fa) (hg : Gl X "min" := by rfl)
    (he : starEach (e :: es) X.env = (false, eval e X.env) :: starEach es X.env := by rfl) (hpl : (backTo pos (starEach es X.env)).any (·.1) = false := by rfl) : DE m X W H0 L (.Call (.Name "min" p) (e :: es) [] pos) (biD dMin2 fa) :=
  de_bi (call_min2 hc) opl_min2 hm (by decide +kernel) ha hg (by decide) (by decide) he hpl
theorem de_max2 (hc : X.calm = true) (hm : X.mg "max" = none) (ha : DA false X W H0 L (e :: es) fa) (hg : Gl X "max" := by rfl)
    (he : starEach (e :: es) X.env = (false, eval e X.env) :: starEach es X.env := by rfl) (hpl : (backTo pos (starEach es X.env)).any (·.1) = false := by rfl) : DE m X W H0 L (.Call (.Name "max" p) (e :: es) [] pos) (biD dMax2 fa) :=
  de_bi (call_max2 hc) opl_max2 hm (by decide +kernel) ha hg (by decide) (by decide) he hpl
/-- tuple(x) -/
def dTuple : List Dat → Option Dat
  | [.lst _ ds] => some (.tup ds)
  | [.tup ds] => some (.tup ds)
  | _ => none
theorem opl_tuple : OpL K (fun xs H Q => ∃ p ys, xs = [.ref p] ∧ ((SqL K H p ys ∧ ∀ l, H l = none → Q (.ref l) (upd H l (.tup ys))) ∨ (SqT K H p ys ∧ Q (.ref p) H))) dTuple := by
  intro H0 L LL H vs ds z Q gd hp hz hq
  unfold dTuple at hz
  split at hz
  · obtain ⟨v, rfl, p, ws, rfl, _, _, h, q⟩ := pair1 hp
    cases hz
    exact ⟨p, ws, rfl, .inl ⟨.of h, fun l hl => hq _ _ (same_new hl) (gd.tup hl q)⟩⟩
  · obtain ⟨v, rfl, p, ws, rfl, h, q⟩ := pair1 hp
    cases hz
    exact ⟨p, ws, rfl, .inr ⟨h.sq, hq _ _ (Same.refl _) ⟨p, ws, rfl, h, q⟩⟩⟩
  · cases hz
theorem de_tuple (hm : X.mg "tuple" = none) (ha : DA false X W H0 L (e :: es) fa) (hg : Gl X "tuple" := by rfl)
    (he : starEach (e :: es) X.env = (false, eval e X.env) :: starEach es X.env := by rfl) (hpl : (backTo pos (starEach es X.env)).any (·.1) = false := by rfl) : DE m X W H0 L (.Call (.Name "tuple" p) (e :: es) [] pos) (biD dTuple fa) :=
  de_ty call_tuple_of opl_tuple hm (by decide +kernel) ha hg (by decide) (by decide) he hpl

/-! ### built-ins that make a list -/
def OpF (K : PySem.W.Frag) (r : List V → Hp → VK → Prop) (F : List Dat → Option (List Dat)) : Prop := ∀ {H0 : Hp} {L LL : Addr → Prop} {H : Hp} {vs : List V} {ds es : List Dat} {Q : VK}, Good H0 L LL H → Paired (DM false K H0 L LL H) ds vs → F ds = some es →
  (∀ p us, H p = none → DenL K H0 LL H es us → Q (.ref p) (upd H p (.lst us))) → r vs H Q
def mkD (F : List Dat → Option (List Dat)) (fa : DEnv → Rs (List Dat)) (ε : DEnv) : Rs (List Dat) := fa ε >>= fun ds => Rs.of (F ds)
theorem f_use {r : List V → Hp → VK → Prop} {F : List Dat → Option (List Dat)} {Q : VK} (hF : OpF K r F) (h : tF K mg W H0 L (mkD F fa) σ H Q) : tCB r (tA false K mg W H0 L fa) σ H Q := by
  obtain ⟨ε, rel, h⟩ := h
  unfold mkD at h
  rw [Rs.to_bind] at h
  refine ⟨ε, rel, h.imp (fun ds _ hd vs H1 s1 q => ?_) fun n z => z⟩
  obtain ⟨z, hz, hq⟩ := Rs.to_of hd
  exact hF (rel.mono s1).good q hz fun p us hp hd => hq p us _ (s1.trans (same_new hp)) (s1.free hp) upd_same (hd.kp (kp_or (same_new hp) hp) fun _ z => z)
theorem df_bi {F : List Dat → Option (List Dat)} (hc : CallR X (.builtin idn) r) (hF : OpF X.K r F) (hm : X.mg x = none) (hv : bootBuiltins x = some (.builtin idn)) (ha : DA false X W H0 L (e :: es) fa) (hg : Gl X x := by rfl) (hn : x ≠ "__name__" := by decide) (hdb : (x == ("__debug__" : Str)) = false := by decide)
    (he : starEach (e :: es) X.env = (false, eval e X.env) :: starEach es X.env := by rfl) (hpl : (backTo pos (starEach es X.env)).any (·.1) = false := by rfl) : DF X W H0 L (.Call (.Name x p) (e :: es) [] pos) (mkD F fa) :=
  peimp (pe_callB hc hg hm hv ha hn hdb he hpl) fun _ _ _ h => f_use hF h
theorem df_ty {F : List Dat → Option (List Dat)} (hc : CallR X (.type T) r) (hF : OpF X.K r F) (hm : X.mg x = none) (hv : bootBuiltins x = some (.type T)) (ha : DA false X W H0 L (e :: es) fa) (hg : Gl X x := by rfl) (hn : x ≠ "__name__" := by decide) (hdb : (x == ("__debug__" : Str)) = false := by decide)
    (he : starEach (e :: es) X.env = (false, eval e X.env) :: starEach es X.env := by rfl) (hpl : (backTo pos (starEach es X.env)).any (·.1) = false := by rfl) : DF X W H0 L (.Call (.Name x p) (e :: es) [] pos) (mkD F fa) :=
  peimp (pe_callTy hc hg hm hv ha hn hdb he hpl) fun _ _ _ h => f_use hF h
def dList : List Dat → Option (List Dat)
  | [.lst _ ds] => some ds
  | [.tup ds] => some ds
  | _ => none
theorem opf_list : OpF K (fun xs H Q => ∃ p ys, xs = [.ref p] ∧ (SqL K H p ys ∨ SqT K H p ys) ∧ ∀ l, H l = none → Q (.ref l) (upd H l (.lst ys))) dList := by
  intro H0 L LL H vs ds z Q gd hp hz hq
  unfold dList at hz
  split at hz
  · obtain ⟨v, rfl, p, ws, rfl, _, _, h, q⟩ := pair1 hp
    cases hz
    exact ⟨p, ws, rfl, .inl (.of h), fun l hl => hq _ _ hl q⟩
  · obtain ⟨v, rfl, p, ws, rfl, h, q⟩ := pair1 hp
    cases hz
    exact ⟨p, ws, rfl, .inr h.sq, fun l hl => hq _ _ hl q⟩
  · cases hz
theorem df_list (hm : X.mg "list" = none) (ha : DA false X W H0 L (e :: es) fa) (hg : Gl X "list" := by rfl)
    (he : starEach (e :: es) X.env = (false, eval e X.env) :: starEach es X.env := by rfl) (hpl : (backTo pos (starEach es X.env)).any (·.1) = false := by rfl) : DF X W H0 L (.Call (.Name "list" p) (e :: es) [] pos) (mkD dList fa) :=
  df_ty call_list_of opf_list hm (by decide +kernel) ha hg (by decide) (by decide) he hpl

/-! ### isinstance(x, a built-in type) -/
def tyN : Dat → Option String
  | .non => some "NoneType"
  | .bl _ => some "bool"
  | .int _ => some "int"
  | .str _ => some "str"
  | .tup _ => some "tuple"
  | .lst _ _ => some "list"
  | _ => none
def dIsi (T : String) (d : Dat) : Option Dat := (tyN d).bind fun a => (kitB a T).map .bl
theorem ty_of {d : Dat} {v : V} {a : String} (h : DenS K H0 L LL H d v) (e : tyN d = some a) : TyX K H v (.type a) := by
  cases d with
  | non => cases e; cases h; exact .base .non
  | bl b => cases e; cases h; exact .base (.bl _)
  | int b => cases e; cases h; exact .base (.int _)
  | str b => cases e; cases h; exact .base (.str _)
  | tup ds => cases e; obtain ⟨p, vs, rfl, t, _⟩ := h; exact .base (.tup t.2)
  | lst t ds => cases e; obtain ⟨p, vs, rfl, _, _, t, _⟩ := h; exact .base (.lst t)
  | _ => cases e
def isiD (T : String) (f : DEnv → Rs Dat) (ε : DEnv) : Rs Dat := f ε >>= fun d => Rs.of (dIsi T d)
theorem pe_tyn {n : Str} {p2 : Pos} (hg : Gl X n) (hm : X.mg n = none) (hv : bootBuiltins n = some (.type T)) (hn : n ≠ "__name__") (hd : (n == ("__debug__" : Str)) = false) : PE X (.Name n p2) (tC (.ty T)) := pe_bltn hg hm hv rfl hn hd
theorem de_isi {n : Str} {p2 : Pos} (hm : X.mg "isinstance" = none) (hm2 : X.mg n = none) (hv : bootBuiltins n = some (.type T)) (ha : DE false X W H0 L a f) (hg : Gl X "isinstance" := by rfl) (hg2 : Gl X n := by rfl) (hn : n ≠ "__name__" := by decide) (hd : (n == ("__debug__" : Str)) = false := by decide)
    (he1 : starEach [a, .Name n p2] X.env = (false, eval a X.env) :: starEach [.Name n p2] X.env := by rfl) (he2 : starEach [.Name n p2] X.env = (false, eval (.Name n p2) X.env) :: starEach [] X.env := by rfl) (hpl : (backTo pos (starEach [.Name n p2] X.env)).any (·.1) = false := by rfl) :
    DE m X W H0 L (.Call (.Name "isinstance" p) [a, .Name n p2] [] pos) (isiD T f) :=
  peimp (pe_callB call_isi hg hm (by decide +kernel) (pa_cons ha (pa_cons (pe_tyn hg2 hm2 hv hn hd) pa_nil he2) he1) (by decide) (by decide) he1 hpl) fun σ H Q ⟨ε, r, h⟩ => by
    unfold isiD at h
    rw [Rs.to_bind] at h
    refine ⟨ε, r, h.imp (fun d _ hd v H1 s1 q => ?_) fun n z => z⟩
    obtain ⟨z, hz, hq⟩ := Rs.to_of hd
    unfold dIsi at hz
    cases ha : tyN d with
    | none => rw [ha] at hz; cases hz
    | some a =>
      rw [ha] at hz
      cases hk : kitB a T with
      | none => rw [Option.bind_some, hk] at hz; cases hz
      | some b =>
        rw [Option.bind_some, hk] at hz
        cases hz
        exact ⟨v, .ty T, _, _, b, rfl, .ty T, ty_of q ha, kit_ty hk, hq _ _ s1 (Den.m (d := .bl b) r.good.sub rfl)⟩

/-! ### stores into a list of one's own -/
def ownL (i : Nat) (ε : DEnv) : Rs (Bool × List Dat) := match ε[i]? with
  | some (some (true, .lst t ds)) => .ok (t, ds)
  | _ => .no
theorem ownL_to {i : Nat} {P : Bool × List Dat → Prop} {E : Str → Prop} (h : (ownL i ε).to P E) : ∃ t ds, ε[i]? = some (some (true, .lst t ds)) ∧ P (t, ds) := by
  unfold ownL at h
  split at h
  · rename_i t ds he
    exact ⟨t, ds, he, h⟩
  · exact h.elim
noncomputable def appD (i : Nat) (f : DEnv → Rs Dat) (ε : DEnv) : Rs Out := ownL i ε >>= fun p => f ε >>= fun d => chk (sz (p.2.length + 1)) (.ok (.nx (ε.set i (some (true, .lst p.1 (p.2 ++ [d]))))))
theorem app_use {i : Nat} {D : Ends} (h : tD K mg W H0 L (appD i f) D σ H) : tDrop (tBM K "list" rAppend (tVar i) (tCons (tE true K mg W H0 L f) tNil)) D σ H := by
  obtain ⟨ε, r, h⟩ := h
  unfold appD at h
  rw [Rs.to_bind] at h
  obtain ⟨t, ds, he, h⟩ := ownL_to h
  obtain ⟨a, ha, h0, hL, vs, hv, q⟩ := r.own i _ he
  rw [Rs.to_bind] at h
  refine ⟨_, ha, .inl ⟨rfl, vs, .of hv⟩, ε, r, h.imp (fun d _ hd v H1 s1 qd => ?_) fun n z => z.w r.same⟩
  obtain ⟨hs, hd⟩ := chk_to hd
  have r1 := r.mono s1
  have hv1 : H1 a = some (.lst vs) := s1 _ _ hv
  refine ⟨a, vs, v, rfl, rfl, hv1, by rw [← q.length]; exact sz_ok hs, ?_⟩
  have own : LO L ε σ a := .inr ⟨i, _, he, ha⟩
  have kp : Kp (LO L ε σ) (LO L ε σ) H1 (upd H1 a (.lst (vs ++ [v]))) := fun b o n e => ⟨n, by rw [upd_ne (fun q => n (by rw [q]; exact own))]; exact e⟩
  obtain ⟨r2, k2⟩ := r1.mut (d := .lst t (ds ++ [d])) he ha (o := .lst (vs ++ [v])) ⟨_, upd_same, ((q.same s1).app (show DenL K H0 (LO L ε σ) H1 [d] [v] from ⟨v, [], rfl, qd, rfl⟩)).kp kp fun _ z => z⟩
  exact hd _ _ r2 ((Kp.same s1).trans k2)
theorem ds_app (i : Nat) {x : Str} {px pa pc : Pos} (he : DE true X W H0 L e f) 
    (h1 : PA X [e] (tCons (tE true X.K X.mg W H0 L f) tNil) → PE X (.Call (.Attribute (.Name x px) "append" pa) [e] [] pc) (tBM X.K "list" rAppend (tVar i) (tCons (tE true X.K X.mg W H0 L f) tNil)) := by
      exact fun b => pe_bm PySem.F.plainAttrs_list PySem.F.slot_list_append PySem.F.type_list_append mt_append (pv i) b)
    (he1 : starEach [e] X.env = (false, eval e X.env) :: starEach [] X.env := by rfl)
    (hs : swapsWith (.Call (.Attribute (.Name x px) "append" pa) [e] [] pc) none pos.line X.env = pure false := by rfl) :
    DS X W H0 L (.Expr (.Call (.Attribute (.Name x px) "append" pa) [e] [] pc) pos) (appD i f) :=
  psimp (ps_expr (h1 (pa_cons he pa_nil he1)) hs) fun D σ H h => app_use h
/-- x[k] = v -/
def stD (i : Nat) (fk fv : DEnv → Rs Dat) (ε : DEnv) : Rs Out := fv ε >>= fun d => ownL i ε >>= fun p => fk ε >>= fun k => asI k >>= fun n => Rs.of (ixN p.2.length n) >>= fun j => .ok (.nx (ε.set i (some (true, .lst p.1 (p.2.set j d)))))
theorem st_use {i : Nat} {D : Ends} {fk fv : DEnv → Rs Dat} (h : tD K mg W H0 L (stD i fk fv) D σ H) : tAsg (tE true K mg W H0 L fv) (gSub (tVar i) (tE false K mg W H0 L fk) rSetL) D σ H := by
  obtain ⟨ε, r, h⟩ := h
  unfold stD at h
  rw [Rs.to_bind] at h
  refine ⟨ε, r, h.imp (fun d _ hd v H1 s1 qd => ?_) fun n z => z.w r.same⟩
  rw [Rs.to_bind] at hd
  obtain ⟨t, ds, he, hd⟩ := ownL_to hd
  obtain ⟨a, ha, h0, hL, vs, hv, q⟩ := r.own i _ he
  rw [Rs.to_bind] at hd
  refine ⟨_, ha, ε, r.mono s1, hd.imp (fun k _ hk y H2 s2 qk => ?_) fun n z => z.w (r.mono s1).same⟩
  rw [Rs.to_bind] at hk
  cases k with
  | int n =>
    have hk : (Rs.of (ixN ds.length n) >>= fun j => Rs.ok (Out.nx (ε.set i (some (true, .lst t (ds.set j d)))))).to _ _ := hk
    rw [Rs.to_bind] at hk
    obtain ⟨j, hj, hk⟩ := Rs.to_of hk
    have s := s1.trans s2
    have r1 := r.mono s
    have hv1 : H2 a = some (.lst vs) := s _ _ hv
    refine ⟨a, vs, n, j, rfl, qk, hv1, by rw [← q.length]; exact hj, ?_⟩
    have own : LO L ε σ a := .inr ⟨i, _, he, ha⟩
    have kp : Kp (LO L ε σ) (LO L ε σ) H2 (upd H2 a (.lst (vs.set j v))) := fun b o n e => ⟨n, by rw [upd_ne (fun q => n (by rw [q]; exact own))]; exact e⟩
    obtain ⟨r2, k2⟩ := r1.mut (d := .lst t (ds.set j d)) he ha (o := .lst (vs.set j v)) ⟨_, upd_same, ((q.same s).set j (Den.same s2 qd)).kp kp fun _ z => z⟩
    exact hk _ _ r2 ((Kp.same s).trans k2)
  | _ => exact hk.elim
theorem ds_st (i : Nat) {x : Str} {px p2 : Pos} {fk fv : DEnv → Rs Dat} (hk : DE false X W H0 L a fk) (hv : DE true X W H0 L e fv)
    (h1 : PE X a (tE false X.K X.mg W H0 L fk) → PG X (.Subscript (.Name x px) a p2) (gSub (tVar i) (tE false X.K X.mg W H0 L fk) rSetL) := by exact fun b => pg_sub (pv i) b set_list)
    (hs : swapsWithSole [.Subscript (.Name x px) a p2] e pos.line X.env = pure false := by rfl) (hw : swappedStores [.Subscript (.Name x px) a p2] e X.env = pure none := by rfl)
    (h2 : (assignEach [.Subscript (.Name x px) a p2] X.env).map (·.2) = [assign (.Subscript (.Name x px) a p2) X.env] := by rfl) : DS X W H0 L (.Assign [.Subscript (.Name x px) a p2] e pos) (stD i fk fv) :=
  psimp (ps_asg hv (h1 hk) hs hw h2) fun D σ H h => st_use h
end
end DL

set_option maxRecDepth 100000
set_option maxHeartbeats 4000000
/-! DLi: defs by name; the law's own promise. -/
namespace DL
open PySem PySem.Spec PyProof.Rows L2

/-- the def that the module's name x holds computes F, n arguments, at most k calls deep -/
structure DefOk (P : Program) (w : World) (K : PySem.W.Frag) (mg : Str → Option Value) (base : Heap) (x : Str) (n k : Nat) (F : List Dat → Rs Dat) : Prop where
  ex : ∃ f fd ps, FnOk P w K mg base (L2.CX P w) k f fd ps (spD K mg n F) ∧ mg x = some (.ref f) ∧ PySem.W.keepIn K (.ref f) = true ∧ Binds K fd ps []
section
variable {P : Program} {w : World} {K : PySem.W.Frag} {mg : Str → Option Value} {base : Heap} {x qual : Str} {n k j : Nat} {F G : List Dat → Rs Dat}
theorem DefOk.mono (D : DefOk P w K mg base x n k F) (h : k ≤ j) : DefOk P w K mg base x n j F := by
  obtain ⟨f, fd, ps, a, b, c, d⟩ := D.ex
  exact ⟨⟨f, fd, ps, a.mono h, b, c, d⟩⟩
theorem DefOk.eq (D : DefOk P w K mg base x n k F) (h : ∀ ds, F ds = G ds) : DefOk P w K mg base x n k G := by
  have : F = G := funext h
  rw [← this]
  exact D
/-- a weaker function -/
theorem DefOk.imp (D : DefOk P w K mg base x n k F) (h : ∀ ds d, G ds = .ok d → F ds = .ok d) (h2 : ∀ ds c, G ds = .ex c → F ds = .ex c) : DefOk P w K mg base x n k G := by
  obtain ⟨f, fd, ps, a, b, c, d⟩ := D.ex
  refine ⟨⟨f, fd, ps, a.imp fun vs H Q E ⟨hl, L, ds, trk, den, q⟩ => ⟨hl, L, ds, trk, den, ?_⟩, b, c, d⟩⟩
  cases e : G ds with
  | no => rw [e] at q; exact q.elim
  | ok z => rw [e] at q; rw [h _ _ e]; exact q
  | ex z => rw [e] at q; rw [h2 _ _ e]; exact q
theorem DefOk.none : ∀ {f : Addr} {fd : FuncData} {ps : List Str}, mg x = some (.ref f) → PySem.W.keepIn K (.ref f) = true → Binds K fd ps [] → DefOk P w K mg base x n 0 (fun _ => .no) := fun {f fd ps} a b c => by
  have no : ∀ vs H Q E, ¬ spD K mg n (fun _ => .no) vs H Q E := fun vs H Q E ⟨_, _, _, _, _, h⟩ => h
  exact ⟨⟨f, fd, ps, ⟨fun vs H Q E h => absurd h (no vs H Q E), fun A outer s H args us vs Q E _ _ _ _ h => absurd h (no vs H Q E)⟩, a, b, c⟩⟩
end
section
variable {X : Cx} {W : WX} {H0 : Hp} {L LL : Addr → Prop} {m : Bool} {a b e : Expr} {es rest : List Expr} {pos p : Pos} {f g : DEnv → Rs Dat} {fa : DEnv → Rs (List Dat)} {x : Str} {n k j : Nat} {F : List Dat → Rs Dat}
theorem dcall (G : DefOk X.prog X.w X.K X.mg X.base x n k F) (hr : Room j X.A) (hkj : k ≤ j) (tk : Takes X W) (ha : DA true X W H0 L (e :: es) fa) (hg : Gl X x := by rfl) (hdb : (x == ("__debug__" : Str)) = false := by decide) (he : starEach (e :: es) X.env = (false, eval e X.env) :: starEach es X.env := by rfl) (hpl : (backTo pos (starEach es X.env)).any (·.1) = false := by rfl) :
    DE m X W H0 L (.Call (.Name x p) (e :: es) [] pos) (callD n F fa) := by
  obtain ⟨f, fd, ps, a, b, c, d⟩ := G.ex
  exact de_call a (hr.mono hkj) b c d tk ha hg hdb he hpl
theorem dcallB (G : DefOk X.prog X.w X.K X.mg X.base x n k F) (hr : Room j X.A) (hkj : k ≤ j) (tk : Takes X W) (ha : DA false X W H0 L (e :: es) fa) (hg : Gl X x := by rfl) (hdb : (x == ("__debug__" : Str)) = false := by decide) (he : starEach (e :: es) X.env = (false, eval e X.env) :: starEach es X.env := by rfl) (hpl : (backTo pos (starEach es X.env)).any (·.1) = false := by rfl) :
    DE m X W H0 L (.Call (.Name x p) (e :: es) [] pos) (callB n F fa) := by
  obtain ⟨f, fd, ps, a, b, c, d⟩ := G.ex
  exact de_callB a (hr.mono hkj) b c d tk ha hg hdb he hpl
theorem dcallF (G : DefOk X.prog X.w X.K X.mg X.base x n k F) (hr : Room j X.A) (hkj : k ≤ j) (tk : Takes X W) (ha : DA true X W H0 L (e :: es) fa) (hg : Gl X x := by rfl) (hdb : (x == ("__debug__" : Str)) = false := by decide) (he : starEach (e :: es) X.env = (false, eval e X.env) :: starEach es X.env := by rfl) (hpl : (backTo pos (starEach es X.env)).any (·.1) = false := by rfl) :
    DF X W H0 L (.Call (.Name x p) (e :: es) [] pos) (ownC (callD n F fa)) := by
  obtain ⟨f, fd, ps, a, b, c, d⟩ := G.ex
  exact df_call a (hr.mono hkj) b c d tk ha hg hdb he hpl
end
section
variable {P : Program} {w : World} {K : PySem.W.Frag} {mg : Str → Option Value} {base : Heap} {x qual : Str} {st : Stmt} {f : Addr} {fd : FuncData} {N ps : List Str} {k : Nat} {fs : DEnv → Rs Out}
/-- THE RULE for a def -/
theorem def_ok (Fn : Fun K x qual st f fd) (hm : mg x = some (.ref f)) (hb : Binds K fd ps []) (S : FnScope N ps (defScope st))
    (hbody : ∀ (cdv : Value) (A : Around) (outer : List Env) (s : Shared) (H : Hp) (E : XK), Room k (A.deeper (envOfC qual (defScope st) s.heap.objs.size f cdv)) → ∀ L : Addr → Prop,
      DSs (cxOf (L2.CX P w) P w K mg base N qual (defScope st) f cdv A outer s H E) (fun c d _ H' => E c d H') H L (defBody st) fs) : DefOk P w K mg base x ps.length (k + 1) (runF N.length fs) :=
  ⟨⟨f, fd, ps, fn_okD Fn S hbody, hm, Fn.kp, hb⟩⟩
/-- what the law promises -/
def spLaw (K : PySem.W.Frag) : Sp := fun vs H Q _ => ∃ (a : Addr) (ns : List Int), vs = [.ref a] ∧ SqL K H a (ns.map V.int) ∧ ns.length ≤ 63 ∧ ∀ H', Q (.bl true) H'
theorem law_ok {F : List Dat → Rs Dat} {x : Str} (G : FnOk P w K mg base (L2.CX P w) k f fd [x] (spD K mg 1 F)) (hF : ∀ ns : List Int, ns.length ≤ 63 → F [.scr ns] = .ok (.bl true)) : FnOk P w K mg base (L2.CX P w) k f fd [x] (spLaw K) :=
  G.imp fun vs H Q E ⟨a, ns, e, hS, hn, q⟩ => by
    subst e
    refine ⟨rfl, fun _ => False, [.scr ns], fun _ z => z.elim, ⟨_, [], rfl, ⟨a, rfl, ?_⟩, rfl⟩, ?_⟩
    · rcases hS with h | h
      · exact .inl ⟨id, h⟩
      · exact .inr (.inr h)
    · rw [hF ns hn]
      exact fun v H' _ hv => by
        have hv : v = .bl true := hv
        rw [hv]
        exact q H'
theorem cx_false {outer : List Env} {H : Hp} {s s' : Shared} {e : Value} (h : L2.CX P w outer H s (fun _ _ _ => False) e s') : False := by
  obtain ⟨_, _, _, _, _, _, _, _, _, _, _, _, z⟩ := h
  exact z
end
end DL

set_option maxRecDepth 100000
set_option maxHeartbeats 4000000
/-! DLm: reckoning with the pure functions. -/
namespace DL
open PySem PySem.Spec PyProof.Rows L2

/-! ### the combinators by one step each -/
@[simp] theorem runF_eq (n : Nat) (fs : DEnv → Rs Out) (ds : List Dat) : runF n fs ds = (fs (startD n ds) >>= fun o => match o with
  | .nx _ => .ok .non
  | .rt d => .ok d
  | _ => .no) := rfl
theorem startD_eq (n : Nat) (ds : List Dat) : startD n ds = ds.map (fun d => some (false, d)) ++ List.replicate (n - ds.length) none := rfl
variable {ε : DEnv} {f g : DEnv → Rs Dat} {fa : DEnv → Rs (List Dat)} {fs gs : DEnv → Rs Out} {c c' : DEnv → Rs Bool} {m : Bool} {i : Nat}
@[simp] theorem seqD_eq : seqD fs gs ε = (fs ε >>= fun o => match o with
  | .nx ε' => gs ε'
  | o => .ok o) := rfl
@[simp] theorem setD_eq : setD i f ε = (f ε >>= fun d => .ok (.nx (ε.set i (some (false, d))))) := rfl
@[simp] theorem ownD_eq : ownD i fa ε = (fa ε >>= fun ds => .ok (.nx (ε.set i (some (true, .lst true ds))))) := rfl
@[simp] theorem retD_eq : retD f ε = (f ε >>= fun d => .ok (.rt d)) := rfl
@[simp] theorem iteD_eq : iteD c fs gs ε = (c ε >>= fun b => if b = true then fs ε else gs ε) := rfl
@[simp] theorem drpD_eq : drpD f ε = (f ε >>= fun _ => .ok (.nx ε)) := rfl
@[simp] theorem tst_eq : tst f ε = (f ε >>= asB) := rfl
@[simp] theorem asB_bl (b : Bool) : asB (.bl b) = .ok b := rfl
@[simp] theorem asI_int (b : Int) : asI (.int b) = .ok b := rfl
@[simp] theorem bop_eq {F : Dat → Dat → Option Dat} : bop F f g ε = (f ε >>= fun d => g ε >>= fun e => Rs.of (F d e)) := rfl
@[simp] theorem uop_eq {F : Dat → Option Dat} : uop F f ε = (f ε >>= fun d => Rs.of (F d)) := rfl
@[simp] theorem kst_eq {d : Dat} : kst d ε = .ok d := rfl
@[simp] theorem argsN_eq : argsN ε = .ok [] := rfl
@[simp] theorem argsC_eq : argsC f fa ε = (f ε >>= fun d => fa ε >>= fun ds => .ok (d :: ds)) := rfl
@[simp] theorem biD_eq {F : List Dat → Option Dat} : biD F fa ε = (fa ε >>= fun ds => Rs.of (F ds)) := rfl
@[simp] theorem mkD_eq {F : List Dat → Option (List Dat)} : mkD F fa ε = (fa ε >>= fun ds => Rs.of (F ds)) := rfl
@[simp] theorem callD_eq {n : Nat} {F : List Dat → Rs Dat} : callD n F fa ε = (fa ε >>= fun ds => chk (ds.length == n) (F (olds ds))) := rfl
@[simp] theorem callB_eq {n : Nat} {F : List Dat → Rs Dat} : callB n F fa ε = (fa ε >>= fun ds => chk (ds.length == n) (F (olds ds) >>= fun d => chk (fresh d) (.ok d))) := rfl
@[simp] theorem tupD_eq : tupD fa ε = (fa ε >>= fun ds => chk (sz ds.length) (.ok (.tup ds))) := rfl
@[simp] theorem lstD_eq : lstD fa ε = (fa ε >>= fun ds => .ok (.lst true ds)) := rfl
@[simp] theorem dspD_eq : dspD fa ε = (fa ε >>= fun ds => chk (sz ds.length) (.ok ds)) := rfl
@[simp] theorem ownC_eq : ownC f ε = (f ε >>= lstOf) := rfl
@[simp] theorem notT_eq : notT c ε = (c ε >>= fun b => .ok (!b)) := rfl
@[simp] theorem andT_eq : andT c c' ε = (c ε >>= fun b => if b = true then c' ε else .ok false) := rfl
@[simp] theorem orT_eq : orT c c' ε = (c ε >>= fun b => if b = true then .ok true else c' ε) := rfl
@[simp] theorem andV_eq : andV f g ε = (f ε >>= fun d => asB d >>= fun b => if b = true then g ε else .ok (.bl false)) := rfl
@[simp] theorem orV_eq : orV f g ε = (f ε >>= fun d => asB d >>= fun b => if b = true then .ok (.bl true) else g ε) := rfl
@[simp] theorem noO_eq : noO ε = .ok none := rfl
@[simp] theorem smO_eq : smO f ε = (f ε >>= fun d => asI d >>= fun i => .ok (some i)) := rfl
@[simp] theorem slD_eq {l h : DEnv → Rs (Option Int)} : slD f l h ε = (f ε >>= fun d => l ε >>= fun lo => h ε >>= fun hi => Rs.of (dSl d lo hi)) := rfl
@[simp] theorem isiD_eq {T : String} : isiD T f ε = (f ε >>= fun d => Rs.of (dIsi T d)) := rfl
@[simp] theorem fgtD_eq {is : List Nat} : fgtD is fs ε = (fs ε >>= fun o => .ok (o.fgt is)) := rfl
@[simp] theorem outfgt_nx {is : List Nat} : (Out.nx ε).fgt is = .nx (fgt is ε) := rfl
@[simp] theorem outfgt_ct {is : List Nat} : (Out.ct ε).fgt is = .ct (fgt is ε) := rfl
@[simp] theorem outfgt_bk {is : List Nat} : (Out.bk ε).fgt is = .bk ε := rfl
@[simp] theorem outfgt_rt {is : List Nat} {d : Dat} : (Out.rt d).fgt is = .rt d := rfl
@[simp] theorem fgt_nil : fgt [] ε = ε := rfl
@[simp] theorem fgt_cons {j : Nat} {is : List Nat} : fgt (j :: is) ε = fgt is (ε.set j none) := rfl
@[simp] theorem walkD_eq : walkD f ε = (f ε >>= asL) := rfl
@[simp] theorem walkT_eq : walkT f ε = (f ε >>= asT) := rfl
@[simp] theorem asL_lst {t : Bool} {ds : List Dat} : asL (.lst t ds) = .ok ds := rfl
@[simp] theorem asT_tup {ds : List Dat} : asT (.tup ds) = .ok ds := rfl
@[simp] theorem rngD_eq {F : List Dat → Rs (List Dat)} : rngD F fa ε = (fa ε >>= F) := rfl
@[simp] theorem loopD_eq {w : DEnv → Rs (List Dat)} {body : Dat → DEnv → Rs Out} : loopD w body ε = (w ε >>= fun ds => forD body ds ε) := rfl
@[simp] theorem asgD_eq {G : Dat → DEnv → Option DEnv} : asgD G f ε = (f ε >>= fun d => Rs.of (G d ε) >>= fun ε' => .ok (.nx ε')) := rfl
@[simp] theorem trn_eq {G : Dat → DEnv → Option DEnv} {d : Dat} : trn G fs d ε = (Rs.of (G d ε) >>= fs) := rfl
@[simp] theorem gN_eq {d : Dat} : gN i d ε = some (ε.set i (some (false, d))) := rfl
@[simp] theorem gT_eq {G : List Dat → DEnv → Option DEnv} {ds : List Dat} : gT G (.tup ds) ε = G ds ε := rfl
@[simp] theorem gNil_eq : gNil' [] ε = some ε := rfl
@[simp] theorem gCons_eq {G : Dat → DEnv → Option DEnv} {Gs : List Dat → DEnv → Option DEnv} {d : Dat} {ds : List Dat} : gCons' G Gs (d :: ds) ε = (G d ε).bind (Gs ds) := rfl
@[simp] theorem forD_nil {body : Dat → DEnv → Rs Out} : forD body [] ε = .ok (.nx ε) := rfl
@[simp] theorem yesT_eq : yesT ε = .ok true := rfl
@[simp] theorem olds_nil : olds [] = [] := rfl
@[simp] theorem olds_cons {d : Dat} {ds : List Dat} : olds (d :: ds) = old d :: olds ds := rfl
@[simp] theorem old_int {k : Int} : old (.int k) = .int k := rfl
@[simp] theorem old_bl {k : Bool} : old (.bl k) = .bl k := rfl
@[simp] theorem old_str {k : Str} : old (.str k) = .str k := rfl
@[simp] theorem old_non : old .non = .non := rfl
@[simp] theorem old_tup {ds : List Dat} : old (.tup ds) = .tup (olds ds) := rfl
@[simp] theorem old_lst {t : Bool} {ds : List Dat} : old (.lst t ds) = .lst false (olds ds) := rfl
@[simp] theorem fresh_int {k : Int} : fresh (.int k) = true := rfl
@[simp] theorem fresh_bl {k : Bool} : fresh (.bl k) = true := rfl
@[simp] theorem fresh_str {k : Str} : fresh (.str k) = true := rfl
@[simp] theorem fresh_non : fresh .non = true := rfl
@[simp] theorem fresh_tup {ds : List Dat} : fresh (.tup ds) = freshs ds := rfl
@[simp] theorem fresh_lst {t : Bool} {ds : List Dat} : fresh (.lst t ds) = (t && freshs ds) := rfl
@[simp] theorem freshs_nil : freshs [] = true := rfl
@[simp] theorem freshs_cons {d : Dat} {ds : List Dat} : freshs (d :: ds) = (fresh d && freshs ds) := rfl
theorem olds_map {α : Type} (h : α → Dat) (k : α → Dat) (e : ∀ a, old (h a) = k a) : ∀ l : List α, olds (l.map h) = l.map k
  | [] => rfl
  | a :: l => by simp [e, olds_map h k e l]
@[simp] theorem olds_ints (l : List Int) : olds (l.map .int) = l.map .int := olds_map _ _ (fun _ => rfl) l
@[simp] theorem freshs_ints : ∀ l : List Int, freshs (l.map .int) = true
  | [] => rfl
  | a :: l => by simp [freshs_ints l]

/-! ### slots -/
theorem rdv_some {o : Bool} {d : Dat} (h : ε[i]? = some (some (o, d))) : rdv m i ε = if (m && o) = true then .no else .ok d := by
  unfold rdv
  rw [h]
@[simp] theorem rdv_zero {o : Bool} {d : Dat} {r : DEnv} : rdv m 0 (some (o, d) :: r) = if (m && o) = true then .no else .ok d := rfl
@[simp] theorem rdv_succ {s : Option (Bool × Dat)} {r : DEnv} : rdv m (i + 1) (s :: r) = rdv m i r := by
  unfold rdv
  rw [List.getElem?_cons_succ]
@[simp] theorem ownL_zero {t : Bool} {ds : List Dat} {r : DEnv} : ownL 0 (some (true, .lst t ds) :: r) = .ok (t, ds) := rfl
@[simp] theorem ownL_succ {s : Option (Bool × Dat)} {r : DEnv} : ownL (i + 1) (s :: r) = ownL i r := by
  unfold ownL
  rw [List.getElem?_cons_succ]
@[simp] theorem fz_own {d : Dat} {r : DEnv} : fz 0 (some (true, d) :: r) = some (false, d) :: r := rfl
@[simp] theorem fz_val {d : Dat} {r : DEnv} : fz 0 (some (false, d) :: r) = some (false, d) :: r := rfl
@[simp] theorem fz_none {r : DEnv} : fz 0 (none :: r) = none :: r := rfl
@[simp] theorem fz_succ {s : Option (Bool × Dat)} {r : DEnv} : fz (i + 1) (s :: r) = s :: fz i r := by
  unfold fz
  rw [List.getElem?_cons_succ]
  split
  · rename_i e
    rw [e]
    rfl
  · rfl

/-! ### numbers -/
@[simp] theorem sz_small {n : Nat} (h : n ≤ 16777216) : sz n = true := sz_le h
theorem dI_ok {C : Int → Int → Prop} {h : Int → Int → Int} {x y : Int} (hc : C x y) : dI C h (.int x) (.int y) = some (.int (h x y)) := by
  show (if cls (C x y) = true then _ else _) = _
  rw [if_pos (cls_true hc)]
@[simp] theorem dAdd_int {x y : Int} : dAdd (.int x) (.int y) = some (.int (x + y)) := rfl
@[simp] theorem dSub_int {x y : Int} : dSub (.int x) (.int y) = some (.int (x - y)) := dI_ok trivial
@[simp] theorem dNeg_int {x : Int} : dNeg (.int x) = some (.int (-x)) := rfl
theorem dMod_int {x y : Int} (h : 0 < y) : dMod (.int x) (.int y) = some (.int (x % y)) := dI_ok h
theorem dFdiv_int {x y : Int} (h : 0 < y) (h2 : y < 2 ^ 64) : dFdiv (.int x) (.int y) = some (.int (x / y)) := by
  refine dI_ok ⟨h, ?_⟩
  have h3 : y.natAbs < 2 ^ 64 := by omega
  exact Nat.lt_of_lt_of_le (Nat.log2_lt (by omega) |>.mpr h3) (by decide)
theorem dMul_l {x y : Int} (h : -(2 ^ 64) < x) (h2 : x < 2 ^ 64) : dMul (.int x) (.int y) = some (.int (x * y)) := dI_ok (.inl (.inl ⟨h, h2⟩))
theorem dMul_r {x y : Int} (h : -(2 ^ 64) < y) (h2 : y < 2 ^ 64) : dMul (.int x) (.int y) = some (.int (x * y)) := dI_ok (.inl (.inr ⟨h, h2⟩))
theorem dPow_int {x y : Int} (h : 0 ≤ y) (h2 : y ≤ 1000000) (h3 : x.natAbs < 2 ^ 64) : dPow (.int x) (.int y) = some (.int (x ^ y.toNat)) := dI_ok ⟨h, h2, h3⟩
theorem dShr_int {x y : Int} (h : 0 ≤ y) : dShr (.int x) (.int y) = some (.int (x / 2 ^ y.toNat)) := dI_ok h
@[simp] theorem dLt_int {x y : Int} : dLt (.int x) (.int y) = some (.bl (decide (x < y))) := rfl
@[simp] theorem dLe_int {x y : Int} : dLe (.int x) (.int y) = some (.bl (decide (x ≤ y))) := rfl
@[simp] theorem dGt_int {x y : Int} : dGt (.int x) (.int y) = some (.bl (decide (y < x))) := rfl
@[simp] theorem dGe_int {x y : Int} : dGe (.int x) (.int y) = some (.bl (decide (y ≤ x))) := rfl
@[simp] theorem dEq_int {x y : Int} : dEq (.int x) (.int y) = some (.bl (decide (x = y))) := by
  unfold dEq
  rw [if_pos (show eqOk (.int x) (.int y) = true from rfl)]
  simp [deq, toP, PyData.eqv, Bool.beq_eq_decide_eq]
@[simp] theorem dNe_int {x y : Int} : dNe (.int x) (.int y) = some (.bl (!decide (x = y))) := by
  unfold dNe
  rw [if_pos (show eqOk (.int x) (.int y) = true from rfl)]
  simp [deq, toP, PyData.eqv, Bool.beq_eq_decide_eq]
@[simp] theorem dEq_str {x y : Str} : dEq (.str x) (.str y) = some (.bl (decide (x = y))) := by
  unfold dEq
  rw [if_pos (show eqOk (.str x) (.str y) = true from rfl)]
  simp [deq, toP, PyData.eqv, Bool.beq_eq_decide_eq]
@[simp] theorem dNe_str {x y : Str} : dNe (.str x) (.str y) = some (.bl (!decide (x = y))) := by
  unfold dNe
  rw [if_pos (show eqOk (.str x) (.str y) = true from rfl)]
  simp [deq, toP, PyData.eqv, Bool.beq_eq_decide_eq]
@[simp] theorem dEq_bl {x y : Bool} : dEq (.bl x) (.bl y) = some (.bl (decide (x = y))) := by
  unfold dEq
  rw [if_pos (show eqOk (.bl x) (.bl y) = true from rfl)]
  simp [deq, toP, PyData.eqv, Bool.beq_eq_decide_eq]
@[simp] theorem dNe_bl {x y : Bool} : dNe (.bl x) (.bl y) = some (.bl (!decide (x = y))) := by
  unfold dNe
  rw [if_pos (show eqOk (.bl x) (.bl y) = true from rfl)]
  simp [deq, toP, PyData.eqv, Bool.beq_eq_decide_eq]
@[simp] theorem dNot_bl {x : Bool} : dNot (.bl x) = some (.bl (!x)) := rfl
@[simp] theorem dIsN_non : dIsN .non .non = some (.bl true) := rfl
@[simp] theorem dIsN_int {x : Int} : dIsN (.int x) .non = some (.bl false) := rfl
@[simp] theorem dNotN_non : dNotN .non .non = some (.bl false) := rfl
@[simp] theorem dNotN_int {x : Int} : dNotN (.int x) .non = some (.bl true) := rfl
@[simp] theorem dIx_lst {t : Bool} {ds : List Dat} {k : Int} : dIx (.lst t ds) (.int k) = atI ds k := rfl
@[simp] theorem dIx_tup {ds : List Dat} {k : Int} : dIx (.tup ds) (.int k) = atI ds k := rfl
@[simp] theorem dLen_lst {t : Bool} {ds : List Dat} : dLen [.lst t ds] = some (.int ds.length) := rfl
@[simp] theorem dLen_tup {ds : List Dat} : dLen [.tup ds] = some (.int ds.length) := rfl
@[simp] theorem dTuple_lst {t : Bool} {ds : List Dat} : dTuple [.lst t ds] = some (.tup ds) := rfl
@[simp] theorem dTuple_tup {ds : List Dat} : dTuple [.tup ds] = some (.tup ds) := rfl
@[simp] theorem dSl_lst {t : Bool} {ds : List Dat} {lo hi : Option Int} : dSl (.lst t ds) lo hi = some (.lst true (cutD ds lo hi)) := rfl
@[simp] theorem dSl_tup {ds : List Dat} {lo hi : Option Int} : dSl (.tup ds) lo hi = some (.tup (cutD ds lo hi)) := rfl
@[simp] theorem dSl_scr {ds : List Int} {lo hi : Option Int} : dSl (.scr ds) lo hi = some (.lst true ((cutD ds lo hi).map .int)) := rfl
theorem atI_at {α : Type} {l : List α} {k : Int} {x : α} (h0 : 0 ≤ k) (h : l[k.toNat]? = some x) : atI l k = some x := by
  have e : k = ((k.toNat : Nat) : Int) := by omega
  rw [e]
  exact atI_nat h
@[simp] theorem atI_zero {α : Type} {l : List α} {x : α} : atI (x :: l) 0 = some x := atI_at (by decide) rfl
@[simp] theorem atI_one {α : Type} {l : List α} {x y : α} : atI (x :: y :: l) 1 = some y := atI_at (by decide) rfl
@[simp] theorem atI_two {α : Type} {l : List α} {x y z : α} : atI (x :: y :: z :: l) 2 = some z := atI_at (by decide) rfl
theorem atI_map {α β : Type} {l : List α} {k : Int} {x : α} (h : β = β) (g : α → β) (h0 : 0 ≤ k) (h : l[k.toNat]? = some x) : atI (l.map g) k = some (g x) := atI_at h0 (by rw [List.getElem?_map, h]; rfl)
end DL
namespace DL
open PySem PySem.Spec PyProof.Rows L2
/-! ### comprehensions, slices -/
variable {ε : DEnv}
@[simp] theorem compD_eq {w : DEnv → Rs (List Dat)} {G : Dat → DEnv → Option DEnv} {c : DEnv → Rs Bool} {fe : DEnv → Rs Dat} {vs : List Nat} : compD w G c fe vs ε =
    (w ε >>= fun ds => chk (sz ds.length && noOwn ε vs) (compL (compT G c fe (wipeD ε vs)) ds)) := rfl
@[simp] theorem compT_eq {G : Dat → DEnv → Option DEnv} {c : DEnv → Rs Bool} {fe : DEnv → Rs Dat} {d : Dat} : compT G c fe ε d =
    (Rs.of (G d ε) >>= fun ε2 => (c ε2).nox >>= fun b => if b = true then (fe ε2).nox >>= fun z => .ok (some z) else .ok none) := rfl
@[simp] theorem wipeD_nil : wipeD ε [] = ε := rfl
@[simp] theorem wipeD_cons {v : Nat} {vs : List Nat} : wipeD ε (v :: vs) = (wipeD ε vs).set v none := rfl
@[simp] theorem noOwn_nil : noOwn ε [] = true := rfl
@[simp] theorem compL_nil {F : Dat → Rs (Option Dat)} : compL F [] = .ok [] := rfl
theorem compL_map {α : Type} {F : Dat → Rs (Option Dat)} {e : α → Dat} {k : α → Dat} : ∀ {l : List α}, (∀ a ∈ l, F (e a) = .ok (some (k a))) → compL F (l.map e) = .ok (l.map k)
  | [], _ => rfl
  | a :: l, h => by
    have ih := compL_map (F := F) (e := e) (k := k) (l := l) fun b hb => h b (List.mem_cons_of_mem _ hb)
    simp only [List.map_cons]
    unfold compL
    rw [h a List.mem_cons_self, ih]
    rfl
theorem compL_filter {α : Type} {F : Dat → Rs (Option Dat)} {e : α → Dat} {p : α → Bool} {k : α → Dat} : ∀ {l : List α}, (∀ a ∈ l, F (e a) = .ok (if p a = true then some (k a) else none)) → compL F (l.map e) = .ok ((l.filter p).map k)
  | [], _ => rfl
  | a :: l, h => by
    have ih := compL_filter (F := F) (e := e) (p := p) (k := k) (l := l) fun b hb => h b (List.mem_cons_of_mem _ hb)
    simp only [List.map_cons]
    unfold compL
    rw [h a List.mem_cons_self, ih]
    cases hp : p a <;> simp [hp]
theorem compL_rng {F : Dat → Rs (Option Dat)} {n : Nat} {lo : Int} {k : Nat → Dat} (h : ∀ i, i < n → F (.int (lo + (i : Nat))) = .ok (some (k i))) : compL F (rng lo n) = .ok ((List.range n).map k) :=
  compL_map fun a ha => h a (List.mem_range.mp ha)
@[simp] theorem rng_length {lo : Int} {n : Nat} : (rng lo n).length = n := by simp [rng]
theorem cut_take {α : Type} (l : List α) (n : Nat) : cutD l none (some (n : Int)) = l.take n := by
  unfold cutD
  rw [HT.sIx_none, HT.sIx_nat]
  simp
theorem cut_drop {α : Type} (l : List α) (n : Nat) : cutD l (some (n : Int)) none = l.drop n := by
  unfold cutD
  rw [HT.sIx_none, HT.sIx_nat, List.take_of_length_le (by simp)]
  by_cases h : n ≤ l.length
  · rw [Nat.min_eq_left h]
  · rw [Nat.min_eq_right (by omega), List.drop_length, List.drop_eq_nil_of_le (by omega)]
theorem cut_both {α : Type} (l : List α) (n k : Nat) : cutD l (some (n : Int)) (some (k : Int)) = (l.drop n).take (k - n) := by
  unfold cutD
  rw [HT.sIx_nat, HT.sIx_nat]
  by_cases h : n ≤ l.length
  · rw [Nat.min_eq_left h]
    by_cases h2 : k ≤ l.length
    · rw [Nat.min_eq_left h2]
    · rw [Nat.min_eq_right (by omega)]
      rw [List.take_of_length_le (by simp), List.take_of_length_le (by simp; omega)]
  · rw [Nat.min_eq_right (show l.length ≤ n by omega), List.drop_length, List.drop_eq_nil_of_le (show l.length ≤ n by omega)]
    simp
@[simp] theorem dAdd_lst {t u : Bool} {a b : List Dat} (h : a.length + b.length ≤ sizeLine) : dAdd (.lst t a) (.lst u b) = some (.lst true (a ++ b)) := if_pos h
theorem dAdd_lst' {t u : Bool} {a b : List Dat} (h : a.length + b.length ≤ 16777216) : dAdd (.lst t a) (.lst u b) = some (.lst true (a ++ b)) := if_pos (by rw [sizeLine_eq]; exact h)
theorem dAdd_tup' {a b : List Dat} (h : a.length + b.length ≤ 16777216) : dAdd (.tup a) (.tup b) = some (.tup (a ++ b)) := if_pos (by rw [sizeLine_eq]; exact h)
theorem kit_bool : kitB "bool" "bool" = some true := by decide +kernel
theorem kit_int_bool : kitB "int" "bool" = some false := by decide +kernel
theorem kit_int : kitB "int" "int" = some true := by decide +kernel
theorem kit_list : kitB "list" "list" = some true := by decide +kernel
theorem kit_tuple : kitB "tuple" "tuple" = some true := by decide +kernel
theorem kit_non_int : kitB "NoneType" "int" = some false := by decide +kernel
@[simp] theorem isi_bool {b : Bool} : dIsi "bool" (.bl b) = some (.bl true) := by simp [dIsi, tyN, kit_bool]
@[simp] theorem isi_int_bool {b : Int} : dIsi "bool" (.int b) = some (.bl false) := by simp [dIsi, tyN, kit_int_bool]
@[simp] theorem isi_int {b : Int} : dIsi "int" (.int b) = some (.bl true) := by simp [dIsi, tyN, kit_int]
@[simp] theorem isi_list {t : Bool} {ds : List Dat} : dIsi "list" (.lst t ds) = some (.bl true) := by simp [dIsi, tyN, kit_list]
@[simp] theorem isi_tuple {ds : List Dat} : dIsi "tuple" (.tup ds) = some (.bl true) := by simp [dIsi, tyN, kit_tuple]
end DL

set_option maxRecDepth 100000
set_option maxHeartbeats 4000000
/-! DLs: sorted(xs, key=f). -/
namespace DL
open PySem PySem.Spec PyProof.Rows L2

def keyI : Dat → Option (List Int)
  | .tup xs => match intsD xs with
    | some (n :: ns) => some (n :: ns)
    | _ => none
  | _ => none
def keysD (F : List Dat → Rs Dat) : List Dat → Rs (List (List Int × Dat))
  | [] => .ok []
  | d :: r => F [old d] >>= fun k => Rs.of (keyI k) >>= fun ns => keysD F r >>= fun ps => .ok ((ns, d) :: ps)
def keyP (p : List Int × Dat) : PyData := .tuple (p.1.map .int)
noncomputable def ordK (ps : List (List Int × Dat)) : List Dat := (ps.mergeSort (PySem.W.dataLe false keyP)).map (·.2)
theorem Rs.bind_ok {α β : Type} {x : Rs α} {f : α → Rs β} {b : β} (h : (x >>= f) = .ok b) : ∃ a, x = .ok a ∧ f a = .ok b := by
  cases x with
  | no => cases h
  | ex n => cases h
  | ok a => exact ⟨a, rfl, h⟩
theorem Rs.of_ok {α : Type} {x : Option α} {a : α} (h : Rs.of x = .ok a) : x = some a := by
  cases x with
  | none => cases h
  | some b => cases h; rfl
theorem keyI_some {k : Dat} {ns : List Int} (h : keyI k = some ns) : ∃ xs, k = .tup xs ∧ intsD xs = some ns ∧ ∃ n r, ns = n :: r := by
  unfold keyI at h
  split at h
  · split at h
    · rename_i e
      cases h
      exact ⟨_, rfl, e, _, _, rfl⟩
    · cases h
  · cases h
theorem keysD_get {F : List Dat → Rs Dat} : ∀ {ds : List Dat} {ps : List (List Int × Dat)}, keysD F ds = .ok ps → ps.length = ds.length ∧ ps.map (·.2) = ds ∧ (∀ p ∈ ps, ∃ n r, p.1 = n :: r) ∧
    ∀ (i : Nat) (d : Dat), ds[i]? = some d → ∃ k ns, F [old d] = .ok k ∧ keyI k = some ns ∧ ps[i]? = some (ns, d)
  | [], ps, h => by
    cases h
    exact ⟨rfl, rfl, fun p z => (nomatch z), fun i d z => by simp at z⟩
  | d :: r, ps, h => by
    unfold keysD at h
    obtain ⟨k, e1, h⟩ := Rs.bind_ok h
    obtain ⟨ns, e2, h⟩ := Rs.bind_ok h
    obtain ⟨qs, e3, h⟩ := Rs.bind_ok h
    cases h
    obtain ⟨a1, a2, a3, a4⟩ := keysD_get e3
    have e2 := Rs.of_ok e2
    refine ⟨by simp [a1], by simp [a2], fun p z => ?_, fun i e z => ?_⟩
    · rcases List.mem_cons.mp z with rfl | z
      · obtain ⟨_, _, _, q⟩ := keyI_some e2
        exact q
      · exact a3 p z
    · cases i with
      | zero => cases z; exact ⟨k, ns, e1, e2, rfl⟩
      | succ i => exact a4 i e (by simpa using z)
theorem reads_ints (h : Heap) : ∀ {ns : List Int} {us : List Value}, Vals (ns.map V.int) us → ReadsAll h us (ns.map .int) []
  | [], _, r => by cases r; exact .nil
  | n :: ns, _, r => by
    cases r with
    | cons h1 h2 =>
      obtain ⟨t, rfl⟩ := h1
      exact .cons (as := []) (.int _ _) (reads_ints h h2)
section
variable {X : Cx} {pins : List (Addr × Obj)} {s : Shared} {σ : L2.St} {H H0 : Hp} {LL : Addr → Prop}
theorem each_tups (I : Inv X pins σ H s) : ∀ {ks : List (List Int)} {vs : List V} {us : List Value}, DenL X.K H0 LL H (ks.map fun ns => .tup (ns.map .int)) vs → Vals vs us →
    PySem.W.EachIs (fun v k => ∃ as, Reads s.heap v k as) us (ks.map fun ns => .tuple (ns.map .int))
  | [], _, _, h, r => by cases h; cases r; exact .nil
  | ns :: ks, _, _, ⟨v, r, e, h, t⟩, rv => by
    subst e
    cases rv with
    | cons h1 h2 =>
      refine .cons ?_ (each_tups I t h2)
      obtain ⟨a, ws, rfl, ta, dn⟩ := h
      have e := denL_ints dn (ns := ns) (by
        clear dn h1 t
        induction ns with
        | nil => rfl
        | cons n ns ih => show (intsD (ns.map .int)).map (n :: ·) = _; rw [ih]; rfl)
      subst e
      obtain ⟨its, rw_, ⟨o, ho, hc, n, hd⟩, _⟩ := I.tuple ta.sq
      cases h1
      exact ⟨[], .tuple ho hc hd (by rw [List.toList_toArray]; exact reads_ints _ rw_)⟩
theorem gone {h : Heap} {a : Addr} : (h.update a fun o => ⟨o.cls, o.dict, .freed, o.slots⟩).get? a = none := by
  cases e : (h.update a fun o => ⟨o.cls, o.dict, .freed, o.slots⟩).get? a with
  | none => rfl
  | some o =>
    exfalso
    unfold Heap.get? Heap.update at e
    simp only [Array.getElem?_modify, if_pos] at e
    cases q : h.objs[a]? with
    | none => rw [q] at e; cases e
    | some o' => rw [q] at e; cases e
theorem vals_snoc {xs : List V} {us : List Value} {x : V} {u : Value} (h : Vals xs us) (r : RelV x u) : Vals (xs ++ [x]) (us ++ [u]) := h.append (.cons r .nil)
def rSK (K : PySem.W.Frag) (F : List Dat → Rs Dat) (f : Addr) : List V → List V → Hp → VK → Prop := fun vs zs H Q => ∃ l xs ds ks LL H0, vs = [V.ref l] ∧ zs = [V.ref f] ∧ SqL K H l xs ∧ (∀ a, LL a → H a ≠ none) ∧ (∀ a, H a = none → H0 a = none) ∧ DenL K H0 LL H ds xs ∧ keysD F ds = .ok ks ∧
  ∀ p ys H', Same H H' → H p = none → H' p = some (.lst ys) → DenL K H0 (fun b => LL b ∨ b = p) H' (ordK ks) ys → Q (.ref p) H'
theorem cr_sortKey {k : Nat} {f : Addr} {fd : FuncData} {ps : List Str} {F : List Dat → Rs Dat} (G : FnOk X.prog X.w X.K X.mg X.base (L2.CX X.prog X.w) k f fd ps (spD X.K X.mg 1 F)) (hr : Room (k + 2) X.A) (hb : Binds X.K fd ps []) :
    CallRK X (.builtin "sorted") [Str.ofString "key"] (rSK X.K F f) := by
  rintro pins s σ H xs zs us ws Q I rx rz ⟨l, vs, ds, ks, LL, H0, rfl, rfl, hS, htrk, hfr, den, hk, q⟩
  obtain rfl := Vals.ref1 rx
  obtain ⟨w1, rfl, e1⟩ := vals1 rz
  cases e1
  obtain ⟨its, rv, hl, hz⟩ := I.list hS
  obtain ⟨k1, k2, k3, k4⟩ := keysD_get hk
  have hlen : its.length = ds.length := by rw [← rv.length, ← den.length]
  have hZ : its.length ≤ sizeLine := by rw [← rv.length]; exact hz
  refine PySem.W.sorted_of_sort hl.isList hZ (PyProof.Rows.ksk_s1 _ _) (fun _ => PyProof.Rows.ksk_l1 _ _) fun E' => ?_
  show wpAny _ _ (Builtin.«list.sort» ⟨[.ref _], [(Str.ofString "key", .ref f)]⟩) _ _ _
  rw [PyProof.Rows.ksk_t1]
  have hmem : ∀ d, d ∈ ks.map keyP → ∃ p : List Int × Dat, p ∈ ks ∧ d = keyP p := fun d hd => by
    obtain ⟨p, hp, e⟩ := List.mem_map.mp hd
    exact ⟨p, hp, e.symm⟩
  have hal : PySem.W.AllAlike (ks.map keyP) := fun d hd d' hd' => by
    obtain ⟨p, _, rfl⟩ := hmem d hd
    obtain ⟨p', _, rfl⟩ := hmem d' hd'
    show PySem.W.alikeAll _ _ = true
    exact PySem.W.alike_ints _ _
  have hsk : PySem.W.Sortable (ks.map keyP) := .inl fun d hd => by
    obtain ⟨p, hp, rfl⟩ := hmem d hd
    obtain ⟨n, r, e⟩ := k3 p hp
    exact ⟨.int n, r.map .int, by unfold keyP; rw [e]; rfl⟩
  have hu : ∀ d, d ∈ ks.map keyP → X.A.in1.in1.units + d.depth < cLine := fun d hd => by
    obtain ⟨p, hp, rfl⟩ := hmem d hd
    have h1 := hr.un
    have h2 : (keyP p).depth = 1 := by
      show PyData.depth (.tuple (p.1.map .int)) = 1
      rw [PyData.depth, PySem.W.depth_ints]
    rw [h2]
    show X.A.units + 1 + 1 + 1 < cLine
    omega
  generalize ha : s.heap.objs.size + 1 = a
  generalize hg : PySem.W.copyHeap s.heap its = g0
  have hg0 : ∀ b o, s.heap.get? b = some o → g0.get? b = some o := fun b o e => by rw [← hg]; exact PySem.W.copyHeap_old e
  have ho : g0.get? a = some (seqObj "list" its.toArray 0) := by rw [← hg, ← ha]; exact PySem.W.copyHeap_at s.heap its
  have hsa : s.heap.get? a = none := by rw [← ha]; exact Heap.get?_none_of_le (Nat.le_succ _)
  have hag : a < g0.objs.size := Heap.lt_size ho
  have hsg : s.heap.objs.size ≤ a := by rw [← ha]; exact Nat.le_succ _
  obtain ⟨e1, ho1⟩ : ∃ e1, (g0.update a (Obj.mapSeq fun _ => (#[] : Array Value))).get? a = some (seqObj "list" #[] e1) := ⟨_, get?_update_seq ho fun _ => #[]⟩
  unfold PyProof.Rows.ksk_tree
  refine wpAny_bind (listItems_at ho rfl ?_)
  refine wpAny_bind (listUpdate_at ho rfl ?_ (by rw [List.size_toArray]; exact hZ) (Nat.zero_le _))
  refine wpAny_bind (seqEpoch_at ho1 rfl ?_)
  refine wpAny_bind (wpAny_newTuple ?_ (by show its.length ≤ _; exact hZ))
  refine wpAny_bind (wpAny_newList ?_ (Nat.zero_le _))
  refine wpAny_holding ?_
  have hkS : ((g0.update a (Obj.mapSeq fun _ => (#[] : Array Value))).push (seqObj "tuple" its.toArray 0)).objs.size = g0.objs.size + 1 := by rw [size_push', Heap.size_update]
  generalize hc : ((g0.update a (Obj.mapSeq fun _ => (#[] : Array Value))).push (seqObj "tuple" its.toArray 0)).objs.size = kS at *
  have hcs : s.heap.objs.size ≤ kS := by rw [hkS]; exact Nat.le_trans hsg (Nat.le_trans (Nat.le_of_lt hag) (Nat.le_succ _))
  have hac : kS ≠ a := by rw [hkS]; exact Nat.ne_of_gt (Nat.lt_succ_of_lt hag)
  have hkn : s.heap.get? kS = none := Heap.get?_none_of_le hcs
  have ht0 : (((g0.update a (Obj.mapSeq fun _ => (#[] : Array Value))).push (seqObj "tuple" its.toArray 0)).push (seqObj "list" #[] 0)).get? kS = some (seqObj "list" #[] 0) := by rw [← hc]; exact Heap.get?_push_size _ rfl
  have hta : (((g0.update a (Obj.mapSeq fun _ => (#[] : Array Value))).push (seqObj "tuple" its.toArray 0)).push (seqObj "list" #[] 0)).get? a = some (seqObj "list" #[] e1) := Heap.get?_push_of_some _ (Heap.get?_push_of_some _ ho1)
  have htk : ∀ b o, s.heap.get? b = some o → (((g0.update a (Obj.mapSeq fun _ => (#[] : Array Value))).push (seqObj "tuple" its.toArray 0)).push (seqObj "list" #[] 0)).get? b = some o := fun b o e =>
    Heap.get?_push_of_some _ (Heap.get?_push_of_some _ ((Heap.get?_update_ne _ _ _ _ (fun z => by rw [z, hsa] at e; cases e)).trans (hg0 b o e)))
  show wpAny (model X.prog X.w) X.A.in1.in1 (PyProof.Rows.ksk_rest a (.ref f) false its.toArray e1 (.ref kS)) _ _ { s with heap := ((g0.update a (Obj.mapSeq fun _ => (#[] : Array Value))).push (seqObj "tuple" its.toArray 0)).push (seqObj "list" #[] 0) }
  generalize (((g0.update a (Obj.mapSeq fun _ => (#[] : Array Value))).push (seqObj "tuple" its.toArray 0)).push (seqObj "list" #[] 0)) = g1 at *
  have I1 : Inv X pins σ H { s with heap := g1 } := I.kept (t' := s.toks) htk
  have HN : H a = none := I.hok.fresh hsg
  have HK : H kS = none := I.hok.fresh hcs
  unfold PyProof.Rows.ksk_rest
  refine wpAny_bind (wpAny_rule ?_)
  first
    | rw [List.forIn_toArray]
    | (rw [← Array.forIn_toList]; simp only [List.toList_toArray])
    | rw [← Array.forIn_toList]
  refine wpAny_bind (PyProof.Rows.ksk_fold (fun i s' => ∃ H' kA e kvs, Same H H' ∧ Inv X pins σ H' s' ∧ H' a = none ∧ H' kS = none ∧ s'.heap.get? kS = some (seqObj "list" kA e) ∧ s'.heap.get? a = some (seqObj "list" #[] e1) ∧ Vals kvs kA.toList ∧
      DenL X.K H0 LL H' (((ks.map (·.1)).take i).map fun ns => .tup (ns.map .int)) kvs ∧ kA.size = i) its 0 _
    ⟨H, #[], 0, [], Same.refl H, I1, HN, HK, ht0, hta, .nil, by rw [List.take_zero]; rfl, rfl⟩ ?step ?done)
  case step =>
    rintro j x s' hx ⟨H', kA, e, kvs, hs, I', na, nk, gk, ga, rk, dk, hsz⟩
    simp only [Nat.zero_add] at dk hsz ⊢
    have hj : j < its.length := (List.getElem?_eq_some_iff.mp hx).1
    have fk : FpOk X pins H' kS := I.fpOk hcs nk
    have fa : FpOk X pins H' a := I.fpOk hsg na
    obtain ⟨v, hv⟩ : ∃ v, vs[j]? = some v := ⟨_, List.getElem?_eq_getElem (by rw [rv.length]; exact hj)⟩
    obtain ⟨x', hx', rx⟩ := rv.get hv
    rw [hx] at hx'
    cases hx'
    obtain ⟨d, hd, dd⟩ := den.get' hv
    obtain ⟨kd, ns, hF, hkn', hps⟩ := k4 j d hd
    obtain ⟨xs, rfl, hns, _⟩ := keyI_some hkn'
    have I2 : Inv X (pins ++ [(kS, seqObj "list" kA e), (a, seqObj "list" #[] e1)]) σ H' s' := I'.pins_of fun p hp => by
      rcases List.mem_append.mp hp with hp | hp
      · exact I'.pin p (List.mem_append_right _ hp)
      · rcases List.mem_cons.mp hp with rfl | hp
        · exact ⟨gk, nk, fk.2.1, fk.2.2.1, fun v z => by cases z⟩
        · rcases List.mem_cons.mp hp with rfl | hp
          · exact ⟨ga, na, fa.2.1, fa.2.2.1, fun v z => by cases z⟩
          · cases hp
    have turn : wpAny (model X.prog X.w) X.A.in1.in1 (call (.ref f) [x]) (EP X (pins ++ [(kS, seqObj "list" kA e), (a, seqObj "list" #[] e1)]) σ (fun v H'' => Same H' H'' ∧ Den X.K H0 LL H'' (.tup xs) v)) (fun _ _ => False) s' := by
      refine wpAny_call (codeAny_mono (G.run X.A.in1.in1 X.stack s' H' ⟨[x], []⟩ ([x] ++ []) ([v] ++ []) (fun v H'' => Same H' H'' ∧ Den X.K H0 LL H'' (.tup xs) v) (fun _ _ _ => False) hr.in1.in1 I2.env0.in1.in1 (hb s' [x] I'.kIn ?_) (Vals.append (xs := [v]) (us := [x]) (.cons rx .nil) .nil) ?_) fun r s'' hq => ?_)
      · have := G.len [v] H' (fun v H'' => Same H' H'' ∧ Den X.K H0 LL H'' (.tup xs) v) (fun _ _ _ => False) ⟨rfl, LL, [old d], fun b z z2 => htrk b z (hs.free z2), ⟨v, [], rfl, (dd.same hs).old, rfl⟩, by
          rw [hF]
          exact fun v H'' s2 dn => ⟨s2, dn.kp .refl fun b z => hfr b (hs.free z)⟩⟩
        simpa using this
      · exact ⟨rfl, LL, [old d], fun b z z2 => htrk b z (hs.free z2), ⟨v, [], rfl, (dd.same hs).old, rfl⟩, by
          rw [hF]
          exact fun v H'' s2 dn => ⟨s2, dn.kp .refl fun b z => hfr b (hs.free z)⟩⟩
      · cases r with
        | error e => exact cx_false hq
        | ok fl =>
          cases fl with
          | ret u => exact I2.after hq
          | next => exact False.elim hq
          | brk => exact False.elim hq
          | cont => exact False.elim hq
    refine wpAny_bind (wpAny_attempt (wpAny_mono turn (fun u s'' he => ?_) fun _ _ hF => hF.elim))
    obtain ⟨w, H'', I3, rw_, s3, dw⟩ := he
    have hzA : kA.size ≤ sizeLine := by omega
    have pk := I3.pin (kS, seqObj "list" kA e) (by simp)
    have pa := I3.pin (a, seqObj "list" #[] e1) (by simp)
    have gk2 := pk.1
    refine wpAny_bind (listUpdate_at gk2 rfl ?_ hzA (Nat.le_trans (Nat.le_of_eq (Array.size_push ..)) (Nat.succ_le_succ hzA)))
    have sb := Heap.SameBut.update s''.heap kS (Obj.mapSeq (·.push u))
    obtain ⟨c2, hc2⟩ : ∃ c2, (s''.heap.update kS (Obj.mapSeq (·.push u))).get? kS = some (seqObj "list" (kA.push u) c2) := ⟨_, get?_update_seq gk2 (·.push u)⟩
    have I4 : Inv X pins σ H'' s'' := I3.unpinned
    refine wpAny_pure ⟨rfl, H'', kA.push u, c2, kvs ++ [w], hs.trans s3, I4.turned (t' := s''.toks) (fun b o hb z => (sb.2 b hb).trans z) pk.2.1 fk.2.1 fk.2.2.2.1 fk.2.2.2.2.1 fk.2.2.2.2.2, pa.2.1, pk.2.1, hc2, (sb.2 a hac.symm).trans pa.1, ?_, ?_, ?_⟩
    · rw [Array.toList_push]
      exact Vals.append rk (.cons rw_ .nil)
    · have e3 : (ks.map (·.1)).take (j + 1) = (ks.map (·.1)).take j ++ [ns] := by
        rw [List.take_add_one, List.getElem?_map, hps]
        rfl
      rw [e3, List.map_append]
      refine (dk.same s3).app ⟨w, [], rfl, ?_, rfl⟩
      obtain ⟨aw, uw, rfl, tw, qw⟩ := dw
      have ew := denL_ints qw hns
      subst ew
      refine ⟨aw, _, rfl, tw, ?_⟩
      have gen : ∀ l : List Int, DenL X.K H0 LL H'' (l.map .int) (l.map V.int) := fun l => by
        induction l with
        | nil => rfl
        | cons n l ih => exact ⟨_, _, rfl, rfl, ih⟩
      exact gen ns
    · rw [Array.size_push, hsz]
  case done =>
    rintro s' ⟨H', kA, e, kvs, hs, I', na, nk, gk, ga, rk, dk, hsz⟩
    simp only [Nat.zero_add] at dk hsz
    rw [List.take_of_length_le (by rw [List.length_map, k1, hlen]; exact Nat.le_refl _)] at dk
    have hk' : PySem.W.EachIs (fun v k => ∃ as, Reads s'.heap v k as) kA.toList (ks.map keyP) := by
      have h1 := each_tups I' dk rk
      rw [List.map_map] at h1
      exact h1
    try dsimp only
    refine wpAny_bind (listItems_at gk rfl ?_)
    have g2 : ∀ b o, b ≠ kS → s'.heap.get? b = some o → (s'.heap.update kS fun o => ⟨o.cls, o.dict, .freed, o.slots⟩).get? b = some o := fun b o hb z => (Heap.get?_update_ne _ _ _ _ hb).trans z
    have g3 : ∀ b o, (s'.heap.update kS fun o => ⟨o.cls, o.dict, .freed, o.slots⟩).get? b = some o → s'.heap.get? b = some o := fun b o z => by
      by_cases hb : b = kS
      · rw [hb, gone] at z
        cases z
      · rw [Heap.get?_update_ne _ _ _ _ hb] at z
        exact z
    have fk : FpOk X pins H' kS := I.fpOk hcs nk
    refine PySem.W.keyH_end (κ := PySem.W.dataKind s'.heap (ks.map keyP)) (h₁ := s'.heap.update kS fun o => ⟨o.cls, o.dict, .freed, o.slots⟩) (fun b o _ z => g3 b o z) gone gk ga hac (PySem.W.SortsAt.data hk' hal hsk hu) (hsz.trans (by simp)) hZ fun h' tk c kp hD => ?_
    refine ⟨rfl, ?_⟩
    have eq2 : PySem.W.EachIs (fun u (p : List Int × Dat) => ∃ v, RelV v u ∧ Den X.K H0 LL H' p.2 v) its ks := by
      have go : ∀ {its : List Value} {vs : List V} {ks : List (List Int × Dat)}, DenL X.K H0 LL H' (ks.map (·.2)) vs → Vals vs its → PySem.W.EachIs (fun u (p : List Int × Dat) => ∃ v, RelV v u ∧ Den X.K H0 LL H' p.2 v) its ks := by
        intro its vs ks
        induction ks generalizing its vs with
        | nil => intro h r; cases h; cases r; exact .nil
        | cons p ks ih =>
          rintro ⟨v, r, e, h, t⟩ rv
          subst e
          cases rv with
          | cons h1 h2 => exact .cons ⟨v, h1, h⟩ (ih t h2)
      exact go (vs := vs) (by rw [k2]; exact den.same hs) rv
    have so := PySem.W.sortVals_each (κ := PySem.W.dataKind s'.heap (ks.map keyP)) (rev := false) (fun p => PySem.W.keyToks (keyP p)) eq2 (PySem.W.each_of_map keyP (PySem.W.each_keys hal hk'))
    generalize PySem.W.sortVals (PySem.W.dataKind s'.heap (ks.map keyP)) false kA.toList its = out at so hD
    have fin : ∀ {out : List Value} {qs : List (List Int × Dat)}, PySem.W.EachIs (fun u (p : List Int × Dat) => ∃ v, RelV v u ∧ Den X.K H0 LL H' p.2 v) out qs → ∃ ys, Vals ys out ∧ DenL X.K H0 LL H' (qs.map (·.2)) ys := fun {out qs} h => by
      induction h with
      | nil => exact ⟨[], .nil, rfl⟩
      | cons h1 h2 ih =>
        obtain ⟨v, a1, a2⟩ := h1
        obtain ⟨ys, b1, b2⟩ := ih
        exact ⟨v :: ys, .cons a1 b1, v, ys, rfl, a2, b2⟩
    obtain ⟨ys, ry, dy⟩ := fin so
    have hyl : ys.length ≤ sizeLine := by
      rw [← dy.length, List.length_map, List.length_mergeSort, k1, ← hlen]
      exact hZ
    have IG : Inv X pins σ H' { s' with heap := s'.heap.update kS fun o => ⟨o.cls, o.dict, .freed, o.slots⟩ } := I'.turned (t' := s'.toks) g2 nk fk.2.1 fk.2.2.2.1 fk.2.2.2.2.1 fk.2.2.2.2.2
    have IF : Inv X pins σ (upd H' a (.lst ys)) { s' with heap := h', toks := tk } := L2.Inv.take (s := { s' with heap := s'.heap.update kS fun o => ⟨o.cls, o.dict, .freed, o.slots⟩ }) (t' := tk) IG (fun b o hb z => kp b o hb z) (I.fpOk hsg na) ⟨hyl, out, c, ry, hD⟩
    refine ⟨.ref a, _, IF, rfl, q a ys _ (hs.trans (same_new na)) HN upd_same ?_⟩
    exact (DenL.kp (kp_or (same_new na) na) (fun _ z => z) dy)
end
end DL

set_option maxRecDepth 100000
set_option maxHeartbeats 4000000
/-! DLt: sorted by a def; walks over lists or tuples, zip, enumerate. -/
namespace DL
open PySem PySem.Spec PyProof.Rows L2

section
variable {X : Cx} {W : WX} {H0 : Hp} {L LL : Addr → Prop} {m : Bool} {a b e : Expr} {es rest : List Expr} {pos p : Pos} {f g : DEnv → Rs Dat} {fa : DEnv → Rs (List Dat)} {tg iter : Expr}
variable {K : PySem.W.Frag} {mg : Str → Option Value} {σ : L2.St} {H : Hp} {ε : DEnv}
/-! ### sorted(xs, key=f) -/
noncomputable def sortA (F : List Dat → Rs Dat) : List Dat → Rs (List Dat)
  | [.lst _ ds] => (keysD F ds).nox >>= fun ks => .ok (ordK ks)
  | _ => .no
noncomputable def sortKD (F : List Dat → Rs Dat) (fa : DEnv → Rs (List Dat)) (ε : DEnv) : Rs (List Dat) := fa ε >>= sortA F
theorem df_sortK {y : Str} {k j : Nat} {F : List Dat → Rs Dat} {q kp : Pos} (G : DefOk X.prog X.w X.K X.mg X.base y 1 k F) (hr : Room j X.A) (hkj : k + 2 ≤ j) (hm : X.mg "sorted" = none) (ha : DA false X W H0 L [e] fa) (hg : Gl X "sorted" := by rfl) (hgy : Gl X y := by rfl) (hdy : (y == ("__debug__" : Str)) = false := by decide)
    (he : backTo pos (starEach [e] X.env) = (false, eval e X.env) :: backTo pos (starEach [] X.env) := by rfl) (hpl : (backTo pos (starEach [e] X.env)).any (·.1) = false := by rfl)
    (hall : (backToKw pos (keywordEach [⟨some "key", .Name y q, kp⟩] X.env)).all (·.1.isSome) = true := by rfl) (hnone : (backToKw pos (keywordEach [⟨some "key", .Name y q, kp⟩] X.env)).any (·.1.isNone) = false := by rfl) (hks : (backToKw pos (keywordEach [⟨some "key", .Name y q, kp⟩] X.env)).filterMap (·.1) = [Str.ofString "key"] := by rfl) :
    DF X W H0 L (.Call (.Name "sorted" p) [e] [⟨some "key", .Name y q, kp⟩] pos) (sortKD F fa) := by
  obtain ⟨f, fd, ps, a1, a2, a3, a4⟩ := G.ex
  refine peimp (pe_callBK (cr_sortKey a1 (hr.mono hkj) a4) hg hm PyProof.Rows.boot_sorted ha (pk_cons (pe_glob (v := .ref f) hgy a2 rfl hdy) pk_nil) (by decide) (by decide) he hpl hall hnone hks) fun σ H Q ⟨ε, r, h⟩ => ?_
  unfold sortKD at h
  rw [Rs.to_bind] at h
  refine ⟨ε, r, h.imp (fun ds _ hd vs H1 s1 q => ?_) fun n z => z⟩
  unfold sortA at hd
  split at hd
  · rename_i t ds eds
    rw [Rs.to_bind] at hd
    obtain ⟨v, rfl, q1⟩ := pair1 q
    obtain ⟨l, xs, rfl, hl, ht, hlx, den⟩ := q1
    cases hk : keysD F ds with
    | no => rw [hk] at hd; exact hd.elim
    | ex n => rw [hk] at hd; exact hd.elim
    | ok ks =>
      rw [hk] at hd
      have r1 := r.mono s1
      refine ⟨l, xs, ds, ks, LO L ε σ, H0, rfl, rfl, .of hlx, r1.lo, r1.good.fr, den, hk, fun p ys H' s2 hp hH' dn => ?_⟩
      exact hd p ys H' (s1.trans s2) (s1.free hp) hH' dn
  · exact hd.elim

/-! ### walks over what is a list or a tuple -/
def asA : Dat → Rs (List Dat)
  | .lst _ ds => .ok ds
  | .tup ds => .ok ds
  | _ => .no
def walkA (f : DEnv → Rs Dat) (ε : DEnv) : Rs (List Dat) := f ε >>= asA
theorem di_any (he : DE m X W H0 L e f) : DI m X W H0 L tg e (walkA f) :=
  piimp (pior (di_list (tg := tg) he) (di_tup (tg := tg) he)) fun σ H R ⟨ε, r, h⟩ => by
    unfold walkA at h
    cases e : f ε with
    | no => rw [e] at h; exact h.elim
    | ex n => rw [e] at h; exact .inl ⟨ε, r, by unfold walkD; rw [e]; exact h⟩
    | ok d =>
      rw [e] at h
      cases d with
      | lst t ds => exact .inl ⟨ε, r, by unfold walkD; rw [e]; exact h⟩
      | tup ds => exact .inr ⟨ε, r, by unfold walkT; rw [e]; exact h⟩
      | _ => exact h.elim

/-! ### zip of two lists, enumerate -/
def zipD : List Dat → List Dat → List Dat
  | d :: ds, e :: es => .tup [d, e] :: zipD ds es
  | _, _ => []
theorem zipD_get : ∀ {ds es : List Dat} {i : Nat} {z : Dat}, (zipD ds es)[i]? = some z → ∃ d e, ds[i]? = some d ∧ es[i]? = some e ∧ z = .tup [d, e]
  | [], _, _, _, h => by simp [zipD] at h
  | _ :: _, [], _, _, h => by simp [zipD] at h
  | d :: ds, e :: es, 0, z, h => by
    cases (show some (Dat.tup [d, e]) = some z from h)
    exact ⟨d, e, rfl, rfl, rfl⟩
  | d :: ds, e :: es, i + 1, z, h => zipD_get (ds := ds) (es := es) (i := i) h
theorem zipD_length : ∀ {ds es : List Dat}, (zipD ds es).length = min ds.length es.length
  | [], _ => by simp [zipD]
  | _ :: _, [] => by simp [zipD]
  | d :: ds, e :: es => by simp [zipD, zipD_length]
def asZ : List Dat → Rs (List Dat)
  | [.lst _ ds, .lst _ es] => .ok (zipD ds es)
  | _ => .no
theorem wlk_zip {LL : Addr → Prop} {p q : Addr} {ds es : List Dat} {vs ws : List V} (hp : H p = some (.lst vs)) (hl : m = true → ¬ LL p) (dq : DenL K H0 LL H ds vs) (hq : H q = some (.lst ws)) (hl2 : m = true → ¬ LL q) (eq : DenL K H0 LL H es ws) : Wlk m K H0 LL H (Itz K p q) (zipD ds es) := ⟨fun LL2 H2 g k s i => by
  have hp2 : H2 p = some (.lst vs) := by
    cases m with
    | true => exact (k p _ (hl rfl) hp).2
    | false => exact s rfl _ _ hp
  have hq2 : H2 q = some (.lst ws) := by
    cases m with
    | true => exact (k q _ (hl2 rfl) hq).2
    | false => exact s rfl _ _ hq
  have hS : SqL K H2 p vs := .of hp2
  have hT : SqL K H2 q ws := .of hq2
  refine ⟨fun d hd => ?_, fun hi => ⟨vs, ws, hS, hT, ?_⟩⟩
  · obtain ⟨x, y, e1, e2, rfl⟩ := zipD_get hd
    obtain ⟨v, hv, qd⟩ := dq.get e1
    obtain ⟨w, hw, qe⟩ := eq.get e2
    refine ⟨⟨vs, ws, v, w, hS, hT, hv, hw⟩, fun z H3 ⟨T, x', y', ez, hn, eH, y1, y2⟩ => ?_⟩
    subst ez eH
    have e3 : v = x' := Option.some.inj (hv.symm.trans (y1 vs hS))
    have e4 : w = y' := Option.some.inj (hw.symm.trans (y2 ws hT))
    subst e3 e4
    exact ⟨same_new hn, g.tup hn ⟨v, _, rfl, qd.kp k fun _ z => z, w, _, rfl, qe.kp k fun _ z => z, rfl⟩⟩
  · rw [zipD_length] at hi
    rw [← dq.length, ← eq.length]
    omega⟩
theorem di_zip {elts : List Expr} {kk : Nat} {tpos : Pos} (hm : X.mg "zip" = none) (ha : DA m X W H0 L [a, b] fa) (hg : Gl X "zip" := by rfl) (hs : starEach [a, b] X.env = (false, eval a X.env) :: starEach [b] X.env := by rfl) (hpl : (backTo pos (starEach [b] X.env)).any (·.1) = false := by rfl) :
    DI m X W H0 L (.Tuple elts kk tpos) (.Call (.Name "zip" p) [a, b] [] pos) (rngD asZ fa) :=
  piimp (pi_zip hg hm ha hs hpl) fun σ H R ⟨ε, r, h⟩ => by
    unfold rngD at h
    rw [Rs.to_bind] at h
    refine ⟨ε, r, h.imp (fun ds _ hd vs H1 s1 q => ?_) fun n z => z⟩
    unfold asZ at hd
    split at hd
    · obtain ⟨v, w, rfl, q1, q2⟩ := pair2 q
      cases m with
      | true =>
        obtain ⟨p1, xs, rfl, l1, t1, h1, d1⟩ := q1
        obtain ⟨p2, ys, rfl, l2, t2, h2, d2⟩ := q2
        exact ⟨p1, p2, xs, ys, rfl, .of h1, .of h2, hd _ _ s1 (wlk_zip h1 (fun _ => l1) d1 h2 (fun _ => l2) d2)⟩
      | false =>
        obtain ⟨p1, xs, rfl, l1, t1, h1, d1⟩ := q1
        obtain ⟨p2, ys, rfl, l2, t2, h2, d2⟩ := q2
        exact ⟨p1, p2, xs, ys, rfl, .of h1, .of h2, hd _ _ s1 (wlk_zip h1 (fun z => nomatch z) d1 h2 (fun z => nomatch z) d2)⟩
    · exact hd.elim
def enumD : Nat → List Dat → List Dat
  | _, [] => []
  | i, d :: ds => .tup [.int i, d] :: enumD (i + 1) ds
theorem enumD_get : ∀ {ds : List Dat} {n i : Nat} {z : Dat}, (enumD n ds)[i]? = some z → ∃ d, ds[i]? = some d ∧ z = .tup [.int ((n + i : Nat) : Int), d]
  | [], _, _, _, h => by simp [enumD] at h
  | d :: ds, n, 0, z, h => by
    cases (show some (Dat.tup [.int n, d]) = some z from h)
    exact ⟨d, rfl, rfl⟩
  | d :: ds, n, i + 1, z, h => by
    obtain ⟨e, h1, h2⟩ := enumD_get (ds := ds) (n := n + 1) (i := i) h
    exact ⟨e, h1, by rw [h2, Nat.add_right_comm, Nat.add_assoc]⟩
theorem enumD_length : ∀ {ds : List Dat} {n : Nat}, (enumD n ds).length = ds.length
  | [], _ => rfl
  | d :: ds, n => by simp [enumD, enumD_length]
def asE : List Dat → Rs (List Dat)
  | [.lst _ ds] => .ok (enumD 0 ds)
  | _ => .no
theorem wlk_enum {LL : Addr → Prop} {p : Addr} {ds : List Dat} {vs : List V} (hp : H p = some (.lst vs)) (hl : m = true → ¬ LL p) (q : DenL K H0 LL H ds vs) : Wlk m K H0 LL H (Ite K p) (enumD 0 ds) := ⟨fun LL2 H2 g k s i => by
  have hp2 : H2 p = some (.lst vs) := by
    cases m with
    | true => exact (k p _ (hl rfl) hp).2
    | false => exact s rfl _ _ hp
  have hS : SqL K H2 p vs := .of hp2
  refine ⟨fun d hd => ?_, fun hi => ⟨vs, hS, by rw [← q.length]; rw [enumD_length] at hi; exact hi⟩⟩
  obtain ⟨x, e1, rfl⟩ := enumD_get hd
  obtain ⟨v, hv, qd⟩ := q.get e1
  refine ⟨⟨vs, v, hS, hv⟩, fun z H3 ⟨T, x', ez, hn, eH, y1⟩ => ?_⟩
  subst ez eH
  have e3 : v = x' := Option.some.inj (hv.symm.trans (y1 vs hS))
  subst e3
  rw [Nat.zero_add]
  exact ⟨same_new hn, g.tup hn ⟨_, _, rfl, rfl, v, _, rfl, qd.kp k fun _ z => z, rfl⟩⟩⟩
theorem di_enum {elts : List Expr} {kk : Nat} {tpos : Pos} (hm : X.mg "enumerate" = none) (ha : DA m X W H0 L [a] fa) (hg : Gl X "enumerate" := by rfl) (hs : starEach [a] X.env = [(false, eval a X.env)] := by rfl) :
    DI m X W H0 L (.Tuple elts kk tpos) (.Call (.Name "enumerate" p) [a] [] pos) (rngD asE fa) :=
  piimp (pi_enum hg hm ha hs) fun σ H R ⟨ε, r, h⟩ => by
    unfold rngD at h
    rw [Rs.to_bind] at h
    refine ⟨ε, r, h.imp (fun ds _ hd vs H1 s1 q => ?_) fun n z => z⟩
    unfold asE at hd
    split at hd
    · obtain ⟨v, rfl, q1⟩ := pair1 q
      cases m with
      | true =>
        obtain ⟨p1, xs, rfl, l1, t1, h1, d1⟩ := q1
        exact ⟨p1, xs, rfl, .of h1, hd _ _ s1 (wlk_enum h1 (fun _ => l1) d1)⟩
      | false =>
        obtain ⟨p1, xs, rfl, l1, t1, h1, d1⟩ := q1
        exact ⟨p1, xs, rfl, .of h1, hd _ _ s1 (wlk_enum h1 (fun z => nomatch z) d1)⟩
    · exact hd.elim
end
end DL

set_option maxRecDepth 100000
set_option maxHeartbeats 4000000
/-! MEq: data told by an encoding: equal as data just where the told things are equal. -/
namespace DL
open PySem PySem.Spec PyProof.Rows L2
structure EqE {α : Type} (n : Nat) (h : α → Dat) : Prop where
  eq : ∀ a b, deq (h a) (h b) = true ↔ a = b
  lay : ∀ a, (toP (h a)).canLay0 = true
  dep : ∀ a, (toP (h a)).depth ≤ n
section
variable {α β : Type} {n m : Nat} {h : α → Dat} {k : β → Dat} {t u : Bool}
theorem toPs_map (l : List α) : toPs (l.map h) = l.map fun a => toP (h a) := by
  induction l with
  | nil => rfl
  | cons a l ih => show toP (h a) :: toPs (l.map h) = _; rw [ih]; rfl
theorem EqE.all (E : EqE n h) : ∀ l m : List α, PyData.eqvAll (toPs (l.map h)) (toPs (m.map h)) = true ↔ l = m
  | [], [] => ⟨fun _ => rfl, fun _ => by show PyData.eqvAll [] [] = true; rw [PyData.eqvAll]⟩
  | [], b :: m => ⟨fun z => (by
      have z : PyData.eqvAll [] (toP (h b) :: toPs (m.map h)) = true := z
      rw [PyData.eqvAll] at z
      exact absurd z Bool.false_ne_true), fun z => (nomatch z)⟩
  | a :: l, [] => ⟨fun z => (by
      have z : PyData.eqvAll (toP (h a) :: toPs (l.map h)) [] = true := z
      rw [PyData.eqvAll] at z
      exact absurd z Bool.false_ne_true), fun z => (nomatch z)⟩
  | a :: l, b :: m => by
    show PyData.eqvAll (toP (h a) :: toPs (l.map h)) (toP (h b) :: toPs (m.map h)) = true ↔ _
    rw [PyData.eqvAll, Bool.and_eq_true, EqE.all E l m]
    have := E.eq a b
    unfold deq at this
    rw [this]
    constructor
    · rintro ⟨rfl, rfl⟩; rfl
    · intro z; cases z; exact ⟨rfl, rfl⟩
theorem EqE.layAll (E : EqE n h) : ∀ l : List α, PyData.canLayAll0 (toPs (l.map h)) = true
  | [] => by show PyData.canLayAll0 [] = true; rw [PyData.canLayAll0]
  | a :: l => by
    show PyData.canLayAll0 (toP (h a) :: toPs (l.map h)) = true
    rw [PyData.canLayAll0, E.lay a, EqE.layAll E l]
    rfl
theorem EqE.depAll (E : EqE n h) : ∀ l : List α, PyData.depthAll (toPs (l.map h)) ≤ n
  | [] => by show PyData.depthAll [] ≤ n; rw [PyData.depthAll]; exact Nat.zero_le _
  | a :: l => by
    show PyData.depthAll (toP (h a) :: toPs (l.map h)) ≤ n
    rw [PyData.depthAll]
    exact Nat.max_le.mpr ⟨E.dep a, EqE.depAll E l⟩
theorem EqE.list (E : EqE n h) (t : Bool) : EqE (n + 1) fun l : List α => .lst t (l.map h) where
  eq l m := by
    show PyData.eqv (.list (toPs (l.map h))) (.list (toPs (m.map h))) = true ↔ _
    rw [PyData.eqv]
    exact E.all l m
  lay l := by
    show PyData.canLay0 (.list (toPs (l.map h))) = true
    rw [PyData.canLay0]
    exact E.layAll l
  dep l := by
    show PyData.depth (.list (toPs (l.map h))) ≤ _
    rw [PyData.depth]
    exact Nat.succ_le_succ (E.depAll l)
theorem EqE.tupl (E : EqE n h) : EqE (n + 1) fun l : List α => .tup (l.map h) where
  eq l m := by
    show PyData.eqv (.tuple (toPs (l.map h))) (.tuple (toPs (m.map h))) = true ↔ _
    rw [PyData.eqv]
    exact E.all l m
  lay l := by
    show PyData.canLay0 (.tuple (toPs (l.map h))) = true
    rw [PyData.canLay0]
    exact E.layAll l
  dep l := by
    show PyData.depth (.tuple (toPs (l.map h))) ≤ _
    rw [PyData.depth]
    exact Nat.succ_le_succ (E.depAll l)
theorem EqE.pair (E : EqE n h) (F : EqE m k) : EqE (max n m + 1) fun p : α × β => .tup [h p.1, k p.2] where
  eq p q := by
    show PyData.eqv (.tuple [toP (h p.1), toP (k p.2)]) (.tuple [toP (h q.1), toP (k q.2)]) = true ↔ _
    rw [PyData.eqv, PyData.eqvAll, PyData.eqvAll, PyData.eqvAll, Bool.and_true, Bool.and_eq_true]
    have h1 := E.eq p.1 q.1
    have h2 := F.eq p.2 q.2
    unfold deq at h1 h2
    rw [h1, h2]
    exact ⟨fun z => Prod.ext z.1 z.2, fun z => by rw [z]; exact ⟨rfl, rfl⟩⟩
  lay p := by
    show PyData.canLay0 (.tuple [toP (h p.1), toP (k p.2)]) = true
    rw [PyData.canLay0, PyData.canLayAll0, PyData.canLayAll0, PyData.canLayAll0, E.lay, F.lay]
    rfl
  dep p := by
    show PyData.depth (.tuple [toP (h p.1), toP (k p.2)]) ≤ _
    rw [PyData.depth, PyData.depthAll, PyData.depthAll, PyData.depthAll]
    have h1 := E.dep p.1
    have h2 := F.dep p.2
    omega
theorem EqE.int : EqE 0 Dat.int where
  eq a b := by
    show PyData.eqv (.int a) (.int b) = true ↔ _
    rw [PyData.eqv, beq_iff_eq]
  lay a := by show PyData.canLay0 (.int a) = true; rw [PyData.canLay0]
  dep a := by show PyData.depth (.int a) ≤ 0; rw [PyData.depth]; exact Nat.le_refl 0
theorem EqE.bl : EqE 0 Dat.bl where
  eq a b := by
    show PyData.eqv (.bool a) (.bool b) = true ↔ _
    rw [PyData.eqv, beq_iff_eq]
  lay a := by show PyData.canLay0 (.bool a) = true; rw [PyData.canLay0]
  dep a := by show PyData.depth (.bool a) ≤ 0; rw [PyData.depth]; exact Nat.le_refl 0
/-- through an injection -/
theorem EqE.via {γ : Type} (E : EqE n h) (f : γ → α) (hf : ∀ a b, f a = f b → a = b) : EqE n fun c => h (f c) where
  eq a b := (E.eq _ _).trans ⟨hf a b, fun z => by rw [z]⟩
  lay a := E.lay _
  dep a := E.dep _
theorem EqE.eqEq (E : EqE n h) (hn : n ≤ 64) [DecidableEq α] (a b : α) : dEq (h a) (h b) = some (.bl (decide (a = b))) := by
  have ok : eqOk (h a) (h b) = true := by
    have e : ∀ a, SeqAt.shaped (toP (h a)) = true := fun a => by
      unfold SeqAt.shaped
      rw [E.lay, Bool.true_and, decide_eq_true_eq]
      exact Nat.le_trans (E.dep a) hn
    unfold eqOk
    rw [e, e]
    simp
  unfold dEq
  rw [if_pos ok]
  have : deq (h a) (h b) = decide (a = b) := by rw [Bool.eq_iff_iff, E.eq, decide_eq_true_eq]
  rw [this]
theorem EqE.neNe (E : EqE n h) (hn : n ≤ 64) [DecidableEq α] (a b : α) : dNe (h a) (h b) = some (.bl (!decide (a = b))) := by
  have ok : eqOk (h a) (h b) = true := by
    have e : ∀ a, SeqAt.shaped (toP (h a)) = true := fun a => by
      unfold SeqAt.shaped
      rw [E.lay, Bool.true_and, decide_eq_true_eq]
      exact Nat.le_trans (E.dep a) hn
    unfold eqOk
    rw [e, e]
    simp
  unfold dNe
  rw [if_pos ok]
  have : deq (h a) (h b) = decide (a = b) := by rw [Bool.eq_iff_iff, E.eq, decide_eq_true_eq]
  rw [this]
/-- lists, whoever made them -/
theorem EqE.eqL (E : EqE n h) (hn : n < 64) [DecidableEq α] (a b : List α) : dEq (.lst t (a.map h)) (.lst u (b.map h)) = some (.bl (decide (a = b))) :=
  (E.list t).eqEq hn a b
theorem EqE.neL (E : EqE n h) (hn : n < 64) [DecidableEq α] (a b : List α) : dNe (.lst t (a.map h)) (.lst u (b.map h)) = some (.bl (!decide (a = b))) :=
  (E.list t).neNe hn a b
end
end DL

set_option maxRecDepth 100000
set_option maxHeartbeats 4000000
/-! MSp: spans of time over the whole numbers; no program in sight. -/
namespace SP
abbrev Bd := Option Int
abbrev Sg := Bd × Bd
def loB : Bd → Int → Bool
  | none, _ => true
  | some a, x => decide (a ≤ x)
def hiB : Bd → Int → Bool
  | none, _ => true
  | some b, x => decide (x < b)
def memB (x : Int) (s : Sg) : Bool := loB s.1 x && hiB s.2 x
def inS (x : Int) (l : List Sg) : Bool := l.any (memB x)
def isS : Bd → Bd → Bool
  | some a, some b => decide (a < b)
  | _, _ => true
def ltB : Bd → Bd → Bool
  | some a, some b => decide (a < b)
  | _, _ => false
def Nf : List Sg → Prop
  | [] => True
  | s :: r => isS s.1 s.2 = true ∧ (∀ t ∈ r, ltB s.2 t.1 = true) ∧ Nf r
def AllS (l : List Sg) : Prop := ∀ s ∈ l, isS s.1 s.2 = true
theorem Nf.all : ∀ {l : List Sg}, Nf l → AllS l
  | [], _, s, h => nomatch h
  | _ :: _, h, s, hs => (List.mem_cons.mp hs).elim (fun e => by rw [e]; exact h.1) fun z => Nf.all h.2.2 s z
theorem inS_nil (x : Int) : inS x [] = false := rfl
theorem inS_cons (x : Int) (s : Sg) (l : List Sg) : inS x (s :: l) = (memB x s || inS x l) := rfl
theorem inS_app (x : Int) (l m : List Sg) : inS x (l ++ m) = (inS x l || inS x m) := by unfold inS; rw [List.any_append]
theorem inS_true {x : Int} {l : List Sg} : inS x l = true ↔ ∃ s ∈ l, memB x s = true := by unfold inS; rw [List.any_eq_true]
theorem ltB_some {a b : Bd} (h : ltB a b = true) : ∃ i j, a = some i ∧ b = some j ∧ i < j := by
  cases a with
  | none => cases h
  | some i => cases b with
    | none => cases h
    | some j => exact ⟨i, j, rfl, rfl, by simpa [ltB] using h⟩
theorem memB_true {x : Int} {s : Sg} : memB x s = true ↔ loB s.1 x = true ∧ hiB s.2 x = true := by unfold memB; rw [Bool.and_eq_true]
/-- a member of the tail stands above the head's end -/
theorem Nf.tail_hi {s : Sg} {r : List Sg} (h : Nf (s :: r)) {x : Int} (hx : inS x r = true) : ∃ e, s.2 = some e ∧ e < x := by
  obtain ⟨t, ht, hm⟩ := inS_true.mp hx
  obtain ⟨i, j, e1, e2, hij⟩ := ltB_some (h.2.1 t ht)
  have := (memB_true.mp hm).1
  rw [e2] at this
  have h2 : j ≤ x := by simpa [loB] using this
  exact ⟨i, e1, by omega⟩
/-- all members stand at or above the head's start -/
theorem Nf.lo {s : Sg} {r : List Sg} (h : Nf (s :: r)) {x : Int} (hx : inS x (s :: r) = true) : loB s.1 x = true := by
  rw [inS_cons, Bool.or_eq_true] at hx
  rcases hx with hx | hx
  · exact (memB_true.mp hx).1
  · obtain ⟨e, he, hlt⟩ := h.tail_hi hx
    cases hs : s.1 with
    | none => rfl
    | some a =>
      have := h.1
      rw [hs, he] at this
      have : a < e := by simpa [isS] using this
      simp [loB]; omega
theorem Nf.has {s : Sg} {r : List Sg} (h : Nf (s :: r)) : ∃ x, inS x (s :: r) = true := by
  cases h1 : s.1 with
  | some a => exact ⟨a, by
      rw [inS_cons, Bool.or_eq_true]
      refine .inl (memB_true.mpr ⟨by simp [h1, loB], ?_⟩)
      cases h2 : s.2 with
      | none => rfl
      | some b => have := h.1; rw [h1, h2] at this; simpa [isS, hiB] using this⟩
  | none =>
    cases h2 : s.2 with
    | none => exact ⟨0, by rw [inS_cons, Bool.or_eq_true]; exact .inl (memB_true.mpr ⟨by rw [h1]; rfl, by rw [h2]; rfl⟩)⟩
    | some b => exact ⟨b - 1, by rw [inS_cons, Bool.or_eq_true]; exact .inl (memB_true.mpr ⟨by rw [h1]; rfl, by rw [h2]; simp [hiB]; omega⟩)⟩
theorem Nf.start_le {s t : Sg} {r q : List Sg} (h : Nf (s :: r)) (g : Nf (t :: q)) (e : ∀ x, inS x (s :: r) = true → inS x (t :: q) = true) : ∀ a, t.1 = some a → ∃ b, s.1 = some b ∧ a ≤ b := by
  intro a ha
  cases hs : s.1 with
  | some b =>
    refine ⟨b, rfl, ?_⟩
    have : inS b (s :: r) = true := by
      rw [inS_cons, Bool.or_eq_true]
      refine .inl (memB_true.mpr ⟨by simp [hs, loB], ?_⟩)
      cases h2 : s.2 with
      | none => rfl
      | some c => have := h.1; rw [hs, h2] at this; simpa [isS, hiB] using this
    have := g.lo (e _ this)
    rw [ha] at this
    simpa [loB] using this
  | none =>
    exfalso
    have key : ∀ x, x < a → hiB s.2 x = true → False := fun x hx hh => by
      have : inS x (s :: r) = true := by
        rw [inS_cons, Bool.or_eq_true]
        exact .inl (memB_true.mpr ⟨by rw [hs]; rfl, hh⟩)
      have := g.lo (e _ this)
      rw [ha] at this
      have : a ≤ x := by simpa [loB] using this
      omega
    cases h2 : s.2 with
    | none => exact key (a - 1) (by omega) (by rw [h2]; rfl)
    | some c => exact key (min (a - 1) (c - 1)) (by omega) (by rw [h2]; simp [hiB]; omega)
theorem Nf.end_le {s t : Sg} {r q : List Sg} (h : Nf (s :: r)) (g : Nf (t :: q)) (hs : s.1 = t.1) (e : ∀ x, inS x (s :: r) = true → inS x (t :: q) = true) : ∀ b, t.2 = some b → ∃ c, s.2 = some c ∧ c ≤ b := by
  intro b hb
  have key : hiB s.2 b = true → False := fun hh => by
    have h1 : inS b (s :: r) = true := by
      rw [inS_cons, Bool.or_eq_true]
      refine .inl (memB_true.mpr ⟨?_, hh⟩)
      rw [hs]
      cases ht : t.1 with
      | none => rfl
      | some a => have := g.1; rw [ht, hb] at this; have : a < b := by simpa [isS] using this
                  simp [loB]; omega
    have h2 := e _ h1
    rw [inS_cons, Bool.or_eq_true] at h2
    rcases h2 with h2 | h2
    · have := (memB_true.mp h2).2
      rw [hb] at this
      simp [hiB] at this
    · obtain ⟨c, hc, hlt⟩ := g.tail_hi h2
      rw [hb] at hc
      cases hc
      omega
  cases hs2 : s.2 with
  | none => exact (key (by rw [hs2]; rfl)).elim
  | some c =>
    refine ⟨c, rfl, ?_⟩
    rw [hs2] at key
    simp [hiB] at key
    exact key
/-- one form -/
theorem Nf.ext : ∀ {l m : List Sg}, Nf l → Nf m → (∀ x, inS x l = inS x m) → l = m
  | [], [], _, _, _ => rfl
  | [], t :: q, _, g, e => by
    obtain ⟨x, hx⟩ := g.has
    rw [← e] at hx
    cases hx
  | s :: r, [], h, _, e => by
    obtain ⟨x, hx⟩ := h.has
    rw [e] at hx
    cases hx
  | s :: r, t :: q, h, g, e => by
    have a1 := h.start_le g fun x hx => by rw [← e]; exact hx
    have a2 := g.start_le h fun x hx => by rw [e]; exact hx
    have hs : s.1 = t.1 := by
      cases hs : s.1 with
      | none =>
        cases ht : t.1 with
        | none => rfl
        | some a => obtain ⟨b, hb, _⟩ := a1 a ht; rw [hs] at hb; cases hb
      | some b =>
        obtain ⟨a, ha, h1⟩ := a2 b hs
        obtain ⟨b', hb', h2⟩ := a1 a ha
        rw [hs] at hb'
        cases hb'
        rw [ha]
        congr 1
        omega
    have b1 := h.end_le g hs fun x hx => by rw [← e]; exact hx
    have b2 := g.end_le h hs.symm fun x hx => by rw [e]; exact hx
    have he : s.2 = t.2 := by
      cases h2 : s.2 with
      | none =>
        cases ht : t.2 with
        | none => rfl
        | some a => obtain ⟨b, hb, _⟩ := b1 a ht; rw [h2] at hb; cases hb
      | some b =>
        obtain ⟨a, ha, h1⟩ := b2 b h2
        obtain ⟨b', hb', h2'⟩ := b1 a ha
        rw [h2] at hb'
        cases hb'
        rw [ha]
        congr 1
        omega
    have hst : s = t := Prod.ext hs he
    subst hst
    have : r = q := Nf.ext h.2.2 g.2.2 fun x => by
      have ex := e x
      rw [inS_cons, inS_cons] at ex
      cases hm : memB x s with
      | false => rw [hm] at ex; simpa using ex
      | true =>
        have no : ∀ {p : List Sg}, Nf (s :: p) → inS x p = false := fun {p} hp => by
          cases hi : inS x p with
          | false => rfl
          | true =>
            obtain ⟨c, hc, hlt⟩ := hp.tail_hi hi
            have := (memB_true.mp hm).2
            rw [hc] at this
            simp [hiB] at this
            omega
        rw [no h, no g]
    rw [this]
theorem Nf.app {l : List Sg} {s : Sg} : Nf (l ++ [s]) ↔ Nf l ∧ isS s.1 s.2 = true ∧ ∀ t ∈ l, ltB t.2 s.1 = true := by
  induction l with
  | nil => simp [Nf]
  | cons t l ih =>
    show (isS t.1 t.2 = true ∧ (∀ u ∈ l ++ [s], ltB t.2 u.1 = true) ∧ Nf (l ++ [s])) ↔ (isS t.1 t.2 = true ∧ (∀ u ∈ l, ltB t.2 u.1 = true) ∧ Nf l) ∧ _ ∧ _
    rw [ih]
    constructor
    · rintro ⟨a, b, c, d, e⟩
      refine ⟨⟨a, fun u hu => b u (List.mem_append_left _ hu), c⟩, d, fun u hu => ?_⟩
      rcases List.mem_cons.mp hu with rfl | hu
      · exact b s (by simp)
      · exact e u hu
    · rintro ⟨⟨a, b, c⟩, d, e⟩
      refine ⟨a, fun u hu => ?_, c, d, fun u hu => e u (List.mem_cons_of_mem _ hu)⟩
      rcases List.mem_append.mp hu with hu | hu
      · exact b u hu
      · have : u = s := by simpa using hu
        rw [this]
        exact e t (by simp)

/-! ### tidied -/
def later : Bd → Bd → Bd
  | some x, some y => some (max x y)
  | _, _ => none
def leB : Bd → Bd → Bool
  | none, _ => true
  | some _, none => false
  | some a, some b => decide (a ≤ b)
def touch : Bd → Bd → Bool
  | some a, some b => decide (b ≤ a)
  | _, _ => true
/-- the last one of found, and a stretch that begins no earlier -/
def tidyF : List Sg → Sg → List Sg → List Sg
  | acc, l, [] => acc ++ [l]
  | acc, l, s :: r => if touch l.2 s.1 = true then tidyF acc (l.1, later l.2 s.2) r else tidyF (acc ++ [l]) s r
def tidyL : List Sg → List Sg
  | [] => []
  | s :: r => tidyF [] s r
theorem mem_later {f e s t : Bd} {x : Int} (h1 : leB f s = true) (h2 : touch e s = true) (h3 : isS f e = true) (h4 : isS s t = true) : memB x (f, later e t) = (memB x (f, e) || memB x (s, t)) := by
  cases f <;> cases e <;> cases s <;> cases t <;> simp_all [memB, loB, hiB, later, leB, touch, isS] <;> (try (rw [Bool.eq_iff_iff]; simp)) <;> omega
theorem isS_later {f e t : Bd} (h : isS f e = true) : isS f (later e t) = true := by
  cases f <;> cases e <;> cases t <;> simp_all [later, isS] <;> omega
theorem ltB_le {a b c : Bd} (h : ltB a b = true) (g : leB b c = true) : ltB a c = true := by
  cases a <;> cases b <;> cases c <;> simp_all [ltB, leB] <;> omega
theorem leB_trans {a b c : Bd} (h : leB a b = true) (g : leB b c = true) : leB a c = true := by
  cases a <;> cases b <;> cases c <;> simp_all [leB] <;> omega
theorem ltB_of {e s : Bd} (h : ¬ touch e s = true) : ltB e s = true := by
  cases e <;> cases s <;> simp_all [touch, ltB]
theorem tidyF_spec : ∀ {r : List Sg} {acc : List Sg} {l : Sg}, Nf (acc ++ [l]) → AllS r → (l :: r).Pairwise (fun a b => leB a.1 b.1 = true) → Nf (tidyF acc l r) ∧ ∀ x, inS x (tidyF acc l r) = (inS x (acc ++ [l]) || inS x r)
  | [], acc, l, h, _, _ => ⟨h, fun x => by rw [inS_nil, Bool.or_false]; rfl⟩
  | s :: r, acc, l, h, ha, hp => by
    have hls : leB l.1 s.1 = true := (List.pairwise_cons.mp hp).1 s (by simp)
    have hlr : ∀ t ∈ r, leB l.1 t.1 = true := fun t ht => (List.pairwise_cons.mp hp).1 t (by simp [ht])
    have hsr := (List.pairwise_cons.mp hp).2
    have hss : isS s.1 s.2 = true := ha s (by simp)
    have har : AllS r := fun t ht => ha t (by simp [ht])
    obtain ⟨n1, n2, n3⟩ := Nf.app.mp h
    unfold tidyF
    split
    · rename_i ht
      obtain ⟨q1, q2⟩ := tidyF_spec (r := r) (acc := acc) (l := (l.1, later l.2 s.2)) (Nf.app.mpr ⟨n1, isS_later n2, n3⟩) har (List.pairwise_cons.mpr ⟨hlr, (List.pairwise_cons.mp hsr).2⟩)
      refine ⟨q1, fun x => ?_⟩
      rw [q2, inS_app, inS_app, inS_cons, inS_cons, inS_cons, inS_nil, Bool.or_false, Bool.or_false, mem_later hls ht n2 hss]
      simp only [Bool.or_assoc]
    · rename_i ht
      have hlt := ltB_of ht
      obtain ⟨q1, q2⟩ := tidyF_spec (r := r) (acc := acc ++ [l]) (l := s) (Nf.app.mpr ⟨h, hss, fun t htm => by
        rcases List.mem_append.mp htm with h5 | h5
        · exact ltB_le (n3 t h5) hls
        · have : t = l := by simpa using h5
          rw [this]
          exact hlt⟩) har hsr
      refine ⟨q1, fun x => ?_⟩
      rw [q2, inS_app, inS_cons, inS_cons, inS_nil, Bool.or_false]
      simp only [Bool.or_assoc]
theorem tidyL_spec {l : List Sg} (ha : AllS l) (hp : l.Pairwise (fun a b => leB a.1 b.1 = true)) : Nf (tidyL l) ∧ ∀ x, inS x (tidyL l) = inS x l := by
  cases l with
  | nil => exact ⟨trivial, fun _ => rfl⟩
  | cons s r =>
    obtain ⟨q1, q2⟩ := tidyF_spec (r := r) (acc := []) (l := s) (show Nf [s] from ⟨ha s (by simp), by simp, trivial⟩) (fun t ht => ha t (by simp [ht])) hp
    exact ⟨q1, fun x => by rw [tidyL, q2, List.nil_append, inS_cons, inS_cons, inS_nil, Bool.or_false]⟩

theorem inS_perm {l m : List Sg} (h : l.Perm m) (x : Int) : inS x l = inS x m := by
  unfold inS
  rw [Bool.eq_iff_iff, List.any_eq_true, List.any_eq_true]
  exact ⟨fun ⟨s, a, b⟩ => ⟨s, h.mem_iff.mp a, b⟩, fun ⟨s, a, b⟩ => ⟨s, h.mem_iff.mpr a, b⟩⟩

/-! ### met, gaps -/
def laterS : Bd → Bd → Bd
  | none, b => b
  | a, none => a
  | some a, some b => some (max a b)
def earlier : Bd → Bd → Bd
  | none, b => b
  | a, none => a
  | some a, some b => some (min a b)
theorem loB_laterS (a b : Bd) (x : Int) : loB (laterS a b) x = (loB a x && loB b x) := by
  cases a <;> cases b <;> simp [laterS, loB] <;> (try (rw [Bool.eq_iff_iff]; simp)) <;> omega
theorem hiB_earlier (a b : Bd) (x : Int) : hiB (earlier a b) x = (hiB a x && hiB b x) := by
  cases a <;> cases b <;> simp [earlier, hiB] <;> (try (rw [Bool.eq_iff_iff]; simp)) <;> omega
theorem mem_of_not {s e : Bd} (h : isS s e = false) (x : Int) : memB x (s, e) = false := by
  cases s <;> cases e <;> simp_all [isS, memB, loB, hiB] <;> omega
def cross (s t : Sg) : Sg := (laterS s.1 t.1, earlier s.2 t.2)
theorem mem_cross (s t : Sg) (x : Int) : memB x (cross s t) = (memB x s && memB x t) := by
  unfold cross memB
  rw [loB_laterS, hiB_earlier]
  cases loB s.1 x <;> cases loB t.1 x <;> cases hiB s.2 x <;> cases hiB t.2 x <;> rfl
def metL (l m : List Sg) : List Sg := l.flatMap fun s => (m.map (cross s)).filter fun c => isS c.1 c.2
theorem inS_filter (l : List Sg) (x : Int) : inS x (l.filter fun c => isS c.1 c.2) = inS x l := by
  induction l with
  | nil => rfl
  | cons s l ih =>
    rw [List.filter_cons]
    split
    · rw [inS_cons, inS_cons, ih]
    · rename_i h
      rw [inS_cons, ih, mem_of_not (by simpa using h)]
      rfl
theorem inS_map_cross (s : Sg) (m : List Sg) (x : Int) : inS x (m.map (cross s)) = (memB x s && inS x m) := by
  induction m with
  | nil => simp [inS]
  | cons t m ih => rw [List.map_cons, inS_cons, ih, mem_cross, inS_cons]; cases memB x s <;> rfl
theorem inS_met (l m : List Sg) (x : Int) : inS x (metL l m) = (inS x l && inS x m) := by
  induction l with
  | nil => rfl
  | cons s l ih =>
    show inS x ((m.map (cross s)).filter _ ++ metL l m) = _
    rw [inS_app, ih, inS_filter, inS_map_cross, inS_cons]
    cases memB x s <;> cases inS x l <;> cases inS x m <;> rfl
theorem metL_all (l m : List Sg) : AllS (metL l m) := fun s hs => by
  obtain ⟨a, _, h⟩ := List.mem_flatMap.mp hs
  exact (List.mem_filter.mp h).2
def between : List Sg → List Sg
  | a :: b :: r => (a.2, b.1) :: between (b :: r)
  | _ => []
def pre : Bd → List Sg
  | none => []
  | some a => [(none, some a)]
def post : Bd → List Sg
  | none => []
  | some a => [(some a, none)]
def lastE : Sg → List Sg → Bd
  | s, [] => s.2
  | _, t :: r => lastE t r
def gapsL : List Sg → List Sg
  | [] => [(none, none)]
  | s :: r => pre s.1 ++ between (s :: r) ++ post (lastE s r)
theorem gap_after : ∀ {r : List Sg} {s : Sg}, Nf (s :: r) → ∀ x, hiB s.2 x = false → inS x (between (s :: r) ++ post (lastE s r)) = !inS x r
  | [], s, h, x, hx => by
    show inS x (post s.2) = true
    cases hs : s.2 with
    | none => rw [hs] at hx; cases hx
    | some b => rw [hs] at hx; simp [hiB] at hx; simp [post, inS, memB, loB, hiB]; omega
  | t :: r, s, h, x, hx => by
    show inS x ((s.2, t.1) :: (between (t :: r) ++ post (lastE t r))) = _
    obtain ⟨i, j, e1, e2, hij⟩ := ltB_some (h.2.1 t (by simp))
    rw [e1] at hx
    have hxi : i ≤ x := by simpa [hiB] using hx
    rw [inS_cons, inS_cons]
    cases hm : hiB t.2 x with
    | false =>
      rw [gap_after h.2.2 x hm]
      have h1 : memB x (s.2, t.1) = false := by
        cases q : memB x (s.2, t.1) with
        | false => rfl
        | true =>
          have := (memB_true.mp q).2
          rw [e2] at this
          have h3 : x < j := by simpa [hiB] using this
          cases ht : t.2 with
          | none => rw [ht] at hm; cases hm
          | some c =>
            rw [ht] at hm
            have h4 : c ≤ x := by simpa [hiB] using hm
            have := h.2.2.1
            rw [e2, ht] at this
            have : j < c := by simpa [isS] using this
            omega
      have h2 : memB x t = false := by unfold memB; rw [hm, Bool.and_false]
      rw [h1, h2]
      rfl
    | true =>
      have h1 : inS x (between (t :: r) ++ post (lastE t r)) = false := by
        cases q : inS x (between (t :: r) ++ post (lastE t r)) with
        | false => rfl
        | true =>
          exfalso
          exact above h.2.2 x q hm
      have h2 : inS x r = false := by
        cases q : inS x r with
        | false => rfl
        | true =>
          obtain ⟨c, hc, hlt⟩ := h.2.2.tail_hi q
          rw [hc] at hm
          simp [hiB] at hm
          omega
      rw [h1, h2]
      have e3 : memB x (s.2, t.1) = !memB x t := by
        unfold memB
        rw [hm, e1, e2]
        simp only [loB, hiB, Bool.and_true]
        rw [Bool.eq_iff_iff]
        simp
        omega
      rw [e3]
      simp
where
  above : ∀ {r : List Sg} {t : Sg}, Nf (t :: r) → ∀ x, inS x (between (t :: r) ++ post (lastE t r)) = true → hiB t.2 x = true → False
    | [], t, h, x, hx, hm => by
      have hx : inS x (post t.2) = true := hx
      cases ht : t.2 with
      | none => rw [ht] at hx; cases hx
      | some b => rw [ht] at hx hm; simp [post, inS, memB, loB, hiB] at hx hm; omega
    | u :: r, t, h, x, hx, hm => by
      have hx : inS x ((t.2, u.1) :: (between (u :: r) ++ post (lastE u r))) = true := hx
      obtain ⟨i, j, e1, e2, hij⟩ := ltB_some (h.2.1 u (by simp))
      rw [e1] at hm
      have hxi : x < i := by simpa [hiB] using hm
      rw [inS_cons, Bool.or_eq_true] at hx
      rcases hx with hx | hx
      · have := (memB_true.mp hx).1
        rw [e1] at this
        have : i ≤ x := by simpa [loB] using this
        omega
      · refine above h.2.2 x hx ?_
        cases hu : u.2 with
        | none => rfl
        | some c =>
          have := h.2.2.1
          rw [e2, hu] at this
          have : j < c := by simpa [isS] using this
          simp [hiB]; omega
theorem inS_gaps {l : List Sg} (h : Nf l) (x : Int) : inS x (gapsL l) = !inS x l := by
  cases l with
  | nil => rfl
  | cons s r =>
    show inS x (pre s.1 ++ between (s :: r) ++ post (lastE s r)) = _
    rw [List.append_assoc, inS_app]
    cases hm : hiB s.2 x with
    | false =>
      rw [gap_after h x hm]
      have h1 : inS x (pre s.1) = false := by
        cases hs : s.1 with
        | none => rfl
        | some a =>
          cases he : s.2 with
          | none => rw [he] at hm; cases hm
          | some c =>
            rw [he] at hm
            have h4 : c ≤ x := by simpa [hiB] using hm
            have := h.1
            rw [hs, he] at this
            have : a < c := by simpa [isS] using this
            simp [pre, inS, memB, loB, hiB]
            omega
      have h2 : memB x s = false := by unfold memB; rw [hm, Bool.and_false]
      rw [h1, inS_cons, h2]
      simp
    | true =>
      have h1 : inS x (between (s :: r) ++ post (lastE s r)) = false := by
        cases q : inS x (between (s :: r) ++ post (lastE s r)) with
        | false => rfl
        | true => exact (gap_after.above h x q hm).elim
      have h2 : inS x r = false := by
        cases q : inS x r with
        | false => rfl
        | true =>
          obtain ⟨c, hc, hlt⟩ := h.tail_hi q
          rw [hc] at hm
          simp [hiB] at hm
          omega
      rw [h1, inS_cons, h2, Bool.or_false, Bool.or_false]
      unfold memB
      rw [hm, Bool.and_true]
      cases hs : s.1 with
      | none => rfl
      | some a => simp [pre, inS, memB, loB, hiB]; rw [Bool.eq_iff_iff]; simp
end SP

set_option maxRecDepth 100000
set_option maxHeartbeats 4000000
/-! MSg: a grid of rising moments, its pieces, and spans told by pieces. -/
namespace SP
def Up (g : List Int) : Prop := g.Pairwise (· < ·)
def ix (g : List Int) (x : Int) : Nat := g.countP fun a => decide (a ≤ x)
theorem ix_le (g : List Int) (x : Int) : ix g x ≤ g.length := List.countP_le_length
theorem ix_at : ∀ {g : List Int}, Up g → ∀ {i : Nat} {a : Int} (x : Int), g[i]? = some a → (a ≤ x ↔ i < ix g x)
  | [], _, _, _, _, h => by simp at h
  | b :: g, u, i, a, x, h => by
    have hu := List.pairwise_cons.mp u
    have none : ¬ b ≤ x → ix g x = 0 := fun hb => by
      unfold ix
      rw [List.countP_eq_zero]
      intro c hc
      have := hu.1 c hc
      simp
      omega
    have e : ix (b :: g) x = ix g x + if b ≤ x then 1 else 0 := by
      unfold ix
      rw [List.countP_cons]
      by_cases hb : b ≤ x <;> simp [hb]
    rw [e]
    cases i with
    | zero =>
      simp at h
      subst h
      by_cases hb : b ≤ x
      · simp [hb]
      · rw [none hb]; simp [hb]
    | succ i =>
      have h' : g[i]? = some a := by simpa using h
      have ih := ix_at hu.2 x h'
      have hba : b < a := hu.1 a (List.mem_of_getElem? h')
      by_cases hb : b ≤ x
      · rw [ih, if_pos hb]; omega
      · rw [none hb, if_neg hb]
        constructor
        · intro hh; omega
        · intro hh; omega
theorem Up.lt {g : List Int} (u : Up g) {i j : Nat} {a b : Int} (h1 : g[i]? = some a) (h2 : g[j]? = some b) (h : i < j) : a < b := by
  obtain ⟨l1, e1⟩ := List.getElem?_eq_some_iff.mp h1
  obtain ⟨l2, e2⟩ := List.getElem?_eq_some_iff.mp h2
  rw [← e1, ← e2]
  exact List.pairwise_iff_getElem.mp u i j l1 l2 h
/-- the stretch from piece f to piece l -/
def stG (g : List Int) (f l : Nat) : Sg := (if 0 < f then g[f - 1]? else none, g[l]?)
theorem mem_stG {g : List Int} (u : Up g) {f l : Nat} (hf : f ≤ g.length) (x : Int) : memB x (stG g f l) = (decide (f ≤ ix g x) && decide (ix g x ≤ l)) := by
  have h1 : loB (stG g f l).1 x = decide (f ≤ ix g x) := by
    show loB (if 0 < f then g[f - 1]? else none) x = _
    by_cases h0 : 0 < f
    · rw [if_pos h0, List.getElem?_eq_getElem (by omega : f - 1 < g.length)]
      have := ix_at u x (List.getElem?_eq_getElem (by omega : f - 1 < g.length))
      simp only [loB]
      rw [Bool.eq_iff_iff]
      simp only [decide_eq_true_eq]
      rw [this]
      omega
    · rw [if_neg h0]
      have : f = 0 := by omega
      simp [loB, this]
  have h2 : hiB (stG g f l).2 x = decide (ix g x ≤ l) := by
    show hiB g[l]? x = _
    by_cases hl : l < g.length
    · rw [List.getElem?_eq_getElem hl]
      have := ix_at u x (List.getElem?_eq_getElem hl)
      simp only [hiB]
      rw [Bool.eq_iff_iff]
      simp only [decide_eq_true_eq]
      omega
    · rw [List.getElem?_eq_none (by omega)]
      have := ix_le g x
      have h3 : ix g x ≤ l := by omega
      simp [hiB, h3]
  unfold memB
  rw [h1, h2]
theorem isS_stG {g : List Int} (u : Up g) {f l : Nat} (hf : f ≤ l) : isS (stG g f l).1 (stG g f l).2 = true := by
  show isS (if 0 < f then g[f - 1]? else none) g[l]? = true
  by_cases h0 : 0 < f
  · rw [if_pos h0]
    cases h1 : g[f - 1]? with
    | none => rfl
    | some a => cases h2 : g[l]? with
      | none => rfl
      | some b => simp [isS]; exact u.lt h1 h2 (by omega)
  · rw [if_neg h0]; rfl
def spanG (g : List Int) (fs : List (Nat × Nat)) : List Sg := fs.map fun p => stG g p.1 p.2
/-- fs tells the runs of lit -/
structure Runs (lit : List Bool) (fs : List (Nat × Nat)) : Prop where
  ok : ∀ p ∈ fs, p.1 ≤ p.2 ∧ p.2 < lit.length
  sep : fs.Pairwise fun p q => p.2 + 1 < q.1
  cov : ∀ k, k < lit.length → (lit[k]? = some true ↔ ∃ p ∈ fs, p.1 ≤ k ∧ k ≤ p.2)
theorem Runs.nf {g : List Int} {lit : List Bool} {fs : List (Nat × Nat)} (u : Up g) (hl : lit.length = g.length + 1) (r : Runs lit fs) : Nf (spanG g fs) := by
  have go : ∀ {fs : List (Nat × Nat)}, (∀ p ∈ fs, p.1 ≤ p.2 ∧ p.2 < lit.length) → (fs.Pairwise fun p q => p.2 + 1 < q.1) → Nf (spanG g fs) := by
    intro fs
    induction fs with
    | nil => exact fun _ _ => trivial
    | cons p fs ih =>
      intro h1 h2
      have h3 := List.pairwise_cons.mp h2
      have hp := h1 p (by simp)
      refine ⟨isS_stG u hp.1, fun t ht => ?_, ih (fun q hq => h1 q (by simp [hq])) h3.2⟩
      obtain ⟨q, hq, rfl⟩ := List.mem_map.mp ht
      have hs := h3.1 q hq
      have hq2 := h1 q (by simp [hq])
      show ltB g[p.2]? (if 0 < q.1 then g[q.1 - 1]? else none) = true
      rw [if_pos (by omega), List.getElem?_eq_getElem (by omega : p.2 < g.length), List.getElem?_eq_getElem (by omega : q.1 - 1 < g.length)]
      simp only [ltB, decide_eq_true_eq]
      exact List.pairwise_iff_getElem.mp u _ _ _ _ (by omega)
  exact go r.ok r.sep
theorem Runs.mem {g : List Int} {lit : List Bool} {fs : List (Nat × Nat)} (u : Up g) (hl : lit.length = g.length + 1) (r : Runs lit fs) (x : Int) : inS x (spanG g fs) = true ↔ lit[ix g x]? = some true := by
  have := ix_le g x
  rw [r.cov (ix g x) (by omega), inS_true]
  constructor
  · rintro ⟨s, hs, hm⟩
    obtain ⟨p, hp, rfl⟩ := List.mem_map.mp hs
    have hq := r.ok p hp
    rw [mem_stG u (by omega), Bool.and_eq_true] at hm
    exact ⟨p, hp, by simpa using hm.1, by simpa using hm.2⟩
  · rintro ⟨p, hp, h1, h2⟩
    have hq := r.ok p hp
    exact ⟨_, List.mem_map.mpr ⟨p, hp, rfl⟩, by rw [mem_stG u (by omega), Bool.and_eq_true]; exact ⟨by simpa using h1, by simpa using h2⟩⟩
theorem Runs.uni {lit : List Bool} {fs : List (Nat × Nat)} (r : Runs lit fs) {l : List Sg} {g : List Int} (u : Up g) (hl : lit.length = g.length + 1) (hn : Nf l) (he : ∀ x, inS x l = true ↔ lit[ix g x]? = some true) : l = spanG g fs :=
  Nf.ext hn (r.nf u hl) fun x => by rw [Bool.eq_iff_iff, he, r.mem u hl]
theorem ix_self {g : List Int} (u : Up g) {k : Nat} {a : Int} (h : g[k]? = some a) : ix g a = k + 1 := by
  have h1 := (ix_at u a h).mp (Int.le_refl _)
  by_cases h2 : k + 1 < g.length
  · have h3 := u.lt h (List.getElem?_eq_getElem h2) (Nat.lt_succ_self k)
    have h4 := ix_at u a (List.getElem?_eq_getElem h2)
    by_cases h5 : k + 1 < ix g a
    · have := h4.mpr h5
      omega
    · omega
  · have := ix_le g a
    omega
theorem ix_pred {g : List Int} (u : Up g) {k : Nat} {a : Int} (h : g[k]? = some a) : ix g (a - 1) = k := by
  have h1 := ix_at u (a - 1) h
  have h2 : ¬ k < ix g (a - 1) := fun z => by have := h1.mpr z; omega
  cases k with
  | zero => omega
  | succ k =>
    obtain ⟨hk, _⟩ := List.getElem?_eq_some_iff.mp h
    have h3 : g[k]? = some g[k] := List.getElem?_eq_getElem (by omega)
    have h4 := u.lt h3 h (Nat.lt_succ_self k)
    have h5 := (ix_at u (a - 1) h3).mp (by omega)
    omega
end SP

set_option maxRecDepth 100000
set_option maxHeartbeats 4000000
/-! MEn: spans as data. -/
namespace SP
open PySem PySem.Spec PyProof.Rows L2 DL
noncomputable section
@[simp] theorem walkA_eq {f : DEnv → Rs Dat} {ε : DEnv} : walkA f ε = (f ε >>= asA) := rfl
@[simp] theorem asA_lst {t : Bool} {ds : List Dat} : asA (.lst t ds) = .ok ds := rfl
@[simp] theorem asA_tup {ds : List Dat} : asA (.tup ds) = .ok ds := rfl
def eB : Bd → Dat
  | none => .non
  | some i => .int i
def eS (s : Sg) : Dat := .tup [eB s.1, eB s.2]
def eL (l : List Sg) : List Dat := l.map eS
@[simp] theorem eB_none : eB none = .non := rfl
@[simp] theorem eB_some (i : Int) : eB (some i) = .int i := rfl
@[simp] theorem old_eB (b : Bd) : old (eB b) = eB b := by cases b <;> rfl
@[simp] theorem old_eS (s : Sg) : old (eS s) = eS s := by simp [eS]
@[simp] theorem olds_eL (l : List Sg) : olds (eL l) = eL l := olds_map _ _ old_eS l
@[simp] theorem fresh_eB (b : Bd) : fresh (eB b) = true := by cases b <;> rfl
@[simp] theorem fresh_eS (s : Sg) : fresh (eS s) = true := by simp [eS]
@[simp] theorem freshs_eL : ∀ l : List Sg, freshs (eL l) = true
  | [] => rfl
  | s :: l => by show (fresh (eS s) && freshs (eL l)) = true; rw [fresh_eS, freshs_eL l]; rfl
@[simp] theorem eL_nil : eL [] = [] := rfl
@[simp] theorem eL_cons (s : Sg) (l : List Sg) : eL (s :: l) = eS s :: eL l := rfl
@[simp] theorem eL_app (l m : List Sg) : eL (l ++ m) = eL l ++ eL m := List.map_append
@[simp] theorem eL_len (l : List Sg) : (eL l).length = l.length := List.length_map _
@[simp] theorem isN_eB (b : Bd) : dIsN (eB b) .non = some (.bl b.isNone) := by cases b <;> rfl
@[simp] theorem notN_eB (b : Bd) : dNotN (eB b) .non = some (.bl b.isSome) := by cases b <;> rfl
theorem eB_inj {a b : Bd} (h : eB a = eB b) : a = b := by
  cases a <;> cases b <;> first | rfl | (cases h; rfl) | cases h
theorem eqe_B : EqE 0 eB where
  eq a b := by
    cases a with
    | none => cases b with
      | none => exact ⟨fun _ => rfl, fun _ => by show PyData.eqv .none .none = true; rw [PyData.eqv]⟩
      | some j => exact ⟨fun z => (by
          have z : PyData.eqv .none (.int j) = true := z
          rw [PyData.eqv] at z
          exact absurd z Bool.false_ne_true), fun z => (nomatch z)⟩
    | some i => cases b with
      | none => exact ⟨fun z => (by
          have z : PyData.eqv (.int i) .none = true := z
          rw [PyData.eqv] at z
          exact absurd z Bool.false_ne_true), fun z => (nomatch z)⟩
      | some j => exact (EqE.int.eq i j).trans ⟨fun z => by rw [z], fun z => by cases z; rfl⟩
  lay a := by
    cases a with
    | none => show PyData.canLay0 .none = true; rw [PyData.canLay0]
    | some i => exact EqE.int.lay i
  dep a := by
    cases a with
    | none => show PyData.depth .none ≤ 0; rw [PyData.depth]; exact Nat.le_refl 0
    | some i => exact EqE.int.dep i
theorem eqe_S : EqE 1 eS := eqe_B.pair eqe_B
@[simp] theorem eq_eL {t u : Bool} (l m : List Sg) : dEq (.lst t (eL l)) (.lst u (eL m)) = some (.bl (decide (l = m))) := eqe_S.eqL (by decide) l m
@[simp] theorem ne_eL {t u : Bool} (l m : List Sg) : dNe (.lst t (eL l)) (.lst u (eL m)) = some (.bl (!decide (l = m))) := eqe_S.neL (by decide) l m
@[simp] theorem ne_eL_nil {t u : Bool} (l : List Sg) : dNe (.lst t (eL l)) (.lst u []) = some (.bl (!decide (l = []))) := eqe_S.neL (by decide) l []
@[simp] theorem eq_eL_nil {t u : Bool} (l : List Sg) : dEq (.lst t (eL l)) (.lst u []) = some (.bl (decide (l = []))) := eqe_S.eqL (by decide) l []
theorem atI_last {α : Type} (xs : List α) (x : α) {k : Int} (h : k = ((xs ++ [x]).length : Int) - 1) : atI (xs ++ [x]) k = some x := by
  subst h
  refine atI_at (by simp) ?_
  simp
theorem ixN_last {n : Nat} (h : 0 < n) : ixN n ((n : Int) - 1) = some (n - 1) := by
  unfold ixN
  rw [if_pos (by omega), if_pos (by omega)]
  congr 1
  omega
def kS (s : Sg) : List Int := match s.1 with
  | none => [0, 0]
  | some a => [1, a]
theorem kS_le (s t : Sg) : PySem.W.dataLe false keyP (kS s, eS s) (kS t, eS t) = leB s.1 t.1 := by
  have go : ∀ (a b c d : Int) (x y : Dat), PySem.W.dataLe false keyP ([a, b], x) ([c, d], y) = decide (a < c ∨ (a = c ∧ b ≤ d)) := fun a b c d x y => by
    have := congrFun (congrFun (PySem.W.dataLe_ii (β := Int × Int) (fun p => p.1) (fun p => p.2)) (a, b)) (c, d)
    exact this
  cases hs : s.1 <;> cases ht : t.1 <;> simp [kS, hs, ht, go, leB]
theorem leB_total (a b : Bd) : (leB a b || leB b a) = true := by
  cases a <;> cases b <;> simp [leB] <;> omega
/-- the stretches in order of their starts -/
def ordS (l : List Sg) : List Sg := l.mergeSort fun s t => leB s.1 t.1
theorem ordS_perm (l : List Sg) : (ordS l).Perm l := List.mergeSort_perm _ _
theorem ordS_pair (l : List Sg) : (ordS l).Pairwise fun s t => leB s.1 t.1 = true :=
  List.pairwise_mergeSort (le := fun s t : Sg => leB s.1 t.1) (fun a b c h1 h2 => leB_trans h1 h2) (fun a b => leB_total _ _) l
theorem ordK_eS (l : List Sg) : ordK (l.map fun s => (kS s, eS s)) = eL (ordS l) := by
  unfold ordK ordS eL
  have := List.map_mergeSort (r := fun s t : Sg => leB s.1 t.1) (s := PySem.W.dataLe false keyP) (f := fun s : Sg => (kS s, eS s)) (l := l) fun a _ b _ => (kS_le a b).symm
  rw [← this, List.map_map]
  rfl
theorem keysD_eS {F : List Dat → Rs Dat} (h : ∀ s : Sg, F [eS s] = .ok (.tup ((kS s).map .int))) : ∀ l : List Sg, keysD F (eL l) = .ok (l.map fun s => (kS s, eS s))
  | [] => rfl
  | s :: l => by
    show (F [old (eS s)] >>= _) = _
    rw [old_eS, h]
    have hk : keyI (.tup ((kS s).map .int)) = some (kS s) := by
      cases hs : s.1 <;> simp [kS, hs, keyI, intsD]
    have ih := keysD_eS h l
    unfold eL at ih
    simp [hk, ih]
/-- what tidied tells -/
def tdL (l : List Sg) : List Sg := tidyL (ordS l)
theorem tdL_spec {l : List Sg} (h : AllS l) : Nf (tdL l) ∧ ∀ x, inS x (tdL l) = inS x l := by
  obtain ⟨a, b⟩ := tidyL_spec (l := ordS l) (fun s hs => h s ((ordS_perm l).mem_iff.mp hs)) (ordS_pair l)
  exact ⟨a, fun x => (b x).trans (inS_perm (ordS_perm l) x)⟩
theorem tdL_len (l : List Sg) : (tdL l).length ≤ l.length := by
  have go : ∀ (r : List Sg) (acc : List Sg) (s : Sg), (tidyF acc s r).length ≤ acc.length + r.length + 1 := by
    intro r
    induction r with
    | nil => intro acc s; simp [tidyF]
    | cons t r ih =>
      intro acc s
      unfold tidyF
      split
      · have := ih acc (s.1, later s.2 t.2); simp; omega
      · have := ih (acc ++ [s]) t; simp at this ⊢; omega
  unfold tdL
  have hl : (ordS l).length = l.length := List.length_mergeSort _
  cases h : ordS l with
  | nil => simp [tidyL]
  | cons s r => rw [h] at hl; have := go r [] s; simp [tidyL] at this hl ⊢; omega
theorem tdL_nf {l : List Sg} (h : Nf l) : tdL l = l := Nf.ext (tdL_spec h.all).1 h (tdL_spec h.all).2
end
end SP

set_option maxRecDepth 100000
set_option maxHeartbeats 4000000
/-! law_k03_whole_spans: the walk, printed by gen.py -/
namespace LW
open PySem PySem.Spec PyProof.Rows L2 DL
/-! the text -/
def topS (i : Nat) : Stmt := PySem.Challenge.pw_whenrows_k03_whole_spans.main.body.getD i (.Pass ⟨0, 0, 0, 0⟩)
structure Bt (mg : Str → Option Value) : Prop where
  b_len : mg "len" = none
  b_list : mg "list" = none
  b_max : mg "max" = none
  b_min : mg "min" = none
  b_range : mg "range" = none
  b_sorted : mg "sorted" = none
  b_sum : mg "sum" = none
  b_zip : mg "zip" = none
/-! ### is_stretch -/
abbrev s_is_stretch : Stmt := topS 1
abbrev nm_is_stretch : List Str := ["start", "end"]
theorem sc_is_stretch : FnScope ["start", "end"] ["start", "end"] (defScope s_is_stretch) := ⟨rfl, rfl, rfl, by decide +kernel, rfl, by decide +kernel, by decide +kernel⟩
noncomputable def F_is_stretch : List Dat → Rs Dat := runF 2 (retD (orV (bop dIsN (rdv false 0) (kst .non)) (orV (bop dIsN (rdv false 1) (kst .non)) (bop dLt (rdv false 0) (rdv false 1)))))
theorem ok_is_stretch {P : Program} {w : World} {K : PySem.W.Frag} {mg : Str → Option Value} {base : Heap} {f : Addr} {fd : FuncData} (Fn : Fun K "is_stretch" "is_stretch" s_is_stretch f fd) (mf : mg "is_stretch" = some (.ref f)) (bf : Binds K fd ["start", "end"] []) (B : Bt mg)  : DefOk P w K mg base "is_stretch" 2 1 F_is_stretch :=
  def_ok (ps := ["start", "end"]) Fn mf bf sc_is_stretch fun cdv A outer s H E hr L => 
  (ds_one (ds_ret (de_or (de_isN (dv 0) de_non) (de_or (de_isN (dv 1) de_non) (de_one (de_lt hr.units0 (dv 0) (dv 1)))))))
/-! ### begins -/
abbrev s_begins : Stmt := topS 2
abbrev nm_begins : List Str := ["stretch"]
theorem sc_begins : FnScope ["stretch"] ["stretch"] (defScope s_begins) := ⟨rfl, rfl, rfl, by decide +kernel, rfl, by decide +kernel, by decide +kernel⟩
noncomputable def F_begins : List Dat → Rs Dat := runF 1 (seqD (iteD (tst (bop dIsN (bop dIx (rdv false 0) (kst (.int 0))) (kst .non)))
  (retD (tupD (argsC (kst (.int 0)) (argsC (kst (.int 0)) argsN))))
  (fun ε => .ok (.nx ε)))
  (retD (tupD (argsC (kst (.int 1)) (argsC (bop dIx (rdv false 0) (kst (.int 0))) argsN)))))
theorem ok_begins {P : Program} {w : World} {K : PySem.W.Frag} {mg : Str → Option Value} {base : Heap} {f : Addr} {fd : FuncData} (Fn : Fun K "begins" "begins" s_begins f fd) (mf : mg "begins" = some (.ref f)) (bf : Binds K fd ["stretch"] []) (B : Bt mg)  : DefOk P w K mg base "begins" 1 1 F_begins :=
  def_ok (ps := ["stretch"]) Fn mf bf sc_begins fun cdv A outer s H E hr L => 
  (ds_cons (ds_if (dt_isN (de_ix (dv 0) de_int) de_non)
  (ds_one (ds_ret (de_tup (da_cons de_int (da_cons de_int da_nil)))))
  ds_nil)
  (ds_one (ds_ret (de_tup (da_cons de_int (da_cons (de_ix (dv 0) de_int) da_nil))))))
/-! ### later -/
abbrev s_later : Stmt := topS 3
abbrev nm_later : List Str := ["one", "other"]
theorem sc_later : FnScope ["one", "other"] ["one", "other"] (defScope s_later) := ⟨rfl, rfl, rfl, by decide +kernel, rfl, by decide +kernel, by decide +kernel⟩
noncomputable def F_later : List Dat → Rs Dat := runF 2 (seqD (iteD (orT (tst (bop dIsN (rdv false 0) (kst .non))) (tst (bop dIsN (rdv false 1) (kst .non))))
  (retD (kst .non))
  (fun ε => .ok (.nx ε)))
  (retD (biD dMax2 (argsC (rdv false 0) (argsC (rdv false 1) argsN)))))
theorem ok_later {P : Program} {w : World} {K : PySem.W.Frag} {mg : Str → Option Value} {base : Heap} {f : Addr} {fd : FuncData} (Fn : Fun K "later" "later" s_later f fd) (mf : mg "later" = some (.ref f)) (bf : Binds K fd ["one", "other"] []) (B : Bt mg)  : DefOk P w K mg base "later" 2 1 F_later :=
  def_ok (ps := ["one", "other"]) Fn mf bf sc_later fun cdv A outer s H E hr L => 
  (ds_cons (ds_if (DW.t (dw_or (dt_isN (dv 0) de_non) (dw_or1 (dt_isN (dv 1) de_non))))
  (ds_one (ds_ret de_non))
  ds_nil)
  (ds_one (ds_ret (de_max2 rfl B.b_max (da_cons (dv 0) (da_cons (dv 1) da_nil))))))
/-! ### earlier -/
abbrev s_earlier : Stmt := topS 4
abbrev nm_earlier : List Str := ["one", "other"]
theorem sc_earlier : FnScope ["one", "other"] ["one", "other"] (defScope s_earlier) := ⟨rfl, rfl, rfl, by decide +kernel, rfl, by decide +kernel, by decide +kernel⟩
noncomputable def F_earlier : List Dat → Rs Dat := runF 2 (seqD (iteD (tst (bop dIsN (rdv false 0) (kst .non)))
  (retD (rdv true 1))
  (fun ε => .ok (.nx ε)))
  (seqD (iteD (tst (bop dIsN (rdv false 1) (kst .non)))
  (retD (rdv true 0))
  (fun ε => .ok (.nx ε)))
  (retD (biD dMin2 (argsC (rdv false 0) (argsC (rdv false 1) argsN))))))
theorem ok_earlier {P : Program} {w : World} {K : PySem.W.Frag} {mg : Str → Option Value} {base : Heap} {f : Addr} {fd : FuncData} (Fn : Fun K "earlier" "earlier" s_earlier f fd) (mf : mg "earlier" = some (.ref f)) (bf : Binds K fd ["one", "other"] []) (B : Bt mg)  : DefOk P w K mg base "earlier" 2 1 F_earlier :=
  def_ok (ps := ["one", "other"]) Fn mf bf sc_earlier fun cdv A outer s H E hr L => 
  (ds_cons (ds_if (dt_isN (dv 0) de_non)
  (ds_one (ds_ret (dv 1)))
  ds_nil)
  (ds_cons (ds_if (dt_isN (dv 1) de_non)
  (ds_one (ds_ret (dv 0)))
  ds_nil)
  (ds_one (ds_ret (de_min2 rfl B.b_min (da_cons (dv 0) (da_cons (dv 1) da_nil)))))))
/-! ### later_start -/
abbrev s_later_start : Stmt := topS 5
abbrev nm_later_start : List Str := ["one", "other"]
theorem sc_later_start : FnScope ["one", "other"] ["one", "other"] (defScope s_later_start) := ⟨rfl, rfl, rfl, by decide +kernel, rfl, by decide +kernel, by decide +kernel⟩
noncomputable def F_later_start : List Dat → Rs Dat := runF 2 (seqD (iteD (tst (bop dIsN (rdv false 0) (kst .non)))
  (retD (rdv true 1))
  (fun ε => .ok (.nx ε)))
  (seqD (iteD (tst (bop dIsN (rdv false 1) (kst .non)))
  (retD (rdv true 0))
  (fun ε => .ok (.nx ε)))
  (retD (biD dMax2 (argsC (rdv false 0) (argsC (rdv false 1) argsN))))))
theorem ok_later_start {P : Program} {w : World} {K : PySem.W.Frag} {mg : Str → Option Value} {base : Heap} {f : Addr} {fd : FuncData} (Fn : Fun K "later_start" "later_start" s_later_start f fd) (mf : mg "later_start" = some (.ref f)) (bf : Binds K fd ["one", "other"] []) (B : Bt mg)  : DefOk P w K mg base "later_start" 2 1 F_later_start :=
  def_ok (ps := ["one", "other"]) Fn mf bf sc_later_start fun cdv A outer s H E hr L => 
  (ds_cons (ds_if (dt_isN (dv 0) de_non)
  (ds_one (ds_ret (dv 1)))
  ds_nil)
  (ds_cons (ds_if (dt_isN (dv 1) de_non)
  (ds_one (ds_ret (dv 0)))
  ds_nil)
  (ds_one (ds_ret (de_max2 rfl B.b_max (da_cons (dv 0) (da_cons (dv 1) da_nil)))))))
/-! ### tidied -/
abbrev s_tidied : Stmt := topS 6
abbrev nm_tidied : List Str := ["stretches", "found", "start", "end", "first", "last"]
theorem sc_tidied : FnScope ["stretches", "found", "start", "end", "first", "last"] ["stretches"] (defScope s_tidied) := ⟨rfl, rfl, rfl, by decide +kernel, rfl, by decide +kernel, by decide +kernel⟩
noncomputable def L_tidied_1 : DEnv → Rs Out := (fgtD [2, 3, 4, 5] (seqD (iteD (tst (bop dNe (rdv false 1) (lstD (dspD argsN))))
  (fgtD [4, 5] (seqD (asgD (gT (gCons' (gN 4) (gCons' (gN 5) gNil'))) (bop dIx (rdv false 1) (bop dSub (biD dLen (argsC (rdv false 1) argsN)) (kst (.int 1)))))
  (iteD (orT (tst (bop dIsN (rdv false 5) (kst .non))) (orT (tst (bop dIsN (rdv false 2) (kst .non))) (tst (bop dLe (rdv false 2) (rdv false 5)))))
  (seqD (stD 1 (bop dSub (biD dLen (argsC (rdv false 1) argsN)) (kst (.int 1))) (tupD (argsC (rdv true 4) (argsC (callD 2 F_later (argsC (rdv true 5) (argsC (rdv true 3) argsN))) argsN))))
  (fun ε => .ok (.ct ε)))
  (fun ε => .ok (.nx ε)))))
  (fun ε => .ok (.nx ε)))
  (appD 1 (tupD (argsC (rdv true 2) (argsC (rdv true 3) argsN))))))
noncomputable def F_tidied : List Dat → Rs Dat := runF 6 (seqD (ownD 1 (dspD argsN))
  (seqD (loopD (walkD (lstD (sortKD F_begins (argsC (rdv false 0) argsN)))) (trn (gT (gCons' (gN 2) (gCons' (gN 3) gNil'))) L_tidied_1))
  (fun ε => (retD (rdv true 1)) (fz 1 ε))))
theorem ok_tidied {P : Program} {w : World} {K : PySem.W.Frag} {mg : Str → Option Value} {base : Heap} {f : Addr} {fd : FuncData} (Fn : Fun K "tidied" "tidied" s_tidied f fd) (mf : mg "tidied" = some (.ref f)) (bf : Binds K fd ["stretches"] []) (B : Bt mg) (G_begins : DefOk P w K mg base "begins" 1 1 F_begins) (G_later : DefOk P w K mg base "later" 2 1 F_later) : DefOk P w K mg base "tidied" 1 4 F_tidied :=
  def_ok (ps := ["stretches"]) Fn mf bf sc_tidied fun cdv A outer s H E hr L => 
  (ds_cons (ds_own 1 sc_tidied.nd (df_lst da_nil))
  (ds_cons (ds_for rfl (passes_of rfl) (di_list (DF.de (df_sortK G_begins hr (by decide) B.b_sorted (da_cons (dv 0) da_nil)))) (dg_tup rfl (dgs_cons (dg_name 2 sc_tidied.nd trivial) (dgs_cons (dg_name 3 sc_tidied.nd trivial) dgs_nil)) (gl_cons (gl_cons gl_nil)))
  (ds_fgt [2, 3, 4, 5] (ds_cons (ds_if (dt_ne hr.units (dv 1) (DF.de (df_lst da_nil)))
  (ds_fgt [4, 5] (ds_cons (ds_asg (de_ix (dv 1) (de_sub (de_len B.b_len (da_cons (dv 1) da_nil)) de_int)) (dg_tup rfl (dgs_cons (dg_name 4 sc_tidied.nd trivial) (dgs_cons (dg_name 5 sc_tidied.nd trivial) dgs_nil)) (gl_cons (gl_cons gl_nil))))
  (ds_one (ds_if (DW.t (dw_or (dt_isN (dv 5) de_non) (dw_or (dt_isN (dv 2) de_non) (dw_or1 (dt_le (dv 2) (dv 5))))))
  (ds_cons (ds_st 1 (de_sub (de_len B.b_len (da_cons (dv 1) da_nil)) de_int) (de_tup (da_cons (dv 4) (da_cons (dcall G_later hr (by decide) (takes_of rfl rfl rfl rfl) (da_cons (dv 5) (da_cons (dv 3) da_nil))) da_nil))) (h1 := fun b => pg_sub (pv 1) b set_list))
  (ds_one ds_continue))
  ds_nil))))
  ds_nil)
  (ds_one (ds_app 1 (de_tup (da_cons (dv 2) (da_cons (dv 3) da_nil))) (h1 := fun b => pe_bm PySem.F.plainAttrs_list PySem.F.slot_list_append PySem.F.type_list_append mt_append (pv 1) b))))))
  (ds_fz 1 (ds_one (ds_ret (dv 1))))))
/-! ### joined -/
abbrev s_joined : Stmt := topS 7
abbrev nm_joined : List Str := ["one", "other"]
theorem sc_joined : FnScope ["one", "other"] ["one", "other"] (defScope s_joined) := ⟨rfl, rfl, rfl, by decide +kernel, rfl, by decide +kernel, by decide +kernel⟩
noncomputable def F_joined : List Dat → Rs Dat := runF 2 (retD (callD 1 F_tidied (argsC (bop dAdd (rdv false 0) (rdv false 1)) argsN)))
theorem ok_joined {P : Program} {w : World} {K : PySem.W.Frag} {mg : Str → Option Value} {base : Heap} {f : Addr} {fd : FuncData} (Fn : Fun K "joined" "joined" s_joined f fd) (mf : mg "joined" = some (.ref f)) (bf : Binds K fd ["one", "other"] []) (B : Bt mg) (G_tidied : DefOk P w K mg base "tidied" 1 4 F_tidied) : DefOk P w K mg base "joined" 2 5 F_joined :=
  def_ok (ps := ["one", "other"]) Fn mf bf sc_joined fun cdv A outer s H E hr L => 
  (ds_one (ds_ret (dcall G_tidied hr (by decide) (takes_of rfl rfl rfl rfl) (da_cons (de_add (dv 0) (dv 1)) da_nil))))
/-! ### met -/
abbrev s_met : Stmt := topS 8
abbrev nm_met : List Str := ["one", "other", "found", "start", "end", "first", "last", "begun", "ended"]
theorem sc_met : FnScope ["one", "other", "found", "start", "end", "first", "last", "begun", "ended"] ["one", "other"] (defScope s_met) := ⟨rfl, rfl, rfl, by decide +kernel, rfl, by decide +kernel, by decide +kernel⟩
noncomputable def L_met_1 : DEnv → Rs Out := (fgtD [5, 6, 7, 8] (seqD (setD 7 (callD 2 F_later_start (argsC (rdv true 3) (argsC (rdv true 5) argsN))))
  (seqD (setD 8 (callD 2 F_earlier (argsC (rdv true 4) (argsC (rdv true 6) argsN))))
  (iteD (tst (callD 2 F_is_stretch (argsC (rdv true 7) (argsC (rdv true 8) argsN))))
  (appD 2 (tupD (argsC (rdv true 7) (argsC (rdv true 8) argsN))))
  (fun ε => .ok (.nx ε))))))
noncomputable def L_met_2 : DEnv → Rs Out := (fgtD [3, 4, 5, 6, 7, 8] (loopD (walkA (rdv true 1)) (trn (gT (gCons' (gN 5) (gCons' (gN 6) gNil'))) L_met_1)))
noncomputable def F_met : List Dat → Rs Dat := runF 9 (seqD (ownD 2 (dspD argsN))
  (seqD (loopD (walkA (rdv true 0)) (trn (gT (gCons' (gN 3) (gCons' (gN 4) gNil'))) L_met_2))
  (fun ε => (retD (callD 1 F_tidied (argsC (rdv true 2) argsN))) (fz 2 ε))))
theorem ok_met {P : Program} {w : World} {K : PySem.W.Frag} {mg : Str → Option Value} {base : Heap} {f : Addr} {fd : FuncData} (Fn : Fun K "met" "met" s_met f fd) (mf : mg "met" = some (.ref f)) (bf : Binds K fd ["one", "other"] []) (B : Bt mg) (G_tidied : DefOk P w K mg base "tidied" 1 4 F_tidied) (G_later_start : DefOk P w K mg base "later_start" 2 1 F_later_start) (G_earlier : DefOk P w K mg base "earlier" 2 1 F_earlier) (G_is_stretch : DefOk P w K mg base "is_stretch" 2 1 F_is_stretch) : DefOk P w K mg base "met" 2 5 F_met :=
  def_ok (ps := ["one", "other"]) Fn mf bf sc_met fun cdv A outer s H E hr L => 
  (ds_cons (ds_own 2 sc_met.nd (df_lst da_nil))
  (ds_cons (ds_for rfl (passes_of rfl) (di_any (dv 0)) (dg_tup rfl (dgs_cons (dg_name 3 sc_met.nd trivial) (dgs_cons (dg_name 4 sc_met.nd trivial) dgs_nil)) (gl_cons (gl_cons gl_nil)))
  (ds_fgt [3, 4, 5, 6, 7, 8] (ds_one (ds_for rfl (passes_of rfl) (di_any (dv 1)) (dg_tup rfl (dgs_cons (dg_name 5 sc_met.nd trivial) (dgs_cons (dg_name 6 sc_met.nd trivial) dgs_nil)) (gl_cons (gl_cons gl_nil)))
  (ds_fgt [5, 6, 7, 8] (ds_cons (ds_set 7 sc_met.nd (dcall G_later_start hr (by decide) (takes_of rfl rfl rfl rfl) (da_cons (dv 3) (da_cons (dv 5) da_nil))))
  (ds_cons (ds_set 8 sc_met.nd (dcall G_earlier hr (by decide) (takes_of rfl rfl rfl rfl) (da_cons (dv 4) (da_cons (dv 6) da_nil))))
  (ds_one (ds_if (dt_val (dcall G_is_stretch hr (by decide) (takes_of rfl rfl rfl rfl) (da_cons (dv 7) (da_cons (dv 8) da_nil))))
  (ds_one (ds_app 2 (de_tup (da_cons (dv 7) (da_cons (dv 8) da_nil))) (h1 := fun b => pe_bm PySem.F.plainAttrs_list PySem.F.slot_list_append PySem.F.type_list_append mt_append (pv 2) b)))
  ds_nil)))))))))
  (ds_fz 2 (ds_one (ds_ret (dcall G_tidied hr (by decide) (takes_of rfl rfl rfl rfl) (da_cons (dv 2) da_nil)))))))
/-! ### gaps -/
abbrev s_gaps : Stmt := topS 9
abbrev nm_gaps : List Str := ["span", "found", "one", "other"]
theorem sc_gaps : FnScope ["span", "found", "one", "other"] ["span"] (defScope s_gaps) := ⟨rfl, rfl, rfl, by decide +kernel, rfl, by decide +kernel, by decide +kernel⟩
noncomputable def L_gaps_1 : DEnv → Rs Out := (fgtD [2, 3] (appD 1 (tupD (argsC (bop dIx (rdv false 2) (kst (.int 1))) (argsC (bop dIx (rdv false 3) (kst (.int 0))) argsN)))))
noncomputable def F_gaps : List Dat → Rs Dat := runF 4 (seqD (iteD (tst (bop dEq (rdv false 0) (lstD (dspD argsN))))
  (retD (lstD (dspD (argsC (tupD (argsC (kst .non) (argsC (kst .non) argsN))) argsN))))
  (fun ε => .ok (.nx ε)))
  (seqD (ownD 1 (dspD argsN))
  (seqD (iteD (tst (bop dNotN (bop dIx (bop dIx (rdv false 0) (kst (.int 0))) (kst (.int 0))) (kst .non)))
  (appD 1 (tupD (argsC (kst .non) (argsC (bop dIx (bop dIx (rdv false 0) (kst (.int 0))) (kst (.int 0))) argsN))))
  (fun ε => .ok (.nx ε)))
  (seqD (loopD (rngD asZ (argsC (slD (rdv false 0) noO (smO (uop dNeg (kst (.int 1))))) (argsC (slD (rdv false 0) (smO (kst (.int 1))) noO) argsN))) (trn (gT (gCons' (gN 2) (gCons' (gN 3) gNil'))) L_gaps_1))
  (seqD (iteD (tst (bop dNotN (bop dIx (bop dIx (rdv false 0) (bop dSub (biD dLen (argsC (rdv false 0) argsN)) (kst (.int 1)))) (kst (.int 1))) (kst .non)))
  (appD 1 (tupD (argsC (bop dIx (bop dIx (rdv false 0) (bop dSub (biD dLen (argsC (rdv false 0) argsN)) (kst (.int 1)))) (kst (.int 1))) (argsC (kst .non) argsN))))
  (fun ε => .ok (.nx ε)))
  (fun ε => (retD (rdv true 1)) (fz 1 ε)))))))
theorem ok_gaps {P : Program} {w : World} {K : PySem.W.Frag} {mg : Str → Option Value} {base : Heap} {f : Addr} {fd : FuncData} (Fn : Fun K "gaps" "gaps" s_gaps f fd) (mf : mg "gaps" = some (.ref f)) (bf : Binds K fd ["span"] []) (B : Bt mg)  : DefOk P w K mg base "gaps" 1 1 F_gaps :=
  def_ok (ps := ["span"]) Fn mf bf sc_gaps fun cdv A outer s H E hr L => 
  (ds_cons (ds_if (dt_eq hr.units (dv 0) (DF.de (df_lst da_nil)))
  (ds_one (ds_ret (DF.de (df_lst (da_cons (de_tup (da_cons de_non (da_cons de_non da_nil))) da_nil)))))
  ds_nil)
  (ds_cons (ds_own 1 sc_gaps.nd (df_lst da_nil))
  (ds_cons (ds_if (dt_notN (de_ix (de_ix (dv 0) de_int) de_int) de_non)
  (ds_one (ds_app 1 (de_tup (da_cons de_non (da_cons (de_ix (de_ix (dv 0) de_int) de_int) da_nil))) (h1 := fun b => pe_bm PySem.F.plainAttrs_list PySem.F.slot_list_append PySem.F.type_list_append mt_append (pv 1) b)))
  ds_nil)
  (ds_cons (ds_for rfl (passes_of rfl) (di_zip B.b_zip (da_cons (de_slice (dv 0) do_none (do_some (de_neg de_int))) (da_cons (de_slice (dv 0) (do_some de_int) do_none) da_nil))) (dg_tup rfl (dgs_cons (dg_name 2 sc_gaps.nd trivial) (dgs_cons (dg_name 3 sc_gaps.nd trivial) dgs_nil)) (gl_cons (gl_cons gl_nil)))
  (ds_fgt [2, 3] (ds_one (ds_app 1 (de_tup (da_cons (de_ix (dv 2) de_int) (da_cons (de_ix (dv 3) de_int) da_nil))) (h1 := fun b => pe_bm PySem.F.plainAttrs_list PySem.F.slot_list_append PySem.F.type_list_append mt_append (pv 1) b)))))
  (ds_cons (ds_if (dt_notN (de_ix (de_ix (dv 0) (de_sub (de_len B.b_len (da_cons (dv 0) da_nil)) de_int)) de_int) de_non)
  (ds_one (ds_app 1 (de_tup (da_cons (de_ix (de_ix (dv 0) (de_sub (de_len B.b_len (da_cons (dv 0) da_nil)) de_int)) de_int) (da_cons de_non da_nil))) (h1 := fun b => pe_bm PySem.F.plainAttrs_list PySem.F.slot_list_append PySem.F.type_list_append mt_append (pv 1) b)))
  ds_nil)
  (ds_fz 1 (ds_one (ds_ret (dv 1)))))))))
/-! ### taken -/
abbrev s_taken : Stmt := topS 10
abbrev nm_taken : List Str := ["one", "other"]
theorem sc_taken : FnScope ["one", "other"] ["one", "other"] (defScope s_taken) := ⟨rfl, rfl, rfl, by decide +kernel, rfl, by decide +kernel, by decide +kernel⟩
noncomputable def F_taken : List Dat → Rs Dat := runF 2 (retD (callD 2 F_met (argsC (rdv true 0) (argsC (callD 1 F_gaps (argsC (rdv true 1) argsN)) argsN))))
theorem ok_taken {P : Program} {w : World} {K : PySem.W.Frag} {mg : Str → Option Value} {base : Heap} {f : Addr} {fd : FuncData} (Fn : Fun K "taken" "taken" s_taken f fd) (mf : mg "taken" = some (.ref f)) (bf : Binds K fd ["one", "other"] []) (B : Bt mg) (G_met : DefOk P w K mg base "met" 2 5 F_met) (G_gaps : DefOk P w K mg base "gaps" 1 1 F_gaps) : DefOk P w K mg base "taken" 2 6 F_taken :=
  def_ok (ps := ["one", "other"]) Fn mf bf sc_taken fun cdv A outer s H E hr L => 
  (ds_one (ds_ret (dcall G_met hr (by decide) (takes_of rfl rfl rfl rfl) (da_cons (dv 0) (da_cons (dcall G_gaps hr (by decide) (takes_of rfl rfl rfl rfl) (da_cons (dv 1) da_nil)) da_nil)))))
/-! ### _law_mix -/
abbrev s__law_mix : Stmt := topS 12
abbrev nm__law_mix : List Str := ["_law_cell", "_law_j", "_law_number"]
theorem sc__law_mix : FnScope ["_law_cell", "_law_j", "_law_number"] ["_law_cell", "_law_j"] (defScope s__law_mix) := ⟨rfl, rfl, rfl, by decide +kernel, rfl, by decide +kernel, by decide +kernel⟩
noncomputable def F__law_mix : List Dat → Rs Dat := runF 3 (seqD (iteD (andT (tst (bop dEq (bop dMod (rdv false 0) (kst (.int 2))) (kst (.int 1)))) (tst (bop dNe (bop dShr (rdv false 0) (kst (.int 27))) (kst (.int 0)))))
  (retD (bop dMod (bop dShr (rdv false 0) (bop dAdd (kst (.int 1)) (bop dMul (kst (.int 20)) (rdv false 1)))) (kst (.int 1048576))))
  (fun ε => .ok (.nx ε)))
  (seqD (setD 2 (bop dMod (bop dAdd (bop dMul (rdv false 0) (bop dAdd (bop dMul (kst (.int 2)) (rdv false 1)) (kst (.int 3)))) (rdv false 1)) (kst (.int 2147483629))))
  (seqD (setD 2 (bop dMod (bop dMul (bop dAdd (bop dMul (rdv false 2) (rdv false 2)) (kst (.int 1))) (kst (.int 48271))) (kst (.int 2147483629))))
  (retD (bop dMod (bop dMul (rdv false 2) (rdv false 2)) (kst (.int 2147483587)))))))
theorem ok__law_mix {P : Program} {w : World} {K : PySem.W.Frag} {mg : Str → Option Value} {base : Heap} {f : Addr} {fd : FuncData} (Fn : Fun K "_law_mix" "_law_mix" s__law_mix f fd) (mf : mg "_law_mix" = some (.ref f)) (bf : Binds K fd ["_law_cell", "_law_j"] []) (B : Bt mg)  : DefOk P w K mg base "_law_mix" 2 1 F__law_mix :=
  def_ok (ps := ["_law_cell", "_law_j"]) Fn mf bf sc__law_mix fun cdv A outer s H E hr L => 
  (ds_cons (ds_if (DW.t (dw_and (dt_eq hr.units (de_mod (dv 0) de_int) de_int) (dw_and1 (dt_ne hr.units (de_shr (dv 0) de_int) de_int))))
  (ds_one (ds_ret (de_mod (de_shr (dv 0) (de_add de_int (de_mul de_int (dv 1)))) de_int)))
  ds_nil)
  (ds_cons (ds_set 2 sc__law_mix.nd (de_mod (de_add (de_mul (dv 0) (de_add (de_mul de_int (dv 1)) de_int)) (dv 1)) de_int))
  (ds_cons (ds_set 2 sc__law_mix.nd (de_mod (de_mul (de_add (de_mul (dv 2) (dv 2)) de_int) de_int) de_int))
  (ds_one (ds_ret (de_mod (de_mul (dv 2) (dv 2)) de_int))))))
/-! ### _law_span -/
abbrev s__law_span : Stmt := topS 13
abbrev nm__law_span : List Str := ["_law_cells", "_law_drawn", "_law_k", "_law_wide", "_law_moment", "_law_rising", "_law_cell", "_law_found", "_law_j"]
theorem sc__law_span : FnScope ["_law_cells", "_law_drawn", "_law_k", "_law_wide", "_law_moment", "_law_rising", "_law_cell", "_law_found", "_law_j"] ["_law_cells", "_law_drawn", "_law_k"] (defScope s__law_span) := ⟨rfl, rfl, rfl, by decide +kernel, rfl, by decide +kernel, by decide +kernel⟩
noncomputable def L__law_span_1 : DEnv → Rs Out := (fgtD [6] (seqD (appD 5 (rdv true 4))
  (setD 4 (bop dAdd (bop dAdd (rdv false 4) (kst (.int 1))) (bop dMod (callD 2 F__law_mix (argsC (rdv true 6) (argsC (kst (.int 5)) argsN))) (rdv false 3))))))
noncomputable def C__law_span_1 : DEnv → Rs (List Dat) := compD (rngD asR1 (argsC (bop dFdiv (biD dLen (argsC (rdv false 5) argsN)) (kst (.int 2))) argsN)) (gN 8) yesT (tupD (argsC (bop dIx (rdv false 5) (bop dMul (kst (.int 2)) (rdv false 8))) (argsC (bop dIx (rdv false 5) (bop dAdd (bop dMul (kst (.int 2)) (rdv false 8)) (kst (.int 1)))) argsN))) [8]
noncomputable def F__law_span : List Dat → Rs Dat := runF 9 (seqD (setD 3 (bop dIx (lstD (dspD (argsC (kst (.int 1)) (argsC (kst (.int 4)) (argsC (bop dPow (kst (.int 10)) (kst (.int 20))) argsN))))) (bop dMod (callD 2 F__law_mix (argsC (rdv true 1) (argsC (kst (.int 1)) argsN))) (kst (.int 3)))))
  (seqD (setD 4 (bop dAdd (bop dSub (bop dMod (rdv false 1) (bop dPow (kst (.int 10)) (kst (.int 59)))) (bop dPow (kst (.int 10)) (kst (.int 58)))) (bop dMod (callD 2 F__law_mix (argsC (rdv true 1) (argsC (bop dAdd (kst (.int 2)) (rdv false 2)) argsN))) (kst (.int 4)))))
  (seqD (ownD 5 (dspD argsN))
  (seqD (loopD (walkA (rdv true 0)) (trn (gN 6) L__law_span_1))
  (fun ε => (seqD (ownD 7 C__law_span_1)
  (seqD (iteD (andT (tst (bop dNe (rdv false 7) (lstD (dspD argsN)))) (tst (bop dEq (bop dMod (callD 2 F__law_mix (argsC (rdv true 1) (argsC (bop dAdd (kst (.int 8)) (rdv false 2)) argsN))) (kst (.int 3))) (kst (.int 1)))))
  (stD 7 (kst (.int 0)) (tupD (argsC (kst .non) (argsC (bop dIx (bop dIx (rdv false 7) (kst (.int 0))) (kst (.int 1))) argsN))))
  (fun ε => .ok (.nx ε)))
  (seqD (iteD (andT (tst (bop dNe (rdv false 7) (lstD (dspD argsN)))) (tst (bop dEq (bop dMod (callD 2 F__law_mix (argsC (rdv true 1) (argsC (bop dAdd (kst (.int 11)) (rdv false 2)) argsN))) (kst (.int 3))) (kst (.int 1)))))
  (stD 7 (bop dSub (biD dLen (argsC (rdv false 7) argsN)) (kst (.int 1))) (tupD (argsC (bop dIx (bop dIx (rdv false 7) (bop dSub (biD dLen (argsC (rdv false 7) argsN)) (kst (.int 1)))) (kst (.int 0))) (argsC (kst .non) argsN))))
  (fun ε => .ok (.nx ε)))
  (fun ε => (retD (rdv true 7)) (fz 7 ε))))) (fz 5 ε))))))
theorem ok__law_span {P : Program} {w : World} {K : PySem.W.Frag} {mg : Str → Option Value} {base : Heap} {f : Addr} {fd : FuncData} (Fn : Fun K "_law_span" "_law_span" s__law_span f fd) (mf : mg "_law_span" = some (.ref f)) (bf : Binds K fd ["_law_cells", "_law_drawn", "_law_k"] []) (B : Bt mg) (G__law_mix : DefOk P w K mg base "_law_mix" 2 1 F__law_mix) : DefOk P w K mg base "_law_span" 3 2 F__law_span :=
  def_ok (ps := ["_law_cells", "_law_drawn", "_law_k"]) Fn mf bf sc__law_span fun cdv A outer s H E hr L => 
  (ds_cons (ds_set 3 sc__law_span.nd (de_ix (DF.de (df_lst (da_cons de_int (da_cons de_int (da_cons (de_pow de_int de_int) da_nil))))) (de_mod (dcall G__law_mix hr (by decide) (takes_of rfl rfl rfl rfl) (da_cons (dv 1) (da_cons de_int da_nil))) de_int)))
  (ds_cons (ds_set 4 sc__law_span.nd (de_add (de_sub (de_mod (dv 1) (de_pow de_int de_int)) (de_pow de_int de_int)) (de_mod (dcall G__law_mix hr (by decide) (takes_of rfl rfl rfl rfl) (da_cons (dv 1) (da_cons (de_add de_int (dv 2)) da_nil))) de_int)))
  (ds_cons (ds_own 5 sc__law_span.nd (df_lst da_nil))
  (ds_cons (ds_for rfl (passes_of rfl) (di_any (dv 0)) (dg_name 6 sc__law_span.nd trivial)
  (ds_fgt [6] (ds_cons (ds_app 5 (dv 4) (h1 := fun b => pe_bm PySem.F.plainAttrs_list PySem.F.slot_list_append PySem.F.type_list_append mt_append (pv 5) b))
  (ds_one (ds_set 4 sc__law_span.nd (de_add (de_add (dv 4) de_int) (de_mod (dcall G__law_mix hr (by decide) (takes_of rfl rfl rfl rfl) (da_cons (dv 6) (da_cons de_int da_nil))) (dv 3))))))))
  (ds_fz 5 (ds_cons (ds_setLc 7 rfl sc__law_span.nd (di_range1 B.b_range (da_cons (de_fdiv (de_len B.b_len (da_cons (dv 5) da_nil)) de_int) da_nil)) (blkOk_by (N := nm__law_span) (sc := defScope s__law_span) (own := [("_law_j", 8)]) (by decide +kernel)) (fun _ _ _ _ _ _ => (dg_name 8 sc__law_span.nd (by decide))) (fun _ _ _ _ _ _ => dts_nil) (fun _ _ _ _ _ _ => (de_tup (da_cons (de_ix (dv 5) (de_mul de_int (dv 8))) (da_cons (de_ix (dv 5) (de_add (de_mul de_int (dv 8)) de_int)) da_nil))))).2
  (ds_cons (ds_if (DW.t (dw_and (dt_ne hr.units (dv 7) (DF.de (df_lst da_nil))) (dw_and1 (dt_eq hr.units (de_mod (dcall G__law_mix hr (by decide) (takes_of rfl rfl rfl rfl) (da_cons (dv 1) (da_cons (de_add de_int (dv 2)) da_nil))) de_int) de_int))))
  (ds_one (ds_st 7 de_int (de_tup (da_cons de_non (da_cons (de_ix (de_ix (dv 7) de_int) de_int) da_nil))) (h1 := fun b => pg_sub (pv 7) b set_list)))
  ds_nil)
  (ds_cons (ds_if (DW.t (dw_and (dt_ne hr.units (dv 7) (DF.de (df_lst da_nil))) (dw_and1 (dt_eq hr.units (de_mod (dcall G__law_mix hr (by decide) (takes_of rfl rfl rfl rfl) (da_cons (dv 1) (da_cons (de_add de_int (dv 2)) da_nil))) de_int) de_int))))
  (ds_one (ds_st 7 (de_sub (de_len B.b_len (da_cons (dv 7) da_nil)) de_int) (de_tup (da_cons (de_ix (de_ix (dv 7) (de_sub (de_len B.b_len (da_cons (dv 7) da_nil)) de_int)) de_int) (da_cons de_non da_nil))) (h1 := fun b => pg_sub (pv 7) b set_list)))
  ds_nil)
  (ds_fz 7 (ds_one (ds_ret (dv 7))))))))))))
/-! ### _law_two -/
abbrev s__law_two : Stmt := topS 14
abbrev nm__law_two : List Str := ["_law_a", "_law_b"]
theorem sc__law_two : FnScope ["_law_a", "_law_b"] ["_law_a", "_law_b"] (defScope s__law_two) := ⟨rfl, rfl, rfl, by decide +kernel, rfl, by decide +kernel, by decide +kernel⟩
noncomputable def F__law_two : List Dat → Rs Dat := runF 2 (seqD (iteD (orT (tst (bop dNe (callD 2 F_joined (argsC (callD 2 F_taken (argsC (rdv true 0) (argsC (rdv true 1) argsN))) (argsC (callD 2 F_met (argsC (rdv true 0) (argsC (rdv true 1) argsN))) argsN))) (rdv false 0))) (tst (bop dNe (callD 2 F_taken (argsC (rdv true 0) (argsC (callD 2 F_taken (argsC (rdv true 0) (argsC (rdv true 1) argsN))) argsN))) (callD 2 F_met (argsC (rdv true 0) (argsC (rdv true 1) argsN))))))
  (retD (kst (.bl false)))
  (fun ε => .ok (.nx ε)))
  (seqD (iteD (orT (tst (bop dNe (callD 2 F_joined (argsC (rdv true 0) (argsC (rdv true 1) argsN))) (callD 2 F_joined (argsC (rdv true 1) (argsC (rdv true 0) argsN))))) (tst (bop dNe (callD 2 F_met (argsC (rdv true 0) (argsC (rdv true 1) argsN))) (callD 2 F_met (argsC (rdv true 1) (argsC (rdv true 0) argsN))))))
  (retD (kst (.bl false)))
  (fun ε => .ok (.nx ε)))
  (seqD (iteD (orT (tst (bop dNe (callD 2 F_met (argsC (callD 2 F_taken (argsC (rdv true 0) (argsC (rdv true 1) argsN))) (argsC (rdv true 1) argsN))) (lstD (dspD argsN)))) (tst (bop dNe (callD 2 F_taken (argsC (callD 2 F_joined (argsC (rdv true 0) (argsC (rdv true 1) argsN))) (argsC (rdv true 1) argsN))) (callD 2 F_taken (argsC (rdv true 0) (argsC (rdv true 1) argsN))))))
  (retD (kst (.bl false)))
  (fun ε => .ok (.nx ε)))
  (retD (andV (bop dEq (callD 2 F_joined (argsC (rdv true 0) (argsC (rdv true 1) argsN))) (callD 1 F_tidied (argsC (bop dAdd (rdv false 1) (rdv false 0)) argsN))) (andV (bop dEq (callD 2 F_met (argsC (rdv true 0) (argsC (callD 2 F_joined (argsC (rdv true 0) (argsC (rdv true 1) argsN))) argsN))) (rdv false 0)) (bop dEq (callD 2 F_joined (argsC (rdv true 0) (argsC (callD 2 F_met (argsC (rdv true 0) (argsC (rdv true 1) argsN))) argsN))) (rdv false 0))))))))
theorem ok__law_two {P : Program} {w : World} {K : PySem.W.Frag} {mg : Str → Option Value} {base : Heap} {f : Addr} {fd : FuncData} (Fn : Fun K "_law_two" "_law_two" s__law_two f fd) (mf : mg "_law_two" = some (.ref f)) (bf : Binds K fd ["_law_a", "_law_b"] []) (B : Bt mg) (G_joined : DefOk P w K mg base "joined" 2 5 F_joined) (G_taken : DefOk P w K mg base "taken" 2 6 F_taken) (G_met : DefOk P w K mg base "met" 2 5 F_met) (G_tidied : DefOk P w K mg base "tidied" 1 4 F_tidied) : DefOk P w K mg base "_law_two" 2 7 F__law_two :=
  def_ok (ps := ["_law_a", "_law_b"]) Fn mf bf sc__law_two fun cdv A outer s H E hr L => 
  (ds_cons (ds_if (DW.t (dw_or (dt_ne hr.units (dcall G_joined hr (by decide) (takes_of rfl rfl rfl rfl) (da_cons (dcall G_taken hr (by decide) (takes_of rfl rfl rfl rfl) (da_cons (dv 0) (da_cons (dv 1) da_nil))) (da_cons (dcall G_met hr (by decide) (takes_of rfl rfl rfl rfl) (da_cons (dv 0) (da_cons (dv 1) da_nil))) da_nil))) (dv 0)) (dw_or1 (dt_ne hr.units (dcall G_taken hr (by decide) (takes_of rfl rfl rfl rfl) (da_cons (dv 0) (da_cons (dcall G_taken hr (by decide) (takes_of rfl rfl rfl rfl) (da_cons (dv 0) (da_cons (dv 1) da_nil))) da_nil))) (dcall G_met hr (by decide) (takes_of rfl rfl rfl rfl) (da_cons (dv 0) (da_cons (dv 1) da_nil)))))))
  (ds_one (ds_ret de_bl))
  ds_nil)
  (ds_cons (ds_if (DW.t (dw_or (dt_ne hr.units (dcall G_joined hr (by decide) (takes_of rfl rfl rfl rfl) (da_cons (dv 0) (da_cons (dv 1) da_nil))) (dcall G_joined hr (by decide) (takes_of rfl rfl rfl rfl) (da_cons (dv 1) (da_cons (dv 0) da_nil)))) (dw_or1 (dt_ne hr.units (dcall G_met hr (by decide) (takes_of rfl rfl rfl rfl) (da_cons (dv 0) (da_cons (dv 1) da_nil))) (dcall G_met hr (by decide) (takes_of rfl rfl rfl rfl) (da_cons (dv 1) (da_cons (dv 0) da_nil)))))))
  (ds_one (ds_ret de_bl))
  ds_nil)
  (ds_cons (ds_if (DW.t (dw_or (dt_ne hr.units (dcall G_met hr (by decide) (takes_of rfl rfl rfl rfl) (da_cons (dcall G_taken hr (by decide) (takes_of rfl rfl rfl rfl) (da_cons (dv 0) (da_cons (dv 1) da_nil))) (da_cons (dv 1) da_nil))) (DF.de (df_lst da_nil))) (dw_or1 (dt_ne hr.units (dcall G_taken hr (by decide) (takes_of rfl rfl rfl rfl) (da_cons (dcall G_joined hr (by decide) (takes_of rfl rfl rfl rfl) (da_cons (dv 0) (da_cons (dv 1) da_nil))) (da_cons (dv 1) da_nil))) (dcall G_taken hr (by decide) (takes_of rfl rfl rfl rfl) (da_cons (dv 0) (da_cons (dv 1) da_nil)))))))
  (ds_one (ds_ret de_bl))
  ds_nil)
  (ds_one (ds_ret (de_and (de_eq hr.units (dcall G_joined hr (by decide) (takes_of rfl rfl rfl rfl) (da_cons (dv 0) (da_cons (dv 1) da_nil))) (dcall G_tidied hr (by decide) (takes_of rfl rfl rfl rfl) (da_cons (de_add (dv 1) (dv 0)) da_nil))) (de_and (de_eq hr.units (dcall G_met hr (by decide) (takes_of rfl rfl rfl rfl) (da_cons (dv 0) (da_cons (dcall G_joined hr (by decide) (takes_of rfl rfl rfl rfl) (da_cons (dv 0) (da_cons (dv 1) da_nil))) da_nil))) (dv 0)) (de_one (de_eq hr.units (dcall G_joined hr (by decide) (takes_of rfl rfl rfl rfl) (da_cons (dv 0) (da_cons (dcall G_met hr (by decide) (takes_of rfl rfl rfl rfl) (da_cons (dv 0) (da_cons (dv 1) da_nil))) da_nil))) (dv 0))))))))))
/-! ### _law_three -/
abbrev s__law_three : Stmt := topS 15
abbrev nm__law_three : List Str := ["_law_a", "_law_b", "_law_c"]
theorem sc__law_three : FnScope ["_law_a", "_law_b", "_law_c"] ["_law_a", "_law_b", "_law_c"] (defScope s__law_three) := ⟨rfl, rfl, rfl, by decide +kernel, rfl, by decide +kernel, by decide +kernel⟩
noncomputable def F__law_three : List Dat → Rs Dat := runF 3 (seqD (iteD (orT (tst (bop dNe (callD 2 F_joined (argsC (callD 2 F_joined (argsC (rdv true 0) (argsC (rdv true 1) argsN))) (argsC (rdv true 2) argsN))) (callD 2 F_joined (argsC (rdv true 0) (argsC (callD 2 F_joined (argsC (rdv true 1) (argsC (rdv true 2) argsN))) argsN))))) (tst (bop dNe (callD 2 F_met (argsC (callD 2 F_met (argsC (rdv true 0) (argsC (rdv true 1) argsN))) (argsC (rdv true 2) argsN))) (callD 2 F_met (argsC (rdv true 0) (argsC (callD 2 F_met (argsC (rdv true 1) (argsC (rdv true 2) argsN))) argsN))))))
  (retD (kst (.bl false)))
  (fun ε => .ok (.nx ε)))
  (seqD (iteD (tst (bop dNe (callD 2 F_met (argsC (rdv true 0) (argsC (callD 2 F_joined (argsC (rdv true 1) (argsC (rdv true 2) argsN))) argsN))) (callD 2 F_joined (argsC (callD 2 F_met (argsC (rdv true 0) (argsC (rdv true 1) argsN))) (argsC (callD 2 F_met (argsC (rdv true 0) (argsC (rdv true 2) argsN))) argsN)))))
  (retD (kst (.bl false)))
  (fun ε => .ok (.nx ε)))
  (retD (bop dEq (callD 2 F_taken (argsC (rdv true 0) (argsC (callD 2 F_joined (argsC (rdv true 1) (argsC (rdv true 2) argsN))) argsN))) (callD 2 F_taken (argsC (callD 2 F_taken (argsC (rdv true 0) (argsC (rdv true 1) argsN))) (argsC (rdv true 2) argsN)))))))
theorem ok__law_three {P : Program} {w : World} {K : PySem.W.Frag} {mg : Str → Option Value} {base : Heap} {f : Addr} {fd : FuncData} (Fn : Fun K "_law_three" "_law_three" s__law_three f fd) (mf : mg "_law_three" = some (.ref f)) (bf : Binds K fd ["_law_a", "_law_b", "_law_c"] []) (B : Bt mg) (G_met : DefOk P w K mg base "met" 2 5 F_met) (G_joined : DefOk P w K mg base "joined" 2 5 F_joined) (G_taken : DefOk P w K mg base "taken" 2 6 F_taken) : DefOk P w K mg base "_law_three" 3 7 F__law_three :=
  def_ok (ps := ["_law_a", "_law_b", "_law_c"]) Fn mf bf sc__law_three fun cdv A outer s H E hr L => 
  (ds_cons (ds_if (DW.t (dw_or (dt_ne hr.units (dcall G_joined hr (by decide) (takes_of rfl rfl rfl rfl) (da_cons (dcall G_joined hr (by decide) (takes_of rfl rfl rfl rfl) (da_cons (dv 0) (da_cons (dv 1) da_nil))) (da_cons (dv 2) da_nil))) (dcall G_joined hr (by decide) (takes_of rfl rfl rfl rfl) (da_cons (dv 0) (da_cons (dcall G_joined hr (by decide) (takes_of rfl rfl rfl rfl) (da_cons (dv 1) (da_cons (dv 2) da_nil))) da_nil)))) (dw_or1 (dt_ne hr.units (dcall G_met hr (by decide) (takes_of rfl rfl rfl rfl) (da_cons (dcall G_met hr (by decide) (takes_of rfl rfl rfl rfl) (da_cons (dv 0) (da_cons (dv 1) da_nil))) (da_cons (dv 2) da_nil))) (dcall G_met hr (by decide) (takes_of rfl rfl rfl rfl) (da_cons (dv 0) (da_cons (dcall G_met hr (by decide) (takes_of rfl rfl rfl rfl) (da_cons (dv 1) (da_cons (dv 2) da_nil))) da_nil)))))))
  (ds_one (ds_ret de_bl))
  ds_nil)
  (ds_cons (ds_if (dt_ne hr.units (dcall G_met hr (by decide) (takes_of rfl rfl rfl rfl) (da_cons (dv 0) (da_cons (dcall G_joined hr (by decide) (takes_of rfl rfl rfl rfl) (da_cons (dv 1) (da_cons (dv 2) da_nil))) da_nil))) (dcall G_joined hr (by decide) (takes_of rfl rfl rfl rfl) (da_cons (dcall G_met hr (by decide) (takes_of rfl rfl rfl rfl) (da_cons (dv 0) (da_cons (dv 1) da_nil))) (da_cons (dcall G_met hr (by decide) (takes_of rfl rfl rfl rfl) (da_cons (dv 0) (da_cons (dv 2) da_nil))) da_nil))))
  (ds_one (ds_ret de_bl))
  ds_nil)
  (ds_one (ds_ret (de_eq hr.units (dcall G_taken hr (by decide) (takes_of rfl rfl rfl rfl) (da_cons (dv 0) (da_cons (dcall G_joined hr (by decide) (takes_of rfl rfl rfl rfl) (da_cons (dv 1) (da_cons (dv 2) da_nil))) da_nil))) (dcall G_taken hr (by decide) (takes_of rfl rfl rfl rfl) (da_cons (dcall G_taken hr (by decide) (takes_of rfl rfl rfl rfl) (da_cons (dv 0) (da_cons (dv 1) da_nil))) (da_cons (dv 2) da_nil))))))))
/-! ### _law_alone -/
abbrev s__law_alone : Stmt := topS 16
abbrev nm__law_alone : List Str := ["_law_a", "_law_every"]
theorem sc__law_alone : FnScope ["_law_a", "_law_every"] ["_law_a"] (defScope s__law_alone) := ⟨rfl, rfl, rfl, by decide +kernel, rfl, by decide +kernel, by decide +kernel⟩
noncomputable def F__law_alone : List Dat → Rs Dat := runF 2 (seqD (setD 1 (lstD (dspD (argsC (tupD (argsC (kst .non) (argsC (kst .non) argsN))) argsN))))
  (seqD (iteD (orT (tst (bop dNe (callD 2 F_joined (argsC (rdv true 0) (argsC (lstD (dspD argsN)) argsN))) (rdv false 0))) (orT (tst (bop dNe (callD 2 F_met (argsC (rdv true 0) (argsC (lstD (dspD argsN)) argsN))) (lstD (dspD argsN)))) (orT (tst (bop dNe (callD 2 F_taken (argsC (rdv true 0) (argsC (lstD (dspD argsN)) argsN))) (rdv false 0))) (tst (bop dNe (callD 2 F_taken (argsC (lstD (dspD argsN)) (argsC (rdv true 0) argsN))) (lstD (dspD argsN)))))))
  (retD (kst (.bl false)))
  (fun ε => .ok (.nx ε)))
  (seqD (iteD (orT (tst (bop dNe (callD 2 F_joined (argsC (rdv true 0) (argsC (rdv true 1) argsN))) (rdv false 1))) (orT (tst (bop dNe (callD 2 F_met (argsC (rdv true 0) (argsC (rdv true 1) argsN))) (rdv false 0))) (orT (tst (bop dNe (callD 2 F_taken (argsC (rdv true 0) (argsC (rdv true 1) argsN))) (lstD (dspD argsN)))) (tst (bop dNe (callD 2 F_taken (argsC (rdv true 0) (argsC (rdv true 0) argsN))) (lstD (dspD argsN)))))))
  (retD (kst (.bl false)))
  (fun ε => .ok (.nx ε)))
  (retD (andV (bop dEq (callD 2 F_taken (argsC (rdv true 1) (argsC (callD 2 F_taken (argsC (rdv true 1) (argsC (rdv true 0) argsN))) argsN))) (rdv false 0)) (bop dEq (callD 2 F_joined (argsC (rdv true 0) (argsC (callD 2 F_taken (argsC (rdv true 1) (argsC (rdv true 0) argsN))) argsN))) (rdv false 1)))))))
theorem ok__law_alone {P : Program} {w : World} {K : PySem.W.Frag} {mg : Str → Option Value} {base : Heap} {f : Addr} {fd : FuncData} (Fn : Fun K "_law_alone" "_law_alone" s__law_alone f fd) (mf : mg "_law_alone" = some (.ref f)) (bf : Binds K fd ["_law_a"] []) (B : Bt mg) (G_joined : DefOk P w K mg base "joined" 2 5 F_joined) (G_met : DefOk P w K mg base "met" 2 5 F_met) (G_taken : DefOk P w K mg base "taken" 2 6 F_taken) : DefOk P w K mg base "_law_alone" 1 7 F__law_alone :=
  def_ok (ps := ["_law_a"]) Fn mf bf sc__law_alone fun cdv A outer s H E hr L => 
  (ds_cons (ds_set 1 sc__law_alone.nd (DF.de (df_lst (da_cons (de_tup (da_cons de_non (da_cons de_non da_nil))) da_nil))))
  (ds_cons (ds_if (DW.t (dw_or (dt_ne hr.units (dcall G_joined hr (by decide) (takes_of rfl rfl rfl rfl) (da_cons (dv 0) (da_cons (DF.de (df_lst da_nil)) da_nil))) (dv 0)) (dw_or (dt_ne hr.units (dcall G_met hr (by decide) (takes_of rfl rfl rfl rfl) (da_cons (dv 0) (da_cons (DF.de (df_lst da_nil)) da_nil))) (DF.de (df_lst da_nil))) (dw_or (dt_ne hr.units (dcall G_taken hr (by decide) (takes_of rfl rfl rfl rfl) (da_cons (dv 0) (da_cons (DF.de (df_lst da_nil)) da_nil))) (dv 0)) (dw_or1 (dt_ne hr.units (dcall G_taken hr (by decide) (takes_of rfl rfl rfl rfl) (da_cons (DF.de (df_lst da_nil)) (da_cons (dv 0) da_nil))) (DF.de (df_lst da_nil))))))))
  (ds_one (ds_ret de_bl))
  ds_nil)
  (ds_cons (ds_if (DW.t (dw_or (dt_ne hr.units (dcall G_joined hr (by decide) (takes_of rfl rfl rfl rfl) (da_cons (dv 0) (da_cons (dv 1) da_nil))) (dv 1)) (dw_or (dt_ne hr.units (dcall G_met hr (by decide) (takes_of rfl rfl rfl rfl) (da_cons (dv 0) (da_cons (dv 1) da_nil))) (dv 0)) (dw_or (dt_ne hr.units (dcall G_taken hr (by decide) (takes_of rfl rfl rfl rfl) (da_cons (dv 0) (da_cons (dv 1) da_nil))) (DF.de (df_lst da_nil))) (dw_or1 (dt_ne hr.units (dcall G_taken hr (by decide) (takes_of rfl rfl rfl rfl) (da_cons (dv 0) (da_cons (dv 0) da_nil))) (DF.de (df_lst da_nil))))))))
  (ds_one (ds_ret de_bl))
  ds_nil)
  (ds_one (ds_ret (de_and (de_eq hr.units (dcall G_taken hr (by decide) (takes_of rfl rfl rfl rfl) (da_cons (dv 1) (da_cons (dcall G_taken hr (by decide) (takes_of rfl rfl rfl rfl) (da_cons (dv 1) (da_cons (dv 0) da_nil))) da_nil))) (dv 0)) (de_one (de_eq hr.units (dcall G_joined hr (by decide) (takes_of rfl rfl rfl rfl) (da_cons (dv 0) (da_cons (dcall G_taken hr (by decide) (takes_of rfl rfl rfl rfl) (da_cons (dv 1) (da_cons (dv 0) da_nil))) da_nil))) (dv 1)))))))))
/-! ### law -/
abbrev s_law : Stmt := topS 17
abbrev nm_law : List Str := ["_law_script", "_law_cells", "_law_drawn", "_law_many", "_law_a", "_law_b", "_law_c", "_law_kept", "_law_one", "_law_other"]
theorem sc_law : FnScope ["_law_script", "_law_cells", "_law_drawn", "_law_many", "_law_a", "_law_b", "_law_c", "_law_kept", "_law_one", "_law_other"] ["_law_script"] (defScope s_law) := ⟨rfl, rfl, rfl, by decide +kernel, rfl, by decide +kernel, by decide +kernel⟩
noncomputable def L_law_1 : DEnv → Rs Out := (fgtD [8, 9] (iteD (orT (notT (tst (callD 2 F__law_two (argsC (rdv true 8) (argsC (rdv true 9) argsN))))) (notT (tst (callD 1 F__law_alone (argsC (rdv true 8) argsN)))))
  (retD (kst (.bl false)))
  (fun ε => .ok (.nx ε))))
noncomputable def F_law : List Dat → Rs Dat := runF 10 (seqD (setD 1 (slD (rdv false 0) noO (smO (kst (.int 63)))))
  (seqD (setD 2 (biD dSum (argsC (rdv false 1) argsN)))
  (seqD (setD 3 (bop dFdiv (biD dLen (argsC (rdv false 1) argsN)) (kst (.int 3))))
  (seqD (setD 4 (callD 3 F__law_span (argsC (slD (rdv false 1) noO (smO (rdv false 3))) (argsC (rdv true 2) (argsC (kst (.int 0)) argsN)))))
  (seqD (setD 5 (callD 3 F__law_span (argsC (slD (rdv false 1) (smO (rdv false 3)) (smO (bop dMul (kst (.int 2)) (rdv false 3)))) (argsC (rdv true 2) (argsC (kst (.int 1)) argsN)))))
  (seqD (setD 6 (callD 3 F__law_span (argsC (slD (rdv false 1) (smO (bop dMul (kst (.int 2)) (rdv false 3))) noO) (argsC (rdv true 2) (argsC (kst (.int 2)) argsN)))))
  (seqD (setD 7 (lstD (dspD (argsC (lstD (mkD dList (argsC (rdv false 4) argsN))) (argsC (lstD (mkD dList (argsC (rdv false 5) argsN))) (argsC (lstD (mkD dList (argsC (rdv false 6) argsN))) argsN))))))
  (seqD (loopD (walkD (lstD (dspD (argsC (tupD (argsC (rdv true 4) (argsC (rdv true 5) argsN))) (argsC (tupD (argsC (rdv true 5) (argsC (rdv true 6) argsN))) (argsC (tupD (argsC (rdv true 6) (argsC (rdv true 4) argsN))) argsN)))))) (trn (gT (gCons' (gN 8) (gCons' (gN 9) gNil'))) L_law_1))
  (retD (andV (callD 3 F__law_three (argsC (rdv true 4) (argsC (rdv true 5) (argsC (rdv true 6) argsN)))) (andV (callD 3 F__law_three (argsC (rdv true 6) (argsC (rdv true 4) (argsC (rdv true 5) argsN)))) (bop dEq (lstD (dspD (argsC (rdv true 4) (argsC (rdv true 5) (argsC (rdv true 6) argsN))))) (rdv false 7)))))))))))))
theorem ok_law {P : Program} {w : World} {K : PySem.W.Frag} {mg : Str → Option Value} {base : Heap} {f : Addr} {fd : FuncData} (Fn : Fun K "law" "law" s_law f fd) (mf : mg "law" = some (.ref f)) (bf : Binds K fd ["_law_script"] []) (B : Bt mg) (G__law_span : DefOk P w K mg base "_law_span" 3 2 F__law_span) (G__law_three : DefOk P w K mg base "_law_three" 3 7 F__law_three) (G__law_two : DefOk P w K mg base "_law_two" 2 7 F__law_two) (G__law_alone : DefOk P w K mg base "_law_alone" 1 7 F__law_alone) : FnOk P w K mg base (L2.CX P w) 8 f fd ["_law_script"] (spD K mg 1 F_law) :=
  fn_okD (ps := ["_law_script"]) Fn sc_law fun cdv A outer s H E hr L => 
  (ds_cons (ds_set 1 sc_law.nd (de_slice (dv 0) do_none (do_some de_int)))
  (ds_cons (ds_set 2 sc_law.nd (de_sum rfl B.b_sum (da_cons (dv 1) da_nil)))
  (ds_cons (ds_set 3 sc_law.nd (de_fdiv (de_len B.b_len (da_cons (dv 1) da_nil)) de_int))
  (ds_cons (ds_set 4 sc_law.nd (dcall G__law_span hr (by decide) (takes_of rfl rfl rfl rfl) (da_cons (de_slice (dv 1) do_none (do_some (dv 3))) (da_cons (dv 2) (da_cons de_int da_nil)))))
  (ds_cons (ds_set 5 sc_law.nd (dcall G__law_span hr (by decide) (takes_of rfl rfl rfl rfl) (da_cons (de_slice (dv 1) (do_some (dv 3)) (do_some (de_mul de_int (dv 3)))) (da_cons (dv 2) (da_cons de_int da_nil)))))
  (ds_cons (ds_set 6 sc_law.nd (dcall G__law_span hr (by decide) (takes_of rfl rfl rfl rfl) (da_cons (de_slice (dv 1) (do_some (de_mul de_int (dv 3))) do_none) (da_cons (dv 2) (da_cons de_int da_nil)))))
  (ds_cons (ds_set 7 sc_law.nd (DF.de (df_lst (da_cons (DF.de (df_list B.b_list (da_cons (dv 4) da_nil))) (da_cons (DF.de (df_list B.b_list (da_cons (dv 5) da_nil))) (da_cons (DF.de (df_list B.b_list (da_cons (dv 6) da_nil))) da_nil))))))
  (ds_cons (ds_for rfl (passes_of rfl) (di_list (DF.de (df_lst (da_cons (de_tup (da_cons (dv 4) (da_cons (dv 5) da_nil))) (da_cons (de_tup (da_cons (dv 5) (da_cons (dv 6) da_nil))) (da_cons (de_tup (da_cons (dv 6) (da_cons (dv 4) da_nil))) da_nil)))))) (dg_tup rfl (dgs_cons (dg_name 8 sc_law.nd trivial) (dgs_cons (dg_name 9 sc_law.nd trivial) dgs_nil)) (gl_cons (gl_cons gl_nil)))
  (ds_fgt [8, 9] (ds_one (ds_if (DW.t (dw_or (dt_not (dt_val (dcall G__law_two hr (by decide) (takes_of rfl rfl rfl rfl) (da_cons (dv 8) (da_cons (dv 9) da_nil))))) (dw_or1 (dt_not (dt_val (dcall G__law_alone hr (by decide) (takes_of rfl rfl rfl rfl) (da_cons (dv 8) da_nil)))))))
  (ds_one (ds_ret de_bl))
  ds_nil))))
  (ds_one (ds_ret (de_and (dcall G__law_three hr (by decide) (takes_of rfl rfl rfl rfl) (da_cons (dv 4) (da_cons (dv 5) (da_cons (dv 6) da_nil)))) (de_and (dcall G__law_three hr (by decide) (takes_of rfl rfl rfl rfl) (da_cons (dv 6) (da_cons (dv 4) (da_cons (dv 5) da_nil)))) (de_one (de_eq hr.units (DF.de (df_lst (da_cons (dv 4) (da_cons (dv 5) (da_cons (dv 6) da_nil))))) (dv 7)))))))))))))))
theorem all_mk {l : PySem.W.OpenLaw} {w : World} {K : PySem.W.Frag} {h : Heap} {mg : Str → Option Value} {fa : Addr} (X : K.In h) (G : h.Ns mainGlobals mg) (hfa : mg "law" = some (.ref fa))
    {f_is_stretch f_begins f_later f_earlier f_later_start f_tidied f_joined f_met f_gaps f_taken f__law_mix f__law_span f__law_two f__law_three f__law_alone f_law : Addr} {od_is_stretch an_is_stretch od_begins an_begins od_later an_later od_earlier an_earlier od_later_start an_later_start od_tidied an_tidied od_joined an_joined od_met an_met od_gaps an_gaps od_taken an_taken od__law_mix an__law_mix od__law_span an__law_span od__law_two an__law_two od__law_three an__law_three od__law_alone an__law_alone od_law an_law : Option Addr} {sl_is_stretch sl_begins sl_later sl_earlier sl_later_start sl_tidied sl_joined sl_met sl_gaps sl_taken sl__law_mix sl__law_span sl__law_two sl__law_three sl__law_alone sl_law : Array (Option Value)} {oc_is_stretch kV_is_stretch dc_is_stretch pm_is_stretch cd_is_stretch ct_is_stretch oc_begins kV_begins dc_begins pm_begins cd_begins ct_begins oc_later kV_later dc_later pm_later cd_later ct_later oc_earlier kV_earlier dc_earlier pm_earlier cd_earlier ct_earlier oc_later_start kV_later_start dc_later_start pm_later_start cd_later_start ct_later_start oc_tidied kV_tidied dc_tidied pm_tidied cd_tidied ct_tidied oc_joined kV_joined dc_joined pm_joined cd_joined ct_joined oc_met kV_met dc_met pm_met cd_met ct_met oc_gaps kV_gaps dc_gaps pm_gaps cd_gaps ct_gaps oc_taken kV_taken dc_taken pm_taken cd_taken ct_taken oc__law_mix kV__law_mix dc__law_mix pm__law_mix cd__law_mix ct__law_mix oc__law_span kV__law_span dc__law_span pm__law_span cd__law_span ct__law_span oc__law_two kV__law_two dc__law_two pm__law_two cd__law_two ct__law_two oc__law_three kV__law_three dc__law_three pm__law_three cd__law_three ct__law_three oc__law_alone kV__law_alone dc__law_alone pm__law_alone cd__law_alone ct__law_alone oc_law kV_law dc_law pm_law cd_law ct_law : Value}
    (a_is_stretch : PySem.W.nsIn K mainGlobals "is_stretch" = some (some (.ref f_is_stretch))) (l_is_stretch : K.lookup f_is_stretch = some ⟨oc_is_stretch, od_is_stretch, .func (PySem.W.fnOf "is_stretch" "is_stretch" (defArgs s_is_stretch) (defBody s_is_stretch) (defScope s_is_stretch) .none kV_is_stretch dc_is_stretch pm_is_stretch an_is_stretch cd_is_stretch ct_is_stretch), sl_is_stretch⟩) (c_is_stretch : PySem.W.codeIn K cd_is_stretch "is_stretch" = true) (k_is_stretch : PySem.W.keepIn K (.ref f_is_stretch) = true)
    (a_begins : PySem.W.nsIn K mainGlobals "begins" = some (some (.ref f_begins))) (l_begins : K.lookup f_begins = some ⟨oc_begins, od_begins, .func (PySem.W.fnOf "begins" "begins" (defArgs s_begins) (defBody s_begins) (defScope s_begins) .none kV_begins dc_begins pm_begins an_begins cd_begins ct_begins), sl_begins⟩) (c_begins : PySem.W.codeIn K cd_begins "begins" = true) (k_begins : PySem.W.keepIn K (.ref f_begins) = true)
    (a_later : PySem.W.nsIn K mainGlobals "later" = some (some (.ref f_later))) (l_later : K.lookup f_later = some ⟨oc_later, od_later, .func (PySem.W.fnOf "later" "later" (defArgs s_later) (defBody s_later) (defScope s_later) .none kV_later dc_later pm_later an_later cd_later ct_later), sl_later⟩) (c_later : PySem.W.codeIn K cd_later "later" = true) (k_later : PySem.W.keepIn K (.ref f_later) = true)
    (a_earlier : PySem.W.nsIn K mainGlobals "earlier" = some (some (.ref f_earlier))) (l_earlier : K.lookup f_earlier = some ⟨oc_earlier, od_earlier, .func (PySem.W.fnOf "earlier" "earlier" (defArgs s_earlier) (defBody s_earlier) (defScope s_earlier) .none kV_earlier dc_earlier pm_earlier an_earlier cd_earlier ct_earlier), sl_earlier⟩) (c_earlier : PySem.W.codeIn K cd_earlier "earlier" = true) (k_earlier : PySem.W.keepIn K (.ref f_earlier) = true)
    (a_later_start : PySem.W.nsIn K mainGlobals "later_start" = some (some (.ref f_later_start))) (l_later_start : K.lookup f_later_start = some ⟨oc_later_start, od_later_start, .func (PySem.W.fnOf "later_start" "later_start" (defArgs s_later_start) (defBody s_later_start) (defScope s_later_start) .none kV_later_start dc_later_start pm_later_start an_later_start cd_later_start ct_later_start), sl_later_start⟩) (c_later_start : PySem.W.codeIn K cd_later_start "later_start" = true) (k_later_start : PySem.W.keepIn K (.ref f_later_start) = true)
    (a_tidied : PySem.W.nsIn K mainGlobals "tidied" = some (some (.ref f_tidied))) (l_tidied : K.lookup f_tidied = some ⟨oc_tidied, od_tidied, .func (PySem.W.fnOf "tidied" "tidied" (defArgs s_tidied) (defBody s_tidied) (defScope s_tidied) .none kV_tidied dc_tidied pm_tidied an_tidied cd_tidied ct_tidied), sl_tidied⟩) (c_tidied : PySem.W.codeIn K cd_tidied "tidied" = true) (k_tidied : PySem.W.keepIn K (.ref f_tidied) = true)
    (a_joined : PySem.W.nsIn K mainGlobals "joined" = some (some (.ref f_joined))) (l_joined : K.lookup f_joined = some ⟨oc_joined, od_joined, .func (PySem.W.fnOf "joined" "joined" (defArgs s_joined) (defBody s_joined) (defScope s_joined) .none kV_joined dc_joined pm_joined an_joined cd_joined ct_joined), sl_joined⟩) (c_joined : PySem.W.codeIn K cd_joined "joined" = true) (k_joined : PySem.W.keepIn K (.ref f_joined) = true)
    (a_met : PySem.W.nsIn K mainGlobals "met" = some (some (.ref f_met))) (l_met : K.lookup f_met = some ⟨oc_met, od_met, .func (PySem.W.fnOf "met" "met" (defArgs s_met) (defBody s_met) (defScope s_met) .none kV_met dc_met pm_met an_met cd_met ct_met), sl_met⟩) (c_met : PySem.W.codeIn K cd_met "met" = true) (k_met : PySem.W.keepIn K (.ref f_met) = true)
    (a_gaps : PySem.W.nsIn K mainGlobals "gaps" = some (some (.ref f_gaps))) (l_gaps : K.lookup f_gaps = some ⟨oc_gaps, od_gaps, .func (PySem.W.fnOf "gaps" "gaps" (defArgs s_gaps) (defBody s_gaps) (defScope s_gaps) .none kV_gaps dc_gaps pm_gaps an_gaps cd_gaps ct_gaps), sl_gaps⟩) (c_gaps : PySem.W.codeIn K cd_gaps "gaps" = true) (k_gaps : PySem.W.keepIn K (.ref f_gaps) = true)
    (a_taken : PySem.W.nsIn K mainGlobals "taken" = some (some (.ref f_taken))) (l_taken : K.lookup f_taken = some ⟨oc_taken, od_taken, .func (PySem.W.fnOf "taken" "taken" (defArgs s_taken) (defBody s_taken) (defScope s_taken) .none kV_taken dc_taken pm_taken an_taken cd_taken ct_taken), sl_taken⟩) (c_taken : PySem.W.codeIn K cd_taken "taken" = true) (k_taken : PySem.W.keepIn K (.ref f_taken) = true)
    (a__law_mix : PySem.W.nsIn K mainGlobals "_law_mix" = some (some (.ref f__law_mix))) (l__law_mix : K.lookup f__law_mix = some ⟨oc__law_mix, od__law_mix, .func (PySem.W.fnOf "_law_mix" "_law_mix" (defArgs s__law_mix) (defBody s__law_mix) (defScope s__law_mix) .none kV__law_mix dc__law_mix pm__law_mix an__law_mix cd__law_mix ct__law_mix), sl__law_mix⟩) (c__law_mix : PySem.W.codeIn K cd__law_mix "_law_mix" = true) (k__law_mix : PySem.W.keepIn K (.ref f__law_mix) = true)
    (a__law_span : PySem.W.nsIn K mainGlobals "_law_span" = some (some (.ref f__law_span))) (l__law_span : K.lookup f__law_span = some ⟨oc__law_span, od__law_span, .func (PySem.W.fnOf "_law_span" "_law_span" (defArgs s__law_span) (defBody s__law_span) (defScope s__law_span) .none kV__law_span dc__law_span pm__law_span an__law_span cd__law_span ct__law_span), sl__law_span⟩) (c__law_span : PySem.W.codeIn K cd__law_span "_law_span" = true) (k__law_span : PySem.W.keepIn K (.ref f__law_span) = true)
    (a__law_two : PySem.W.nsIn K mainGlobals "_law_two" = some (some (.ref f__law_two))) (l__law_two : K.lookup f__law_two = some ⟨oc__law_two, od__law_two, .func (PySem.W.fnOf "_law_two" "_law_two" (defArgs s__law_two) (defBody s__law_two) (defScope s__law_two) .none kV__law_two dc__law_two pm__law_two an__law_two cd__law_two ct__law_two), sl__law_two⟩) (c__law_two : PySem.W.codeIn K cd__law_two "_law_two" = true) (k__law_two : PySem.W.keepIn K (.ref f__law_two) = true)
    (a__law_three : PySem.W.nsIn K mainGlobals "_law_three" = some (some (.ref f__law_three))) (l__law_three : K.lookup f__law_three = some ⟨oc__law_three, od__law_three, .func (PySem.W.fnOf "_law_three" "_law_three" (defArgs s__law_three) (defBody s__law_three) (defScope s__law_three) .none kV__law_three dc__law_three pm__law_three an__law_three cd__law_three ct__law_three), sl__law_three⟩) (c__law_three : PySem.W.codeIn K cd__law_three "_law_three" = true) (k__law_three : PySem.W.keepIn K (.ref f__law_three) = true)
    (a__law_alone : PySem.W.nsIn K mainGlobals "_law_alone" = some (some (.ref f__law_alone))) (l__law_alone : K.lookup f__law_alone = some ⟨oc__law_alone, od__law_alone, .func (PySem.W.fnOf "_law_alone" "_law_alone" (defArgs s__law_alone) (defBody s__law_alone) (defScope s__law_alone) .none kV__law_alone dc__law_alone pm__law_alone an__law_alone cd__law_alone ct__law_alone), sl__law_alone⟩) (c__law_alone : PySem.W.codeIn K cd__law_alone "_law_alone" = true) (k__law_alone : PySem.W.keepIn K (.ref f__law_alone) = true)
    (a_law : PySem.W.nsIn K mainGlobals "law" = some (some (.ref f_law))) (l_law : K.lookup f_law = some ⟨oc_law, od_law, .func (PySem.W.fnOf "law" "law" (defArgs s_law) (defBody s_law) (defScope s_law) .none kV_law dc_law pm_law an_law cd_law ct_law), sl_law⟩) (c_law : PySem.W.codeIn K cd_law "law" = true) (k_law : PySem.W.keepIn K (.ref f_law) = true)
    (z_len : PySem.W.nsIn K mainGlobals "len" = some none) (z_list : PySem.W.nsIn K mainGlobals "list" = some none) (z_max : PySem.W.nsIn K mainGlobals "max" = some none) (z_min : PySem.W.nsIn K mainGlobals "min" = some none) (z_range : PySem.W.nsIn K mainGlobals "range" = some none) (z_sorted : PySem.W.nsIn K mainGlobals "sorted" = some none) (z_sum : PySem.W.nsIn K mainGlobals "sum" = some none) (z_zip : PySem.W.nsIn K mainGlobals "zip" = some none)
    (hF : ∀ ns : List Int, ns.length ≤ 63 → F_law [.scr ns] = .ok (.bl true)) :
    ∃ fd : FuncData, (∀ (s : Shared) (v : Value), BindsTo s fd ⟨[v], []⟩ [("_law_script", v)]) ∧ ∀ base : Heap, K.In base → base.Ns mainGlobals mg → FnOk l.prog w K mg base (L2.CX l.prog w) 8 fa fd ["_law_script"] (spLaw K) := by
  have e := hfa.symm.trans (PySem.W.mg_of X G a_law)
  cases e
  have B : Bt mg := ⟨PySem.W.mg_none_of X G z_len, PySem.W.mg_none_of X G z_list, PySem.W.mg_none_of X G z_max, PySem.W.mg_none_of X G z_min, PySem.W.mg_none_of X G z_range, PySem.W.mg_none_of X G z_sorted, PySem.W.mg_none_of X G z_sum, PySem.W.mg_none_of X G z_zip⟩
  have n_is_stretch := fun_mk (st := s_is_stretch) l_is_stretch c_is_stretch k_is_stretch
  have b_is_stretch := n_is_stretch.binds (ps := ["start", "end"]) fun _ _ _ _ _ _ us hl => match us, hl with | [_, _], _ => rfl
  have n_begins := fun_mk (st := s_begins) l_begins c_begins k_begins
  have b_begins := n_begins.binds (ps := ["stretch"]) fun _ _ _ _ _ _ us hl => match us, hl with | [_], _ => rfl
  have n_later := fun_mk (st := s_later) l_later c_later k_later
  have b_later := n_later.binds (ps := ["one", "other"]) fun _ _ _ _ _ _ us hl => match us, hl with | [_, _], _ => rfl
  have n_earlier := fun_mk (st := s_earlier) l_earlier c_earlier k_earlier
  have b_earlier := n_earlier.binds (ps := ["one", "other"]) fun _ _ _ _ _ _ us hl => match us, hl with | [_, _], _ => rfl
  have n_later_start := fun_mk (st := s_later_start) l_later_start c_later_start k_later_start
  have b_later_start := n_later_start.binds (ps := ["one", "other"]) fun _ _ _ _ _ _ us hl => match us, hl with | [_, _], _ => rfl
  have n_tidied := fun_mk (st := s_tidied) l_tidied c_tidied k_tidied
  have b_tidied := n_tidied.binds (ps := ["stretches"]) fun _ _ _ _ _ _ us hl => match us, hl with | [_], _ => rfl
  have n_joined := fun_mk (st := s_joined) l_joined c_joined k_joined
  have b_joined := n_joined.binds (ps := ["one", "other"]) fun _ _ _ _ _ _ us hl => match us, hl with | [_, _], _ => rfl
  have n_met := fun_mk (st := s_met) l_met c_met k_met
  have b_met := n_met.binds (ps := ["one", "other"]) fun _ _ _ _ _ _ us hl => match us, hl with | [_, _], _ => rfl
  have n_gaps := fun_mk (st := s_gaps) l_gaps c_gaps k_gaps
  have b_gaps := n_gaps.binds (ps := ["span"]) fun _ _ _ _ _ _ us hl => match us, hl with | [_], _ => rfl
  have n_taken := fun_mk (st := s_taken) l_taken c_taken k_taken
  have b_taken := n_taken.binds (ps := ["one", "other"]) fun _ _ _ _ _ _ us hl => match us, hl with | [_, _], _ => rfl
  have n__law_mix := fun_mk (st := s__law_mix) l__law_mix c__law_mix k__law_mix
  have b__law_mix := n__law_mix.binds (ps := ["_law_cell", "_law_j"]) fun _ _ _ _ _ _ us hl => match us, hl with | [_, _], _ => rfl
  have n__law_span := fun_mk (st := s__law_span) l__law_span c__law_span k__law_span
  have b__law_span := n__law_span.binds (ps := ["_law_cells", "_law_drawn", "_law_k"]) fun _ _ _ _ _ _ us hl => match us, hl with | [_, _, _], _ => rfl
  have n__law_two := fun_mk (st := s__law_two) l__law_two c__law_two k__law_two
  have b__law_two := n__law_two.binds (ps := ["_law_a", "_law_b"]) fun _ _ _ _ _ _ us hl => match us, hl with | [_, _], _ => rfl
  have n__law_three := fun_mk (st := s__law_three) l__law_three c__law_three k__law_three
  have b__law_three := n__law_three.binds (ps := ["_law_a", "_law_b", "_law_c"]) fun _ _ _ _ _ _ us hl => match us, hl with | [_, _, _], _ => rfl
  have n__law_alone := fun_mk (st := s__law_alone) l__law_alone c__law_alone k__law_alone
  have b__law_alone := n__law_alone.binds (ps := ["_law_a"]) fun _ _ _ _ _ _ us hl => match us, hl with | [_], _ => rfl
  have n_law := fun_mk (st := s_law) l_law c_law k_law
  have b_law := n_law.binds (ps := ["_law_script"]) fun _ _ _ _ _ _ us hl => match us, hl with | [_], _ => rfl
  refine ⟨PySem.W.fnOf "law" "law" (defArgs s_law) (defBody s_law) (defScope s_law) .none kV_law dc_law pm_law an_law cd_law ct_law, fun s v => .of_eq rfl, fun base _ _ => ?_⟩
  have G_is_stretch := ok_is_stretch (P := l.prog) (w := w) (base := base) n_is_stretch (PySem.W.mg_of X G a_is_stretch) b_is_stretch B 
  have G_begins := ok_begins (P := l.prog) (w := w) (base := base) n_begins (PySem.W.mg_of X G a_begins) b_begins B 
  have G_later := ok_later (P := l.prog) (w := w) (base := base) n_later (PySem.W.mg_of X G a_later) b_later B 
  have G_earlier := ok_earlier (P := l.prog) (w := w) (base := base) n_earlier (PySem.W.mg_of X G a_earlier) b_earlier B 
  have G_later_start := ok_later_start (P := l.prog) (w := w) (base := base) n_later_start (PySem.W.mg_of X G a_later_start) b_later_start B 
  have G_tidied := ok_tidied (P := l.prog) (w := w) (base := base) n_tidied (PySem.W.mg_of X G a_tidied) b_tidied B G_begins G_later
  have G_joined := ok_joined (P := l.prog) (w := w) (base := base) n_joined (PySem.W.mg_of X G a_joined) b_joined B G_tidied
  have G_met := ok_met (P := l.prog) (w := w) (base := base) n_met (PySem.W.mg_of X G a_met) b_met B G_tidied G_later_start G_earlier G_is_stretch
  have G_gaps := ok_gaps (P := l.prog) (w := w) (base := base) n_gaps (PySem.W.mg_of X G a_gaps) b_gaps B 
  have G_taken := ok_taken (P := l.prog) (w := w) (base := base) n_taken (PySem.W.mg_of X G a_taken) b_taken B G_met G_gaps
  have G__law_mix := ok__law_mix (P := l.prog) (w := w) (base := base) n__law_mix (PySem.W.mg_of X G a__law_mix) b__law_mix B 
  have G__law_span := ok__law_span (P := l.prog) (w := w) (base := base) n__law_span (PySem.W.mg_of X G a__law_span) b__law_span B G__law_mix
  have G__law_two := ok__law_two (P := l.prog) (w := w) (base := base) n__law_two (PySem.W.mg_of X G a__law_two) b__law_two B G_joined G_taken G_met G_tidied
  have G__law_three := ok__law_three (P := l.prog) (w := w) (base := base) n__law_three (PySem.W.mg_of X G a__law_three) b__law_three B G_met G_joined G_taken
  have G__law_alone := ok__law_alone (P := l.prog) (w := w) (base := base) n__law_alone (PySem.W.mg_of X G a__law_alone) b__law_alone B G_joined G_met G_taken
  exact law_ok (ok_law (P := l.prog) (w := w) (base := base) n_law (PySem.W.mg_of X G a_law) b_law B G__law_span G__law_three G__law_two G__law_alone) hF
end LW

set_option maxRecDepth 100000
set_option maxHeartbeats 4000000
/-! MPt: begins, later, tidied: what they tell. -/
namespace LW
open PySem PySem.Spec PyProof.Rows L2 DL SP
noncomputable section
theorem begins_eq (s : Sg) : F_begins [eS s] = .ok (.tup ((kS s).map .int)) := by
  obtain ⟨a, b⟩ := s
  unfold F_begins
  cases a <;> simp [startD_eq, eS, kS]
theorem later_eq (a b : Bd) : F_later [eB a, eB b] = .ok (eB (later a b)) := by
  unfold F_later
  cases a <;> cases b <;> simp [startD_eq, later, dMax2]
  rename_i x y
  by_cases h : y > x
  · rw [if_pos h]; omega
  · rw [if_neg h]; omega
@[simp] theorem le_eB (a b : Int) : dLe (eB (some a)) (eB (some b)) = some (.bl (decide (a ≤ b))) := rfl
theorem tidied_step (d : Option (Bool × Dat)) (acc : List Sg) (l s : Sg) (hn : acc.length + 2 ≤ 16777216) :
    trn (gT (gCons' (gN 2) (gCons' (gN 3) gNil'))) L_tidied_1 (eS s) [d, some (true, .lst true (eL (acc ++ [l]))), none, none, none, none] =
      if touch l.2 s.1 = true then .ok (.ct [d, some (true, .lst true (eL (acc ++ [(l.1, later l.2 s.2)]))), none, none, none, none])
      else .ok (.nx [d, some (true, .lst true (eL (acc ++ [l] ++ [s]))), none, none, none, none]) := by
  obtain ⟨l1, l2⟩ := l
  obtain ⟨s1, s2⟩ := s
  have hl := later_eq l2 s2
  have h1 : dNe (.lst true (eL (acc ++ [(l1, l2)]))) (.lst true []) = some (.bl true) := by simp [-eL_app]
  have h2 : atI (eL (acc ++ [(l1, l2)])) (((eL (acc ++ [(l1, l2)])).length : Int) - 1) = some (eS (l1, l2)) := by
    rw [eL_app]; exact atI_last _ _ rfl
  have h3 : ixN (eL (acc ++ [(l1, l2)])).length (((eL (acc ++ [(l1, l2)])).length : Int) - 1) = some ((eL (acc ++ [(l1, l2)])).length - 1) := ixN_last (by simp)
  have h4 : ∀ z, (eL (acc ++ [(l1, l2)])).set ((eL (acc ++ [(l1, l2)])).length - 1) (eS z) = eL (acc ++ [z]) := fun z => by
    rw [eL_app, eL_app]
    simp [List.set_append]
  have h5 : eL (acc ++ [(l1, l2)]) ++ [eS (s1, s2)] = eL (acc ++ [(l1, l2)] ++ [(s1, s2)]) := by rw [eL_app (acc ++ [(l1, l2)])]; rfl
  have h6 : sz ((eL (acc ++ [(l1, l2)])).length + 1) = true := sz_small (by simp; omega)
  generalize eL (acc ++ [(l1, l2)]) = M at *
  simp only [eS] at h2 h4 h5 ⊢
  have h7 := h4 (l1, later l2 s2)
  simp only at h7
  cases l2 <;> cases s1 <;> simp only [eB_none, eB_some] at hl h2 h5 <;> simp [L_tidied_1, touch, h1, h2, h3, h6, stD, appD, hl, h7, h5, -eL_app]
  rename_i x y
  by_cases hxy : y ≤ x <;> simp [hxy, h1, h2, h3, h6, stD, appD, hl, h7, h5, -eL_app]
theorem tidied_loop (d : Option (Bool × Dat)) : ∀ (r acc : List Sg) (l : Sg), acc.length + r.length + 2 ≤ 16777216 →
    forD (trn (gT (gCons' (gN 2) (gCons' (gN 3) gNil'))) L_tidied_1) (eL r) [d, some (true, .lst true (eL (acc ++ [l]))), none, none, none, none] = .ok (.nx [d, some (true, .lst true (eL (tidyF acc l r))), none, none, none, none])
  | [], acc, l, _ => rfl
  | s :: r, acc, l, h => by
    have hh : acc.length + (r.length + 1) + 2 ≤ 16777216 := h
    rw [eL_cons, forD, tidied_step d acc l s (by omega), tidyF]
    split
    · exact tidied_loop d r acc _ (by omega)
    · exact tidied_loop d r (acc ++ [l]) s (by simp; omega)
theorem tidied_eq {t : Bool} (l : List Sg) (hl : l.length ≤ 1000000) : F_tidied [.lst t (eL l)] = .ok (.lst true (eL (tdL l))) := by
  have hlen : (ordS l).length = l.length := List.length_mergeSort _
  have hk := keysD_eS begins_eq l
  have ho := ordK_eS l
  unfold F_tidied tdL
  cases h : ordS l with
  | nil => 
    rw [h] at ho
    simp [startD_eq, sortKD, sortA, hk, ho, tidyL]
  | cons s r =>
    rw [h] at ho hlen
    have hr : r.length + 1 ≤ 1000000 := by simp at hlen; omega
    have h6 : sz 1 = true := sz_small (by decide)
    have first : trn (gT (gCons' (gN 2) (gCons' (gN 3) gNil'))) L_tidied_1 (eS s) [some (false, .lst t (eL l)), some (true, .lst true []), none, none, none, none] = .ok (.nx [some (false, .lst t (eL l)), some (true, .lst true (eL ([] ++ [s]))), none, none, none, none]) := by
      have h1 : dNe (.lst true []) (.lst true []) = some (.bl false) := ne_eL []  []
      simp [L_tidied_1, eS, h1, appD, h6]
    have hloop := tidied_loop (some (false, .lst t (eL l))) r [] s (by simp; omega)
    rw [List.nil_append] at hloop first
    have both : forD (trn (gT (gCons' (gN 2) (gCons' (gN 3) gNil'))) L_tidied_1) (eL (s :: r)) [some (false, .lst t (eL l)), some (true, .lst true []), none, none, none, none] = .ok (.nx [some (false, .lst t (eL l)), some (true, .lst true (eL (tidyF [] s r))), none, none, none, none]) := by
      rw [eL_cons, forD, first]
      exact hloop
    simp [startD_eq, sortKD, sortA, hk, ho, tidyL, both, -trn_eq, -eL_cons]
end
end LW

set_option maxRecDepth 100000
set_option maxHeartbeats 4000000
/-! MPm: is_stretch, met, joined, gaps, taken: what they tell. -/
namespace LW
open PySem PySem.Spec PyProof.Rows L2 DL SP
noncomputable section
theorem is_stretch_eq (a b : Bd) : F_is_stretch [eB a, eB b] = .ok (.bl (SP.isS a b)) := by
  unfold F_is_stretch
  cases a <;> cases b <;> simp [startD_eq, SP.isS]
theorem later_start_eq (a b : Bd) : F_later_start [eB a, eB b] = .ok (eB (laterS a b)) := by
  unfold F_later_start
  cases a <;> cases b <;> simp [startD_eq, laterS, dMax2]
  rename_i x y
  by_cases h : y > x
  · rw [if_pos h]; omega
  · rw [if_neg h]; omega
theorem earlier_eq (a b : Bd) : F_earlier [eB a, eB b] = .ok (eB (earlier a b)) := by
  unfold F_earlier
  cases a <;> cases b <;> simp [startD_eq, earlier, dMin2]
  rename_i x y
  by_cases h : y < x
  · rw [if_pos h]; omega
  · rw [if_neg h]; omega
theorem met_step (d e : Option (Bool × Dat)) (acc : List Sg) (s t : Sg) (hn : acc.length + 1 ≤ 16777216) :
    trn (gT (gCons' (gN 5) (gCons' (gN 6) gNil'))) L_met_1 (eS t) [d, e, some (true, .lst true (eL acc)), some (false, eB s.1), some (false, eB s.2), none, none, none, none] =
      .ok (.nx [d, e, some (true, .lst true (eL (acc ++ if SP.isS (cross s t).1 (cross s t).2 = true then [cross s t] else []))), some (false, eB s.1), some (false, eB s.2), none, none, none, none]) := by
  obtain ⟨s1, s2⟩ := s
  obtain ⟨t1, t2⟩ := t
  have h1 := later_start_eq s1 t1
  have h2 := earlier_eq s2 t2
  have h3 := is_stretch_eq (laterS s1 t1) (earlier s2 t2)
  have hsz : sz ((eL acc).length + 1) = true := sz_small (by simpa using hn)
  by_cases hb : SP.isS (cross (s1, s2) (t1, t2)).1 (cross (s1, s2) (t1, t2)).2 = true
  · rw [if_pos hb, eL_app]
    have hb : SP.isS (laterS s1 t1) (earlier s2 t2) = true := hb
    rw [hb] at h3
    generalize eL acc = M at *
    simp [L_met_1, eS, h1, h2, h3, hsz, appD, cross]
  · rw [if_neg hb]
    have hb : ¬ SP.isS (laterS s1 t1) (earlier s2 t2) = true := hb
    rw [Bool.not_eq_true] at hb
    rw [hb] at h3
    simp [L_met_1, eS, h1, h2, h3]
theorem met_inner (d e : Option (Bool × Dat)) (s : Sg) : ∀ (m acc : List Sg), acc.length + m.length ≤ 16777216 →
    forD (trn (gT (gCons' (gN 5) (gCons' (gN 6) gNil'))) L_met_1) (eL m) [d, e, some (true, .lst true (eL acc)), some (false, eB s.1), some (false, eB s.2), none, none, none, none] =
      .ok (.nx [d, e, some (true, .lst true (eL (acc ++ (m.map (cross s)).filter fun c => SP.isS c.1 c.2))), some (false, eB s.1), some (false, eB s.2), none, none, none, none])
  | [], acc, _ => by simp
  | t :: m, acc, h => by
    have h' : acc.length + (m.length + 1) ≤ 16777216 := h
    rw [eL_cons, forD, met_step d e acc s t (by omega)]
    show forD _ _ _ = _
    rw [met_inner d e s m _ (by split <;> simp <;> omega), List.map_cons, List.filter_cons, List.append_assoc]
    split <;> simp
theorem met_outer (d : Option (Bool × Dat)) {u : Bool} (m : List Sg) : ∀ (l acc : List Sg), acc.length + l.length * m.length ≤ 1000000 →
    forD (trn (gT (gCons' (gN 3) (gCons' (gN 4) gNil'))) L_met_2) (eL l) [d, some (false, .lst u (eL m)), some (true, .lst true (eL acc)), none, none, none, none, none, none] =
      .ok (.nx [d, some (false, .lst u (eL m)), some (true, .lst true (eL (acc ++ metL l m))), none, none, none, none, none, none])
  | [], acc, _ => by simp [metL]
  | s :: l, acc, h => by
    have h' : acc.length + (l.length + 1) * m.length ≤ 1000000 := h
    rw [Nat.succ_mul] at h'
    have hi := met_inner d (some (false, .lst u (eL m))) s m acc (by omega)
    have hs : trn (gT (gCons' (gN 3) (gCons' (gN 4) gNil'))) L_met_2 (eS s) [d, some (false, .lst u (eL m)), some (true, .lst true (eL acc)), none, none, none, none, none, none] =
        .ok (.nx [d, some (false, .lst u (eL m)), some (true, .lst true (eL (acc ++ (m.map (cross s)).filter fun c => SP.isS c.1 c.2))), none, none, none, none, none, none]) := by
      rw [trn_eq]
      generalize eL (acc ++ (m.map (cross s)).filter fun c => SP.isS c.1 c.2) = M at *
      generalize eL acc = M0 at *
      simp [L_met_2, eS, -trn_eq, hi]
    rw [eL_cons, forD, hs]
    have hf : ((m.map (cross s)).filter fun c => SP.isS c.1 c.2).length ≤ m.length := by
      have := List.length_filter_le (fun c : Sg => SP.isS c.1 c.2) (m.map (cross s))
      rwa [List.length_map] at this
    show forD _ _ _ = _
    rw [met_outer d m l _ (by rw [List.length_append]; omega)]
    show _ = Rs.ok (Out.nx [d, _, some (true, .lst true (eL (acc ++ ((m.map (cross s)).filter (fun c => SP.isS c.1 c.2) ++ metL l m)))), none, none, none, none, none, none])
    rw [List.append_assoc]
theorem metL_len (l m : List Sg) : (metL l m).length ≤ l.length * m.length := by
  induction l with
  | nil => simp [metL]
  | cons s l ih =>
    show ((m.map (cross s)).filter _ ++ metL l m).length ≤ (l.length + 1) * m.length
    have := List.length_filter_le (fun c : Sg => SP.isS c.1 c.2) (m.map (cross s))
    rw [List.length_map] at this
    rw [List.length_append, Nat.succ_mul]
    omega
def mt (l m : List Sg) : List Sg := tdL (metL l m)
def jn (l m : List Sg) : List Sg := tdL (l ++ m)
def tk (l m : List Sg) : List Sg := mt l (gapsL m)
theorem met_eq {t u : Bool} (l m : List Sg) (h : l.length * m.length ≤ 1000000) : F_met [.lst t (eL l), .lst u (eL m)] = .ok (.lst true (eL (mt l m))) := by
  have h1 := met_outer (some (false, .lst t (eL l))) (u := u) m l [] (by simpa using h)
  have h2 := tidied_eq (t := false) (metL l m) (Nat.le_trans (metL_len l m) h)
  rw [List.nil_append] at h1
  have h1 : forD (trn (gT (gCons' (gN 3) (gCons' (gN 4) gNil'))) L_met_2) (eL l) [some (false, .lst t (eL l)), some (false, .lst u (eL m)), some (true, .lst true []), none, none, none, none, none, none] = _ := h1
  unfold F_met mt
  simp [startD_eq, List.replicate, -trn_eq, h1, h2]
theorem joined_eq {t u : Bool} (l m : List Sg) (h : l.length + m.length ≤ 1000000) : F_joined [.lst t (eL l), .lst u (eL m)] = .ok (.lst true (eL (jn l m))) := by
  have h2 := tidied_eq (t := false) (l ++ m) (by simpa using h)
  have h3 : dAdd (.lst t (eL l)) (.lst u (eL m)) = some (.lst true (eL (l ++ m))) := by
    rw [eL_app]
    exact dAdd_lst' (by simp; omega)
  unfold F_joined jn
  simp [startD_eq, h3, h2, -eL_app]
theorem cut_m1 {α : Type} (x : α) (l : List α) : DL.cutD (x :: l) none (some (-1)) = (x :: l).dropLast := by
  unfold DL.cutD HT.sIx
  rw [List.dropLast_eq_take]
  simp
  congr 1
  omega
theorem cut_1 {α : Type} (x : α) (l : List α) : DL.cutD (x :: l) (some 1) none = l := by
  have := cut_drop (x :: l) 1
  simpa using this
def zL : Sg → List Sg → List Dat
  | _, [] => []
  | s, t :: r => .tup [eS s, eS t] :: zL t r
theorem zip_eq : ∀ (s : Sg) (r : List Sg), zipD (eL (s :: r)).dropLast (eL r) = zL s r
  | _, [] => rfl
  | s, t :: r => by
    show zipD (eS s :: (eL (t :: r)).dropLast) (eS t :: eL r) = _
    rw [zipD, zip_eq t r]
    rfl
theorem gaps_loop (d : Option (Bool × Dat)) : ∀ (r : List Sg) (s : Sg) (acc : List Sg), acc.length + r.length ≤ 16777216 →
    forD (trn (gT (gCons' (gN 2) (gCons' (gN 3) gNil'))) L_gaps_1) (zL s r) [d, some (true, .lst true (eL acc)), none, none] = .ok (.nx [d, some (true, .lst true (eL (acc ++ between (s :: r)))), none, none])
  | [], s, acc, _ => by simp [zL, between]
  | t :: r, s, acc, h => by
    have h' : acc.length + (r.length + 1) ≤ 16777216 := h
    have hs : trn (gT (gCons' (gN 2) (gCons' (gN 3) gNil'))) L_gaps_1 (.tup [eS s, eS t]) [d, some (true, .lst true (eL acc)), none, none] = .ok (.nx [d, some (true, .lst true (eL (acc ++ [(s.2, t.1)]))), none, none]) := by
      have hsz : sz ((eL acc).length + 1) = true := sz_small (by simp; omega)
      rw [eL_app]
      generalize eL acc = M at *
      simp [L_gaps_1, eS, appD, hsz]
    show forD _ (.tup [eS s, eS t] :: zL t r) _ = _
    rw [forD, hs]
    show forD _ _ _ = _
    rw [gaps_loop d r t _ (by simp; omega), List.append_assoc]
    rfl
theorem last_of (s : Sg) (r : List Sg) : ∃ p q, s :: r = p ++ [q] ∧ q.2 = lastE s r := by
  induction r generalizing s with
  | nil => exact ⟨[], s, rfl, rfl⟩
  | cons t r ih =>
    obtain ⟨p, q, h1, h2⟩ := ih t
    exact ⟨s :: p, q, by rw [h1]; rfl, h2⟩
theorem between_len (s : Sg) (r : List Sg) : (between (s :: r)).length = r.length := by
  induction r generalizing s with
  | nil => rfl
  | cons t r ih => show (between (t :: r)).length + 1 = _; rw [ih]; rfl
theorem gaps_eq {t : Bool} (l : List Sg) (h : l.length ≤ 1000000) : F_gaps [.lst t (eL l)] = .ok (.lst true (eL (gapsL l))) := by
  cases l with
  | nil =>
    have s1 : sz 1 = true := sz_small (by decide)
    have e1 : dEq (.lst t []) (.lst true []) = some (.bl true) := eq_eL [] []
    unfold F_gaps
    simp [startD_eq, List.replicate, e1, s1, gapsL, eS]
  | cons s r =>
    have hh : r.length + 1 ≤ 1000000 := h
    obtain ⟨p, q, hpq, hq⟩ := last_of s r
    have c1 : DL.cutD (eL (s :: r)) none (some (-1)) = (eL (s :: r)).dropLast := cut_m1 _ _
    have c2 : DL.cutD (eL (s :: r)) (some 1) none = eL r := cut_1 _ _
    have hz := zip_eq s r
    have i0 : atI (eL (s :: r)) 0 = some (.tup [eB s.1, eB s.2]) := atI_zero
    have il : atI (eL (s :: r)) (((eL (s :: r)).length : Int) - 1) = some (.tup [eB q.1, eB q.2]) := by
      rw [hpq, eL_app]
      exact atI_last _ _ rfl
    have e1 : dEq (.lst t (eL (s :: r))) (.lst true []) = some (.bl false) := (eq_eL_nil _).trans (by simp)
    have s1 : sz 1 = true := sz_small (by decide)
    have loop := fun acc (ha : acc.length ≤ 1) => gaps_loop (some (false, .lst t (eL (s :: r)))) r s acc (by omega)
    have hb := between_len s r
    unfold F_gaps
    show _ = Rs.ok (Dat.lst true (eL (pre s.1 ++ between (s :: r) ++ post (lastE s r))))
    rw [← hq]
    generalize hM : eL (s :: r) = M at *
    cases h1 : s.1 with
    | none =>
      have l1 := loop [] (by simp)
      rw [h1] at i0
      simp only [eL_nil, List.nil_append] at l1
      cases h2 : q.2 with
      | none =>
        rw [h2] at il
        simp [startD_eq, List.replicate, e1, i0, il, asZ, c1, c2, hz, l1, pre, post, -trn_eq]
      | some b =>
        rw [h2] at il
        have s2 : sz (r.length + 1) = true := sz_small (by omega)
        simp [startD_eq, List.replicate, e1, i0, il, asZ, c1, c2, hz, l1, pre, post, -trn_eq, appD, hb, s2, eS]
    | some a =>
      have l1 := loop [(none, some a)] (by simp)
      rw [h1] at i0
      simp only [eL_cons, eL_nil, eS, eB_none, eB_some] at l1
      cases h2 : q.2 with
      | none =>
        rw [h2] at il
        simp [startD_eq, List.replicate, e1, i0, il, asZ, c1, c2, hz, l1, pre, post, -trn_eq, appD, s1, eS]
      | some b =>
        rw [h2] at il
        have s2 : sz (r.length + 1 + 1) = true := sz_small (by omega)
        simp [startD_eq, List.replicate, e1, i0, il, asZ, c1, c2, hz, l1, pre, post, -trn_eq, appD, s1, hb, s2, eS]
theorem pre_len (b : Bd) : (pre b).length ≤ 1 := by cases b <;> simp [pre]
theorem post_len (b : Bd) : (post b).length ≤ 1 := by cases b <;> simp [post]
theorem gapsL_len (l : List Sg) : (gapsL l).length ≤ l.length + 1 := by
  cases l with
  | nil => simp [gapsL]
  | cons s r =>
    show (pre s.1 ++ between (s :: r) ++ post (lastE s r)).length ≤ _
    have := pre_len s.1
    have := post_len (lastE s r)
    simp [between_len]
    omega
theorem taken_eq {t u : Bool} (l m : List Sg) (h : l.length * (m.length + 1) ≤ 1000000) (hm : m.length ≤ 1000000) : F_taken [.lst t (eL l), .lst u (eL m)] = .ok (.lst true (eL (tk l m))) := by
  have h1 := gaps_eq (t := false) m hm
  have h2 := met_eq (t := false) (u := false) l (gapsL m) (Nat.le_trans (Nat.mul_le_mul (Nat.le_refl _) (gapsL_len m)) h)
  unfold F_taken tk
  simp [startD_eq, h1, h2]
/-- a span of at most n stretches, in its one form -/
structure Ok (n : Nat) (l : List Sg) : Prop where
  nf : Nf l
  len : l.length ≤ n
theorem Ok.jn {n k : Nat} {l m : List Sg} (a : Ok n l) (b : Ok k m) : Ok (n + k) (jn l m) :=
  ⟨(tdL_spec fun s hs => (List.mem_append.mp hs).elim (a.nf.all s) (b.nf.all s)).1, Nat.le_trans (tdL_len _) (by rw [List.length_append]; have := a.len; have := b.len; omega)⟩
theorem Ok.mt {n k : Nat} {l m : List Sg} (a : Ok n l) (b : Ok k m) : Ok (n * k) (mt l m) :=
  ⟨(tdL_spec (metL_all l m)).1, Nat.le_trans (tdL_len _) (Nat.le_trans (metL_len l m) (Nat.mul_le_mul a.len b.len))⟩
theorem Ok.tk {n k : Nat} {l m : List Sg} (a : Ok n l) (b : Ok k m) : Ok (n * (k + 1)) (tk l m) :=
  ⟨(tdL_spec (metL_all l _)).1, Nat.le_trans (tdL_len _) (Nat.le_trans (metL_len l _) (Nat.mul_le_mul a.len (Nat.le_trans (gapsL_len m) (Nat.succ_le_succ b.len))))⟩
theorem inS_jn {l m : List Sg} (a : Nf l) (b : Nf m) (x : Int) : inS x (jn l m) = (inS x l || inS x m) := by
  unfold jn
  rw [(tdL_spec fun s hs => (List.mem_append.mp hs).elim (a.all s) (b.all s)).2, inS_app]
theorem inS_mt (l m : List Sg) (x : Int) : inS x (mt l m) = (inS x l && inS x m) := by
  unfold mt
  rw [(tdL_spec (metL_all l m)).2, inS_met]
theorem inS_tk (l : List Sg) {m : List Sg} (b : Nf m) (x : Int) : inS x (tk l m) = (inS x l && !inS x m) := by
  unfold tk
  rw [inS_mt, inS_gaps b]
theorem joined_ok {t u : Bool} {n k : Nat} {l m : List Sg} (a : Ok n l) (b : Ok k m) (h : n + k ≤ 1000000) : F_joined [.lst t (eL l), .lst u (eL m)] = .ok (.lst true (eL (jn l m))) :=
  joined_eq l m (by have := a.len; have := b.len; omega)
theorem met_ok {t u : Bool} {n k : Nat} {l m : List Sg} (a : Ok n l) (b : Ok k m) (h : n * k ≤ 1000000) : F_met [.lst t (eL l), .lst u (eL m)] = .ok (.lst true (eL (mt l m))) :=
  met_eq l m (Nat.le_trans (Nat.mul_le_mul a.len b.len) h)
theorem taken_ok {t u : Bool} {n k : Nat} {l m : List Sg} (a : Ok n l) (b : Ok k m) (h : n * (k + 1) ≤ 1000000 ∧ k ≤ 1000000) : F_taken [.lst t (eL l), .lst u (eL m)] = .ok (.lst true (eL (tk l m))) :=
  taken_eq l m (Nat.le_trans (Nat.mul_le_mul a.len (Nat.succ_le_succ b.len)) h.1) (Nat.le_trans b.len h.2)
end
end LW

set_option maxRecDepth 100000
set_option maxHeartbeats 4000000
/-! MLg: what the laws draw: numbers, grids, stretches, spans of pieces. -/
namespace LW
open PySem PySem.Spec PyProof.Rows L2 DL SP
noncomputable section
theorem rng_cons (lo : Int) (n : Nat) : rng lo (n + 1) = .int lo :: rng (lo + 1) n := by
  unfold rng
  rw [List.range_succ_eq_map]
  simp [Function.comp_def]
  intro i _
  omega
theorem mix_ok (c : Int) (j : Nat) (hj : j ≤ 1000) : ∃ z : Int, F__law_mix [.int c, .int j] = .ok (.int z) ∧ 0 ≤ z ∧ z < 2147483647 := by
  have h1 : dMod (.int c) (.int 2) = some (.int (c % 2)) := dMod_int (by decide)
  have h2 : dShr (.int c) (.int 27) = some (.int (c / 134217728)) := by simpa using dShr_int (x := c) (y := 27) (by decide)
  have h3 : dMul (.int 20) (.int (j : Int)) = some (.int (20 * (j : Int))) := dMul_l (by decide) (by decide)
  have h4 : dShr (.int c) (.int (1 + 20 * (j : Int))) = some (.int (c / 2 ^ (1 + 20 * (j : Int)).toNat)) := dShr_int (by omega)
  have h5 : ∀ x : Int, dMod (.int x) (.int 1048576) = some (.int (x % 1048576)) := fun x => dMod_int (by decide)
  have h6 : dMul (.int 2) (.int (j : Int)) = some (.int (2 * (j : Int))) := dMul_l (by decide) (by decide)
  have h7 : dMul (.int c) (.int (2 * (j : Int) + 3)) = some (.int (c * (2 * (j : Int) + 3))) := dMul_r (by omega) (by omega)
  have h8 : ∀ x : Int, dMod (.int x) (.int 2147483629) = some (.int (x % 2147483629)) := fun x => dMod_int (by decide)
  have h9 : ∀ x : Int, dMod (.int x) (.int 2147483587) = some (.int (x % 2147483587)) := fun x => dMod_int (by decide)
  have h10 : ∀ x : Int, dMul (.int x) (.int 48271) = some (.int (x * 48271)) := fun x => dMul_r (by decide) (by decide)
  unfold F__law_mix
  by_cases hc : c % 2 = 1 ∧ ¬ c / 134217728 = 0
  · refine ⟨c / 2 ^ (1 + 20 * (j : Int)).toNat % 1048576, ?_, by omega, by omega⟩
    simp [startD_eq, List.replicate, h1, h2, h3, h4, h5, hc.1, hc.2]
  · generalize hn : (c * (2 * (j : Int) + 3) + j) % 2147483629 = n1
    have hm : dMul (.int n1) (.int n1) = some (.int (n1 * n1)) := dMul_l (by omega) (by omega)
    generalize hn2 : (n1 * n1 + 1) * 48271 % 2147483629 = n2
    have hm2 : dMul (.int n2) (.int n2) = some (.int (n2 * n2)) := dMul_l (by omega) (by omega)
    refine ⟨n2 * n2 % 2147483587, ?_, by omega, by omega⟩
    by_cases hd : c % 2 = 1
    · have he : c / 134217728 = 0 := by
        by_cases he : c / 134217728 = 0
        · exact he
        · exact absurd ⟨hd, he⟩ hc
      simp [startD_eq, List.replicate, h1, h2, h6, h7, h8, h9, h10, hd, he, hn, hm, hn2, hm2]
    · simp [startD_eq, List.replicate, h1, h2, h6, h7, h8, h9, h10, hd, hn, hm, hn2, hm2]
def mixV (c : Int) (j : Nat) : Int := match F__law_mix [.int c, .int j] with
  | .ok (.int z) => z
  | _ => 0
theorem mix_eq (c : Int) (j : Nat) (hj : j ≤ 1000) : F__law_mix [.int c, .int j] = .ok (.int (mixV c j)) ∧ 0 ≤ mixV c j ∧ mixV c j < 2147483647 := by
  obtain ⟨z, h, h1, h2⟩ := mix_ok c j hj
  unfold mixV
  rw [h]
  exact ⟨rfl, h1, h2⟩
end
end LW

set_option maxRecDepth 100000
set_option maxHeartbeats 4000000
/-! MK03: the laws of whole spans. -/
namespace LW
open PySem PySem.Spec PyProof.Rows L2 DL SP
noncomputable section
theorem atI_ints {ns : List Int} {k : Int} (h : 0 ≤ k) (h2 : k < ns.length) : ∃ n, n ∈ ns ∧ atI (ns.map Dat.int) k = some (.int n) := by
  have hk : k.toNat < ns.length := by omega
  exact ⟨ns[k.toNat], List.getElem_mem hk, atI_at h (by rw [List.getElem?_map, List.getElem?_eq_getElem hk]; rfl)⟩
theorem up_snoc {g : List Int} {a b : Int} (u : Up (g ++ [a])) (h : a < b) : Up (g ++ [a] ++ [b]) := by
  unfold Up at *
  rw [List.pairwise_append]
  refine ⟨u, List.pairwise_singleton _ _, fun x hx y hy => ?_⟩
  have : y = b := by simpa using hy
  subst this
  rcases List.mem_append.mp hx with h1 | h1
  · have := (List.pairwise_append.mp u).2.2 x h1 a (by simp)
    omega
  · have : x = a := by simpa using h1
    omega
theorem intsD_map : ∀ l : List Int, intsD (l.map .int) = some l
  | [] => rfl
  | n :: l => by show (intsD (l.map .int)).map (n :: ·) = _; rw [intsD_map l]; rfl
theorem nf_of {l : List Sg} (h : AllS l) (p : l.Pairwise fun s t => ltB s.2 t.1 = true) : Nf l := by
  induction l with
  | nil => trivial
  | cons s l ih =>
    have hp := List.pairwise_cons.mp p
    exact ⟨h s (by simp), fun t ht => hp.1 t ht, ih (fun t ht => h t (by simp [ht])) hp.2⟩
/-- two by two -/
def two (r : List Int) : List Sg := (List.range (r.length / 2)).map fun j => (r[2 * j]?, r[2 * j + 1]?)
theorem two_nf {r : List Int} (u : Up r) : Nf (two r) := by
  have lt : ∀ {i j : Nat}, i < j → j < r.length → ltB r[i]? r[j]? = true := fun {i j} h hj => by
    rw [List.getElem?_eq_getElem (by omega : i < r.length), List.getElem?_eq_getElem hj]
    simp only [ltB, decide_eq_true_eq]
    exact List.pairwise_iff_getElem.mp u _ _ _ _ h
  have toS : ∀ {a b : Bd}, ltB a b = true → SP.isS a b = true := fun {a b} h => by
    cases a <;> cases b <;> simp_all [ltB, SP.isS]
  refine nf_of (fun s hs => ?_) ?_
  · obtain ⟨j, hj, rfl⟩ := List.mem_map.mp hs
    have hj := List.mem_range.mp hj
    exact toS (lt (by omega) (by omega))
  · unfold two
    rw [List.pairwise_map]
    refine List.Pairwise.imp_of_mem (fun {i j} hi hj h => ?_) List.pairwise_lt_range
    have hj := List.mem_range.mp hj
    exact lt (by omega) (by omega)
theorem rise_loop (drawn k wide : Int) (hw : 0 < wide) (e0 e7 e8 : Option (Bool × Dat)) : ∀ (cs : List Int) (r : List Int) (m : Int), Up (r ++ [m]) → r.length + cs.length ≤ 500 →
    ∃ r' m', forD (trn (gN 6) L__law_span_1) (cs.map .int) [e0, some (false, .int drawn), some (false, .int k), some (false, .int wide), some (false, .int m), some (true, .lst true (r.map .int)), none, e7, e8] =
      .ok (.nx [e0, some (false, .int drawn), some (false, .int k), some (false, .int wide), some (false, .int m'), some (true, .lst true (r'.map .int)), none, e7, e8]) ∧ Up (r' ++ [m']) ∧ r'.length = r.length + cs.length
  | [], r, m, u, _ => ⟨r, m, rfl, u, rfl⟩
  | c :: cs, r, m, u, h => by
    have h' : r.length + (cs.length + 1) ≤ 500 := h
    obtain ⟨m1, m2, m3⟩ := mix_eq c 5 (by decide)
    have m1 : F__law_mix [.int c, .int 5] = .ok (.int (mixV c 5)) := m1
    generalize mixV c 5 = z at *
    have hmod : dMod (.int z) (.int wide) = some (.int (z % wide)) := dMod_int hw
    have hz : 0 ≤ z % wide := Int.emod_nonneg _ (by omega)
    obtain ⟨r', m', h1, h2, h3⟩ := rise_loop drawn k wide hw e0 e7 e8 cs (r ++ [m]) (m + 1 + z % wide) (up_snoc u (by omega)) (by simp; omega)
    refine ⟨r', m', ?_, h2, by rw [h3]; simp; omega⟩
    have hsz : sz ((r.map Dat.int).length + 1) = true := sz_small (by simp; omega)
    have hs : trn (gN 6) L__law_span_1 (.int c) [e0, some (false, .int drawn), some (false, .int k), some (false, .int wide), some (false, .int m), some (true, .lst true (r.map .int)), none, e7, e8] =
      .ok (.nx [e0, some (false, .int drawn), some (false, .int k), some (false, .int wide), some (false, .int (m + 1 + z % wide)), some (true, .lst true ((r ++ [m]).map .int)), none, e7, e8]) := by
      rw [List.map_append]
      generalize r.map Dat.int = M at *
      simp [L__law_span_1, appD, hsz, m1, hmod]
    rw [List.map_cons, forD, hs]
    exact h1
theorem last_facts {l : List Sg} (hne : l ≠ []) : ∃ p q, l = p ++ [q] ∧ atI (eL l) (((eL l).length : Int) - 1) = some (.tup [eB q.1, eB q.2]) ∧ ixN (eL l).length (((eL l).length : Int) - 1) = some ((eL l).length - 1) ∧
    (eL l).set ((eL l).length - 1) (.tup [eB q.1, .non]) = eL (p ++ [(q.1, none)]) := by
  cases l with
  | nil => exact absurd rfl hne
  | cons s r =>
    obtain ⟨p, q, h, _⟩ := last_of s r
    refine ⟨p, q, h, ?_, ixN_last (by simp), ?_⟩
    · rw [h, eL_app]
      exact atI_last _ _ rfl
    · rw [h, eL_app, eL_app]
      simp [List.set_append, eS]
theorem nf_last {p : List Sg} {q : Sg} (h : Nf (p ++ [q])) : Nf (p ++ [(q.1, none)]) := by
  obtain ⟨a, b, c⟩ := Nf.app.mp h
  refine Nf.app.mpr ⟨a, ?_, c⟩
  cases q.1 <;> rfl
theorem span3_eq {t : Bool} (cs : List Int) (hc : cs.length ≤ 22) (drawn : Int) (k : Nat) (hk : k ≤ 2) : ∃ l, F__law_span [.lst t (cs.map .int), .int drawn, .int (k : Int)] = .ok (.lst true (eL l)) ∧ Ok 11 l := by
  obtain ⟨a1, a2, a3⟩ := mix_eq drawn 1 (by decide)
  obtain ⟨b1, b2, b3⟩ := mix_eq drawn (2 + k) (by omega)
  obtain ⟨c1, c2, c3⟩ := mix_eq drawn (8 + k) (by omega)
  obtain ⟨d1, d2, d3⟩ := mix_eq drawn (11 + k) (by omega)
  have a1 : F__law_mix [.int drawn, .int 1] = .ok (.int (mixV drawn 1)) := a1
  have b1 : F__law_mix [.int drawn, .int (2 + (k : Int))] = .ok (.int (mixV drawn (2 + k))) := by simpa using b1
  have c1 : F__law_mix [.int drawn, .int (8 + (k : Int))] = .ok (.int (mixV drawn (8 + k))) := by simpa using c1
  have d1 : F__law_mix [.int drawn, .int (11 + (k : Int))] = .ok (.int (mixV drawn (11 + k))) := by simpa using d1
  generalize mixV drawn 1 = z1 at *
  generalize mixV drawn (2 + k) = z2 at *
  generalize mixV drawn (8 + k) = z3 at *
  generalize mixV drawn (11 + k) = z4 at *
  obtain ⟨wide, hw, e1⟩ := atI_ints (ns := [1, 4, 100000000000000000000]) (k := z1 % 3) (by omega) (by simp; omega)
  simp only [List.map_cons, List.map_nil] at e1
  have hw2 : 0 < wide := by simp at hw; omega
  have h1 : ∀ x : Int, dMod (.int x) (.int 3) = some (.int (x % 3)) := fun x => dMod_int (by decide)
  have h2 : ∀ x : Int, dMod (.int x) (.int 4) = some (.int (x % 4)) := fun x => dMod_int (by decide)
  have p1 : dPow (.int 10) (.int 20) = some (.int 100000000000000000000) := by simpa using dPow_int (x := 10) (y := 20) (by decide) (by decide) (by decide)
  have p2 : dPow (.int 10) (.int 59) = some (.int (10 ^ 59)) := by simpa using dPow_int (x := 10) (y := 59) (by decide) (by decide) (by decide)
  have p3 : dPow (.int 10) (.int 58) = some (.int (10 ^ 58)) := by simpa using dPow_int (x := 10) (y := 58) (by decide) (by decide) (by decide)
  have h4 : dMod (.int drawn) (.int (10 ^ 59)) = some (.int (drawn % 10 ^ 59)) := dMod_int (by decide)
  have s3 : sz 3 = true := sz_small (by decide)
  generalize drawn % 10 ^ 59 = st at *
  generalize (10 : Int) ^ 59 = big at *
  generalize (10 : Int) ^ 58 = big2 at *
  obtain ⟨r, m', f1, f2, f3⟩ := rise_loop drawn k wide hw2 (some (false, .lst t (cs.map .int))) none none cs [] (st - big2 + z2 % 4) (by simp [Up]) (by simp; omega)
  have f1 : forD (trn (gN 6) L__law_span_1) (cs.map .int) [some (false, .lst t (cs.map .int)), some (false, .int drawn), some (false, .int (k : Int)), some (false, .int wide), some (false, .int (st - big2 + z2 % 4)), some (true, .lst true []), none, none, none] = _ := f1
  have up : Up r := (List.pairwise_append.mp f2).1
  have hr : r.length ≤ 22 := by rw [f3]; simpa using hc
  have hq : dFdiv (.int (r.length : Int)) (.int 2) = some (.int ((r.length / 2 : Nat) : Int)) := by
    rw [dFdiv_int (by decide) (by decide)]
    congr 1
  have hir : DL.inR ((r.length / 2 : Nat) : Int) = true := inR_true (by omega) (by omega)
  have hsz : sz (r.length / 2) = true := sz_small (by omega)
  have s2 : sz 2 = true := sz_small (by decide)
  have hcomp : ∀ e6 : Option (Bool × Dat), compL (compT (gN 8) yesT (tupD (argsC (bop dIx (rdv false 5) (bop dMul (kst (.int 2)) (rdv false 8))) (argsC (bop dIx (rdv false 5) (bop dAdd (bop dMul (kst (.int 2)) (rdv false 8)) (kst (.int 1)))) argsN)))
      [some (false, .lst t (cs.map .int)), some (false, .int drawn), some (false, .int (k : Int)), some (false, .int wide), some (false, .int m'), some (false, .lst true (r.map .int)), none, none, none]) (rng 0 (r.length / 2)) = .ok (eL (two r)) := fun _ => by
    have := compL_rng (lo := 0) (n := r.length / 2) (F := compT (gN 8) yesT (tupD (argsC (bop dIx (rdv false 5) (bop dMul (kst (.int 2)) (rdv false 8))) (argsC (bop dIx (rdv false 5) (bop dAdd (bop dMul (kst (.int 2)) (rdv false 8)) (kst (.int 1)))) argsN)))
      [some (false, .lst t (cs.map .int)), some (false, .int drawn), some (false, .int (k : Int)), some (false, .int wide), some (false, .int m'), some (false, .lst true (r.map .int)), none, none, none]) (k := fun j => eS (r[2 * j]?, r[2 * j + 1]?)) (fun i hi => by
        have e1 : dMul (.int 2) (.int (i : Int)) = some (.int (2 * (i : Int))) := dMul_l (by decide) (by decide)
        have e2 : atI (r.map Dat.int) (2 * (i : Int)) = some (.int r[2 * i]) := atI_at (by omega) (by
          have : (2 * (i : Int)).toNat = 2 * i := by omega
          rw [this, List.getElem?_map, List.getElem?_eq_getElem (by omega)]; rfl)
        have e3 : atI (r.map Dat.int) (2 * (i : Int) + 1) = some (.int r[2 * i + 1]) := atI_at (by omega) (by
          have : (2 * (i : Int) + 1).toNat = 2 * i + 1 := by omega
          rw [this, List.getElem?_map, List.getElem?_eq_getElem (by omega)]; rfl)
        have e4 : r[2 * i]? = some r[2 * i] := List.getElem?_eq_getElem (by omega)
        have e5 : r[2 * i + 1]? = some r[2 * i + 1] := List.getElem?_eq_getElem (by omega)
        simp [e1, e2, e3, e4, e5, eS, s2])
    rw [this]
    unfold two eL
    rw [List.map_map]
    rfl
  have hcomp := hcomp none
  have ln : (two r).length = r.length / 2 := by unfold two; simp
  have nf := two_nf up
  generalize two r = l at *
  have hl10 : l.length ≤ 11 := by omega
  generalize r.length / 2 = hh at *
  cases l with
  | nil =>
    have n0 : dNe (.lst true []) (.lst true []) = some (.bl false) := ne_eL [] []
    refine ⟨[], ?_, trivial, by simp⟩
    unfold F__law_span C__law_span_1
    simp [startD_eq, List.replicate, a1, e1, p1, p2, p3, h1, h2, h4, s3, b1, f1, hq, asR1, hir, hsz, noOwn, hcomp, n0, -trn_eq, -compT_eq]
  | cons s l =>
    have n0 : dNe (.lst true (eL (s :: l))) (.lst true []) = some (.bl true) := (ne_eL_nil _).trans (by simp)
    have n1 : dNe (.lst true (eL ((none, s.2) :: l))) (.lst true []) = some (.bl true) := (ne_eL_nil _).trans (by simp)
    have i0 : atI (eL (s :: l)) 0 = some (.tup [eB s.1, eB s.2]) := atI_zero
    have j0 : ixN (eL (s :: l)).length 0 = some 0 := by
      unfold ixN
      rw [if_pos (by decide), if_pos (by simp)]
      rfl
    have k0 : (eL (s :: l)).set 0 (.tup [.non, eB s.2]) = eL ((none, s.2) :: l) := rfl
    have nf1 : Nf ((none, s.2) :: l) := ⟨rfl, nf.2.1, nf.2.2⟩
    obtain ⟨p, q, g1, g2, g3, g4⟩ := last_facts (l := s :: l) (by simp)
    obtain ⟨p', q', g1', g2', g3', g4'⟩ := last_facts (l := (none, s.2) :: l) (by simp)
    have nfp : Nf (p ++ [(q.1, none)]) := nf_last (by rw [← g1]; exact nf)
    have nfp' : Nf (p' ++ [(q'.1, none)]) := nf_last (by rw [← g1']; exact nf1)
    have lp : (p ++ [(q.1, (none : Bd))]).length ≤ 11 := by
      have := congrArg List.length g1
      simp at this hl10 ⊢
      omega
    have lp' : (p' ++ [(q'.1, (none : Bd))]).length ≤ 11 := by
      have := congrArg List.length g1'
      simp at this hl10 ⊢
      omega
    generalize hM : eL (s :: l) = M at *
    generalize hM1 : eL ((none, s.2) :: l) = M1 at *
    generalize hP : eL (p ++ [(q.1, none)]) = P at *
    generalize hP' : eL (p' ++ [(q'.1, none)]) = P' at *
    by_cases c3 : z3 % 3 = 1 <;> by_cases c4 : z4 % 3 = 1
    · refine ⟨_, ?_, nfp', lp'⟩
      rw [hP']
      unfold F__law_span C__law_span_1
      simp [startD_eq, List.replicate, a1, e1, p1, p2, p3, h1, h2, h4, s3, b1, c1, d1, f1, hq, asR1, hir, hsz, noOwn, hcomp, n0, n1, i0, j0, k0, g2, g3, g4, g2', g3', g4', c3, c4, s2, stD, -trn_eq, -compT_eq]
    · refine ⟨_, ?_, nf1, hl10⟩
      rw [hM1]
      unfold F__law_span C__law_span_1
      simp [startD_eq, List.replicate, a1, e1, p1, p2, p3, h1, h2, h4, s3, b1, c1, d1, f1, hq, asR1, hir, hsz, noOwn, hcomp, n0, n1, i0, j0, k0, g2, g3, g4, c3, c4, s2, stD, -trn_eq, -compT_eq]
    · refine ⟨_, ?_, nfp, lp⟩
      rw [hP]
      unfold F__law_span C__law_span_1
      simp [startD_eq, List.replicate, a1, e1, p1, p2, p3, h1, h2, h4, s3, b1, c1, d1, f1, hq, asR1, hir, hsz, noOwn, hcomp, n0, n1, i0, j0, k0, g2, g3, g4, c3, c4, s2, stD, -trn_eq, -compT_eq]
    · refine ⟨_, ?_, nf, hl10⟩
      rw [hM]
      unfold F__law_span C__law_span_1
      simp [startD_eq, List.replicate, a1, e1, p1, p2, p3, h1, h2, h4, s3, b1, c1, d1, f1, hq, asR1, hir, hsz, noOwn, hcomp, n0, n1, i0, j0, k0, g2, g3, g4, c3, c4, s2, stD, -trn_eq, -compT_eq]
end
end LW

set_option maxRecDepth 100000
set_option maxHeartbeats 4000000
/-! MK03b: the laws of whole spans, whole. -/
namespace LW
open PySem PySem.Spec PyProof.Rows L2 DL SP
noncomputable section
theorem two_eq {t u : Bool} {a b : List Sg} (ha : Ok 11 a) (hb : Ok 11 b) : F__law_two [.lst t (eL a), .lst u (eL b)] = .ok (.bl true) := by
  have tab := ha.tk hb
  have mab := ha.mt hb
  have mba := hb.mt ha
  have jab := ha.jn hb
  have jba := hb.jn ha
  have c1 := taken_ok (t := false) (u := false) ha hb (by decide)
  have c2 := met_ok (t := false) (u := false) ha hb (by decide)
  have c3 := met_ok (t := false) (u := false) hb ha (by decide)
  have c4 := joined_ok (t := false) (u := false) ha hb (by decide)
  have c5 := joined_ok (t := false) (u := false) hb ha (by decide)
  have c6 := joined_ok (t := false) (u := false) tab mab (by decide)
  have c7 := taken_ok (t := false) (u := false) ha tab (by decide)
  have c8 := met_ok (t := false) (u := false) tab hb (by decide)
  have c9 := taken_ok (t := false) (u := false) jab hb (by decide)
  have c10 := met_ok (t := false) (u := false) ha jab (by decide)
  have c11 := joined_ok (t := false) (u := false) ha mab (by decide)
  have c12 : dAdd (.lst u (eL b)) (.lst t (eL a)) = some (.lst true (eL (b ++ a))) := by
    rw [eL_app]
    exact dAdd_lst' (by have := ha.len; have := hb.len; simp; omega)
  have c13 := tidied_eq (t := false) (b ++ a) (by have := ha.len; have := hb.len; simp; omega)
  have e1 : jn (tk a b) (mt a b) = a := Nf.ext (tab.jn mab).nf ha.nf fun x => by
    rw [inS_jn tab.nf mab.nf, inS_tk a hb.nf, inS_mt]
    cases inS x a <;> cases inS x b <;> rfl
  have e2 : tk a (tk a b) = mt a b := Nf.ext (ha.tk tab).nf mab.nf fun x => by
    rw [inS_tk a tab.nf, inS_tk a hb.nf, inS_mt]
    cases inS x a <;> cases inS x b <;> rfl
  have e3 : jn a b = jn b a := Nf.ext jab.nf jba.nf fun x => by
    rw [inS_jn ha.nf hb.nf, inS_jn hb.nf ha.nf, Bool.or_comm]
  have e4 : mt a b = mt b a := Nf.ext mab.nf mba.nf fun x => by
    rw [inS_mt, inS_mt, Bool.and_comm]
  have e5 : mt (tk a b) b = [] := Nf.ext (tab.mt hb).nf trivial fun x => by
    rw [inS_mt, inS_tk a hb.nf, inS_nil]
    cases inS x a <;> cases inS x b <;> rfl
  have e6 : tk (jn a b) b = tk a b := Nf.ext (jab.tk hb).nf tab.nf fun x => by
    rw [inS_tk _ hb.nf, inS_jn ha.nf hb.nf, inS_tk a hb.nf]
    cases inS x a <;> cases inS x b <;> rfl
  have e7 : tdL (b ++ a) = jn b a := rfl
  have e8 : mt a (jn a b) = a := Nf.ext (ha.mt jab).nf ha.nf fun x => by
    rw [inS_mt, inS_jn ha.nf hb.nf]
    cases inS x a <;> cases inS x b <;> rfl
  have e9 : jn a (mt a b) = a := Nf.ext (ha.jn mab).nf ha.nf fun x => by
    rw [inS_jn ha.nf mab.nf, inS_mt]
    cases inS x a <;> cases inS x b <;> rfl
  rw [e1] at c6
  rw [e2] at c7
  rw [e5] at c8
  rw [e6] at c9
  rw [e8] at c10
  rw [e9] at c11
  rw [e7, ← e3] at c13
  rw [← e3] at c5
  rw [← e4] at c3
  have s0 : sz 0 = true := sz_small (by decide)
  simp only [eL_nil] at c8
  have n0 : dNe (.lst true []) (.lst true []) = some (.bl false) := ne_eL [] []
  unfold F__law_two
  simp [startD_eq, List.replicate, c1, c2, c3, c4, c5, c6, c7, c8, c9, c10, c11, c12, c13, s0, n0, -eL_app]
theorem three_eq {t u v : Bool} {a b c : List Sg} (ha : Ok 11 a) (hb : Ok 11 b) (hc : Ok 11 c) : F__law_three [.lst t (eL a), .lst u (eL b), .lst v (eL c)] = .ok (.bl true) := by
  have jab := ha.jn hb
  have jbc := hb.jn hc
  have mab := ha.mt hb
  have mbc := hb.mt hc
  have mac := ha.mt hc
  have tab := ha.tk hb
  have c1 := joined_ok (t := false) (u := false) ha hb (by decide)
  have c2 := joined_ok (t := false) (u := false) hb hc (by decide)
  have c3 := met_ok (t := false) (u := false) ha hb (by decide)
  have c4 := met_ok (t := false) (u := false) hb hc (by decide)
  have c5 := met_ok (t := false) (u := false) ha hc (by decide)
  have c6 := taken_ok (t := false) (u := false) ha hb (by decide)
  have c7 := joined_ok (t := false) (u := false) jab hc (by decide)
  have c8 := joined_ok (t := false) (u := false) ha jbc (by decide)
  have c9 := met_ok (t := false) (u := false) mab hc (by decide)
  have c10 := met_ok (t := false) (u := false) ha mbc (by decide)
  have c11 := met_ok (t := false) (u := false) ha jbc (by decide)
  have c12 := joined_ok (t := false) (u := false) mab mac (by decide)
  have c13 := taken_ok (t := false) (u := false) ha jbc (by decide)
  have c14 := taken_ok (t := false) (u := false) tab hc (by decide)
  have e1 : jn (jn a b) c = jn a (jn b c) := Nf.ext (jab.jn hc).nf (ha.jn jbc).nf fun x => by
    rw [inS_jn jab.nf hc.nf, inS_jn ha.nf hb.nf, inS_jn ha.nf jbc.nf, inS_jn hb.nf hc.nf, Bool.or_assoc]
  have e2 : mt (mt a b) c = mt a (mt b c) := Nf.ext (mab.mt hc).nf (ha.mt mbc).nf fun x => by
    simp only [inS_mt, Bool.and_assoc]
  have e3 : mt a (jn b c) = jn (mt a b) (mt a c) := Nf.ext (ha.mt jbc).nf (mab.jn mac).nf fun x => by
    rw [inS_mt, inS_jn hb.nf hc.nf, inS_jn mab.nf mac.nf, inS_mt, inS_mt]
    cases inS x a <;> cases inS x b <;> cases inS x c <;> rfl
  have e4 : tk a (jn b c) = tk (tk a b) c := Nf.ext (ha.tk jbc).nf (tab.tk hc).nf fun x => by
    rw [inS_tk a jbc.nf, inS_jn hb.nf hc.nf, inS_tk _ hc.nf, inS_tk a hb.nf]
    cases inS x a <;> cases inS x b <;> cases inS x c <;> rfl
  rw [e1] at c7
  rw [e2] at c9
  rw [e3] at c11
  rw [e4] at c13
  unfold F__law_three
  simp [startD_eq, List.replicate, c1, c2, c3, c4, c5, c6, c7, c8, c9, c10, c11, c12, c13, c14]
theorem ok_every : Ok 1 [(none, none)] := ⟨⟨rfl, by simp, trivial⟩, by simp⟩
theorem ok_nothing : Ok 0 ([] : List Sg) := ⟨trivial, by simp⟩
theorem inS_every (x : Int) : inS x [(none, none)] = true := rfl
theorem alone_eq {t : Bool} {a : List Sg} (ha : Ok 11 a) : F__law_alone [.lst t (eL a)] = .ok (.bl true) := by
  have hE := ok_every
  have hN := ok_nothing
  have tea := hE.tk ha
  have c1 := joined_ok (t := false) (u := false) ha hN (by decide)
  have c2 := met_ok (t := false) (u := false) ha hN (by decide)
  have c3 := taken_ok (t := false) (u := false) ha hN (by decide)
  have c4 := taken_ok (t := false) (u := false) hN ha (by decide)
  have c5 := joined_ok (t := false) (u := false) ha hE (by decide)
  have c6 := met_ok (t := false) (u := false) ha hE (by decide)
  have c7 := taken_ok (t := false) (u := false) ha hE (by decide)
  have c8 := taken_ok (t := false) (u := false) ha ha (by decide)
  have c9 := taken_ok (t := false) (u := false) hE ha (by decide)
  have c10 := taken_ok (t := false) (u := false) hE tea (by decide)
  have c11 := joined_ok (t := false) (u := false) ha tea (by decide)
  have e1 : jn a [] = a := Nf.ext (ha.jn hN).nf ha.nf fun x => by rw [inS_jn ha.nf hN.nf, inS_nil, Bool.or_false]
  have e2 : mt a [] = [] := Nf.ext (ha.mt hN).nf hN.nf fun x => by rw [inS_mt, inS_nil, Bool.and_false]
  have e3 : tk a [] = a := Nf.ext (ha.tk hN).nf ha.nf fun x => by rw [inS_tk a hN.nf, inS_nil, Bool.not_false, Bool.and_true]
  have e4 : tk [] a = [] := Nf.ext (hN.tk ha).nf hN.nf fun x => by rw [inS_tk _ ha.nf, inS_nil, Bool.false_and]
  have e5 : jn a [(none, none)] = [(none, none)] := Nf.ext (ha.jn hE).nf hE.nf fun x => by rw [inS_jn ha.nf hE.nf, inS_every, Bool.or_true]
  have e6 : mt a [(none, none)] = a := Nf.ext (ha.mt hE).nf ha.nf fun x => by rw [inS_mt, inS_every, Bool.and_true]
  have e7 : tk a [(none, none)] = [] := Nf.ext (ha.tk hE).nf hN.nf fun x => by rw [inS_tk a hE.nf, inS_every, inS_nil, Bool.not_true, Bool.and_false]
  have e8 : tk a a = [] := Nf.ext (ha.tk ha).nf hN.nf fun x => by rw [inS_tk a ha.nf, inS_nil]; cases inS x a <;> rfl
  have e9 : tk [(none, none)] (tk [(none, none)] a) = a := Nf.ext (hE.tk tea).nf ha.nf fun x => by rw [inS_tk _ tea.nf, inS_tk _ ha.nf, inS_every]; cases inS x a <;> rfl
  have e10 : jn a (tk [(none, none)] a) = [(none, none)] := Nf.ext (ha.jn tea).nf hE.nf fun x => by rw [inS_jn ha.nf tea.nf, inS_tk _ ha.nf, inS_every]; cases inS x a <;> rfl
  rw [e1] at c1
  rw [e2] at c2
  rw [e3] at c3
  rw [e4] at c4
  rw [e5] at c5
  rw [e6] at c6
  rw [e7] at c7
  rw [e8] at c8
  rw [e9] at c10
  rw [e10] at c11
  have s0 : sz 0 = true := sz_small (by decide)
  have s1 : sz 1 = true := sz_small (by decide)
  have s2 : sz 2 = true := sz_small (by decide)
  have n0 : dNe (.lst true []) (.lst true []) = some (.bl false) := ne_eL [] []
  have n1 : dNe (.lst true [.tup [.non, .non]]) (.lst true [.tup [.non, .non]]) = some (.bl false) := (ne_eL [(none, none)] [(none, none)]).trans (by simp)
  have n2 : dEq (.lst true [.tup [.non, .non]]) (.lst true [.tup [.non, .non]]) = some (.bl true) := (eq_eL [(none, none)] [(none, none)]).trans (by simp)
  have hev : eL [(none, none)] = [.tup [.non, .non]] := rfl
  simp only [hev, eL_nil] at *
  unfold F__law_alone
  simp [startD_eq, List.replicate, c1, c2, c3, c4, c5, c6, c7, c8, c9, c10, c11, s0, s1, s2, n0, n1, n2]
end
end LW

set_option maxRecDepth 100000
set_option maxHeartbeats 4000000
/-! MK03c: the law, whole. -/
namespace LW
open PySem PySem.Spec PyProof.Rows L2 DL SP
noncomputable section
theorem law_true (ns : List Int) (hn : ns.length ≤ 63) : F_law [.scr ns] = .ok (.bl true) := by
  have hcut : DL.cutD ns none (some 63) = ns.take 63 := cut_take ns 63
  have hlen : (ns.take 63).length ≤ 63 := by rw [List.length_take]; omega
  have hsum : dSum [.lst true ((ns.take 63).map .int)] = some (.int (ns.take 63).sum) := by
    show (intsD ((ns.take 63).map .int)).map _ = _
    rw [intsD_map]
    rfl
  generalize ns.take 63 = cs at *
  have hq : dFdiv (.int (cs.length : Int)) (.int 3) = some (.int ((cs.length / 3 : Nat) : Int)) := by
    rw [dFdiv_int (by decide) (by decide)]
    congr 1
  have hm : dMul (.int 2) (.int ((cs.length / 3 : Nat) : Int)) = some (.int ((2 * (cs.length / 3) : Nat) : Int)) := by
    rw [dMul_l (by decide) (by decide)]
    congr 1
  have b1 : (cs.take (cs.length / 3)).length ≤ 22 := by simp; omega
  have b2 : ((cs.drop (cs.length / 3)).take (2 * (cs.length / 3) - cs.length / 3)).length ≤ 22 := by simp; omega
  have b3 : (cs.drop (2 * (cs.length / 3))).length ≤ 22 := by simp; omega
  have d1 : DL.cutD (cs.map Dat.int) none (some ((cs.length / 3 : Nat) : Int)) = (cs.take (cs.length / 3)).map .int := by rw [cut_take, List.map_take]
  have d2 : DL.cutD (cs.map Dat.int) (some ((cs.length / 3 : Nat) : Int)) (some ((2 * (cs.length / 3) : Nat) : Int)) = ((cs.drop (cs.length / 3)).take (2 * (cs.length / 3) - cs.length / 3)).map .int := by rw [cut_both, List.map_take, List.map_drop]
  have d3 : DL.cutD (cs.map Dat.int) (some ((2 * (cs.length / 3) : Nat) : Int)) none = (cs.drop (2 * (cs.length / 3))).map .int := by rw [cut_drop, List.map_drop]
  generalize (cs.take (cs.length / 3)) = x1 at *
  generalize ((cs.drop (cs.length / 3)).take (2 * (cs.length / 3) - cs.length / 3)) = x2 at *
  generalize (cs.drop (2 * (cs.length / 3))) = x3 at *
  generalize ((2 * (cs.length / 3) : Nat) : Int) = n2 at *
  generalize ((cs.length / 3 : Nat) : Int) = n1 at *
  obtain ⟨a, ea, ha⟩ := span3_eq (t := false) x1 b1 cs.sum 0 (by decide)
  obtain ⟨b, eb, hb⟩ := span3_eq (t := false) x2 b2 cs.sum 1 (by decide)
  obtain ⟨c, ec, hc⟩ := span3_eq (t := false) x3 b3 cs.sum 2 (by decide)
  have ea : F__law_span [.lst false (x1.map .int), .int cs.sum, .int 0] = .ok (.lst true (eL a)) := ea
  have eb : F__law_span [.lst false (x2.map .int), .int cs.sum, .int 1] = .ok (.lst true (eL b)) := eb
  have ec : F__law_span [.lst false (x3.map .int), .int cs.sum, .int 2] = .ok (.lst true (eL c)) := ec
  have t1 := two_eq (t := false) (u := false) ha hb
  have t2 := two_eq (t := false) (u := false) hb hc
  have t3 := two_eq (t := false) (u := false) hc ha
  have l1 := alone_eq (t := false) ha
  have l2 := alone_eq (t := false) hb
  have l3 := alone_eq (t := false) hc
  have r1 := three_eq (t := false) (u := false) (v := false) ha hb hc
  have r2 := three_eq (t := false) (u := false) (v := false) hc ha hb
  have q : dEq (.lst true [.lst true (eL a), .lst true (eL b), .lst true (eL c)]) (.lst true [.lst true (eL a), .lst true (eL b), .lst true (eL c)]) = some (.bl true) :=
    ((eqe_S.list true).eqL (by decide) [a, b, c] [a, b, c]).trans (by simp)
  have s2 : sz 2 = true := sz_small (by decide)
  have s3 : sz 3 = true := sz_small (by decide)
  unfold F_law
  simp [startD_eq, List.replicate, hcut, hsum, hq, hm, d1, d2, d3, ea, eb, ec, s2, s3, dList, forD, L_law_1, t1, t2, t3, l1, l2, l3, r1, r2, q]
end
end LW

open PySem PySem.W PyProof.Rows
set_option maxRecDepth 100000 in
set_option maxHeartbeats 0 in
theorem PySem.Challenge.cw_whenrows_k03_whole_spans_holds : PySem.Challenge.rw_whenrows_k03_whole_spans.Holds := by
  w_on; o_law; k_head; (case hw => w_witness2)
  k_fill
  refine L2.walk_of (l := PySem.Challenge.rw_whenrows_k03_whole_spans) (n := 63) (k := 8) (x := "_law_script") (CX := fun w => L2.CX PySem.Challenge.rw_whenrows_k03_whole_spans.prog w) (sp := fun w => DL.spLaw _) rfl (by decide) rfl ⟨rfl, by decide, by decide⟩ (fun w h Y => PySem.W.kIn_of Y) ?F (fun _ _ a ns hl _ hS => ⟨a, ns, rfl, hS, hl, fun _ => rfl⟩) (fun _ _ _ _ _ h => DL.cx_false h)
  case F =>
    intro w mg fa h KX G hmg
    refine' LW.all_mk KX G hmg ?a_is_stretch ?l_is_stretch ?c_is_stretch ?k_is_stretch ?a_begins ?l_begins ?c_begins ?k_begins ?a_later ?l_later ?c_later ?k_later ?a_earlier ?l_earlier ?c_earlier ?k_earlier ?a_later_start ?l_later_start ?c_later_start ?k_later_start ?a_tidied ?l_tidied ?c_tidied ?k_tidied ?a_joined ?l_joined ?c_joined ?k_joined ?a_met ?l_met ?c_met ?k_met ?a_gaps ?l_gaps ?c_gaps ?k_gaps ?a_taken ?l_taken ?c_taken ?k_taken ?a__law_mix ?l__law_mix ?c__law_mix ?k__law_mix ?a__law_span ?l__law_span ?c__law_span ?k__law_span ?a__law_two ?l__law_two ?c__law_two ?k__law_two ?a__law_three ?l__law_three ?c__law_three ?k__law_three ?a__law_alone ?l__law_alone ?c__law_alone ?k__law_alone ?a_law ?l_law ?c_law ?k_law ?z_len ?z_list ?z_max ?z_min ?z_range ?z_sorted ?z_sum ?z_zip LW.law_true
    (case a_is_stretch => k_is); (case l_is_stretch => k_is); (case c_is_stretch => k_is); (case k_is_stretch => k_is); (case a_begins => k_is); (case l_begins => k_is); (case c_begins => k_is); (case k_begins => k_is); (case a_later => k_is); (case l_later => k_is); (case c_later => k_is); (case k_later => k_is); (case a_earlier => k_is); (case l_earlier => k_is); (case c_earlier => k_is); (case k_earlier => k_is); (case a_later_start => k_is); (case l_later_start => k_is); (case c_later_start => k_is); (case k_later_start => k_is); (case a_tidied => k_is); (case l_tidied => k_is); (case c_tidied => k_is); (case k_tidied => k_is); (case a_joined => k_is); (case l_joined => k_is); (case c_joined => k_is); (case k_joined => k_is); (case a_met => k_is); (case l_met => k_is); (case c_met => k_is); (case k_met => k_is); (case a_gaps => k_is); (case l_gaps => k_is); (case c_gaps => k_is); (case k_gaps => k_is); (case a_taken => k_is); (case l_taken => k_is); (case c_taken => k_is); (case k_taken => k_is); (case a__law_mix => k_is); (case l__law_mix => k_is); (case c__law_mix => k_is); (case k__law_mix => k_is); (case a__law_span => k_is); (case l__law_span => k_is); (case c__law_span => k_is); (case k__law_span => k_is); (case a__law_two => k_is); (case l__law_two => k_is); (case c__law_two => k_is); (case k__law_two => k_is); (case a__law_three => k_is); (case l__law_three => k_is); (case c__law_three => k_is); (case k__law_three => k_is); (case a__law_alone => k_is); (case l__law_alone => k_is); (case c__law_alone => k_is); (case k__law_alone => k_is); (case a_law => k_is); (case l_law => k_is); (case c_law => k_is); (case k_law => k_is); (case z_len => k_is); (case z_list => k_is); (case z_max => k_is); (case z_min => k_is); (case z_range => k_is); (case z_sorted => k_is); (case z_sum => k_is); (case z_zip => k_is)

#print axioms PySem.Challenge.cw_whenrows_k03_whole_spans_holds
