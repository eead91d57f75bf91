import PyProof.Rows.All
import Wide.All
import OpenK.AllK
import Wide.FinOn
import HandS.ForMost
import HandS.ForExc
import HandS.TupAny
import HandS.Deep
import KE.KDictCopyH
import HandS.Wide
import HandS.CallSlots
import HandS.IsInst
import HandS.Style
import HandS.SortInts
import KE.SortKeyHeap
import HandS.SortKw
import HandS.Keys
import HandS.Zip
import KE.SortData
import HandS.List
import HandS.SetKeys
import PyProof.DictMoreH
import HandS.DictTup
import KE.KDictSum
import HandS.More
import HandS.ExcOwn
import HandS.Finally
import HandS.ExcValue
import HandS.ExcIs
import KE.RegKTryMore
import KE.RegKIsAll
import HandS.Conv
import HandS.RaiseMore
import HandS.DictComp
import HandS.Text
import HandS.Codes
import HandS.Steps
import KE.GoesComp
import KE.GoesRaise
import PySem.Challenge.RW_whenrows_k71_facts_as_texts
set_option Elab.async false
set_option linter.all false
set_option maxRecDepth 100000
set_option maxHeartbeats 4000000
/-! DLa: plain data over the heap, and what a value denotes. -/
namespace DL
open PySem PySem.Spec PyProof.Rows L2

/-- plain data. A list bears a mark: made by the def that looks at it. scr: the script; cst: a tuple of texts of the module; exn: an exception of the class that the module names so; hvl: some list. In slots: cel: a tree, or a part of it, that stands nowhere else; als: the part at p of the tree in slot i; reg: data whose lists stand nowhere else -/
inductive Dat where
  | non
  | bl (b : Bool)
  | int (i : Int)
  | str (s : Str)
  | tup (xs : List Dat)
  | lst (t : Bool) (xs : List Dat)
  | dK (ks : List Key) (vs : List Dat)
  | dT (ks : List (List Key)) (vs : List Dat)
  | scr (ns : List Int)
  | cst (ss : List Str)
  | exn (x : Str)
  | hvl
  | cel (d : Dat)
  | als (i : Nat) (p : List Nat)
  | dN (ks : List (Option Int))
  | reg (d : Dat)

/-- a key: None or a whole number -/
def lfN : Option Int → Leaf
  | none => .none
  | some i => .num i
def isNk : Option Int → Value → Bool
  | none, .none => true
  | some i, .int j _ => decide (j = i)
  | _, _ => false
theorem isNk_leaf {k : Option Int} {v : Value} (h : isNk k v = true) : Leaf.isOf (lfN k) v = true := by
  cases k <;> cases v <;> first | rfl | exact h | cases h
theorem lfN_inj {a b : Option Int} (h : lfN a = lfN b) : a = b := by
  cases a <;> cases b <;> simp_all [lfN]
/-- the kind of keys None and whole numbers -/
def nonKind (prog : Program) (w : World) : KeyKind prog w (Option Int) where
  is := isNk
  hash := fun k => (lfN k).key.hash w
  inj := fun v a b ha hb => lfN_inj ((leafKind prog w).inj v _ _ (isNk_leaf ha) (isNk_leaf hb))
  byValue := fun k v h => (leafKind prog w).byValue (lfN k) v (isNk_leaf h)
  pyHash := fun hv h => (leafKind prog w).pyHash (isNk_leaf hv) h
  eqBool := fun {A E s a b u v Q} hu hv h => (leafKind prog w).eqBool (isNk_leaf hu) (isNk_leaf hv) (by
    have e : decide (lfN a = lfN b) = decide (a = b) := by
      rw [decide_eq_decide]
      exact ⟨lfN_inj, fun z => by rw [z]⟩
    rw [e]; exact h)
  «strs» := fun k x t v h => by cases k <;> cases h
/-- at a: a dict of such keys -/
def NonAt (ks : List (Option Int)) (a : Addr) (h : Heap) : Prop := ks.length ≤ sizeLine ∧ (a == sysModules) = false ∧ ∃ vs : List (Option Int × Value), vs.map (·.1) = ks ∧ ∀ (P : Program) (w : World), h.DictOf (nonKind P w) a vs
def nonO (ks : List (Option Int)) (a : Addr) : HO := .ext (NonAt ks a)
/-- an exception object of the class cls stands at a -/
def EV (cls : Value) (d : Option Addr) (a : Addr) : HO := .ext fun h => ∃ (oe : Obj) (vs : Array Value), h.get? a = some oe ∧ Zc cls d oe ∧ oe.data = .fields vs
def noHp : Hp := fun _ => none
/-- f: addresses that data does not lean on; ρ: what the slots' own things are made of -/
structure Lk where
  f : Addr → Prop
  ρ : Nat → List Addr
instance : CoeFun Lk (fun _ => Addr → Prop) := ⟨Lk.f⟩
def Lk.of (L : Addr → Prop) : Lk := ⟨L, fun _ => []⟩
/-- f: addresses that nothing leans on; c: whether things may be told apart here -/
structure Lp where
  f : Addr → Prop
  c : Bool
instance : CoeFun Lp (fun _ => Addr → Prop) := ⟨Lp.f⟩
def Lp.or (L : Lp) (a : Addr) : Lp := ⟨fun b => L.f b ∨ b = a, L.c⟩
def Lk.or (L : Lk) (a : Addr) : Lk := ⟨fun b => L.f b ∨ b = a, L.ρ⟩
def TupAt (L : Lk) (H : Hp) (a : Addr) (vs : List V) : Prop := ¬ L a ∧ H a = some (.tup vs)
def ScrAt (K : PySem.W.Frag) (L : Lk) (H : Hp) (a : Addr) (vs : List V) : Prop := (¬ L a ∧ Rd H a (.lst vs)) ∨ SqL K noHp a vs

mutual
/-- the value denotes the data; L: addresses that it does not lean on. Dicts that are data are locked for good -/
def Den (K : PySem.W.Frag) (H0 : Hp) (L : Lk) (H : Hp) : Dat → V → Prop
  | .non, v => v = .non
  | .bl b, v => v = .bl b
  | .int i, v => v = .int i
  | .str x, v => v = .str x
  | .tup ds, v => ∃ a vs, v = .ref a ∧ TupAt L H a vs ∧ DenL K H0 L H ds vs
  | .lst t ds, v => ∃ a vs, v = .ref a ∧ ¬ L a ∧ (t = true → H0 a = none) ∧ H a = some (.lst vs) ∧ DenL K H0 L H ds vs
  | .dK ks ds, v => ∃ a vs o, v = .ref a ∧ ¬ L a ∧ H a = some (.frz o (.dK (ks.zip vs))) ∧ ks.length = vs.length ∧ DenL K H0 L H ds vs
  | .dT ks ds, v => ∃ a vs o, v = .ref a ∧ ¬ L a ∧ H a = some (.frz o (.dT (ks.zip vs))) ∧ ks.length = vs.length ∧ DenL K H0 L H ds vs
  | .scr ns, v => ∃ a, v = .ref a ∧ ScrAt K L H a (ns.map V.int)
  | .cst ss, v => ∃ a, v = .ref a ∧ SqT K noHp a (ss.map V.str)
  | .hvl, v => ∃ a vs, v = .ref a ∧ H a = some (.lst vs)
  | .cel _, _ => False
  | .als _ _, _ => False
  | .dN ks, v => ∃ a o, v = .ref a ∧ ¬ L a ∧ H a = some (.frz o (nonO ks a))
  | .reg _, _ => False
  | .exn x, v => ∃ a C, v = .ref a ∧ ¬ L a ∧ PySem.W.nsIn K mainGlobals x = some (some (.ref C)) ∧ H a = some (EV (.ref C) none a)
def DenL (K : PySem.W.Frag) (H0 : Hp) (L : Lk) (H : Hp) : List Dat → List V → Prop
  | [], vs => vs = []
  | d :: ds, vs => ∃ v r, vs = v :: r ∧ Den K H0 L H d v ∧ DenL K H0 L H ds r
end

section
variable {K : PySem.W.Frag} {H0 H1 H H' : Hp} {L L' : Lk}
theorem rd_none {a : Addr} {u : HO} : ¬ Rd noHp a u := by
  rintro (h | ⟨o, h⟩) <;> cases h
theorem TupAt.sq {a : Addr} {vs : List V} (h : TupAt L H a vs) : SqT K H a vs := .of h.2
theorem cst_sq {a : Addr} {vs : List V} (h : SqT K noHp a vs) : SqT K H a vs := by
  rcases h with h | h
  · exact (rd_none h).elim
  · exact .inr h
theorem ScrAt.sq {a : Addr} {vs : List V} (h : ScrAt K L H a vs) : SqL K H a vs := by
  rcases h with ⟨_, h⟩ | h
  · exact .inl h
  · rcases h with h | h
    · exact (rd_none h).elim
    · exact .inr h
/-- what is kept outside of L -/
structure Kp (L L' : Lk) (H H' : Hp) : Prop where
  k : ∀ a o, ¬ L a → H a = some o → ¬ L' a ∧ H' a = some o
  t : ∀ a vs, H a = some (.lst vs) → ∃ ws, H' a = some (.lst ws)
theorem Kp.rd (k : Kp L L' H H') {a : Addr} {u : HO} (hl : ¬ L a) (h : Rd H a u) : ¬ L' a ∧ Rd H' a u := by
  rcases h with h | ⟨o, h⟩
  · exact ⟨(k.k _ _ hl h).1, .inl (k.k _ _ hl h).2⟩
  · exact ⟨(k.k _ _ hl h).1, .inr ⟨o, (k.k _ _ hl h).2⟩⟩
theorem TupAt.kp (k : Kp L L' H H') {a : Addr} {vs : List V} (h : TupAt L H a vs) : TupAt L' H' a vs := k.k _ _ h.1 h.2
theorem ScrAt.kp (k : Kp L L' H H') {a : Addr} {vs : List V} (h : ScrAt K L H a vs) : ScrAt K L' H' a vs := by
  rcases h with ⟨hl, h⟩ | h
  · exact .inl (k.rd hl h)
  · exact .inr h
mutual
theorem Den.kp (k : Kp L L' H H') (hn : ∀ a, H0 a = none → H1 a = none) : ∀ {d : Dat} {v : V}, Den K H0 L H d v → Den K H1 L' H' d v
  | .non, _, h => h
  | .bl _, _, h => h
  | .int _, _, h => h
  | .str _, _, h => h
  | .tup ds, _, ⟨a, vs, e, t, h⟩ => ⟨a, vs, e, t.kp k, DenL.kp k hn h⟩
  | .lst t ds, _, ⟨a, vs, e, hl, ht, ha, h⟩ => ⟨a, vs, e, (k.k _ _ hl ha).1, fun z => hn _ (ht z), (k.k _ _ hl ha).2, DenL.kp k hn h⟩
  | .dK ks ds, _, ⟨a, vs, o, e, hl, ha, z, h⟩ => ⟨a, vs, o, e, (k.k _ _ hl ha).1, (k.k _ _ hl ha).2, z, DenL.kp k hn h⟩
  | .dT ks ds, _, ⟨a, vs, o, e, hl, ha, z, h⟩ => ⟨a, vs, o, e, (k.k _ _ hl ha).1, (k.k _ _ hl ha).2, z, DenL.kp k hn h⟩
  | .scr ns, _, ⟨a, e, h⟩ => ⟨a, e, h.kp k⟩
  | .cst ss, _, h => h
  | .hvl, _, ⟨a, vs, e, h⟩ => let ⟨ws, g⟩ := k.t _ _ h; ⟨a, ws, e, g⟩
  | .cel _, _, h => h
  | .als _ _, _, h => h
  | .dN _, _, ⟨a, o, e, hl, ha⟩ => ⟨a, o, e, (k.k _ _ hl ha).1, (k.k _ _ hl ha).2⟩
  | .reg _, _, h => h
  | .exn _, _, ⟨a, C, e, hl, hn', ha⟩ => ⟨a, C, e, (k.k _ _ hl ha).1, hn', (k.k _ _ hl ha).2⟩
theorem DenL.kp (k : Kp L L' H H') (hn : ∀ a, H0 a = none → H1 a = none) : ∀ {ds : List Dat} {vs : List V}, DenL K H0 L H ds vs → DenL K H1 L' H' ds vs
  | [], _, h => h
  | d :: ds, _, ⟨v, r, e, h, t⟩ => ⟨v, r, e, h.kp k hn, DenL.kp k hn t⟩
end
theorem Kp.same (s : Same H H') : Kp L L H H' := ⟨fun a o hl h => ⟨hl, s a o h⟩, fun a vs h => ⟨vs, s a _ h⟩⟩
theorem Den.same (s : Same H H') {d : Dat} {v : V} (h : Den K H0 L H d v) : Den K H0 L H' d v := h.kp (.same s) fun _ z => z
theorem DenL.same (s : Same H H') {d : List Dat} {v : List V} (h : DenL K H0 L H d v) : DenL K H0 L H' d v := h.kp (.same s) fun _ z => z
theorem DenL.length : ∀ {ds : List Dat} {vs : List V}, DenL K H0 L H ds vs → ds.length = vs.length
  | [], _, h => by cases h; rfl
  | d :: ds, _, ⟨v, r, e, _, t⟩ => by subst e; exact congrArg (· + 1) t.length
theorem DenL.get : ∀ {ds : List Dat} {vs : List V} {i : Nat} {d : Dat}, DenL K H0 L H ds vs → ds[i]? = some d → ∃ v, vs[i]? = some v ∧ Den K H0 L H d v
  | [], _, _, _, _, h => by simp at h
  | d :: ds, _, 0, _, ⟨v, r, e, h, _⟩, z => by subst e; simp at z; subst z; exact ⟨v, rfl, h⟩
  | d :: ds, _, i + 1, _, ⟨v, r, e, _, t⟩, z => by
    subst e
    obtain ⟨u, h1, h2⟩ := t.get (i := i) (by simpa using z)
    exact ⟨u, by simpa using h1, h2⟩
theorem DenL.get' : ∀ {ds : List Dat} {vs : List V} {i : Nat} {v : V}, DenL K H0 L H ds vs → vs[i]? = some v → ∃ d, ds[i]? = some d ∧ Den K H0 L H d v
  | [], _, _, _, h, z => by cases h; simp at z
  | d :: ds, _, 0, _, ⟨v, r, e, h, _⟩, z => by subst e; simp at z; subst z; exact ⟨d, rfl, h⟩
  | d :: ds, _, i + 1, _, ⟨v, r, e, _, t⟩, z => by
    subst e
    obtain ⟨u, h1, h2⟩ := t.get' (i := i) (by simpa using z)
    exact ⟨u, by simpa using h1, h2⟩
theorem DenL.app : ∀ {ds es : List Dat} {vs ws : List V}, DenL K H0 L H ds vs → DenL K H0 L H es ws → DenL K H0 L H (ds ++ es) (vs ++ ws)
  | [], _, _, _, h, g => by cases h; exact g
  | d :: ds, _, _, _, ⟨v, r, e, h, t⟩, g => by subst e; exact ⟨v, _, rfl, h, t.app g⟩
theorem DenL.set : ∀ {ds : List Dat} {vs : List V} {d : Dat} {v : V} (i : Nat), DenL K H0 L H ds vs → Den K H0 L H d v → DenL K H0 L H (ds.set i d) (vs.set i v)
  | [], _, _, _, _, h, _ => by cases h; rfl
  | _ :: _, _, _, _, 0, ⟨v, r, e, h, t⟩, g => by subst e; exact ⟨_, _, rfl, g, t⟩
  | _ :: _, _, _, _, i + 1, ⟨v, r, e, h, t⟩, g => by subst e; exact ⟨_, _, rfl, h, t.set i g⟩
theorem DenL.drop : ∀ {ds : List Dat} {vs : List V} (i : Nat), DenL K H0 L H ds vs → DenL K H0 L H (ds.drop i) (vs.drop i)
  | [], _, i, h => by cases h; simp [DenL]
  | _ :: _, _, 0, h => h
  | _ :: _, _, i + 1, ⟨v, r, e, h, t⟩ => by subst e; exact t.drop i
theorem DenL.take : ∀ {ds : List Dat} {vs : List V} (i : Nat), DenL K H0 L H ds vs → DenL K H0 L H (ds.take i) (vs.take i)
  | [], _, i, h => by cases h; simp [DenL]
  | _ :: _, _, 0, h => by simp [DenL]
  | _ :: _, _, i + 1, ⟨v, r, e, h, t⟩ => by subst e; exact ⟨_, _, rfl, h, t.take i⟩
theorem DenL.rev : ∀ {ds : List Dat} {vs : List V}, DenL K H0 L H ds vs → DenL K H0 L H ds.reverse vs.reverse
  | [], _, h => by cases h; rfl
  | _ :: _, _, ⟨v, r, e, h, t⟩ => by subst e; rw [List.reverse_cons, List.reverse_cons]; exact t.rev.app ⟨_, _, rfl, h, rfl⟩
end
end DL

set_option maxRecDepth 100000
set_option maxHeartbeats 4000000
/-! DLaT: trees: things of one's own whose parts are one's own. -/
namespace DL
open PySem PySem.Spec PyProof.Rows L2

mutual
/-- a part of a tree; F: what it is made of -/
def Tr (K : PySem.W.Frag) (H0 : Hp) (L : Lk) (H : Hp) : Dat → V → List Addr → Prop
  | .cel d, v, F => TrN K H0 L H d v F
  | d, v, F => F = [] ∧ Den K H0 L H d v
def TrN (K : PySem.W.Frag) (H0 : Hp) (L : Lk) (H : Hp) : Dat → V → List Addr → Prop
  | .lst t ds, v, F => ∃ a vs G, v = .ref a ∧ F = a :: G ∧ (t = true → H0 a = none) ∧ H a = some (.lst vs) ∧ TrL K H0 L H ds vs G
  | .dK ks ds, v, F => ∃ a vs G, v = .ref a ∧ F = a :: G ∧ H a = some (.dK (ks.zip vs)) ∧ ks.length = vs.length ∧ TrL K H0 L H ds vs G
  | .dT ks ds, v, F => ∃ a vs G, v = .ref a ∧ F = a :: G ∧ H a = some (.dT (ks.zip vs)) ∧ ks.length = vs.length ∧ TrL K H0 L H ds vs G
  | _, _, _ => False
def TrL (K : PySem.W.Frag) (H0 : Hp) (L : Lk) (H : Hp) : List Dat → List V → List Addr → Prop
  | [], vs, F => vs = [] ∧ F = []
  | d :: ds, vs, F => ∃ v r G1 G2, vs = v :: r ∧ F = G1 ++ G2 ∧ Tr K H0 L H d v G1 ∧ TrL K H0 L H ds r G2
end
mutual
/-- a tree, seen as data -/
def melt : Dat → Dat
  | .cel d => meltN d
  | d => d
def meltN : Dat → Dat
  | .lst t ds => .lst t (melts ds)
  | .dK ks ds => .dK ks (melts ds)
  | .dT ks ds => .dT ks (melts ds)
  | d => d
def melts : List Dat → List Dat
  | [] => []
  | d :: ds => melt d :: melts ds
end
mutual
/-- a tree without dicts -/
def lon : Dat → Bool
  | .cel d => lonN d
  | _ => true
def lonN : Dat → Bool
  | .lst _ ds => lons ds
  | _ => false
def lons : List Dat → Bool
  | [] => true
  | d :: ds => lon d && lons ds
end
def Lk.del (L : Lk) (F : List Addr) : Lk := ⟨fun b => L b ∧ b ∉ F, L.ρ⟩
def isCel : Dat → Bool
  | .cel _ => true
  | _ => false
section
variable {K : PySem.W.Frag} {H0 H1 H H' : Hp} {L L' : Lk}
theorem tr_data {d : Dat} {v : V} {F : List Addr} (h : isCel d = false) : Tr K H0 L H d v F ↔ (F = [] ∧ Den K H0 L H d v) := by
  cases d <;> first | exact Iff.rfl | cases h
theorem den_notcel {d : Dat} {v : V} (h : Den K H0 L H d v) : isCel d = false := by
  cases d <;> first | rfl | exact False.elim h
theorem Tr.of {d : Dat} {v : V} (h : Den K H0 L H d v) : Tr K H0 L H d v [] := (tr_data (den_notcel h)).mpr ⟨rfl, h⟩
theorem TrL.of : ∀ {ds : List Dat} {vs : List V}, DenL K H0 L H ds vs → TrL K H0 L H ds vs []
  | [], _, h => ⟨h, rfl⟩
  | d :: ds, _, ⟨v, r, e, h, t⟩ => ⟨v, r, [], [], e, rfl, .of h, TrL.of t⟩
theorem melt_data {d : Dat} (h : isCel d = false) : melt d = d := by
  cases d <;> first | rfl | cases h
theorem kp_del (F : List Addr) : Kp L (L.del F) H H := ⟨fun a o n e => ⟨fun z => n z.1, e⟩, fun a vs e => ⟨vs, e⟩⟩
mutual
theorem Tr.den (G : List Addr) : ∀ {d : Dat} {v : V} {F : List Addr}, lon d = true → Tr K H0 L H d v F → (∀ a ∈ F, a ∈ G) → Den K H0 (L.del G) H (melt d) v
  | .cel d, _, _, q, h, g => TrN.den G q h g
  | .non, _, _, _, h, _ => h.2
  | .bl _, _, _, _, h, _ => h.2
  | .int _, _, _, _, h, _ => h.2
  | .str _, _, _, _, h, _ => h.2
  | .tup ds, _, _, _, h, _ => Den.kp (d := .tup ds) (kp_del G) (fun _ z => z) h.2
  | .lst t ds, _, _, _, h, _ => Den.kp (d := .lst t ds) (kp_del G) (fun _ z => z) h.2
  | .dK t ds, _, _, _, h, _ => Den.kp (d := .dK t ds) (kp_del G) (fun _ z => z) h.2
  | .dT t ds, _, _, _, h, _ => Den.kp (d := .dT t ds) (kp_del G) (fun _ z => z) h.2
  | .scr ds, _, _, _, h, _ => Den.kp (d := .scr ds) (kp_del G) (fun _ z => z) h.2
  | .cst ds, _, _, _, h, _ => Den.kp (d := .cst ds) (kp_del G) (fun _ z => z) h.2
  | .exn x, _, _, _, h, _ => Den.kp (d := .exn x) (kp_del G) (fun _ z => z) h.2
  | .hvl, _, _, _, h, _ => Den.kp (d := .hvl) (kp_del G) (fun _ z => z) h.2
  | .als _ _, _, _, _, h, _ => h.2.elim
  | .dN ks, _, _, _, h, _ => Den.kp (d := .dN ks) (kp_del G) (fun _ z => z) h.2
  | .reg _, _, _, _, h, _ => h.2.elim
theorem TrN.den (G : List Addr) : ∀ {d : Dat} {v : V} {F : List Addr}, lonN d = true → TrN K H0 L H d v F → (∀ a ∈ F, a ∈ G) → Den K H0 (L.del G) H (meltN d) v
  | .lst t ds, _, _, q, ⟨a, vs, G1, e, eF, ht, ha, h⟩, g => ⟨a, vs, e, fun z => z.2 (g a (by rw [eF]; exact List.mem_cons_self)), ht, ha, TrL.den G q h fun b hb => g b (by rw [eF]; exact List.mem_cons_of_mem _ hb)⟩
  | .dK t ds, _, _, q, _, _ => nomatch q
  | .dT t ds, _, _, q, _, _ => nomatch q
  | .cel d, _, _, _, h, _ => h.elim
  | .non, _, _, _, h, _ => h.elim
  | .bl _, _, _, _, h, _ => h.elim
  | .int _, _, _, _, h, _ => h.elim
  | .str _, _, _, _, h, _ => h.elim
  | .tup ds, _, _, _, h, _ => h.elim
  | .scr ds, _, _, _, h, _ => h.elim
  | .cst ds, _, _, _, h, _ => h.elim
  | .exn x, _, _, _, h, _ => h.elim
  | .hvl, _, _, _, h, _ => h.elim
  | .als _ _, _, _, _, h, _ => h.elim
  | .dN _, _, _, _, h, _ => h.elim
  | .reg _, _, _, _, h, _ => h.elim
theorem TrL.den (G : List Addr) : ∀ {ds : List Dat} {vs : List V} {F : List Addr}, lons ds = true → TrL K H0 L H ds vs F → (∀ a ∈ F, a ∈ G) → DenL K H0 (L.del G) H (melts ds) vs
  | [], _, _, _, h, _ => h.1
  | d :: ds, _, _, q, ⟨v, r, G1, G2, e, eF, h, t⟩, g => by
    have q : (lon d && lons ds) = true := q
    rw [Bool.and_eq_true] at q
    exact ⟨v, r, e, Tr.den G q.1 h fun a ha => g a (by rw [eF]; exact List.mem_append_left _ ha), TrL.den G q.2 t fun a ha => g a (by rw [eF]; exact List.mem_append_right _ ha)⟩
end
mutual
theorem Tr.kp (k : Kp L L' H H') (hn : ∀ a, H0 a = none → H1 a = none) : ∀ {d : Dat} {v : V} {F : List Addr}, Tr K H0 L H d v F → (∀ a ∈ F, ∀ o, H a = some o → H' a = some o) → Tr K H1 L' H' d v F
  | .cel d, _, _, h, g => TrN.kp k hn h g
  | .non, _, _, h, _ => h
  | .bl _, _, _, h, _ => h
  | .int _, _, _, h, _ => h
  | .str _, _, _, h, _ => h
  | .tup ds, _, _, h, _ => ⟨h.1, Den.kp (d := .tup ds) k hn h.2⟩
  | .lst t ds, _, _, h, _ => ⟨h.1, Den.kp (d := .lst t ds) k hn h.2⟩
  | .dK t ds, _, _, h, _ => ⟨h.1, Den.kp (d := .dK t ds) k hn h.2⟩
  | .dT t ds, _, _, h, _ => ⟨h.1, Den.kp (d := .dT t ds) k hn h.2⟩
  | .scr ds, _, _, h, _ => ⟨h.1, Den.kp (d := .scr ds) k hn h.2⟩
  | .cst ds, _, _, h, _ => ⟨h.1, Den.kp (d := .cst ds) k hn h.2⟩
  | .exn x, _, _, h, _ => ⟨h.1, Den.kp (d := .exn x) k hn h.2⟩
  | .hvl, _, _, h, _ => ⟨h.1, Den.kp (d := .hvl) k hn h.2⟩
  | .als _ _, _, _, h, _ => h.2.elim
  | .dN ks, _, _, h, _ => ⟨h.1, Den.kp (d := .dN ks) k hn h.2⟩
  | .reg _, _, _, h, _ => h.2.elim
theorem TrN.kp (k : Kp L L' H H') (hn : ∀ a, H0 a = none → H1 a = none) : ∀ {d : Dat} {v : V} {F : List Addr}, TrN K H0 L H d v F → (∀ a ∈ F, ∀ o, H a = some o → H' a = some o) → TrN K H1 L' H' d v F
  | .lst t ds, _, _, ⟨a, vs, G1, e, eF, ht, ha, h⟩, g => ⟨a, vs, G1, e, eF, fun z => hn _ (ht z), g a (by rw [eF]; exact List.mem_cons_self) _ ha, TrL.kp k hn h fun b hb => g b (by rw [eF]; exact List.mem_cons_of_mem _ hb)⟩
  | .dK t ds, _, _, ⟨a, vs, G1, e, eF, ha, hl, h⟩, g => ⟨a, vs, G1, e, eF, g a (by rw [eF]; exact List.mem_cons_self) _ ha, hl, TrL.kp k hn h fun b hb => g b (by rw [eF]; exact List.mem_cons_of_mem _ hb)⟩
  | .dT t ds, _, _, ⟨a, vs, G1, e, eF, ha, hl, h⟩, g => ⟨a, vs, G1, e, eF, g a (by rw [eF]; exact List.mem_cons_self) _ ha, hl, TrL.kp k hn h fun b hb => g b (by rw [eF]; exact List.mem_cons_of_mem _ hb)⟩
  | .cel d, _, _, h, _ => h.elim
  | .non, _, _, h, _ => h.elim
  | .bl _, _, _, h, _ => h.elim
  | .int _, _, _, h, _ => h.elim
  | .str _, _, _, h, _ => h.elim
  | .tup ds, _, _, h, _ => h.elim
  | .scr ds, _, _, h, _ => h.elim
  | .cst ds, _, _, h, _ => h.elim
  | .exn x, _, _, h, _ => h.elim
  | .hvl, _, _, h, _ => h.elim
  | .als _ _, _, _, h, _ => h.elim
  | .dN _, _, _, h, _ => h.elim
  | .reg _, _, _, h, _ => h.elim
theorem TrL.kp (k : Kp L L' H H') (hn : ∀ a, H0 a = none → H1 a = none) : ∀ {ds : List Dat} {vs : List V} {F : List Addr}, TrL K H0 L H ds vs F → (∀ a ∈ F, ∀ o, H a = some o → H' a = some o) → TrL K H1 L' H' ds vs F
  | [], _, _, h, _ => h
  | d :: ds, _, _, ⟨v, r, G1, G2, e, eF, h, t⟩, g => ⟨v, r, G1, G2, e, eF, Tr.kp k hn h fun a ha => g a (by rw [eF]; exact List.mem_append_left _ ha), TrL.kp k hn t fun a ha => g a (by rw [eF]; exact List.mem_append_right _ ha)⟩
end
theorem TrL.length : ∀ {ds : List Dat} {vs : List V} {F : List Addr}, TrL K H0 L H ds vs F → ds.length = vs.length
  | [], _, _, h => by rw [h.1]; rfl
  | d :: ds, _, _, ⟨v, r, G1, G2, e, eF, h, t⟩ => by subst e; exact congrArg (· + 1) t.length
theorem TrL.app : ∀ {ds es : List Dat} {vs ws : List V} {F G : List Addr}, TrL K H0 L H ds vs F → TrL K H0 L H es ws G → TrL K H0 L H (ds ++ es) (vs ++ ws) (F ++ G)
  | [], _, _, _, _, _, h, g => by rw [h.1, h.2]; exact g
  | d :: ds, _, _, _, _, _, ⟨v, r, G1, G2, e, eF, h, t⟩, g => by
    subst e eF
    exact ⟨v, _, G1, _, rfl, List.append_assoc .., h, t.app g⟩
theorem TrL.one {d : Dat} {v : V} {F : List Addr} (h : Tr K H0 L H d v F) : TrL K H0 L H [d] [v] F := ⟨v, [], F, [], rfl, (List.append_nil _).symm, h, rfl, rfl⟩
theorem TrL.set : ∀ {ds : List Dat} {vs : List V} {F : List Addr} {j : Nat} {d : Dat}, TrL K H0 L H ds vs F → ds[j]? = some d → ∃ w G1 Gd G2, vs[j]? = some w ∧ F = G1 ++ Gd ++ G2 ∧ Tr K H0 L H d w Gd ∧
    ∀ {H1 H' : Hp} {L' : Lk} {d' : Dat} {w' : V} {Gd' : List Addr}, Kp L L' H H' → (∀ a, H0 a = none → H1 a = none) → (∀ b, b ∈ G1 ++ G2 → ∀ o, H b = some o → H' b = some o) → Tr K H1 L' H' d' w' Gd' → TrL K H1 L' H' (ds.set j d') (vs.set j w') (G1 ++ Gd' ++ G2)
  | [], _, _, _, _, _, h => by simp at h
  | d :: ds, _, _, 0, _, ⟨v, r, G1, G2, e, eF, h, t⟩, z => by
    subst e eF
    simp at z
    subst z
    refine ⟨v, [], G1, G2, rfl, rfl, h, fun k hn kk h' => ⟨_, r, _, G2, rfl, rfl, h', t.kp k hn fun b hb => kk b hb⟩⟩
  | d :: ds, _, _, j + 1, _, ⟨v, r, G1, G2, e, eF, h, t⟩, z => by
    subst e eF
    obtain ⟨w, A1, Ad, A2, e1, e2, e3, e4⟩ := TrL.set (j := j) t (by simpa using z)
    subst e2
    refine ⟨w, G1 ++ A1, Ad, A2, by simpa using e1, by simp, e3, fun k hn kk h' => ⟨v, _, G1, _, rfl, by simp, h.kp k hn fun b hb => kk b (by simp [hb]), e4 k hn (fun b hb => kk b ?_) h'⟩⟩
    rcases List.mem_append.mp hb with hb | hb
    · simp [hb]
    · simp [hb]

/-! ### paths -/
def kidsD : Dat → Option (List Dat)
  | .lst _ ds => some ds
  | .dK _ ds => some ds
  | .dT _ ds => some ds
  | _ => none
def setKids (ds : List Dat) : Dat → Dat
  | .lst t _ => .lst t ds
  | .dK ks _ => .dK ks ds
  | .dT ks _ => .dT ks ds
  | d => d
def kidC (d : Dat) (j : Nat) : Option Dat := match kidsD d with
  | some ds => match ds[j]? with
    | some (.cel e) => some e
    | _ => none
  | none => none
def nodeAt : Dat → List Nat → Option Dat
  | d, [] => some d
  | d, j :: p => (kidC d j).bind fun e => nodeAt e p
def setAt : Dat → List Nat → Dat → Dat
  | _, [], e => e
  | d, j :: p, e => match kidsD d, kidC d j with
    | some ds, some x => setKids (ds.set j (.cel (setAt x p e))) d
    | _, _ => d
def kidV : HO → Nat → Option V
  | .lst vs, j => vs[j]?
  | .dK kvs, j => (kvs[j]?).map (·.2)
  | .dT kvs, j => (kvs[j]?).map (·.2)
  | _, _ => none
/-- the address at a path, all within F -/
def AddrIn (H : Hp) (F : List Addr) : V → List Nat → Addr → Prop
  | v, [], b => v = .ref b ∧ b ∈ F
  | v, j :: p, b => ∃ a o w, v = .ref a ∧ a ∈ F ∧ H a = some o ∧ kidV o j = some w ∧ AddrIn H F w p b
theorem AddrIn.inj {F G : List Addr} : ∀ {p : List Nat} {v : V} {b c : Addr}, AddrIn H F v p b → AddrIn H G v p c → b = c
  | [], _, _, _, ⟨e, _⟩, ⟨e', _⟩ => by rw [e] at e'; cases e'; rfl
  | j :: p, _, _, _, ⟨a, o, w, e, _, ha, hk, h⟩, ⟨a', o', w', e', _, ha', hk', h'⟩ => by
    rw [e] at e'; cases e'
    rw [ha] at ha'; cases ha'
    rw [hk] at hk'; cases hk'
    exact h.inj h'
theorem AddrIn.mono {F G : List Addr} (hH : ∀ a ∈ F, a ∈ G ∧ ∀ o, H a = some o → ∃ o', H' a = some o' ∧ ∀ j b, kidV o j = some (.ref b) → kidV o' j = some (.ref b)) : ∀ {p : List Nat} {v : V} {b : Addr}, AddrIn H F v p b → AddrIn H' G v p b
  | [], _, _, ⟨e, h⟩ => ⟨e, (hH _ h).1⟩
  | j :: p, _, _, ⟨a, o, w, e, hm, ha, hk, h⟩ => by
    obtain ⟨g1, g2⟩ := hH _ hm
    obtain ⟨o', ho', q⟩ := g2 o ha
    have : ∃ c, w = .ref c := by
      cases p with
      | nil => exact ⟨_, h.1⟩
      | cons i p => obtain ⟨a, _, _, e, _⟩ := h; exact ⟨a, e⟩
    obtain ⟨c, rfl⟩ := this
    exact ⟨a, o', _, e, g1, ho', q j c hk, h.mono hH⟩
theorem AddrIn.mem {F : List Addr} : ∀ {p : List Nat} {v : V} {b : Addr}, AddrIn H F v p b → b ∈ F
  | [], _, _, h => h.2
  | j :: p, _, _, ⟨_, _, _, _, _, _, _, h⟩ => h.mem
theorem kid_zip {κ : Type} {ks : List κ} {vs : List V} {j : Nat} (hl : ks.length = vs.length) : ((ks.zip vs)[j]?).map (·.2) = vs[j]? := by
  have : vs = (ks.zip vs).map (·.2) := by rw [List.map_snd_zip]; omega
  rw [← List.getElem?_map, ← this]
/-- the parts of a node -/
theorem TrN.kids {d : Dat} {v : V} {F : List Addr} (h : TrN K H0 L H d v F) : ∃ ds a o vs G, kidsD d = some ds ∧ v = .ref a ∧ F = a :: G ∧ H a = some o ∧ Mut (some o) ∧ (∀ j, kidV o j = vs[j]?) ∧ TrL K H0 L H ds vs G ∧
    ∀ {H1 H' : Hp} {L' : Lk} {ds' : List Dat} {G' : List Addr}, (∀ a, H0 a = none → H1 a = none) → H' a = some o → TrL K H1 L' H' ds' vs G' → TrN K H1 L' H' (setKids ds' d) v (a :: G') := by
  cases d with
  | lst t ds =>
    obtain ⟨a, vs, G, e, eF, ht, ha, h⟩ := h
    exact ⟨ds, a, _, vs, G, rfl, e, eF, ha, trivial, fun j => rfl, h, fun hn h1 h2 => ⟨a, vs, _, e, rfl, fun z => hn _ (ht z), h1, h2⟩⟩
  | dK ks ds =>
    obtain ⟨a, vs, G, e, eF, ha, hl, h⟩ := h
    exact ⟨ds, a, _, vs, G, rfl, e, eF, ha, trivial, fun j => kid_zip hl, h, fun hn h1 h2 => ⟨a, vs, _, e, rfl, h1, hl, h2⟩⟩
  | dT ks ds =>
    obtain ⟨a, vs, G, e, eF, ha, hl, h⟩ := h
    exact ⟨ds, a, _, vs, G, rfl, e, eF, ha, trivial, fun j => kid_zip hl, h, fun hn h1 h2 => ⟨a, vs, _, e, rfl, h1, hl, h2⟩⟩
  | _ => exact False.elim h
theorem set_same {α : Type} {l : List α} {j : Nat} {x : α} (h : l[j]? = some x) : l.set j x = l := by
  apply List.ext_getElem?
  intro i
  rw [List.getElem?_set]
  split
  · rename_i e
    subst e
    rw [if_pos (List.getElem?_eq_some_iff.mp h).1, h]
  · rfl
theorem kidC_some {d x : Dat} {j : Nat} (h : kidC d j = some x) : ∃ ds, kidsD d = some ds ∧ ds[j]? = some (.cel x) := by
  unfold kidC at h
  split at h
  · rename_i ds e
    split at h
    · rename_i e2; cases h; exact ⟨ds, e, e2⟩
    · cases h
  · cases h
theorem TrN.focus : ∀ (p : List Nat) {d e : Dat} {v : V} {F : List Addr}, TrN K H0 L H d v F → nodeAt d p = some e → ∃ a G1 Fe G2, F = G1 ++ Fe ++ G2 ∧ AddrIn H F v p a ∧ TrN K H0 L H e (.ref a) Fe ∧
    ∀ {H1 H' : Hp} {L' : Lk} {e' : Dat} {Fe' : List Addr}, Kp L L' H H' → (∀ a, H0 a = none → H1 a = none) → (∀ b, b ∈ G1 ++ G2 → ∀ o, H b = some o → H' b = some o) → TrN K H1 L' H' e' (.ref a) Fe' → TrN K H1 L' H' (setAt d p e') v (G1 ++ Fe' ++ G2)
  | [], d, e, v, F, h, z => by
    cases z
    obtain ⟨ds, a, o, vs, G, hk, ev, eF, ha, mu, kv, ht, rb⟩ := h.kids
    subst ev
    exact ⟨a, [], F, [], by simp, ⟨rfl, by rw [eF]; exact List.mem_cons_self⟩, h, fun k hn kk h' => by simpa [setAt] using h'⟩
  | j :: p, d, e, v, F, h, z => by
    have z : (kidC d j).bind (fun e => nodeAt e p) = some e := z
    cases hc : kidC d j with
    | none => rw [hc] at z; cases z
    | some x =>
      rw [hc] at z
      have z : nodeAt x p = some e := z
      obtain ⟨ds, hk1, hj⟩ := kidC_some hc
      obtain ⟨ds', a, o, vs, G, hk, ev, eF, ha, mu, kv, ht, rb⟩ := h.kids
      rw [hk1] at hk
      cases hk
      subst ev eF
      obtain ⟨w, A1, Ad, A2, e1, e2, e3, e4⟩ := ht.set hj
      subst e2
      obtain ⟨b, B1, Fe, B2, f1, f2, f3, f4⟩ := TrN.focus p (show TrN K H0 L H x w Ad from e3) z
      subst f1
      refine ⟨b, a :: (A1 ++ B1), Fe, B2 ++ A2, by simp, ⟨a, o, w, rfl, List.mem_cons_self, ha, by rw [kv]; exact e1, ?_⟩, f3, fun {H1 H' L' e' Fe'} k hn kk h' => ?_⟩
      · refine f2.mono fun c hc => ⟨List.mem_cons_of_mem _ (List.mem_append_left _ (List.mem_append_right _ hc)), fun o ho => ⟨o, ho, fun _ _ q => q⟩⟩
      · have t1 := f4 k hn (fun c hc => kk c (by
          rcases List.mem_append.mp hc with hc | hc <;> simp [hc])) h'
        have t2 := e4 k hn (fun c hc => kk c (by
          rcases List.mem_append.mp hc with hc | hc <;> simp [hc])) (d' := .cel (setAt x p e')) (w' := w) t1
        rw [set_same e1] at t2
        have t3 := rb hn (kk a (by simp) _ ha) t2
        have es : setAt d (j :: p) e' = setKids (ds.set j (.cel (setAt x p e'))) d := by
          show (match kidsD d, kidC d j with
            | some ds, some x => setKids (ds.set j (.cel (setAt x p e'))) d
            | _, _ => d) = _
          rw [hk1, hc]
        rw [es]
        have ee : a :: (A1 ++ B1) ++ Fe' ++ (B2 ++ A2) = a :: (A1 ++ (B1 ++ Fe' ++ B2) ++ A2) := by simp
        rw [ee]
        exact t3
end
end DL

set_option maxRecDepth 100000
set_option maxHeartbeats 4000000
/-! DLb: slots over data, the judgements of expressions. -/
namespace DL
open PySem PySem.Spec PyProof.Rows L2

/-- what a pure function gives: nothing is known, an error, a value -/
inductive Rs (α : Type) where
  | no
  | ex (n : Str)
  | ok (a : α)
def Rs.bind {α β : Type} (x : Rs α) (f : α → Rs β) : Rs β := match x with
  | .no => .no
  | .ex n => .ex n
  | .ok a => f a
instance : Monad Rs where
  pure := Rs.ok
  bind := Rs.bind
@[simp] theorem Rs.ok_bind {α β : Type} (a : α) (f : α → Rs β) : (Rs.ok a >>= f) = f a := rfl
@[simp] theorem Rs.no_bind {α β : Type} (f : α → Rs β) : ((Rs.no : Rs α) >>= f) = Rs.no := rfl
@[simp] theorem Rs.ex_bind {α β : Type} (n : Str) (f : α → Rs β) : ((Rs.ex n : Rs α) >>= f) = Rs.ex n := rfl
@[simp] theorem Rs.pure_eq {α : Type} (a : α) : (pure a : Rs α) = .ok a := rfl
def Rs.of {α : Type} : Option α → Rs α
  | some a => .ok a
  | none => .no
@[simp] theorem Rs.of_some {α : Type} (a : α) : Rs.of (some a) = .ok a := rfl
@[simp] theorem Rs.of_none {α : Type} : Rs.of (none : Option α) = .no := rfl

/-- the slots: what they hold; true: a list or dict that stands nowhere else -/
abbrev DEnv := List (Option (Bool × Dat))
def OwnB (K : PySem.W.Frag) (H0 : Hp) (LL : Lk) (H : Hp) (a : Addr) : Dat → Prop
  | .lst _ ds => ∃ vs, H a = some (.lst vs) ∧ DenL K H0 LL H ds vs
  | .dK ks ds => ∃ vs, H a = some (.dK (ks.zip vs)) ∧ ks.length = vs.length ∧ DenL K H0 LL H ds vs
  | .dT ks ds => ∃ vs, H a = some (.dT (ks.zip vs)) ∧ ks.length = vs.length ∧ DenL K H0 LL H ds vs
  | .dN ks => H a = some (nonO ks a)
  | _ => False
/-- all lists but those of F -/
def Lk.reg (LL : Lk) (H : Hp) (F : List Addr) : Lk := ⟨fun b => b ∉ F ∧ (LL b ∨ ∃ vs, H b = some (.lst vs)), LL.ρ⟩
/-- what stands nowhere else; F: what it is made of -/
def OwnD (K : PySem.W.Frag) (H0 : Hp) (LL : Lk) (H : Hp) (d : Dat) (v : V) (F : List Addr) : Prop := match d with
  | .cel d => TrN K H0 LL H d v F ∧ F.Nodup
  | .reg d => Den K H0 (LL.reg H F) H d v ∧ ∀ a, a ∈ F → ∃ vs, H a = some (.lst vs)
  | .als _ _ => F = []
  | d => ∃ a, v = .ref a ∧ F = [a] ∧ OwnB K H0 LL H a d
structure Rel (K : PySem.W.Frag) (H0 : Hp) (L : Lp) (LL : Lk) (ε : DEnv) (σ : L2.St) (H : Hp) : Prop where
  same : Same H0 H
  sub : ∀ a, L a → LL a
  mu : ∀ a, LL a → ∃ o, H a = some o ∧ Mut (some o)
  len : σ.length ≤ ε.length
  val : ∀ (i : Nat) (d : Dat), ε[i]? = some (some (false, d)) → ∃ v, σ[i]? = some (some v) ∧ Den K H0 LL H d v
  own : ∀ (i : Nat) (d : Dat), ε[i]? = some (some (true, d)) → ∃ v, σ[i]? = some (some v) ∧ (∀ a, a ∈ LL.ρ i → LL a ∧ ¬ L a ∧ H0 a = none) ∧ OwnD K H0 LL H d v (LL.ρ i)
  uni : ∀ (i j : Nat) (d e : Dat) (a : Addr), ε[i]? = some (some (true, d)) → ε[j]? = some (some (true, e)) → a ∈ LL.ρ i → a ∈ LL.ρ j → i = j
  als : ∀ (j i : Nat) (p : List Nat) (d : Dat), ε[j]? = some (some (true, .als i p)) → ε[i]? = some (some (true, .cel d)) → ∃ v a, σ[i]? = some (some v) ∧ AddrIn H (LL.ρ i) v p a ∧ σ[j]? = some (some (V.ref a))

section
variable {K : PySem.W.Frag} {H0 H1 H H' : Hp} {L L' : Lp} {LL LL' : Lk} {ε : DEnv} {σ : L2.St} {a : Addr} {d e z : Dat} {v x y : V} {vs : List V} {ds : List Dat}
/-- lists stay lists -/
def KL (H H' : Hp) : Prop := ∀ a vs, H a = some (.lst vs) → ∃ ws, H' a = some (.lst ws)
theorem KL.same (s : Same H H') : KL H H' := fun a vs e => ⟨vs, s _ _ e⟩
theorem KL.refl : KL H H := fun a vs e => ⟨vs, e⟩
theorem KL.trans {H2 : Hp} (a : KL H H1) (b : KL H1 H2) : KL H H2 := fun c vs e => let ⟨ws, e'⟩ := a c vs e; b c ws e'
theorem KL.lst {ws : List V} : KL H (upd H a (.lst ws)) := fun b vs e => by
  by_cases h : b = a
  · exact ⟨ws, by rw [h, upd_same]⟩
  · exact ⟨vs, by rw [upd_ne h]; exact e⟩
theorem KL.dict {o o' : HO} (h : H a = some o') (hn : ∀ vs, o' ≠ .lst vs) : KL H (upd H a o) := fun b vs e => by
  by_cases hb : b = a
  · rw [hb, h] at e; cases e; exact absurd rfl (hn vs)
  · exact ⟨vs, by rw [upd_ne hb]; exact e⟩
/-- one's own list or dict; a dict of Nones and whole numbers is not read as a whole -/
def shR : Dat → Bool
  | .lst _ _ => true
  | .dK _ _ => true
  | .dT _ _ => true
  | _ => false
def shD : Dat → Bool
  | .lst _ _ => true
  | .dK _ _ => true
  | .dT _ _ => true
  | .dN _ => true
  | _ => false
theorem OwnB.sh (h : OwnB K H0 LL H a d) : shD d = true := by
  cases d <;> first | rfl | exact False.elim h
theorem ownD_sh {F : List Addr} (hs : shD d = true) : OwnD K H0 LL H d v F ↔ ∃ a, v = .ref a ∧ F = [a] ∧ OwnB K H0 LL H a d := by
  cases d <;> first | exact Iff.rfl | cases hs
theorem OwnB.there (h : OwnB K H0 LL H a d) : ∃ o, H a = some o ∧ Mut (some o) := by
  cases d with
  | lst t ds => obtain ⟨vs, h, _⟩ := h; exact ⟨_, h, trivial⟩
  | dK t ds => obtain ⟨vs, h, _⟩ := h; exact ⟨_, h, trivial⟩
  | dT t ds => obtain ⟨vs, h, _⟩ := h; exact ⟨_, h, trivial⟩
  | dN ks => exact ⟨_, h, trivial⟩
  | _ => exact h.elim
theorem OwnB.kp (k : Kp LL LL' H H') (hn : ∀ a, H0 a = none → H1 a = none) (ha : ∀ o, H a = some o → H' a = some o) (h : OwnB K H0 LL H a d) : OwnB K H1 LL' H' a d := by
  cases d with
  | lst t ds => obtain ⟨vs, h, g⟩ := h; exact ⟨vs, ha _ h, g.kp k hn⟩
  | dK ks ds => obtain ⟨vs, h, z, g⟩ := h; exact ⟨vs, ha _ h, z, g.kp k hn⟩
  | dT ks ds => obtain ⟨vs, h, z, g⟩ := h; exact ⟨vs, ha _ h, z, g.kp k hn⟩
  | dN ks => exact ha _ h
  | _ => exact h.elim
theorem Kp.del {F : List Addr} (k : Kp LL LL' H H') (ha : ∀ a, a ∈ F → ∀ o, H a = some o → H' a = some o) : Kp (LL.del F) (LL'.del F) H H' := ⟨fun b o n e => by
  by_cases hb : b ∈ F
  · exact ⟨fun z => z.2 hb, ha b hb o e⟩
  · have := k.k b o (fun z => n ⟨z, hb⟩) e
    exact ⟨fun z => this.1 z.1, this.2⟩, k.t⟩
theorem Kp.reg {F : List Addr} (k : Kp LL LL' H H') (ha : ∀ a, a ∈ F → ∀ o, H a = some o → H' a = some o) : Kp (LL.reg H F) (LL'.reg H' F) H H' := ⟨fun b o n e => by
  by_cases hb : b ∈ F
  · exact ⟨fun z => z.1 hb, ha b hb o e⟩
  · have h1 : ¬ LL b := fun z => n ⟨hb, .inl z⟩
    have h2 := k.k b o h1 e
    refine ⟨fun z => z.2.elim h2.1 fun ⟨vs, q⟩ => n ⟨hb, .inr ⟨vs, ?_⟩⟩, h2.2⟩
    rw [h2.2] at q
    rw [e, q], k.t⟩
theorem OwnD.kp {F : List Addr} (k : Kp LL LL' H H') (hn : ∀ a, H0 a = none → H1 a = none) (ha : ∀ a, a ∈ F → ∀ o, H a = some o → H' a = some o) (h : OwnD K H0 LL H d v F) : OwnD K H1 LL' H' d v F := by
  unfold OwnD at h ⊢
  split at h
  · exact ⟨h.1.kp k hn ha, h.2⟩
  · exact ⟨h.1.kp (k.reg ha) hn, fun a hm => let ⟨vs, e⟩ := h.2 a hm; ⟨vs, ha a hm _ e⟩⟩
  · exact h
  · rename_i d h1 h2 h3
    obtain ⟨a, e, eF, q⟩ := h
    subst eF
    exact ⟨a, e, rfl, q.kp k hn fun o z => ha a List.mem_cons_self o z⟩
theorem Rel.mono (r : Rel K H0 L LL ε σ H) (s : Same H H') : Rel K H0 L LL ε σ H' where
  same := r.same.trans s
  sub := r.sub
  mu := fun a h => let ⟨o, e, m⟩ := r.mu a h; ⟨o, s _ _ e, m⟩
  len := r.len
  val := fun i d e => let ⟨v, e1, h⟩ := r.val i d e; ⟨v, e1, h.same s⟩
  own := fun i d e => let ⟨v, e1, h0, h⟩ := r.own i d e; ⟨v, e1, h0, h.kp (.same s) (fun _ z => z) fun a _ o z => s _ _ z⟩
  uni := r.uni
  als := fun j i p d e1 e2 => let ⟨v, a, h1, h2, h3⟩ := r.als j i p d e1 e2; ⟨v, a, h1, h2.mono fun b hb => ⟨hb, fun o ho => ⟨o, s _ _ ho, fun _ _ z => z⟩⟩, h3⟩
theorem Rel.trk (r : Rel K H0 L LL ε σ H) : ∀ a, LL a → H a ≠ none := fun a h => let ⟨o, e, _⟩ := r.mu a h; by rw [e]; exact fun z => nomatch z
/-- a plain thing of one's own -/
theorem Rel.ownS (r : Rel K H0 L LL ε σ H) {i : Nat} (h : ε[i]? = some (some (true, d))) (hs : shD d = true) : ∃ a, σ[i]? = some (some (V.ref a)) ∧ LL a ∧ ¬ L a ∧ H0 a = none ∧ OwnB K H0 LL H a d ∧ LL.ρ i = [a] := by
  obtain ⟨v, e1, hF, q⟩ := r.own i d h
  obtain ⟨a, rfl, eF, q⟩ := (ownD_sh hs).mp q
  obtain ⟨g1, g2, g3⟩ := hF a (by rw [eF]; exact List.mem_cons_self)
  exact ⟨a, e1, g1, g2, g3, q, eF⟩

/-! ### what a part of an expression may know of an operand: a list of its own, whose items are data -/
def DenS (K : PySem.W.Frag) (H0 : Hp) (L : Lp) (LL : Lk) (H : Hp) : Dat → V → Prop
  | .lst t ds, v => ∃ a vs, v = .ref a ∧ ¬ L a ∧ (t = true → H0 a = none) ∧ H a = some (.lst vs) ∧ DenL K H0 LL H ds vs
  | .dK ks ds, v => ∃ a vs, v = .ref a ∧ ¬ L a ∧ Rd H a (.dK (ks.zip vs)) ∧ ks.length = vs.length ∧ DenL K H0 LL H ds vs
  | .dT ks ds, v => ∃ a vs, v = .ref a ∧ ¬ L a ∧ Rd H a (.dT (ks.zip vs)) ∧ ks.length = vs.length ∧ DenL K H0 LL H ds vs
  | d, v => Den K H0 LL H d v
theorem Den.s (hs : ∀ a, L a → LL a) (h : Den K H0 LL H d v) : DenS K H0 L LL H d v := by
  cases d with
  | lst t ds => obtain ⟨a, vs, e, hl, q⟩ := h; exact ⟨a, vs, e, fun z => hl (hs _ z), q⟩
  | dK t ds => obtain ⟨a, vs, o, e, hl, ha, q⟩ := h; exact ⟨a, vs, e, fun z => hl (hs _ z), .inr ⟨o, ha⟩, q⟩
  | dT t ds => obtain ⟨a, vs, o, e, hl, ha, q⟩ := h; exact ⟨a, vs, e, fun z => hl (hs _ z), .inr ⟨o, ha⟩, q⟩
  | _ => exact h
theorem Den.sub (hs : ∀ a, L a → LL a) (h : Den K H0 LL H d v) : Den K H0 ⟨L.f, LL.ρ⟩ H d v := Den.kp (L' := ⟨L.f, LL.ρ⟩) ⟨fun a o n e => ⟨fun z => n (hs _ z), e⟩, KL.refl⟩ (fun _ z => z) h
theorem DenL.sub (hs : ∀ a, L a → LL a) (h : DenL K H0 LL H ds vs) : DenL K H0 ⟨L.f, LL.ρ⟩ H ds vs := DenL.kp (L' := ⟨L.f, LL.ρ⟩) ⟨fun a o n e => ⟨fun z => n (hs _ z), e⟩, KL.refl⟩ (fun _ z => z) h
def noD : Dat → Bool
  | .dK _ _ => false
  | .dT _ _ => false
  | .dN _ => false
  | _ => true
theorem DenS.den (hs : ∀ a, L a → LL a) (h : DenS K H0 L LL H d v) (nd : noD d = true) : Den K H0 ⟨L.f, LL.ρ⟩ H d v := by
  cases d with
  | lst t ds => obtain ⟨a, vs, e, hl, t, ha, q⟩ := h; exact ⟨a, vs, e, hl, t, ha, q.sub hs⟩
  | dK t ds => cases nd
  | dT t ds => cases nd
  | non => exact Den.sub hs h
  | bl b => exact Den.sub hs h
  | int b => exact Den.sub hs h
  | str b => exact Den.sub hs h
  | tup b => exact Den.sub (d := .tup b) hs h
  | scr b => exact Den.sub (d := .scr b) hs h
  | cst b => exact h
  | hvl => exact h
  | cel b => exact h
  | als b c => exact h
  | dN b => exact Den.sub (d := .dN b) hs h
  | reg b => exact h
  | exn b => exact Den.sub (d := .exn b) hs h
theorem DenS.same (s : Same H H') (h : DenS K H0 L LL H d v) : DenS K H0 L LL H' d v := by
  cases d with
  | lst t ds => obtain ⟨a, vs, e, hl, t, ha, q⟩ := h; exact ⟨a, vs, e, hl, t, s _ _ ha, q.same s⟩
  | dK t ds => obtain ⟨a, vs, e, hl, t, z, q⟩ := h; exact ⟨a, vs, e, hl, ((Kp.same (L := ⟨L.f, fun _ => []⟩) s).rd hl t).2, z, q.same s⟩
  | dT t ds => obtain ⟨a, vs, e, hl, t, z, q⟩ := h; exact ⟨a, vs, e, hl, ((Kp.same (L := ⟨L.f, fun _ => []⟩) s).rd hl t).2, z, q.same s⟩
  | non => exact h
  | bl b => exact h
  | int b => exact h
  | str b => exact h
  | tup b => exact Den.same (H0 := H0) (d := .tup b) s h
  | scr b => exact Den.same (H0 := H0) (d := .scr b) s h
  | cst b => exact h
  | hvl => exact Den.same (K := K) (L := LL) (H0 := H0) (d := .hvl) s h
  | cel b => exact h
  | als b c => exact h
  | dN b => exact Den.same (K := K) (L := LL) (H0 := H0) (d := .dN b) s h
  | reg b => exact h
  | exn b => exact Den.same (H0 := H0) (d := .exn b) s h
def DM (m : Bool) (K : PySem.W.Frag) (H0 : Hp) (L : Lp) (LL : Lk) (H : Hp) (d : Dat) (v : V) : Prop := match m with
  | true => Den K H0 LL H d v
  | false => DenS K H0 L LL H d v
theorem Den.m {m : Bool} (hs : ∀ a, L a → LL a) (h : Den K H0 LL H d v) : DM m K H0 L LL H d v := by
  cases m with
  | true => exact h
  | false => exact h.s hs
theorem DM.same {m : Bool} (s : Same H H') (h : DM m K H0 L LL H d v) : DM m K H0 L LL H' d v := by
  cases m with
  | true => exact Den.same s h
  | false => exact DenS.same s h
/-- where operands stand -/
structure Good (H0 : Hp) (L : Lp) (LL : Lk) (H : Hp) : Prop where
  sub : ∀ a, L a → LL a
  mu : ∀ a, LL a → ∃ o, H a = some o ∧ Mut (some o)
  fr : ∀ a, H a = none → H0 a = none
theorem Rel.good (r : Rel K H0 L LL ε σ H) : Good H0 L LL H := ⟨r.sub, r.mu, fun _ h => r.same.free h⟩
theorem Good.mono (g : Good H0 L LL H) (s : Same H H') : Good H0 L LL H' := ⟨g.sub, fun a h => let ⟨o, e, m⟩ := g.mu a h; ⟨o, s _ _ e, m⟩, fun a h => g.fr a (s.free h)⟩
theorem Good.trk (g : Good H0 L LL H) : ∀ a, LL a → H a ≠ none := fun a h => let ⟨o, e, _⟩ := g.mu a h; by rw [e]; exact fun z => nomatch z
theorem Good.not (g : Good H0 L LL H) (h : H a = none) : ¬ LL a := fun z => g.trk a z h
theorem same_new {p : Addr} {o : HO} (h : H p = none) : Same H (upd H p o) := fun b u q => by rw [upd_ne (ne_of_none q h)]; exact q
/-- a new list -/
theorem Good.lst (g : Good H0 L LL H) {p : Addr} (h : H p = none) (hd : DenL K H0 LL H ds vs) {t : Bool} : Den K H0 LL (upd H p (.lst vs)) (.lst t ds) (.ref p) :=
  ⟨p, vs, rfl, g.not h, fun _ => g.fr _ h, upd_same, hd.same (same_new h)⟩
theorem Good.tup (g : Good H0 L LL H) {p : Addr} (h : H p = none) (hd : DenL K H0 LL H ds vs) : Den K H0 LL (upd H p (.tup vs)) (.tup ds) (.ref p) :=
  ⟨p, vs, rfl, ⟨g.not h, upd_same⟩, hd.same (same_new h)⟩
end

/-! ### expressions -/
abbrev WX := Value → Option Addr → L2.St → Hp → Prop
def Rs.to {α : Type} (R : Rs α) (P : α → Prop) (E : Str → Prop) : Prop := match R with
  | .ok a => P a
  | .ex n => E n
  | .no => False
theorem Rs.to_bind {α β : Type} {R : Rs α} {F : α → Rs β} {P : β → Prop} {E : Str → Prop} : (R >>= F).to P E ↔ R.to (fun a => (F a).to P E) E := by
  cases R <;> exact Iff.rfl
theorem Rs.to.imp {α : Type} {R : Rs α} {P P' : α → Prop} {E E' : Str → Prop} (h : R.to P E) (k : ∀ a, R = .ok a → P a → P' a) (l : ∀ n, E n → E' n) : R.to P' E' := by
  cases R with
  | no => exact h
  | ex n => exact l _ h
  | ok a => exact k a rfl h
theorem Rs.to_of {α : Type} {o : Option α} {P : α → Prop} {E : Str → Prop} (h : (Rs.of o).to P E) : ∃ a, o = some a ∧ P a := by
  cases o with
  | none => exact h.elim
  | some a => exact ⟨a, rfl, h⟩
/-- what is wanted of an error by its class's name -/
def XW (mg : Str → Option Value) (W : WX) (σ : L2.St) (H : Hp) (n : Str) : Prop := ∀ C H', mg n = some (Value.ref C) → Same H H' → W (.ref C) none σ H'
theorem XW.mono {mg : Str → Option Value} {W : WX} {σ : L2.St} {H H' : Hp} {n : Str} (h : XW mg W σ H n) (s : Same H H') : XW mg W σ H' n := fun C H2 hm s2 => h C H2 hm (s.trans s2)
def tE (m : Bool) (K : PySem.W.Frag) (mg : Str → Option Value) (W : WX) (H0 : Hp) (L : Lp) (f : DEnv → Rs Dat) : TE := fun σ H Q => ∃ ε LL, Rel K H0 L LL ε σ H ∧
  (f ε).to (fun d => ∀ v H', Same H H' → DM m K H0 L LL H' d v → Q v H') (XW mg W σ H)
/-- e computes f -/
def DE (m : Bool) (X : Cx) (W : WX) (H0 : Hp) (L : Lp) (e : Expr) (f : DEnv → Rs Dat) : Prop := PE X e (tE m X.K X.mg W H0 L f)
/-- where nothing is kept of it: what stands there now, as data -/
def tQ (K : PySem.W.Frag) (mg : Str → Option Value) (W : WX) (H0 : Hp) (L : Lp) (f : DEnv → Rs Dat) : TE := fun σ H Q => ∃ ε LL, Rel K H0 L LL ε σ H ∧
  (f ε).to (fun d => ∀ v H', Same H H' → Den K H0 (Lk.of L.f) H' d v → Q v H') (XW mg W σ H)
def DQ (X : Cx) (W : WX) (H0 : Hp) (L : Lp) (e : Expr) (f : DEnv → Rs Dat) : Prop := PE X e (tQ X.K X.mg W H0 L f)
/-- as a test -/
def tT (K : PySem.W.Frag) (mg : Str → Option Value) (W : WX) (H0 : Hp) (L : Lp) (f : DEnv → Rs Bool) : TT := fun σ H Q => ∃ ε LL, Rel K H0 L LL ε σ H ∧
  (f ε).to (fun b => ∀ H', Same H H' → Q b H') (XW mg W σ H)
def DT (X : Cx) (W : WX) (H0 : Hp) (L : Lp) (e : Expr) (f : DEnv → Rs Bool) : Prop := PT X e (tT X.K X.mg W H0 L f)
/-- arguments -/
def tA (m : Bool) (K : PySem.W.Frag) (mg : Str → Option Value) (W : WX) (H0 : Hp) (L : Lp) (f : DEnv → Rs (List Dat)) : TA := fun σ H Q => ∃ ε LL, Rel K H0 L LL ε σ H ∧
  (f ε).to (fun ds => ∀ vs H', Same H H' → Paired (DM m K H0 L LL H') ds vs → Q vs H') (XW mg W σ H)
def DA (m : Bool) (X : Cx) (W : WX) (H0 : Hp) (L : Lp) (es : List Expr) (f : DEnv → Rs (List Dat)) : Prop := PA X es (tA m X.K X.mg W H0 L f)
/-- a list just made: it stands nowhere else -/
def tF (K : PySem.W.Frag) (mg : Str → Option Value) (W : WX) (H0 : Hp) (L : Lp) (f : DEnv → Rs (List Dat)) : TE := fun σ H Q => ∃ ε LL, Rel K H0 L LL ε σ H ∧
  (f ε).to (fun ds => ∀ a vs H', Same H H' → H a = none → H' a = some (.lst vs) → DenL K H0 (LL.or a) H' ds vs → Q (.ref a) H') (XW mg W σ H)
def DF (X : Cx) (W : WX) (H0 : Hp) (L : Lp) (e : Expr) (f : DEnv → Rs (List Dat)) : Prop := PE X e (tF X.K X.mg W H0 L f)

theorem peimp {X : Cx} {e : Expr} {t t' : TE} (h : PE X e t) (k : ∀ σ H Q, t' σ H Q → t σ H Q) : PE X e t' := ⟨fun pins s σ H Q I q => h.run pins s σ H Q I (k σ H Q q)⟩
theorem ptimp {X : Cx} {e : Expr} {t t' : TT} (h : PT X e t) (k : ∀ σ H Q, t' σ H Q → t σ H Q) : PT X e t' := ⟨fun pins s σ H Q I q => h.run pins s σ H Q I (k σ H Q q)⟩
theorem paimp {X : Cx} {e : List Expr} {t t' : TA} (h : PA X e t) (k : ∀ σ H Q, t' σ H Q → t σ H Q) : PA X e t' := ⟨fun pos pins s σ H Q I q => h.run pos pins s σ H Q I (k σ H Q q)⟩

section
variable {X : Cx} {W : WX} {H0 : Hp} {L : Lp} {m m1 m2 : Bool} {a b e : Expr} {es : List Expr} {pos : Pos} {f g : DEnv → Rs Dat} {fs : DEnv → Rs (List Dat)}
variable {K : PySem.W.Frag} {mg : Str → Option Value} {σ : L2.St} {H : Hp} {ε : DEnv}

/-! ### names and constants -/
theorem shR_D {d : Dat} (h : shR d = true) : shD d = true := by cases d <;> first | rfl | cases h
def rdC (d : Dat) : Rs Dat := if shR d = true then .ok d else .no
def rdv (m : Bool) (i : Nat) (ε : DEnv) : Rs Dat := match ε[i]? with
  | some (some (false, d)) => .ok d
  | some (some (true, d)) => if m = true then .no else rdC d
  | _ => .no
theorem Rel.rd (r : Rel K H0 L LL ε σ H) {i : Nat} {d : Dat} (h : rdv m i ε = .ok d) : ∃ v, σ[i]? = some (some v) ∧ DM m K H0 L LL H d v := by
  unfold rdv at h
  split at h
  · rename_i d' he
    cases h
    obtain ⟨v, e1, q⟩ := r.val i d he
    exact ⟨v, e1, q.m r.good.sub⟩
  · rename_i d' he
    cases m with
    | true => cases h
    | false =>
      have h : rdC d' = .ok d := h
      unfold rdC at h
      split at h
      · rename_i hs
        cases h
        obtain ⟨a, e1, _, hl, h0, q, _⟩ := r.ownS he (shR_D hs)
        cases d with
        | lst t ds => obtain ⟨vs, q1, q2⟩ := q; exact ⟨_, e1, a, vs, rfl, hl, fun _ => h0, q1, q2⟩
        | dK t ds => obtain ⟨vs, q1, q2, q3⟩ := q; exact ⟨_, e1, a, vs, rfl, hl, .inl q1, q2, q3⟩
        | dT t ds => obtain ⟨vs, q1, q2, q3⟩ := q; exact ⟨_, e1, a, vs, rfl, hl, .inl q1, q2, q3⟩
        | dN ks => cases hs
        | _ => exact False.elim q
      · cases h
  · cases h
theorem dv (i : Nat) {x : Str} {pos : Pos} (hN : X.N[i]? = some x := by rfl) (hv : Vis X.env.scope x := by first | exact Or.inl rfl | exact Or.inr (Or.inl rfl) | exact Or.inr (Or.inr rfl)) (hd : (x == ("__debug__" : Str)) = false := by decide)
    (hcd : (x == ("__classdict__" : Str)) = false := by decide) : DE m X W H0 L (.Name x pos) (rdv m i) := by
  refine peimp (pe_var hN hv hd hcd) fun σ H Q ⟨ε, LL, r, h⟩ => ?_
  cases e : rdv m i ε with
  | no => rw [e] at h; exact h.elim
  | ex n =>
    unfold rdv at e
    split at e
    · cases e
    · split at e
      · cases e
      · unfold rdC at e
        split at e <;> cases e
    · cases e
  | ok d =>
    rw [e] at h
    obtain ⟨v, e1, q⟩ := r.rd e
    exact ⟨v, e1, h v H (Same.refl H) q⟩
def kst (d : Dat) (_ : DEnv) : Rs Dat := .ok d
theorem de_const {d : Dat} {v : V} (h : PE X e (tC v)) (hd : ∀ K H0 LL H, Den K H0 LL H d v) : DE m X W H0 L e (kst d) := by
  refine peimp h fun σ H Q ⟨ε, LL, r, h⟩ => ?_
  exact h v H (Same.refl H) ((hd _ _ _ _).m r.good.sub)
theorem de_int {i : Int} {j pos} : DE m X W H0 L (.Constant (.int i) j pos) (kst (.int i)) := de_const pe_int fun _ _ _ _ => rfl
theorem de_bl {i : Bool} {j pos} : DE m X W H0 L (.Constant (.bool i) j pos) (kst (.bl i)) := de_const pe_bl fun _ _ _ _ => rfl
theorem de_str {i : Str} {j pos} : DE m X W H0 L (.Constant (.str i) j pos) (kst (.str i)) := de_const pe_str fun _ _ _ _ => rfl
theorem de_non {j pos} : DE m X W H0 L (.Constant .none j pos) (kst .non) := de_const pe_non fun _ _ _ _ => rfl

/-! ### operators, by values -/
/-- F: what the operator makes of two data -/
def OpD (K : PySem.W.Frag) (r : R2) (F : Dat → Dat → Option Dat) : Prop := ∀ {H0 : Hp} {L : Lp} {LL : Lk} {H : Hp} {x y : V} {d e z : Dat} {Q : VK}, Good H0 L LL H → DenS K H0 L LL H d x → DenS K H0 L LL H e y → F d e = some z →
  (∀ v H', Same H H' → Den K H0 LL H' z v → Q v H') → r x y H Q
def bop (F : Dat → Dat → Option Dat) (f g : DEnv → Rs Dat) (ε : DEnv) : Rs Dat := f ε >>= fun d => g ε >>= fun e => Rs.of (F d e)
theorem bin_use {r : R2} {F : Dat → Dat → Option Dat} {Q : VK} (hF : OpD K r F) (h : tE m K mg W H0 L (bop F f g) σ H Q) : tOp r (tE false K mg W H0 L f) (tE false K mg W H0 L g) σ H Q := by
  obtain ⟨ε, LL, rel, h⟩ := h
  unfold bop at h
  rw [Rs.to_bind] at h
  refine ⟨ε, LL, rel, h.imp (fun d _ hd x H1 s1 dx => ?_) fun n z => z⟩
  rw [Rs.to_bind] at hd
  refine ⟨ε, LL, rel.mono s1, hd.imp (fun e _ he y H2 s2 dy => ?_) fun n z => z.mono s1⟩
  obtain ⟨z, hz, hq⟩ := Rs.to_of he
  exact hF (rel.mono (s1.trans s2)).good (DenS.same s2 dx) dy hz fun v H3 s3 q => hq v H3 (s1.trans (s2.trans s3)) (q.m rel.good.sub)
theorem de_op {op : Operator} {r : R2} {F : Dat → Dat → Option Dat} (ho : OpR X (binaryOp op) r) (hF : OpD X.K r F) (ha : DE false X W H0 L a f) (hb : DE false X W H0 L b g) : DE m X W H0 L (.BinOp a op b pos) (bop F f g) :=
  peimp (pe_op ho ha hb) fun _ _ _ h => bin_use hF h
theorem de_cmp {op : CmpOp} {r : R2} {F : Dat → Dat → Option Dat} (ho : OpR X (compareOp op) r) (hF : OpD X.K r F) (ha : DE false X W H0 L a f) (hb : DE false X W H0 L b g) (hm : behindInMarks op b = false) : DE m X W H0 L (.Compare a [op] [b] pos) (bop F f g) :=
  peimp (pe_cmpR ho ha hb hm) fun _ _ _ h => bin_use hF h
/-- a value that must be a truth -/
def asB : Dat → Rs Bool
  | .bl b => .ok b
  | _ => .no
def tst (f : DEnv → Rs Dat) (ε : DEnv) : Rs Bool := f ε >>= asB
theorem tst_use {Q : Bool → Hp → Prop} (h : tT K mg W H0 L (tst f) σ H Q) : tTest (tE false K mg W H0 L f) σ H Q := by
  obtain ⟨ε, LL, rel, h⟩ := h
  unfold tst at h
  rw [Rs.to_bind] at h
  refine ⟨ε, LL, rel, h.imp (fun d _ hd x H1 s1 dx => ?_) fun n z => z⟩
  cases d with
  | bl b => exact ⟨b, dx, hd H1 s1⟩
  | _ => exact hd.elim
theorem dt_cmp {op : CmpOp} {r : R2} {F : Dat → Dat → Option Dat} (ho : OpR X (compareOp op) r) (hF : OpD X.K r F) (ha : DE false X W H0 L a f) (hb : DE false X W H0 L b g) (hm : behindInMarks op b = false) : DT X W H0 L (.Compare a [op] [b] pos) (tst (bop F f g)) :=
  ptimp (pt_cmpR ho ha hb hm) fun σ H Q h => by
    have h2 := tst_use h
    unfold tTest at h2 ⊢
    exact bin_use (m := false) hF h2
theorem dt_val (h : DE false X W H0 L e f) (he : ∀ whole, isTrue e X.env whole = (do let v ← whole; standAt e.pos; holding [v] (truthy v)) := by intro _; rfl) : DT X W H0 L e (tst f) :=
  ptimp (pt_val h he) fun σ H Q q => tst_use q
end
end DL

set_option maxRecDepth 100000
set_option maxHeartbeats 4000000
/-! DLc: operators over data. -/
namespace DL
open PySem PySem.Spec PyProof.Rows L2

section
variable {K : PySem.W.Frag} {X : Cx} {H0 H : Hp} {L : Lp} {LL : Lk}
/-! ### ints -/
noncomputable def cls (p : Prop) : Bool := @decide p (Classical.propDecidable p)
theorem cls_true {p : Prop} (h : p) : cls p = true := @decide_eq_true p (Classical.propDecidable p) h
theorem cls_ok {p : Prop} (h : cls p = true) : p := @of_decide_eq_true p (Classical.propDecidable p) h
noncomputable def dI (C : Int → Int → Prop) (g : Int → Int → Int) : Dat → Dat → Option Dat
  | .int i, .int j => if cls (C i j) = true then some (.int (g i j)) else none
  | _, _ => none
theorem opd_I {C : Int → Int → Prop} {g : Int → Int → Int} : OpD K (rI C fun i j => .int (g i j)) (dI C g) := by
  intro H0 L LL H x y d e z Q gd hx hy hz hq
  unfold dI at hz
  split at hz
  · split at hz
    · rename_i hc
      cases hz
      exact ⟨_, _, hx, hy, cls_ok hc, hq _ _ (Same.refl _) rfl⟩
    · cases hz
  · cases hz
def cmul (i j : Int) : Prop := ((-(2 ^ 64) < i ∧ i < 2 ^ 64) ∨ (-(2 ^ 64) < j ∧ j < 2 ^ 64)) ∨ i.natAbs.log2 + j.natAbs.log2 < 1000000
theorem cmul.ok {i j : Int} (h : cmul i j) : IntMulOk i j := by
  rcases h with h | h
  · exact CMul.ok h
  · exact CMulW.ok h
theorem op_mulD : OpR X (binaryOp .Mult) (rI cmul fun i j => .int (i * j)) := opI fun _ _ _ _ _ _ _ hc q => mul_int q hc.ok
noncomputable def dSub := dI (fun _ _ => True) (fun i j => i - j)
noncomputable def dMul := dI cmul (fun i j => i * j)
noncomputable def dFdiv := dI CDivW (fun i j => i / j)
noncomputable def dMod := dI (fun _ j => 0 < j) (fun i j => i % j)
noncomputable def dPow := dI CPow (fun i j => i ^ j.toNat)
noncomputable def dShr := dI (fun _ j => 0 ≤ j) (fun i j => i / 2 ^ j.toNat)
theorem rI_true {g : Int → Int → V} {f : Value → Value → Sem Value} (h : OpR X f (rI0 g)) : OpR X f (rI (fun _ _ => True) g) := by
  intro pins s σ H x y v u Q I rx ry ⟨i, j, e1, e2, _, q⟩
  exact h pins s σ H x y v u Q I rx ry ⟨i, j, e1, e2, q⟩
variable {m : Bool} {W : WX} {a b e : Expr} {pos : Pos} {f g : DEnv → Rs Dat}
theorem de_sub (ha : DE false X W H0 L a f) (hb : DE false X W H0 L b g) : DE m X W H0 L (.BinOp a .Sub b pos) (bop dSub f g) := de_op (rI_true op_sub) opd_I ha hb
theorem de_mul (ha : DE false X W H0 L a f) (hb : DE false X W H0 L b g) : DE m X W H0 L (.BinOp a .Mult b pos) (bop dMul f g) := de_op op_mulD opd_I ha hb
theorem de_fdiv (ha : DE false X W H0 L a f) (hb : DE false X W H0 L b g) : DE m X W H0 L (.BinOp a .FloorDiv b pos) (bop dFdiv f g) := de_op op_fdivW opd_I ha hb
theorem de_mod (ha : DE false X W H0 L a f) (hb : DE false X W H0 L b g) : DE m X W H0 L (.BinOp a .Mod b pos) (bop dMod f g) := de_op op_mod opd_I ha hb
theorem de_pow (ha : DE false X W H0 L a f) (hb : DE false X W H0 L b g) : DE m X W H0 L (.BinOp a .Pow b pos) (bop dPow f g) := de_op op_pow opd_I ha hb
theorem de_shr (ha : DE false X W H0 L a f) (hb : DE false X W H0 L b g) : DE m X W H0 L (.BinOp a .RShift b pos) (bop dShr f g) := de_op op_shr opd_I ha hb

/-! ### + -/
def dAdd : Dat → Dat → Option Dat
  | .int i, .int j => some (.int (i + j))
  | .str i, .str j => if i.length + j.length ≤ sizeLine then some (.str (i ++ j)) else none
  | .tup i, .tup j => if i.length + j.length ≤ sizeLine then some (.tup (i ++ j)) else none
  | .lst _ i, .lst _ j => if i.length + j.length ≤ sizeLine then some (.lst true (i ++ j)) else none
  | .cst i, .tup (j :: js) => if i.length + (js.length + 1) ≤ sizeLine then some (.tup (i.map .str ++ j :: js)) else none
  | _, _ => none
theorem denL_strs {K : PySem.W.Frag} {H0 H : Hp} {LL : Lk} : ∀ ss : List Str, DenL K H0 LL H (ss.map .str) (ss.map V.str)
  | [] => rfl
  | s :: r => ⟨_, _, rfl, rfl, denL_strs r⟩
theorem tupcat {x y : Addr} {xs ys : List V} {ds es : List Dat} {Q : VK} (gd : Good H0 L LL H) (hx : SqT K H x xs) (hy : SqT K H y ys) (dx : DenL K H0 LL H ds xs) (dy : DenL K H0 LL H es ys) (hl : ds.length + es.length ≤ sizeLine)
    (kx : ys = [] → Den K H0 LL H (.tup ds) (.ref x)) (ky : Den K H0 LL H (.tup es) (.ref y))
    (hq : ∀ v H', Same H H' → Den K H0 LL H' (.tup (ds ++ es)) v → Q v H') : rCatA K (.ref x) (.ref y) H Q := by
  refine ⟨x, y, xs, ys, rfl, rfl, hx, hy, by rw [← dx.length, ← dy.length]; exact hl, fun e => ?_, fun _ e => ?_, fun _ _ p hp => ?_⟩
  · subst e
    have : ds = [] := List.length_eq_zero_iff.mp dx.length
    subst this
    exact hq _ _ (Same.refl _) ky
  · have k := kx e
    subst e
    have : es = [] := List.length_eq_zero_iff.mp dy.length
    subst this
    rw [List.append_nil] at hq
    exact hq _ _ (Same.refl _) k
  · exact hq _ _ (same_new hp) (gd.tup hp (dx.app dy))
theorem opd_add : OpD K (fun x y H Q => (rI0 fun i j => .int (i + j)) x y H Q ∨ rCatA K x y H Q ∨ rCat x y H Q ∨ ∃ i j, x = .str i ∧ y = .str j ∧ i.length + j.length ≤ sizeLine ∧ Q (.str (i ++ j)) H) dAdd := by
  intro H0 L LL H x y d e z Q gd hx hy hz hq
  unfold dAdd at hz
  split at hz
  · cases hz
    exact .inl ⟨_, _, hx, hy, hq _ _ (Same.refl _) rfl⟩
  · split at hz
    · rename_i hc
      cases hz
      exact .inr (.inr (.inr ⟨_, _, hx, hy, hc, hq _ _ (Same.refl _) rfl⟩))
    · cases hz
  · split at hz
    · rename_i hc
      cases hz
      obtain ⟨p, vs, rfl, tp, hp⟩ := id hx
      obtain ⟨q, ws, rfl, tq, hq'⟩ := id hy
      refine .inr (.inl (tupcat gd tp.sq tq.sq hp hq' hc (fun _ => hx) hy hq))
    · cases hz
  · split at hz
    · rename_i hc
      cases hz
      obtain ⟨p, vs, rfl, lp, _, tp, hp⟩ := hx
      obtain ⟨q, ws, rfl, lq, _, tq, hq'⟩ := hy
      exact .inr (.inr (.inl ⟨p, q, vs, ws, rfl, rfl, tp, tq, by rw [← hp.length, ← hq'.length]; exact hc, fun r hr => hq _ _ (same_new hr) (gd.lst hr (hp.app hq'))⟩))
    · cases hz
  · split at hz
    · rename_i i j js hc
      cases hz
      obtain ⟨p, rfl, tp⟩ := hx
      obtain ⟨q, ws, rfl, tq, hq'⟩ := id hy
      have hl := hq'.length
      refine .inr (.inl ⟨p, q, _, ws, rfl, rfl, cst_sq tp, tq.sq, by rw [← hl, List.length_map]; exact hc, fun e => ?_, fun _ e => ?_, fun _ _ r hr => ?_⟩)
      · have e2 : i = [] := List.map_eq_nil_iff.mp e
        subst e2
        exact hq _ _ (Same.refl _) hy
      · subst e
        cases hl
      · exact hq _ _ (same_new hr) (gd.tup hr ((denL_strs i).app hq'))
    · cases hz
  · cases hz
theorem de_add (ha : DE false X W H0 L a f) (hb : DE false X W H0 L b g) : DE m X W H0 L (.BinOp a .Add b pos) (bop dAdd f g) := de_op (op_add.or (op_catA.or (op_cat.or op_add_str))) opd_add ha hb

/-! ### one operand -/
def OpU (K : PySem.W.Frag) (r : V → Hp → VK → Prop) (F : Dat → Option Dat) : Prop := ∀ {H0 : Hp} {L : Lp} {LL : Lk} {H : Hp} {x : V} {d z : Dat} {Q : VK}, Good H0 L LL H → DenS K H0 L LL H d x → F d = some z →
  (∀ v H', Same H H' → Den K H0 LL H' z v → Q v H') → r x H Q
def uop (F : Dat → Option Dat) (f : DEnv → Rs Dat) (ε : DEnv) : Rs Dat := f ε >>= fun d => Rs.of (F d)
theorem un_use {r : V → Hp → VK → Prop} {F : Dat → Option Dat} {mg : Str → Option Value} {σ : L2.St} {Q : VK} (hF : OpU K r F) (h : tE m K mg W H0 L (uop F f) σ H Q) : tE false K mg W H0 L f σ H (fun x H1 => r x H1 Q) := by
  obtain ⟨ε, LL, rel, h⟩ := h
  unfold uop at h
  rw [Rs.to_bind] at h
  refine ⟨ε, LL, rel, h.imp (fun d _ hd x H1 s1 dx => ?_) fun n z => z⟩
  obtain ⟨z, hz, hq⟩ := Rs.to_of hd
  exact hF (rel.mono s1).good dx hz fun v H3 s3 q => hq v H3 (s1.trans s3) (q.m rel.good.sub)
def dNeg : Dat → Option Dat
  | .int i => some (.int (-i))
  | _ => none
theorem de_neg (ha : DE false X W H0 L a f) : DE m X W H0 L (.UnaryOp .USub a pos) (uop dNeg f) :=
  peimp (pe_un un_neg ha) fun _ _ _ h => un_use (r := rU fun i => .int (-i)) (fun {H0 L LL H x d z Q} gd hx hz hq => by
    unfold dNeg at hz
    split at hz
    · cases hz; exact ⟨_, hx, hq _ _ (Same.refl _) rfl⟩
    · cases hz) h
def dNot : Dat → Option Dat
  | .bl i => some (.bl (!i))
  | _ => none
theorem de_not (ha : DE false X W H0 L a f) : DE m X W H0 L (.UnaryOp .Not a pos) (uop dNot f) :=
  peimp (pe_not ha) fun _ _ _ h => un_use (r := fun x H Q => ∃ c, x = .bl c ∧ Q (.bl (!c)) H) (fun {H0 L LL H x d z Q} gd hx hz hq => by
    unfold dNot at hz
    split at hz
    · cases hz; exact ⟨_, hx, hq _ _ (Same.refl _) rfl⟩
    · cases hz) h

/-! ### order -/
def intsD : List Dat → Option (List Int)
  | [] => some []
  | .int i :: r => (intsD r).map (i :: ·)
  | _ :: _ => none
theorem denL_ints : ∀ {ds : List Dat} {vs : List V} {ns : List Int}, DenL K H0 LL H ds vs → intsD ds = some ns → vs = ns.map V.int
  | [], _, _, h, e => by cases h; cases e; rfl
  | d :: r, _, ns, ⟨v, vr, e1, h, t⟩, e => by
    subst e1
    unfold intsD at e
    split at e
    · rename_i e2; cases e2
    · rename_i i r' e2
      cases e2
      cases q : intsD r with
      | none => rw [q] at e; cases e
      | some ms =>
        rw [q] at e
        cases e
        rw [denL_ints t q]
        cases h
        rfl
    · cases e
def dCmp (p : Int → Int → Bool) (q : List Int → List Int → Bool) : Dat → Dat → Option Dat
  | .int i, .int j => some (.bl (p i j))
  | .tup i, .tup j => match intsD i, intsD j with
    | some ns, some ms => some (.bl (q ns ms))
    | _, _ => none
  | _, _ => none
theorem opd_cmp {p : Int → Int → Bool} {q : List Int → List Int → Bool} : OpD K (fun x y H Q => (rI0 fun i j => .bl (p i j)) x y H Q ∨ (∃ a b ns ms, x = .ref a ∧ y = .ref b ∧ SqT K H a (ns.map V.int) ∧ SqT K H b (ms.map V.int) ∧ Q (.bl (q ns ms)) H)) (dCmp p q) := by
  intro H0 L LL H x y d e z Q gd hx hy hz hq
  unfold dCmp at hz
  split at hz
  · cases hz
    exact .inl ⟨_, _, hx, hy, hq _ _ (Same.refl _) rfl⟩
  · split at hz
    · rename_i e1 e2
      cases hz
      obtain ⟨a, vs, rfl, ta, da⟩ := hx
      obtain ⟨b, ws, rfl, tb, db⟩ := hy
      have q1 := denL_ints da e1
      have q2 := denL_ints db e2
      subst q1 q2
      exact .inr ⟨a, b, _, _, rfl, rfl, ta.sq, tb.sq, hq _ _ (Same.refl _) rfl⟩
    · cases hz
  · cases hz
def noTup (_ _ : List Int) : Bool := false
def dLt := dCmp (fun i j => decide (i < j)) HT.lexLt
def dI2 (p : Int → Int → Bool) : Dat → Dat → Option Dat
  | .int i, .int j => some (.bl (p i j))
  | _, _ => none
theorem opd_I2 {p : Int → Int → Bool} : OpD K (rI0 fun i j => .bl (p i j)) (dI2 p) := by
  intro H0 L LL H x y d e z Q gd hx hy hz hq
  unfold dI2 at hz
  split at hz
  · cases hz
    exact ⟨_, _, hx, hy, hq _ _ (Same.refl _) rfl⟩
  · cases hz
def dLe := dI2 (fun i j => decide (i ≤ j))
def dGt := dI2 (fun i j => decide (j < i))
def dGe := dI2 (fun i j => decide (j ≤ i))
theorem de_lt (hu : X.A.units < cLine) (ha : DE false X W H0 L a f) (hb : DE false X W H0 L b g) : DE m X W H0 L (.Compare a [.Lt] [b] pos) (bop dLt f g) := de_cmp (op_lt.or (op_ltT hu)) opd_cmp ha hb (nomark _)
theorem de_le (ha : DE false X W H0 L a f) (hb : DE false X W H0 L b g) : DE m X W H0 L (.Compare a [.LtE] [b] pos) (bop dLe f g) := de_cmp op_le opd_I2 ha hb (nomark _)
theorem de_gt (ha : DE false X W H0 L a f) (hb : DE false X W H0 L b g) : DE m X W H0 L (.Compare a [.Gt] [b] pos) (bop dGt f g) := de_cmp op_gt opd_I2 ha hb (nomark _)
theorem de_ge (ha : DE false X W H0 L a f) (hb : DE false X W H0 L b g) : DE m X W H0 L (.Compare a [.GtE] [b] pos) (bop dGe f g) := de_cmp op_ge opd_I2 ha hb (nomark _)
theorem dt_lt (hu : X.A.units < cLine) (ha : DE false X W H0 L a f) (hb : DE false X W H0 L b g) : DT X W H0 L (.Compare a [.Lt] [b] pos) (tst (bop dLt f g)) := dt_cmp (op_lt.or (op_ltT hu)) opd_cmp ha hb (nomark _)
theorem dt_le (ha : DE false X W H0 L a f) (hb : DE false X W H0 L b g) : DT X W H0 L (.Compare a [.LtE] [b] pos) (tst (bop dLe f g)) := dt_cmp op_le opd_I2 ha hb (nomark _)
theorem dt_gt (ha : DE false X W H0 L a f) (hb : DE false X W H0 L b g) : DT X W H0 L (.Compare a [.Gt] [b] pos) (tst (bop dGt f g)) := dt_cmp op_gt opd_I2 ha hb (nomark _)
theorem dt_ge (ha : DE false X W H0 L a f) (hb : DE false X W H0 L b g) : DT X W H0 L (.Compare a [.GtE] [b] pos) (tst (bop dGe f g)) := dt_cmp op_ge opd_I2 ha hb (nomark _)

/-! ### is None -/
def isNon : Dat → Bool
  | .non => true
  | _ => false
def dIsN : Dat → Dat → Option Dat
  | d, .non => some (.bl (isNon d))
  | _, _ => none
def dNotN : Dat → Dat → Option Dat
  | d, .non => some (.bl (!isNon d))
  | _, _ => none
theorem isN_eq {d : Dat} {x : V} (h : DenS K H0 L LL H d x) : decide (x = .non) = isNon d := by
  cases d with
  | non => cases (show x = V.non from h); rfl
  | bl b => cases (show x = V.bl b from h); rfl
  | int b => cases (show x = V.int b from h); rfl
  | str b => cases (show x = V.str b from h); rfl
  | tup ds => obtain ⟨a, vs, rfl, _⟩ := h; rfl
  | lst t ds => obtain ⟨a, vs, rfl, _⟩ := h; rfl
  | dK t ds => obtain ⟨a, vs, rfl, _⟩ := h; rfl
  | dT t ds => obtain ⟨a, vs, rfl, _⟩ := h; rfl
  | scr ds => obtain ⟨a, rfl, _⟩ := h; rfl
  | cst ds => obtain ⟨a, rfl, _⟩ := h; rfl
  | hvl => obtain ⟨a, vs, rfl, _⟩ := h; rfl
  | cel c => exact False.elim h
  | als c p => exact False.elim h
  | dN c => obtain ⟨a, o, rfl, _⟩ := h; rfl
  | reg c => exact False.elim h
  | exn x => obtain ⟨a, C, rfl, _⟩ := h; rfl
theorem opd_isN : OpD K (fun x y H Q => y = .non ∧ Q (.bl (decide (x = .non))) H) dIsN := by
  intro H0 L LL H x y d e z Q gd hx hy hz hq
  unfold dIsN at hz
  split at hz
  · cases hz
    exact ⟨hy, hq _ _ (Same.refl _) (by rw [isN_eq hx]; rfl)⟩
  · cases hz
theorem opd_notN : OpD K (fun x y H Q => y = .non ∧ Q (.bl (!decide (x = .non))) H) dNotN := by
  intro H0 L LL H x y d e z Q gd hx hy hz hq
  unfold dNotN at hz
  split at hz
  · cases hz
    exact ⟨hy, hq _ _ (Same.refl _) (by rw [isN_eq hx]; rfl)⟩
  · cases hz
theorem de_isN (ha : DE false X W H0 L a f) (hb : DE false X W H0 L b g) : DE m X W H0 L (.Compare a [.Is] [b] pos) (bop dIsN f g) := de_cmp op_isN opd_isN ha hb (nomark _)
theorem de_notN (ha : DE false X W H0 L a f) (hb : DE false X W H0 L b g) : DE m X W H0 L (.Compare a [.IsNot] [b] pos) (bop dNotN f g) := de_cmp op_notN opd_notN ha hb (nomark _)
theorem dt_isN (ha : DE false X W H0 L a f) (hb : DE false X W H0 L b g) : DT X W H0 L (.Compare a [.Is] [b] pos) (tst (bop dIsN f g)) := dt_cmp op_isN opd_isN ha hb (nomark _)
theorem dt_notN (ha : DE false X W H0 L a f) (hb : DE false X W H0 L b g) : DT X W H0 L (.Compare a [.IsNot] [b] pos) (tst (bop dNotN f g)) := dt_cmp op_notN opd_notN ha hb (nomark _)

/-! ### == -/
mutual
def toP : Dat → PyData
  | .non => .none
  | .bl b => .bool b
  | .int i => .int i
  | .str s => .str s
  | .tup ds => .tuple (toPs ds)
  | .lst _ ds => .list (toPs ds)
  | .dK _ _ => .dict []
  | .dT _ _ => .dict []
  | .scr _ => .dict []
  | .hvl => .dict []
  | .cel _ => .dict []
  | .als _ _ => .dict []
  | .dN _ => .dict []
  | .reg _ => .dict []
  | .exn _ => .dict []
  | .cst _ => .dict []
def toPs : List Dat → List PyData
  | [] => []
  | d :: r => toP d :: toPs r
end
mutual
theorem dp_of : ∀ {d : Dat} {v : V}, Den K H0 LL H d v → (toP d).canLay0 = true → Dp K H v (toP d)
  | .non, _, h, _ => by cases h; exact .non
  | .bl _, _, h, _ => by cases h; exact .bl _
  | .int _, _, h, _ => by cases h; exact .int _
  | .str _, _, h, _ => by cases h; exact .str _
  | .tup ds, _, ⟨a, vs, e, t, h⟩, c => by subst e; exact .tup t.sq (dps_of h c)
  | .lst t ds, _, ⟨a, vs, e, _, _, ha, h⟩, c => by subst e; exact .lst (.of ha) (dps_of h c)
  | .dK _ _, _, _, c => by cases c
  | .dT _ _, _, _, c => by cases c
  | .scr _, _, _, c => by cases c
  | .cst _, _, _, c => by cases c
  | .hvl, _, _, c => by cases c
  | .cel _, _, h, _ => False.elim h
  | .als _ _, _, h, _ => False.elim h
  | .dN _, _, _, c => by cases c
  | .reg _, _, h, _ => False.elim h
  | .exn _, _, _, c => by cases c
theorem dps_of : ∀ {ds : List Dat} {vs : List V}, DenL K H0 LL H ds vs → PyData.canLayAll0 (toPs ds) = true → DpAll K H vs (toPs ds)
  | [], _, h, _ => by cases h; exact .nil
  | d :: r, _, ⟨v, vr, e, h, t⟩, c => by
    subst e
    have c' : ((toP d).canLay0 && PyData.canLayAll0 (toPs r)) = true := c
    rw [Bool.and_eq_true] at c'
    exact .cons (dp_of h c'.1) (dps_of t c'.2)
end
theorem dp_ofS {d : Dat} {v : V} (gd : Good H0 L LL H) (h : DenS K H0 L LL H d v) (c : (toP d).canLay0 = true) : Dp K H v (toP d) := by
  cases d with
  | dK _ _ => cases c
  | dT _ _ => cases c
  | dN _ => cases c
  | _ => exact dp_of (h.den gd.sub rfl) c
def scalD : Dat → Dat → Bool
  | .non, .non => true | .non, .int _ => true | .int _, .non => true | .non, .bl _ => true | .bl _, .non => true | .non, .str _ => true | .str _, .non => true
  | .int _, .int _ => true | .bl _, .bl _ => true | .str _, .str _ => true
  | .int _, .str _ => true | .str _, .int _ => true | .bl _, .str _ => true | .str _, .bl _ => true
  | _, _ => false
def eqOk (d e : Dat) : Bool := scalD d e || (SeqAt.shaped (toP d) && SeqAt.shaped (toP e))
def deq (d e : Dat) : Bool := PyData.eqv (toP d) (toP e)
def dEq (d e : Dat) : Option Dat := if eqOk d e then some (.bl (deq d e)) else none
def dNe (d e : Dat) : Option Dat := if eqOk d e then some (.bl (!deq d e)) else none
def isS : Dat → Bool
  | .non | .bl _ | .int _ | .str _ => true
  | _ => false
def fv : Dat → V
  | .non => .non
  | .bl b => .bl b
  | .int i => .int i
  | .str s => .str s
  | _ => .non
theorem fv_of {d : Dat} {x : V} (h : DenS K H0 L LL H d x) (s : isS d = true) : x = fv d := by
  cases d <;> first | exact h | cases s
theorem scalD_s {d e : Dat} (h : scalD d e = true) : isS d = true ∧ isS e = true ∧ scal (fv d) (fv e) = true ∧ decide (fv d = fv e) = deq d e := by
  cases d <;> cases e <;> first
    | (refine ⟨rfl, rfl, rfl, ?_⟩; simp [fv, deq, toP, PyData.eqv]; done)
    | (refine ⟨rfl, rfl, rfl, ?_⟩; simp [fv, deq, toP, PyData.eqv]; rw [Bool.eq_iff_iff]; simp; done)
    | exact absurd h Bool.false_ne_true
theorem scal_ok {d e : Dat} {x y : V} (hx : DenS K H0 L LL H d x) (hy : DenS K H0 L LL H e y) (h : scalD d e = true) : scal x y = true ∧ decide (x = y) = deq d e := by
  obtain ⟨h1, h2, h3, h4⟩ := scalD_s h
  rw [fv_of hx h1, fv_of hy h2]
  exact ⟨h3, h4⟩
theorem opd_eq : OpD K (fun x y H Q => rEq x y H Q ∨ rEqD K x y H Q) dEq := by
  intro H0 L LL H x y d e z Q gd hx hy hz hq
  unfold dEq at hz
  split at hz
  · rename_i hc
    cases hz
    rcases Bool.or_eq_true_iff.mp hc with hc | hc
    · obtain ⟨h1, h2⟩ := scal_ok hx hy hc
      exact .inl ⟨h1, by rw [h2]; exact hq _ _ (Same.refl _) rfl⟩
    · rw [Bool.and_eq_true] at hc
      exact .inr ⟨_, _, dp_ofS gd hx (SeqAt.canLay_of_shaped hc.1), dp_ofS gd hy (SeqAt.canLay_of_shaped hc.2), hc.1, hc.2, hq _ _ (Same.refl _) rfl⟩
  · cases hz
theorem opd_ne : OpD K (fun x y H Q => rNe x y H Q ∨ rNeD K x y H Q) dNe := by
  intro H0 L LL H x y d e z Q gd hx hy hz hq
  unfold dNe at hz
  split at hz
  · rename_i hc
    cases hz
    rcases Bool.or_eq_true_iff.mp hc with hc | hc
    · obtain ⟨h1, h2⟩ := scal_ok hx hy hc
      exact .inl ⟨h1, by rw [h2]; exact hq _ _ (Same.refl _) rfl⟩
    · rw [Bool.and_eq_true] at hc
      exact .inr ⟨_, _, dp_ofS gd hx (SeqAt.canLay_of_shaped hc.1), dp_ofS gd hy (SeqAt.canLay_of_shaped hc.2), hc.1, hc.2, hq _ _ (Same.refl _) rfl⟩
  · cases hz
theorem de_eq (hu : X.A.units + 64 < cLine) (ha : DE false X W H0 L a f) (hb : DE false X W H0 L b g) : DE m X W H0 L (.Compare a [.Eq] [b] pos) (bop dEq f g) := de_cmp (op_eq.or (op_eqD hu)) opd_eq ha hb (nomark _)
theorem de_ne (hu : X.A.units + 64 < cLine) (ha : DE false X W H0 L a f) (hb : DE false X W H0 L b g) : DE m X W H0 L (.Compare a [.NotEq] [b] pos) (bop dNe f g) := de_cmp (op_ne.or (op_neD hu)) opd_ne ha hb (nomark _)
theorem dt_eq (hu : X.A.units + 64 < cLine) (ha : DE false X W H0 L a f) (hb : DE false X W H0 L b g) : DT X W H0 L (.Compare a [.Eq] [b] pos) (tst (bop dEq f g)) := dt_cmp (op_eq.or (op_eqD hu)) opd_eq ha hb (nomark _)
theorem dt_ne (hu : X.A.units + 64 < cLine) (ha : DE false X W H0 L a f) (hb : DE false X W H0 L b g) : DT X W H0 L (.Compare a [.NotEq] [b] pos) (tst (bop dNe f g)) := dt_cmp (op_ne.or (op_neD hu)) opd_ne ha hb (nomark _)
end
end DL

set_option maxRecDepth 100000
set_option maxHeartbeats 4000000
/-! DLd: slots stored; statements. -/
namespace DL
open PySem PySem.Spec PyProof.Rows L2

noncomputable def sz (n : Nat) : Bool := cls (n ≤ sizeLine)
theorem sz_le {n : Nat} (h : n ≤ 16777216) : sz n = true := cls_true (by rw [sizeLine_eq]; exact h)
theorem sz_ok {n : Nat} (h : sz n = true) : n ≤ sizeLine := cls_ok h
/-- a check -/
def chk {α : Type} (b : Bool) (x : Rs α) : Rs α := if b = true then x else .no
@[simp] theorem chk_true {α : Type} (x : Rs α) : chk true x = x := rfl
@[simp] theorem chk_false {α : Type} (x : Rs α) : chk false x = .no := rfl
theorem chk_to {α : Type} {b : Bool} {x : Rs α} {P : α → Prop} {E : Str → Prop} (h : (chk b x).to P E) : b = true ∧ x.to P E := by
  cases b with
  | true => exact ⟨rfl, h⟩
  | false => exact h.elim

section
variable {K : PySem.W.Frag} {H0 H H' : Hp} {L : Lp} {LL : Lk} {ε : DEnv} {σ : L2.St} {d : Dat} {v : V} {ds : List Dat} {vs : List V} {a : Addr}
theorem get_set {α : Type} (l : List α) (i j : Nat) (x y : α) (h : (l.set i x)[j]? = some y) : (j = i ∧ i < l.length ∧ x = y) ∨ (j ≠ i ∧ l[j]? = some y) := by
  rw [List.getElem?_set] at h
  split at h
  · rename_i e
    split at h
    · rename_i hl
      exact .inl ⟨e.symm, hl, Option.some.inj h⟩
    · cases h
  · rename_i e
    exact .inr ⟨fun z => e z.symm, h⟩
theorem set_get {α : Type} {l : List α} {i : Nat} {x : α} (h : i < l.length) : (l.set i x)[i]? = some x := by
  rw [List.getElem?_set_self h]
theorem set_get_ne {α : Type} {l : List α} {i j : Nat} {x : α} (h : j ≠ i) : (l.set i x)[j]? = l[j]? := List.getElem?_set_ne (Ne.symm h)
theorem lt_of_get {α : Type} {l : List α} {i : Nat} {x : α} (h : l[i]? = some x) : i < l.length := (List.getElem?_eq_some_iff.mp h).1
theorem Kp.sub {f : Addr → Prop} {ρ : Nat → List Addr} (h : ∀ b, f b → LL b) : Kp LL ⟨f, ρ⟩ H H := ⟨fun b o n e => ⟨fun z => n (h b z), e⟩, KL.refl⟩
theorem Kp.trans {L1 L2 L3 : Lk} {H1 H2 H3 : Hp} (a : Kp L1 L2 H1 H2) (b : Kp L2 L3 H2 H3) : Kp L1 L3 H1 H3 := ⟨fun c o n e => b.k c o (a.k c o n e).1 (a.k c o n e).2, KL.trans a.t b.t⟩
theorem Kp.refl : Kp LL LL H H := ⟨fun b o n e => ⟨n, e⟩, KL.refl⟩
/-- told less -/
theorem Rel.less {ε' : DEnv} (r : Rel K H0 L LL ε σ H) (hl : ε.length ≤ ε'.length) (h : ∀ (j : Nat) (x : Bool × Dat), ε'[j]? = some (some x) → ε[j]? = some (some x)) : Rel K H0 L LL ε' σ H where
  same := r.same
  sub := r.sub
  mu := r.mu
  len := Nat.le_trans r.len hl
  val := fun i d e => r.val i d (h _ _ e)
  own := fun i d e => r.own i d (h _ _ e)
  uni := fun i j d e a e1 e2 e3 e4 => r.uni i j d e a (h _ _ e1) (h _ _ e2) e3 e4
  als := fun j i p d e1 e2 => r.als j i p d (h _ _ e1) (h _ _ e2)
/-- told nothing of a slot -/
theorem Rel.fgt (r : Rel K H0 L LL ε σ H) (i : Nat) : Rel K H0 L LL (ε.set i none) σ H := r.less (by rw [List.length_set]; exact Nat.le_refl _) fun j x e => by
  rcases get_set _ _ _ _ _ e with ⟨_, _, z⟩ | ⟨hj, e⟩
  · cases z
  · exact e
/-- told nothing of other names of parts of the tree in slot i -/
def drp1 (i : Nat) : Option (Bool × Dat) → Option (Bool × Dat)
  | some (true, .als k p) => if k = i then none else some (true, .als k p)
  | s => s
def drp (i : Nat) (ε : DEnv) : DEnv := ε.map (drp1 i)
theorem drp1_some {i : Nat} {s : Option (Bool × Dat)} {x : Bool × Dat} (h : drp1 i s = some x) : s = some x := by
  unfold drp1 at h
  split at h
  · split at h
    · cases h
    · exact h
  · exact h
theorem drp_get {i j : Nat} {x : Bool × Dat} (h : (drp i ε)[j]? = some (some x)) : ε[j]? = some (some x) := by
  unfold drp at h
  rw [List.getElem?_map] at h
  cases e : ε[j]? with
  | none => rw [e] at h; cases h
  | some s => rw [e] at h; rw [drp1_some (Option.some.inj h)]
theorem drp_no {i j : Nat} {p : List Nat} : (drp i ε)[j]? ≠ some (some (true, .als i p)) := fun h => by
  unfold drp at h
  rw [List.getElem?_map] at h
  cases e : ε[j]? with
  | none => rw [e] at h; cases h
  | some s =>
    rw [e] at h
    have h1 := drp1_some (Option.some.inj h)
    have h2 := Option.some.inj h
    rw [h1] at h2
    simp [drp1] at h2
theorem Rel.drp (r : Rel K H0 L LL ε σ H) (i : Nat) : Rel K H0 L LL (DL.drp i ε) σ H := r.less (by unfold DL.drp; rw [List.length_map]; exact Nat.le_refl _) fun j x e => drp_get e
/-- a slot stored -/
theorem Rel.setv (r : Rel K H0 L LL ε σ H) {i : Nat} (hi : i < σ.length) (hd : Den K H0 LL H d v) : Rel K H0 L LL (ε.set i (some (false, d))) (σ.set i (some v)) H := by
  refine ⟨r.same, r.sub, r.mu, by rw [List.length_set, List.length_set]; exact r.len, fun j e he => ?_, fun j e he => ?_, fun j k e e' b e1 e2 e3 e4 => ?_, fun j k p e e1 e2 => ?_⟩
  · rcases get_set _ _ _ _ _ he with ⟨rfl, hl, z⟩ | ⟨hj, he⟩
    · cases z
      exact ⟨v, set_get hi, hd⟩
    · obtain ⟨w, e1, q⟩ := r.val j e he
      exact ⟨w, by rw [set_get_ne hj]; exact e1, q⟩
  · rcases get_set _ _ _ _ _ he with ⟨rfl, hl, z⟩ | ⟨hj, he⟩
    · cases z
    · obtain ⟨b, e1, q⟩ := r.own j e he
      exact ⟨b, by rw [set_get_ne hj]; exact e1, q⟩
  · rcases get_set _ _ _ _ _ e1 with ⟨_, _, z⟩ | ⟨hj, e1⟩
    · cases z
    rcases get_set _ _ _ _ _ e2 with ⟨_, _, z⟩ | ⟨hk, e2⟩
    · cases z
    exact r.uni j k e e' b e1 e2 e3 e4
  · rcases get_set _ _ _ _ _ e1 with ⟨_, _, z⟩ | ⟨hj, e1⟩
    · cases z
    rcases get_set _ _ _ _ _ e2 with ⟨_, _, z⟩ | ⟨hk, e2⟩
    · cases z
    obtain ⟨w, a, h1, h2, h3⟩ := r.als j k p e e1 e2
    exact ⟨w, a, by rw [set_get_ne hk]; exact h1, h2, by rw [set_get_ne hj]; exact h3⟩
/-- a thing of one's own becomes data -/
def frzD : Dat → Option Dat
  | .cel d => some (meltN d)
  | .reg d => some d
  | .als _ _ => none
  | d => some d
def fz1 (i : Nat) (ε : DEnv) : Option Dat → DEnv
  | some d => ε.set i (some (false, d))
  | none => ε
def fz (i : Nat) (ε : DEnv) : DEnv := match ε[i]? with
  | some (some (true, d)) => fz1 i ε (frzD d)
  | _ => ε
/-- with no dict in it -/
def frzO : Dat → Bool
  | .cel d => lonN d
  | .reg _ => true
  | .lst _ _ => true
  | _ => false
/-- a dict, of lists -/
def frzK : Dat → Bool
  | .cel (.dK _ ds) => lons ds
  | .cel (.dT _ ds) => lons ds
  | .dK _ _ => true
  | .dT _ _ => true
  | .dN _ => true
  | _ => false
theorem OwnB.dat {F : List Addr} (h : OwnB K H0 LL H a d) (nd : noD d = true) (h0 : H0 a = none) (ha : a ∈ F) : Den K H0 (LL.del F) H d (.ref a) := by
  have k : Kp LL (LL.del F) H H := kp_del F
  have hl : ¬ (LL.del F) a := fun z => z.2 ha
  cases d with
  | lst t ds => obtain ⟨vs, q1, q2⟩ := h; exact ⟨a, vs, rfl, hl, fun _ => h0, q1, q2.kp k fun _ z => z⟩
  | dK t ds => cases nd
  | dT t ds => cases nd
  | dN ks => cases nd
  | _ => exact False.elim h
/-- as data, where nothing leans on what it is made of -/
theorem OwnD.dat {F : List Addr} {d' : Dat} (h : OwnD K H0 LL H d v F) (h0 : ∀ a, a ∈ F → H0 a = none) (ho : frzO d = true) (hd : frzD d = some d') : Den K H0 (LL.del F) H d' v := by
  cases d with
  | cel d => cases hd; exact TrN.den F ho h.1 fun a z => z
  | reg d => cases hd; exact Den.kp (L := LL.reg H F) (L' := LL.del F) ⟨fun b o n e => ⟨fun z => n ⟨z.2, .inl z.1⟩, e⟩, KL.refl⟩ (fun _ z => z) h.1
  | als i p => cases hd
  | lst t ds => cases hd; obtain ⟨a, rfl, rfl, q⟩ := h; exact q.dat rfl (h0 a List.mem_cons_self) List.mem_cons_self
  | _ => cases ho
/-- a dict is locked: data then -/
theorem kp_lock {o : HO} (hl : LL a) (hm : ∀ vs, H a ≠ some (.lst vs)) : Kp LL LL H (upd H a o) := ⟨fun b u n e => ⟨n, by rw [upd_ne (fun q => n (by rw [q]; exact hl))]; exact e⟩, fun b vs e => ⟨vs, by rw [upd_ne (fun q => hm vs (by rw [← q]; exact e))]; exact e⟩⟩
theorem OwnD.lock {F : List Addr} {d' : Dat} (h : OwnD K H0 LL H d v F) (hL : ∀ a, a ∈ F → LL a) (ho : frzK d = true) (hd : frzD d = some d') : ∃ a u, v = .ref a ∧ a ∈ F ∧ H a = some u ∧ Mut (some u) ∧ (∀ vs, u ≠ .lst vs) ∧ ∀ od, Den K H0 (LL.del F) (upd H a (.frz od u)) d' v := by
  cases d with
  | cel d =>
    cases d with
    | dK ks ds =>
      cases hd
      obtain ⟨⟨a, vs, G, rfl, eF, ha, hl, q⟩, hn⟩ := h
      subst eF
      have ha' := List.mem_cons_self (a := a) (l := G)
      refine ⟨a, _, rfl, ha', ha, trivial, fun vs z => (nomatch z), fun od => ?_⟩
      have k := kp_lock (H := H) (LL := LL) (a := a) (o := .frz od (.dK (ks.zip vs))) (hL a ha') (fun vs z => by rw [ha] at z; cases z)
      have q2 := q.kp k (H1 := H0) (fun _ z => z) fun b hb o e => by rw [upd_ne (fun z => (List.nodup_cons.mp hn).1 (by rw [← z]; exact hb))]; exact e
      exact ⟨a, vs, od, rfl, fun z => z.2 ha', upd_same, hl, TrL.den _ ho q2 fun b hb => List.mem_cons_of_mem _ hb⟩
    | dT ks ds =>
      cases hd
      obtain ⟨⟨a, vs, G, rfl, eF, ha, hl, q⟩, hn⟩ := h
      subst eF
      have ha' := List.mem_cons_self (a := a) (l := G)
      refine ⟨a, _, rfl, ha', ha, trivial, fun vs z => (nomatch z), fun od => ?_⟩
      have k := kp_lock (H := H) (LL := LL) (a := a) (o := .frz od (.dT (ks.zip vs))) (hL a ha') (fun vs z => by rw [ha] at z; cases z)
      have q2 := q.kp k (H1 := H0) (fun _ z => z) fun b hb o e => by rw [upd_ne (fun z => (List.nodup_cons.mp hn).1 (by rw [← z]; exact hb))]; exact e
      exact ⟨a, vs, od, rfl, fun z => z.2 ha', upd_same, hl, TrL.den _ ho q2 fun b hb => List.mem_cons_of_mem _ hb⟩
    | _ => cases ho
  | dK ks ds =>
    cases hd
    obtain ⟨a, rfl, rfl, vs, ha, hl, q⟩ := h
    have ha' := List.mem_cons_self (a := a) (l := [])
    refine ⟨a, _, rfl, ha', ha, trivial, fun vs z => (nomatch z), fun od => ?_⟩
    have k := kp_lock (H := H) (LL := LL) (a := a) (o := .frz od (.dK (ks.zip vs))) (hL a ha') (fun vs z => by rw [ha] at z; cases z)
    exact ⟨a, vs, od, rfl, fun z => z.2 ha', upd_same, hl, (q.kp k fun _ z => z).kp (kp_del _) fun _ z => z⟩
  | dT ks ds =>
    cases hd
    obtain ⟨a, rfl, rfl, vs, ha, hl, q⟩ := h
    have ha' := List.mem_cons_self (a := a) (l := [])
    refine ⟨a, _, rfl, ha', ha, trivial, fun vs z => (nomatch z), fun od => ?_⟩
    have k := kp_lock (H := H) (LL := LL) (a := a) (o := .frz od (.dT (ks.zip vs))) (hL a ha') (fun vs z => by rw [ha] at z; cases z)
    exact ⟨a, vs, od, rfl, fun z => z.2 ha', upd_same, hl, (q.kp k fun _ z => z).kp (kp_del _) fun _ z => z⟩
  | dN ks =>
    cases hd
    obtain ⟨a, rfl, rfl, ha⟩ := h
    have ha' := List.mem_cons_self (a := a) (l := [])
    refine ⟨a, _, rfl, ha', ha, trivial, fun vs z => (nomatch z), fun od => ?_⟩
    exact ⟨a, od, rfl, fun z => z.2 ha', upd_same⟩
  | _ => cases ho
/-- slot i becomes data, while the heap may be locked at one place of it -/
theorem Rel.frzW (r : Rel K H0 L LL ε σ H) {i : Nat} {d' : Dat} (he : ε[i]? = some (some (true, d))) (e1 : σ[i]? = some (some v)) (hH : H' = H ∨ ∃ a u od, a ∈ LL.ρ i ∧ H a = some u ∧ (∀ vs, u ≠ .lst vs) ∧ H' = upd H a (.frz od u))
    (hd : Den K H0 (LL.del (LL.ρ i)) H' d' v) : Rel K H0 L (LL.del (LL.ρ i)) (ε.set i (some (false, d'))) σ H' ∧ Kp LL (LL.del (LL.ρ i)) H H' := by
  obtain ⟨v', f1, hF, q⟩ := r.own i d he
  have keep : ∀ b o, b ∉ LL.ρ i → H b = some o → H' b = some o := fun b o hb e => by
    rcases hH with h | ⟨a, u, od, ha, _, _, h⟩
    · rw [h]; exact e
    · rw [h, upd_ne (fun z => hb (by rw [z]; exact ha))]; exact e
  have kl : KL H H' := by
    rcases hH with h | ⟨a, u, od, ha, hu, hn, h⟩
    · rw [h]; exact KL.refl
    · rw [h]; exact .dict hu hn
  have k : Kp LL (LL.del (LL.ρ i)) H H' := ⟨fun b o n e => ⟨fun z => n z.1, keep b o (fun m => n (hF b m).1) e⟩, kl⟩
  refine ⟨⟨fun b o e => keep b o (fun m => by rw [(hF b m).2.2] at e; cases e) (r.same b o e), fun b z => ⟨r.sub b z, fun m => (hF b m).2.1 z⟩, fun b z => ?_, by rw [List.length_set]; exact r.len, fun j e e2 => ?_, fun j e e2 => ?_, fun j m e e' b e1 e2 e3 e4 => ?_, fun j m p e e1 e2 => ?_⟩, k⟩
  · obtain ⟨o, h1, h2⟩ := r.mu b z.1
    exact ⟨o, keep b o z.2 h1, h2⟩
  · rcases get_set _ _ _ _ _ e2 with ⟨rfl, hil, z⟩ | ⟨hj, e2⟩
    · cases z
      exact ⟨v, e1, hd⟩
    · obtain ⟨w, e3, q'⟩ := r.val j e e2
      exact ⟨w, e3, q'.kp k fun _ z => z⟩
  · rcases get_set _ _ _ _ _ e2 with ⟨rfl, hil, z⟩ | ⟨hj, e2⟩
    · cases z
    · obtain ⟨w, e3, g1, g4⟩ := r.own j e e2
      have dis : ∀ a, a ∈ LL.ρ j → a ∉ LL.ρ i := fun a m m2 => hj (r.uni j i e d a e2 he m m2)
      exact ⟨w, e3, fun a m => ⟨⟨(g1 a m).1, dis a m⟩, (g1 a m).2⟩, g4.kp k (fun _ z => z) fun a m o z => keep a o (dis a m) z⟩
  · rcases get_set _ _ _ _ _ e1 with ⟨_, _, z⟩ | ⟨hj, e1⟩
    · cases z
    rcases get_set _ _ _ _ _ e2 with ⟨_, _, z⟩ | ⟨hk, e2⟩
    · cases z
    exact r.uni j m e e' b e1 e2 e3 e4
  · rcases get_set _ _ _ _ _ e1 with ⟨_, _, z⟩ | ⟨hj, e1⟩
    · cases z
    rcases get_set _ _ _ _ _ e2 with ⟨_, _, z⟩ | ⟨hk, e2⟩
    · cases z
    obtain ⟨w, a, h1, h2, h3⟩ := r.als j m p e e1 e2
    refine ⟨w, a, h1, h2.mono fun b hb => ⟨hb, fun o ho => ⟨o, keep b o (fun m2 => hk (r.uni m i _ _ b e2 he hb m2)) ho, fun _ _ z => z⟩⟩, h3⟩
/-- no dict, or none of one's own -/
def fzO (i : Nat) (ε : DEnv) : Bool := match ε[i]? with
  | some (some (true, d)) => frzO d
  | _ => true
theorem Rel.frz (r : Rel K H0 L LL ε σ H) (i : Nat) (ho : fzO i ε = true) : ∃ LL', Rel K H0 L LL' (fz i ε) σ H ∧ Kp LL LL' H H := by
  unfold fz
  unfold fzO at ho
  split
  · rename_i d he
    rw [he] at ho
    cases hd : frzD d with
    | none => exact ⟨LL, r, .refl⟩
    | some d' =>
      obtain ⟨v, e1, hF, q⟩ := r.own i d he
      obtain ⟨r1, k1⟩ := r.frzW he e1 (.inl rfl) (q.dat (fun a m => (hF a m).2.2) ho hd)
      exact ⟨_, r1, k1⟩
  · exact ⟨LL, r, .refl⟩
/-- a dict of one's own -/
def fzK (i : Nat) (ε : DEnv) : Bool := match ε[i]? with
  | some (some (true, d)) => frzK d
  | _ => false
theorem Rel.frzL (r : Rel K H0 L LL ε σ H) (i : Nat) (ho : fzK i ε = true) : ∃ a u LL', H a = some u ∧ Mut (some u) ∧ ∀ od, Rel K H0 L LL' (fz i ε) σ (upd H a (.frz od u)) ∧ Kp LL LL' H (upd H a (.frz od u)) := by
  unfold fz
  unfold fzK at ho
  split
  · rename_i d he
    rw [he] at ho
    have ho : frzK d = true := ho
    obtain ⟨d', hd⟩ : ∃ d', frzD d = some d' := by cases d <;> first | exact ⟨_, rfl⟩ | cases ho
    obtain ⟨v, e1, hF, q⟩ := r.own i d he
    obtain ⟨a, u, _, hm, hu, mu, hn, dd⟩ := q.lock (fun a m => (hF a m).1) ho hd
    rw [hd]
    exact ⟨a, u, _, hu, mu, fun od => r.frzW he e1 (.inr ⟨a, u, od, hm, hu, hn, rfl⟩) (dd od)⟩
  · rename_i h
    split at ho
    · rename_i d he
      exact absurd he (h d)
    · cases ho
def Lk.put (LL : Lk) (i : Nat) (F : List Addr) : Lk := ⟨fun b => LL b ∨ b ∈ F, fun j => if j = i then F else LL.ρ j⟩
theorem put_self {i : Nat} {F : List Addr} : (LL.put i F).ρ i = F := if_pos rfl
theorem put_ne {i j : Nat} {F : List Addr} (h : j ≠ i) : (LL.put i F).ρ j = LL.ρ j := if_neg h
theorem kp_put {i : Nat} {F : List Addr} (s : Same H H') (hp : ∀ a, a ∈ F → H a = none) : Kp LL (LL.put i F) H H' := ⟨fun b o n e => ⟨(by
  intro z
  rcases z with z | z
  · exact n z
  · rw [hp b z] at e
    cases e), s _ _ e⟩, KL.same s⟩
theorem kp_or' {p : Addr} (s : Same H H') (hp : H p = none) : Kp LL (LL.or p) H H' := ⟨fun b o n e => ⟨(by
  intro z
  rcases z with z | z
  · exact n z
  · rw [z, hp] at e
    cases e), s _ _ e⟩, KL.same s⟩
/-- a new thing of one's own in a slot -/
theorem Rel.setOwn (r : Rel K H0 L LL ε σ H) {i : Nat} {F : List Addr} (hi : i < σ.length) (s : Same H H') (hn : ∀ a, a ∈ F → H a = none) (hm : ∀ a, a ∈ F → ∃ o, H' a = some o ∧ Mut (some o)) (ho : OwnD K H0 (LL.put i F) H' d v F)
    (hd : ∀ (k : Nat) (p : List Nat), d ≠ Dat.als k p) (hA : ∀ e, d = .cel e → ∀ j p, ε[j]? = some (some (true, .als i p)) → j = i) :
    Rel K H0 L (LL.put i F) (ε.set i (some (true, d))) (σ.set i (some v)) H' ∧ Kp LL (LL.put i F) H H' := by
  have r' := r.mono s
  have hnl : ∀ a, a ∈ F → ¬ LL a := fun a m z => r.trk a z (hn a m)
  have kp : Kp LL (LL.put i F) H H' := kp_put s hn
  refine ⟨⟨r'.same, fun b z => .inl (r.sub b z), fun b z => ?_, by rw [List.length_set, List.length_set]; exact r.len, fun j e e1 => ?_, fun j e e1 => ?_, fun j k e e' b e1 e2 e3 e4 => ?_, fun j k p e e1 e2 => ?_⟩, kp⟩
  · rcases z with z | z
    · exact r'.mu b z
    · exact hm b z
  · rcases get_set _ _ _ _ _ e1 with ⟨rfl, hl, z⟩ | ⟨hj, g1'⟩
    · cases z
    · obtain ⟨v, e2, q⟩ := r.val j e g1'
      exact ⟨v, by rw [set_get_ne hj]; exact e2, q.kp kp fun _ z => z⟩
  · rcases get_set _ _ _ _ _ e1 with ⟨rfl, hl, z⟩ | ⟨hj, g1'⟩
    · cases z
      rw [put_self]
      exact ⟨v, set_get hi, fun a m => ⟨.inr m, fun z => hnl a m (r.sub a z), r.same.free (hn a m)⟩, ho⟩
    · obtain ⟨b, e2, g1, g4⟩ := r.own j e g1'
      rw [put_ne hj]
      exact ⟨b, by rw [set_get_ne hj]; exact e2, fun a m => ⟨.inl (g1 a m).1, (g1 a m).2⟩, g4.kp kp (fun _ z => z) fun a _ o z => s _ _ z⟩
  · rcases get_set _ _ _ _ _ e1 with ⟨rfl, hl, z⟩ | ⟨hj, g1'⟩
    · cases z
      rcases get_set _ _ _ _ _ e2 with ⟨rfl, hl, z⟩ | ⟨hk, g2'⟩
      · rfl
      · rw [put_self] at e3
        rw [put_ne hk] at e4
        obtain ⟨_, _, g, _⟩ := r.own k e' g2'
        exact absurd (g b e4).1 (hnl b e3)
    · rcases get_set _ _ _ _ _ e2 with ⟨rfl, hl, z⟩ | ⟨hk, g2'⟩
      · cases z
        rw [put_self] at e4
        rw [put_ne hj] at e3
        obtain ⟨_, _, g, _⟩ := r.own j e g1'
        exact absurd (g b e3).1 (hnl b e4)
      · rw [put_ne hj] at e3
        rw [put_ne hk] at e4
        exact r.uni j k e e' b g1' g2' e3 e4
  · rcases get_set _ _ _ _ _ e1 with ⟨rfl, hl, z⟩ | ⟨hj, g1'⟩
    · cases z
      exact absurd rfl (hd _ _)
    · rcases get_set _ _ _ _ _ e2 with ⟨rfl, hl, z⟩ | ⟨hk, g2'⟩
      · cases z
        exact absurd (hA _ rfl j p g1') hj
      · obtain ⟨w, a, h1, h2, h3⟩ := r.als j k p e g1' g2'
        rw [put_ne hk]
        exact ⟨w, a, by rw [set_get_ne hk]; exact h1, h2.mono fun b hb => ⟨hb, fun o ho => ⟨o, s _ _ ho, fun _ _ z => z⟩⟩, by rw [set_get_ne hj]; exact h3⟩
theorem sh_notals (h : shD d = true) : ∀ k p, d ≠ .als k p := fun k p z => by rw [z] at h; cases h
theorem sh_notcel (h : shD d = true) : ∀ e, d ≠ .cel e := fun e z => by rw [z] at h; cases h
theorem Rel.setown (r : Rel K H0 L LL ε σ H) {i : Nat} (hi : i < σ.length) (s : Same H H') (hn : H a = none) (ho : OwnB K H0 (LL.or a) H' a d) :
    Rel K H0 L (LL.put i [a]) (ε.set i (some (true, d))) (σ.set i (some (.ref a))) H' ∧ Kp LL (LL.put i [a]) H H' := by
  have hs := ho.sh
  have k : Kp (LL.or a) (LL.put i [a]) H' H' := .sub fun b z => z.imp id List.mem_singleton.mp
  refine r.setOwn hi s (fun b m => by rw [List.mem_singleton.mp m]; exact hn) (fun b m => by rw [List.mem_singleton.mp m]; exact ho.there) ((ownD_sh hs).mpr ⟨a, rfl, rfl, ho.kp k (fun _ z => z) fun _ z => z⟩) (sh_notals hs) fun e z => absurd z (sh_notcel hs e)
/-- one's own thing is changed -/
theorem Rel.chg (r : Rel K H0 L LL ε σ H) {i : Nat} {e : Dat} {F' : List Addr} (he : ε[i]? = some (some (true, e))) (hv : σ[i]? = some (some v))
    (hH : ∀ b o, b ∉ LL.ρ i → H b = some o → H' b = some o) (kl : KL H H') (hF : ∀ a, a ∈ F' → a ∈ LL.ρ i ∨ H a = none)
    (hm : ∀ a, a ∈ LL.ρ i ∨ a ∈ F' → ∃ o, H' a = some o ∧ Mut (some o)) (ho : OwnD K H0 (LL.put i F') H' d v F') (hd : ∀ (k : Nat) (p : List Nat), d ≠ Dat.als k p)
    (hA : ∀ x : Dat, d = Dat.cel x → (∃ y : Dat, e = Dat.cel y) ∧ ∀ (j : Nat) (p : List Nat), ε[j]? = some (some (true, Dat.als i p)) → ∀ a, AddrIn H (LL.ρ i) v p a → AddrIn H' F' v p a) :
    Rel K H0 L (LL.put i F') (ε.set i (some (true, d))) σ H' ∧ Kp LL (LL.put i F') H H' := by
  obtain ⟨v', f1, f2, f3⟩ := r.own i e he
  rw [hv] at f1
  cases f1
  have hil : i < ε.length := lt_of_get he
  have kp : Kp LL (LL.put i F') H H' := ⟨fun b o n z => ⟨(by
    intro q
    rcases q with q | q
    · exact n q
    · rcases hF b q with q | q
      · exact n (f2 b q).1
      · rw [q] at z; cases z), hH b o (fun q => n (f2 b q).1) z⟩, kl⟩
  have hp : ∀ b, b ∈ LL.ρ i ∨ b ∉ LL.ρ i := fun b => Classical.em _
  refine ⟨⟨fun b u z => ?_, fun b z => .inl (r.sub b z), fun b z => ?_, by rw [List.length_set]; exact r.len, fun j e' e1 => ?_, fun j e' e1 => ?_, fun j k e' e'' b e1 e2 e3 e4 => ?_, fun j k p x e1 e2 => ?_⟩, kp⟩
  · exact hH b u (fun q => by rw [(f2 b q).2.2] at z; cases z) (r.same b u z)
  · rcases hp b with q | q
    · exact hm b (.inl q)
    · rcases z with z | z
      · obtain ⟨o, g, m⟩ := r.mu b z
        exact ⟨o, hH b o q g, m⟩
      · exact hm b (.inr z)
  · rcases get_set _ _ _ _ _ e1 with ⟨rfl, hl, z⟩ | ⟨hj, g1'⟩
    · cases z
    · obtain ⟨w, e2, q⟩ := r.val j e' g1'
      exact ⟨w, e2, q.kp kp fun _ z => z⟩
  · rcases get_set _ _ _ _ _ e1 with ⟨rfl, hl, z⟩ | ⟨hj, g1'⟩
    · cases z
      rw [put_self]
      refine ⟨v, hv, fun a m => ⟨.inr m, ?_⟩, ho⟩
      rcases hF a m with q | q
      · exact (f2 a q).2
      · exact ⟨fun z => r.trk a (r.sub a z) q, r.same.free q⟩
    · obtain ⟨w, e2, g1, g4⟩ := r.own j e' g1'
      rw [put_ne hj]
      exact ⟨w, e2, fun a m => ⟨.inl (g1 a m).1, (g1 a m).2⟩, g4.kp kp (fun _ z => z) fun a m o z => hH a o (fun m2 => hj (r.uni j i e' e a g1' he m m2)) z⟩
  · have cross : ∀ {k e'}, k ≠ i → ε[k]? = some (some (true, e')) → b ∈ F' → b ∈ LL.ρ k → False := fun {k e'} hk e2 e3 e4 => by
      rcases hF b e3 with q | q
      · exact hk (r.uni k i e' e b e2 he e4 q)
      · obtain ⟨_, _, g, _⟩ := r.own k e' e2
        exact r.trk b (g b e4).1 q
    rcases get_set _ _ _ _ _ e1 with ⟨rfl, hl, z⟩ | ⟨hj, g1'⟩
    · rcases get_set _ _ _ _ _ e2 with ⟨rfl, hl, z⟩ | ⟨hk, g2'⟩
      · rfl
      · rw [put_self] at e3
        rw [put_ne hk] at e4
        exact (cross hk g2' e3 e4).elim
    · rcases get_set _ _ _ _ _ e2 with ⟨rfl, hl, z⟩ | ⟨hk, g2'⟩
      · rw [put_self] at e4
        rw [put_ne hj] at e3
        exact (cross hj g1' e4 e3).elim
      · rw [put_ne hj] at e3
        rw [put_ne hk] at e4
        exact r.uni j k e' e'' b g1' g2' e3 e4
  · rcases get_set _ _ _ _ _ e1 with ⟨rfl, hl, z⟩ | ⟨hj, g1'⟩
    · cases z
      exact absurd rfl (hd _ _)
    · rcases get_set _ _ _ _ _ e2 with ⟨rfl, hl, z⟩ | ⟨hk, g2'⟩
      · cases z
        obtain ⟨⟨y, hy⟩, g⟩ := hA x rfl
        rw [hy] at he
        obtain ⟨w, a, h1, h2, h3⟩ := r.als j _ p y g1' he
        rw [hv] at h1
        cases h1
        rw [put_self]
        exact ⟨v, a, hv, g j p g1' a h2, h3⟩
      · obtain ⟨w, a, h1, h2, h3⟩ := r.als j k p x g1' g2'
        rw [put_ne hk]
        exact ⟨w, a, h1, h2.mono fun b hb => ⟨hb, fun o ho => ⟨o, hH b o (fun m2 => hk (r.uni k i _ _ b g2' he hb m2)) ho, fun _ _ z => z⟩⟩, h3⟩
/-- one's own plain thing is written -/
theorem Rel.mut (r : Rel K H0 L LL ε σ H) {i : Nat} {e : Dat} {o : HO} (he : ε[i]? = some (some (true, e))) (hs : shD e = true) (ha : σ[i]? = some (some (V.ref a))) (ho : OwnB K H0 LL (upd H a o) a d) (kl : KL H (upd H a o)) :
    Rel K H0 L (LL.put i [a]) (ε.set i (some (true, d))) σ (upd H a o) ∧ Kp LL (LL.put i [a]) H (upd H a o) := by
  obtain ⟨a', f1, f2, f3, f4, f5, f6⟩ := r.ownS he hs
  rw [ha] at f1
  cases f1
  have hsd := ho.sh
  have k : Kp LL (LL.put i [a]) (upd H a o) (upd H a o) := .sub fun b z => z.elim id fun m => by rw [List.mem_singleton.mp m]; exact f2
  refine r.chg he ha (fun b u hb z => ?_) kl (fun b m => .inl (by rw [f6]; exact m)) (fun b m => ?_) ((ownD_sh hsd).mpr ⟨a, rfl, rfl, ho.kp k (fun _ z => z) fun _ z => z⟩) (sh_notals hsd) fun x z => absurd z (sh_notcel hsd x)
  · rw [f6] at hb
    rw [upd_ne (fun q => hb (List.mem_singleton.mpr q))]
    exact z
  · rw [f6, or_self, List.mem_singleton] at m
    rw [m]
    exact ho.there
theorem kp_mut {o : HO} (hL : LL a) (kl : KL H (upd H a o)) : Kp LL LL H (upd H a o) := ⟨fun b u n e => ⟨n, by rw [upd_ne (fun q => n (by rw [q]; exact hL))]; exact e⟩, kl⟩
end

/-! ### statements -/
inductive Out where
  | nx (ε : DEnv)
  | rt (d : Dat)
  | bk (ε : DEnv)
  | ct (ε : DEnv)
def XS (mg : Str → Option Value) (W : WX) (H0 : Hp) (n : Str) : Prop := ∀ C σ H', mg n = some (Value.ref C) → Same H0 H' → W (.ref C) none σ H'
theorem XS.w {mg : Str → Option Value} {W : WX} {H0 H : Hp} {n : Str} {σ : L2.St} (h : XS mg W H0 n) (s : Same H0 H) : XW mg W σ H n := fun C H' hm s' => h C σ H' hm (s.trans s')
/-- what is wanted behind a statement, of its pure end -/
def OutP (K : PySem.W.Frag) (H0 : Hp) (L : Lp) (LL : Lk) (H : Hp) (D : Ends) : Out → Prop
  | .nx ε' => ∀ LL' σ' H', Rel K H0 L LL' ε' σ' H' → Kp LL LL' H H' → D.nx σ' H'
  | .bk ε' => ∀ LL' σ' H', Rel K H0 L LL' ε' σ' H' → Kp LL LL' H H' → D.bk σ' H'
  | .ct ε' => ∀ LL' σ' H', Rel K H0 L LL' ε' σ' H' → Kp LL LL' H H' → D.ct σ' H'
  | .rt d => ∀ v H', Same H0 H' → Den K H0 (Lk.of L.f) H' d v → D.rt v H'
theorem OutP.mono {K : PySem.W.Frag} {H0 : Hp} {L : Lp} {LL LL' : Lk} {H H' : Hp} {D : Ends} {o : Out} (k : Kp LL LL' H H') (h : OutP K H0 L LL H D o) : OutP K H0 L LL' H' D o := by
  cases o with
  | nx ε => exact fun L2 σ' H2 r k2 => h L2 σ' H2 r (k.trans k2)
  | bk ε => exact fun L2 σ' H2 r k2 => h L2 σ' H2 r (k.trans k2)
  | ct ε => exact fun L2 σ' H2 r k2 => h L2 σ' H2 r (k.trans k2)
  | rt d => exact h
def tD (K : PySem.W.Frag) (mg : Str → Option Value) (W : WX) (H0 : Hp) (L : Lp) (f : DEnv → Rs Out) : TS := fun D σ H => ∃ ε LL, Rel K H0 L LL ε σ H ∧ (f ε).to (OutP K H0 L LL H D) (XS mg W H0)
def DS (X : Cx) (W : WX) (H0 : Hp) (L : Lp) (st : Stmt) (f : DEnv → Rs Out) : Prop := PS X st (tD X.K X.mg W H0 L f)
def DSs (X : Cx) (W : WX) (H0 : Hp) (L : Lp) (st : List Stmt) (f : DEnv → Rs Out) : Prop := PSs X st (tD X.K X.mg W H0 L f)
theorem psimp {X : Cx} {st : Stmt} {t t' : TS} (h : PS X st t) (k : ∀ D σ H, σ.length = X.N.length → t' D σ H → t D σ H) : PS X st t' := ⟨fun pins s σ H D I q => h.run pins s σ H D I (k D σ H I.len q)⟩
theorem pssimp {X : Cx} {st : List Stmt} {t t' : TS} (h : PSs X st t) (k : ∀ D σ H, t' D σ H → t D σ H) : PSs X st t' := ⟨fun pins s σ H D I q => h.run pins s σ H D I (k D σ H q)⟩

section
variable {X : Cx} {W : WX} {H0 : Hp} {L : Lp} {LL : Lk} {m : Bool} {a b e : Expr} {pos : Pos} {f g : DEnv → Rs Dat} {fc : DEnv → Rs Bool} {st : Stmt} {sts : List Stmt} {fs gs : DEnv → Rs Out}
variable {K : PySem.W.Frag} {mg : Str → Option Value} {σ : L2.St} {H : Hp} {ε : DEnv}
/-- an expression within a statement -/
theorem tD.expr {F : DEnv → Dat → Rs Out} {D : Ends} {R : VK} (h : tD K mg W H0 L (fun ε => f ε >>= F ε) D σ H)
    (k : ∀ ε LL d v H', Rel K H0 L LL ε σ H' → DM m K H0 L LL H' d v → (F ε d).to (OutP K H0 L LL H' D) (XS mg W H0) → R v H') : tE m K mg W H0 L f σ H R := by
  obtain ⟨ε, LL, rel, h⟩ := h
  dsimp only at h
  rw [Rs.to_bind] at h
  exact ⟨ε, LL, rel, h.imp (fun d _ hd v H' s q => k ε LL d v H' (rel.mono s) q (hd.imp (fun o _ ho => ho.mono (.same s)) fun _ z => z)) fun n z => z.w rel.same⟩
theorem ds_nil : DSs X W H0 L [] (fun ε => .ok (.nx ε)) := pssimp pss_nil fun D σ H ⟨ε, LL, r, h⟩ => h LL σ H r .refl
def seqD (f g : DEnv → Rs Out) (ε : DEnv) : Rs Out := f ε >>= fun o => match o with
  | .nx ε' => g ε'
  | o => .ok o
theorem ds_cons (h1 : DS X W H0 L st fs) (h2 : DSs X W H0 L sts gs) : DSs X W H0 L (st :: sts) (seqD fs gs) :=
  pssimp (pss_cons h1 h2) fun D σ H ⟨ε, LL, r, h⟩ => by
    unfold seqD at h
    rw [Rs.to_bind] at h
    refine ⟨ε, LL, r, h.imp (fun o _ ho => ?_) fun n z => z⟩
    cases o with
    | nx ε' => exact fun L2 σ' H' r' k => ⟨ε', L2, r', ho.imp (fun o _ z => z.mono k) fun n z => z⟩
    | bk ε' => exact ho
    | ct ε' => exact ho
    | rt d => exact ho
theorem ds_one (h1 : DS X W H0 L st fs) : DSs X W H0 L [st] fs := pss_one h1
def retD (f : DEnv → Rs Dat) (ε : DEnv) : Rs Out := f ε >>= fun d => .ok (.rt d)
theorem ds_ret (hc : L.c = false) (he : DE true X W H0 L e f) : DS X W H0 L (.Return (some e) pos) (retD f) :=
  psimp (ps_ret he) fun D σ H hl h => tD.expr (m := true) h fun ε LL d v H' r q h => by
    exact h v H' r.same (Den.kp (L := ⟨L.f, LL.ρ⟩) (L' := Lk.of L.f) ⟨fun b o n e => ⟨n, e⟩, KL.refl⟩ (fun _ z => z) (Den.sub r.good.sub q))
def iteD (c : DEnv → Rs Bool) (f g : DEnv → Rs Out) (ε : DEnv) : Rs Out := c ε >>= fun b => if b = true then f ε else g ε
theorem ds_if {ta tb : List Stmt} (hc : DT X W H0 L e fc) (ha : DSs X W H0 L ta fs) (hb : DSs X W H0 L tb gs) : DS X W H0 L (.If e ta tb pos) (iteD fc fs gs) :=
  psimp (ps_if hc ha hb) fun D σ H _ ⟨ε, LL, r, h⟩ => by
    unfold iteD at h
    rw [Rs.to_bind] at h
    refine ⟨ε, LL, r, h.imp (fun b _ hb H' s => ?_) fun n z => z.w r.same⟩
    cases b with
    | true => exact ⟨ε, LL, r.mono s, (show (fs ε).to _ _ from hb).imp (fun o _ z => z.mono (.same s)) fun n z => z⟩
    | false => exact ⟨ε, LL, r.mono s, (show (gs ε).to _ _ from hb).imp (fun o _ z => z.mono (.same s)) fun n z => z⟩
def setD (i : Nat) (f : DEnv → Rs Dat) (ε : DEnv) : Rs Out := f ε >>= fun d => .ok (.nx (ε.set i (some (false, d))))
theorem ds_set (i : Nat) {x : Str} {pos' : Pos} (hN : X.N.Nodup) (he : DE true X W H0 L e f) (hi : X.N[i]? = some x := by rfl) (hx : Loc X.env.scope x := by first | exact .inl rfl | exact .inr rfl) (hs : swapsWith e (some (.Name x pos')) pos.line X.env = pure false := by rfl) (hf : X.fn x = true ∨ X.env.scope.names.lookup x = some .local := by first | exact .inl rfl | exact .inr rfl | assumption) :
    DS X W H0 L (.Assign [.Name x pos'] e pos) (setD i f) :=
  psimp (ps_set hN hi hx he hs hf) fun D σ H hl h => tD.expr (m := true) h fun ε LL d v H' r q h => h _ _ _ (r.setv (by rw [hl]; exact lt_of_get hi) q) .refl
def ownD (i : Nat) (f : DEnv → Rs (List Dat)) (ε : DEnv) : Rs Out := f ε >>= fun ds => .ok (.nx (ε.set i (some (true, .lst true ds))))
theorem ds_own (i : Nat) {x : Str} {pos' : Pos} {f : DEnv → Rs (List Dat)} (hN : X.N.Nodup) (he : DF X W H0 L e f) (hi : X.N[i]? = some x := by rfl) (hx : Loc X.env.scope x := by first | exact .inl rfl | exact .inr rfl) (hs : swapsWith e (some (.Name x pos')) pos.line X.env = pure false := by rfl) (hf : X.fn x = true ∨ X.env.scope.names.lookup x = some .local := by first | exact .inl rfl | exact .inr rfl | assumption) :
    DS X W H0 L (.Assign [.Name x pos'] e pos) (ownD i f) :=
  psimp (ps_set hN hi hx he hs hf) fun D σ H hl ⟨ε, LL, r, h⟩ => by
    unfold ownD at h
    rw [Rs.to_bind] at h
    refine ⟨ε, LL, r, h.imp (fun ds _ hd a vs H' s hn ha q => ?_) fun n z => z.w r.same⟩
    obtain ⟨r1, k1⟩ := r.setown (d := .lst true ds) (i := i) (by rw [hl]; exact lt_of_get hi) s hn ⟨vs, ha, q⟩
    exact hd _ _ _ r1 k1
def drpD (f : DEnv → Rs Dat) (ε : DEnv) : Rs Out := f ε >>= fun _ => .ok (.nx ε)
theorem ds_expr (he : DE false X W H0 L e f) (hs : swapsWith e none pos.line X.env = pure false := by rfl) : DS X W H0 L (.Expr e pos) (drpD f) :=
  psimp (ps_expr he hs) fun D σ H _ h => tD.expr (m := false) h fun ε LL d v H' r q h => h _ _ _ r .refl
theorem ds_pass : DS X W H0 L (.Pass pos) (fun ε => .ok (.nx ε)) := psimp ps_pass fun D σ H _ ⟨ε, LL, r, h⟩ => h LL σ H r .refl
theorem ds_break : DS X W H0 L (.Break pos) (fun ε => .ok (.bk ε)) := psimp ps_break fun D σ H _ ⟨ε, LL, r, h⟩ => h LL σ H r .refl
theorem ds_continue : DS X W H0 L (.Continue pos) (fun ε => .ok (.ct ε)) := psimp ps_continue fun D σ H _ ⟨ε, LL, r, h⟩ => h LL σ H r .refl
/-- ahead of statements: things of one's own become data -/
def fzD (i : Nat) (fs : DEnv → Rs Out) (ε : DEnv) : Rs Out := chk (fzO i ε) (fs (fz i ε))
theorem ds_fz (i : Nat) (h : DSs X W H0 L sts fs) : DSs X W H0 L sts (fzD i fs) :=
  pssimp h fun D σ H ⟨ε, LL, r, h⟩ => by
    obtain ⟨ho, h⟩ := chk_to h
    obtain ⟨L2, r2, k2⟩ := r.frz i ho
    exact ⟨fz i ε, L2, r2, h.imp (fun o _ z => z.mono k2) fun n z => z⟩
/-- a thing is locked for good -/
def tLockG (t : TS) : TS := fun D σ H => ∃ d u, H d = some u ∧ Mut (some u) ∧ ∀ od, t D σ (upd H d (.frz od u))
theorem pss_lockG {t : TS} (h : PSs X sts t) : PSs X sts (tLockG t) := ⟨fun pins s σ H D I ⟨d, u, hd, mu, hw⟩ => by
  obtain ⟨od, I1⟩ := I.lock hd mu
  exact h.run pins s σ _ D I1 (hw od)⟩
def fzkD (i : Nat) (fs : DEnv → Rs Out) (ε : DEnv) : Rs Out := chk (fzK i ε) (fs (fz i ε))
theorem ds_fzK (i : Nat) (h : DSs X W H0 L sts fs) : DSs X W H0 L sts (fzkD i fs) :=
  pssimp (pss_lockG h) fun D σ H ⟨ε, LL, r, h⟩ => by
    obtain ⟨ho, h⟩ := chk_to h
    obtain ⟨a, u, L2, hu, mu, q⟩ := r.frzL i ho
    exact ⟨a, u, hu, mu, fun od => ⟨fz i ε, L2, (q od).1, h.imp (fun o _ z => z.mono (q od).2) fun n z => z⟩⟩
def fgt : List Nat → DEnv → DEnv
  | [], ε => ε
  | i :: r, ε => fgt r (ε.set i none)
theorem Rel.fgts {H : Hp} : ∀ (is : List Nat) {ε : DEnv}, Rel K H0 L LL ε σ H → Rel K H0 L LL (DL.fgt is ε) σ H
  | [], ε, r => r
  | i :: t, ε, r => (r.fgt i).fgts t
theorem ds_fgt0 (is : List Nat) (h : DSs X W H0 L sts fs) : DSs X W H0 L sts (fun ε => fs (fgt is ε)) :=
  pssimp h fun D σ H ⟨ε, LL, r, h⟩ => ⟨fgt is ε, LL, r.fgts is, h⟩
/-- behind statements: slots that nobody asks any more -/
def Out.fgt (is : List Nat) : Out → Out
  | .nx ε => .nx (DL.fgt is ε)
  | .ct ε => .ct (DL.fgt is ε)
  | o => o
def fgtD (is : List Nat) (f : DEnv → Rs Out) (ε : DEnv) : Rs Out := f ε >>= fun o => .ok (o.fgt is)
theorem OutP.fgt {D : Ends} {o : Out} {is : List Nat} (h : OutP K H0 L LL H D (o.fgt is)) : OutP K H0 L LL H D o := by
  cases o with
  | nx ε => exact fun L2 σ' H' r k => h L2 σ' H' (r.fgts is) k
  | ct ε => exact fun L2 σ' H' r k => h L2 σ' H' (r.fgts is) k
  | bk ε => exact h
  | rt d => exact h
theorem ds_fgt (is : List Nat) (h : DSs X W H0 L sts fs) : DSs X W H0 L sts (fgtD is fs) :=
  pssimp h fun D σ H ⟨ε, LL, r, h⟩ => by
    unfold fgtD at h
    rw [Rs.to_bind] at h
    exact ⟨ε, LL, r, h.imp (fun o _ z => OutP.fgt z) fun n z => z⟩
end
end DL

set_option maxRecDepth 100000
set_option maxHeartbeats 4000000
/-! DLe: arguments, displays, calls, loops, comprehensions. -/
namespace DL
open PySem PySem.Spec PyProof.Rows L2

section
variable {X : Cx} {W : WX} {H0 : Hp} {L : Lp} {LL : Lk} {m : Bool} {d : Dat} {v : V} {ds : List Dat} {vs : List V} {a b e : Expr} {es : List Expr} {pos : Pos} {f g : DEnv → Rs Dat} {fa : DEnv → Rs (List Dat)}
variable {K : PySem.W.Frag} {mg : Str → Option Value} {σ : L2.St} {H : Hp} {ε : DEnv}
def argsN (_ : DEnv) : Rs (List Dat) := .ok []
def argsC (f : DEnv → Rs Dat) (fa : DEnv → Rs (List Dat)) (ε : DEnv) : Rs (List Dat) := f ε >>= fun d => fa ε >>= fun ds => .ok (d :: ds)
theorem da_nil : DA m X W H0 L [] argsN := paimp pa_nil fun σ H Q ⟨ε, LL, r, h⟩ => h [] H (Same.refl H) .nil
theorem da_cons (he : DE m X W H0 L e f) (ha : DA m X W H0 L es fa) (hs : starEach (e :: es) X.env = (false, eval e X.env) :: starEach es X.env := by rfl) : DA m X W H0 L (e :: es) (argsC f fa) :=
  paimp (pa_cons he ha hs) fun σ H Q ⟨ε, LL, r, h⟩ => by
    unfold argsC at h
    rw [Rs.to_bind] at h
    refine ⟨ε, LL, r, h.imp (fun d _ hd v H1 s1 q1 => ?_) fun n z => z⟩
    rw [Rs.to_bind] at hd
    exact ⟨ε, LL, r.mono s1, hd.imp (fun ds _ hds vs H2 s2 q2 => hds _ H2 (s1.trans s2) (.cons (q1.same s2) q2)) fun n z => z.mono s1⟩
theorem den_pair : ∀ {ds : List Dat} {vs : List V}, Paired (DM true K H0 L LL H) ds vs → DenL K H0 LL H ds vs
  | _, _, .nil => rfl
  | _, _, .cons h t => ⟨_, _, rfl, h, den_pair t⟩
/-- arguments of which nothing is kept -/
def tAQ (K : PySem.W.Frag) (mg : Str → Option Value) (W : WX) (H0 : Hp) (L : Lp) (f : DEnv → Rs (List Dat)) : TA := fun σ H Q => ∃ ε LL, Rel K H0 L LL ε σ H ∧
  (f ε).to (fun ds => ∀ vs H', Same H H' → DenL K H0 (Lk.of L.f) H' ds vs → Q vs H') (XW mg W σ H)
def DAQ (X : Cx) (W : WX) (H0 : Hp) (L : Lp) (es : List Expr) (f : DEnv → Rs (List Dat)) : Prop := PA X es (tAQ X.K X.mg W H0 L f)
theorem daq_nil : DAQ X W H0 L [] argsN := paimp pa_nil fun σ H Q ⟨ε, LL, r, h⟩ => h [] H (Same.refl H) rfl
theorem daq_cons (he : DQ X W H0 L e f) (ha : DAQ X W H0 L es fa) (hs : starEach (e :: es) X.env = (false, eval e X.env) :: starEach es X.env := by rfl) : DAQ X W H0 L (e :: es) (argsC f fa) :=
  paimp (pa_cons he ha hs) fun σ H Q ⟨ε, LL, r, h⟩ => by
    unfold argsC at h
    rw [Rs.to_bind] at h
    refine ⟨ε, LL, r, h.imp (fun d _ hd v H1 s1 q1 => ?_) fun n z => z⟩
    rw [Rs.to_bind] at hd
    exact ⟨ε, LL, r.mono s1, hd.imp (fun ds _ hds vs H2 s2 q2 => hds _ H2 (s1.trans s2) ⟨v, vs, rfl, q1.same s2, q2⟩) fun n z => z.mono s1⟩
theorem kp_of {g : Addr → Prop} {ρ ρ' : Nat → List Addr} : Kp ⟨g, ρ⟩ ⟨g, ρ'⟩ H H := ⟨fun b o n e => ⟨n, e⟩, KL.refl⟩
/-- what may be kept -/
theorem DE.q (h : DE true X W H0 L e f) : DQ X W H0 L e f :=
  peimp h fun σ H Q ⟨ε, LL, r, h⟩ => ⟨ε, LL, r, h.imp (fun d _ hd v H' s q => hd v H' s (Den.kp (L := ⟨L.f, LL.ρ⟩) (L' := Lk.of L.f) kp_of (fun _ z => z) (Den.sub r.good.sub q))) fun n z => z⟩
/-- a name: what its slot holds now -/
def wkD (ε : DEnv) : Dat → Option Dat
  | .als k p => match ε[k]? with
    | some (some (true, .cel d)) => (nodeAt d p).bind fun e => if lonN e = true then some (meltN e) else none
    | _ => none
  | d => if frzO d = true then frzD d else none
def rdq (i : Nat) (ε : DEnv) : Rs Dat := match ε[i]? with
  | some (some (false, d)) => .ok d
  | some (some (true, d)) => Rs.of (wkD ε d)
  | _ => .no
theorem Rel.rdq (r : Rel K H0 L LL ε σ H) {i : Nat} {d : Dat} (h : DL.rdq i ε = .ok d) : ∃ v, σ[i]? = some (some v) ∧ Den K H0 (Lk.of L.f) H d v := by
  unfold DL.rdq at h
  split at h
  · rename_i d' he
    cases h
    obtain ⟨v, e1, q⟩ := r.val i d he
    exact ⟨v, e1, Den.kp (L := ⟨L.f, LL.ρ⟩) (L' := Lk.of L.f) kp_of (fun _ z => z) (q.sub r.good.sub)⟩
  · rename_i d' he
    have base : ∀ {k : Nat} {d0 : Dat} {F : List Addr} {v : V}, (∀ a, a ∈ F → ¬ L a) → Den K H0 (LL.del F) H d0 v → Den K H0 (Lk.of L.f) H d0 v := fun {k d0 F v} hF q =>
      Den.kp (L := LL.del F) (L' := Lk.of L.f) ⟨fun b o n e => ⟨fun z => n ⟨r.sub b z, fun m => hF b m z⟩, e⟩, KL.refl⟩ (fun _ z => z) q
    cases hw : wkD ε d' with
    | none => rw [hw] at h; cases h
    | some d2 =>
      rw [hw] at h
      cases h
      have own : ∀ d', ε[i]? = some (some (true, d')) → frzO d' = true → frzD d' = some d → ∃ v, σ[i]? = some (some v) ∧ Den K H0 (Lk.of L.f) H d v := fun d' he h1 h2 => by
        obtain ⟨v, e1, hF, q⟩ := r.own i d' he
        exact ⟨v, e1, base (k := 0) (fun a m => (hF a m).2.1) (q.dat (fun a m => (hF a m).2.2) h1 h2)⟩
      unfold wkD at hw
      split at hw
      · rename_i k p
        split at hw
        · rename_i t ht
          cases hn : nodeAt t p with
          | none => rw [hn] at hw; cases hw
          | some e =>
            rw [hn] at hw
            have hw : (if lonN e = true then some (meltN e) else none) = some d := hw
            split at hw
            · rename_i hl
              cases hw
              obtain ⟨v, a, g1, g2, g3⟩ := r.als i k p t he ht
              obtain ⟨v', f1, f2, f3, f4⟩ := r.own k _ ht
              rw [g1] at f1
              cases f1
              obtain ⟨b, G1, Fe, G2, eF, h2, h3, _⟩ := f3.focus p hn
              cases g2.inj h2
              exact ⟨_, g3, base (k := 0) (F := Fe) (fun a m => (f2 a (by rw [eF]; simp [m])).2.1) (h3.den Fe hl fun a m => m)⟩
            · cases hw
        · cases hw
      · split at hw
        · rename_i h1
          exact own _ he h1 hw
        · cases hw
  · cases h
theorem dqv (i : Nat) {x : Str} {pos : Pos} (hN : X.N[i]? = some x := by rfl) (hv : Vis X.env.scope x := by first | exact Or.inl rfl | exact Or.inr (Or.inl rfl) | exact Or.inr (Or.inr rfl)) (hd : (x == ("__debug__" : Str)) = false := by decide)
    (hcd : (x == ("__classdict__" : Str)) = false := by decide) : DQ X W H0 L (.Name x pos) (rdq i) := by
  refine peimp (pe_var hN hv hd hcd) fun σ H Q ⟨ε, LL, r, h⟩ => ?_
  cases e : rdq i ε with
  | no => rw [e] at h; exact h.elim
  | ex n =>
    unfold rdq at e
    split at e
    · cases e
    · cases hw : wkD ε (by assumption) with
      | none => rw [hw] at e; cases e
      | some _ => rw [hw] at e; cases e
    · cases e
  | ok d =>
    rw [e] at h
    obtain ⟨v, e1, q⟩ := r.rdq e
    exact ⟨v, e1, h v H (Same.refl H) q⟩

/-! ### displays -/
noncomputable def tupD (fa : DEnv → Rs (List Dat)) (ε : DEnv) : Rs Dat := fa ε >>= fun ds => chk (sz ds.length) (.ok (.tup ds))
theorem de_tup {x1} (ha : DA true X W H0 L es fa) : DE m X W H0 L (.Tuple es x1 pos) (tupD fa) :=
  peimp (pe_tup ha) fun σ H Q ⟨ε, LL, r, h⟩ => by
    unfold tupD at h
    rw [Rs.to_bind] at h
    refine ⟨ε, LL, r, h.imp (fun ds _ hd vs H1 s1 q => ?_) fun n z => z⟩
    obtain ⟨hz, hd⟩ := chk_to hd
    have q' := den_pair q
    exact ⟨by rw [← q'.length]; exact sz_ok hz, fun p hp => hd _ _ (s1.trans (same_new hp)) ((r.mono s1).good.tup hp q' |>.m r.good.sub)⟩
/-- a list just made, as data -/
def lstD (fa : DEnv → Rs (List Dat)) (ε : DEnv) : Rs Dat := fa ε >>= fun ds => .ok (.lst true ds)
theorem DF.de {f : DEnv → Rs (List Dat)} (h : DF X W H0 L e f) : DE m X W H0 L e (lstD f) :=
  peimp h fun σ H Q ⟨ε, LL, r, h⟩ => by
    unfold lstD at h
    rw [Rs.to_bind] at h
    refine ⟨ε, LL, r, h.imp (fun ds _ hd a vs H1 s1 hn ha q => ?_) fun n z => z⟩
    refine hd _ _ s1 (Den.m r.good.sub ⟨a, vs, rfl, fun z => r.trk a z hn, fun _ => r.same.free hn, ha, DenL.kp (L := LL.or a) ⟨fun b o n e => ⟨fun z => n (Or.inl z), e⟩, KL.refl⟩ (fun _ z => z) q⟩)
noncomputable def dspD (fa : DEnv → Rs (List Dat)) (ε : DEnv) : Rs (List Dat) := fa ε >>= fun ds => chk (sz ds.length) (.ok ds)
theorem kp_or {H H1 : Hp} {p : Addr} (s : Same H H1) (hp : H p = none) : Kp LL (LL.or p) H H1 := kp_or' s hp
theorem df_lst (ha : DA true X W H0 L es fa) : DF X W H0 L (.List es pos) (dspD fa) :=
  peimp (pe_lst ha) fun σ H Q ⟨ε, LL, r, h⟩ => by
    unfold dspD at h
    rw [Rs.to_bind] at h
    refine ⟨ε, LL, r, h.imp (fun ds _ hd vs H1 s1 q => ?_) fun n z => z⟩
    obtain ⟨hz, hd⟩ := chk_to hd
    have q' := den_pair q
    exact ⟨by rw [← q'.length]; exact sz_ok hz, fun p hp => hd p vs _ (s1.trans (same_new hp)) (s1.free hp) upd_same (q'.kp (kp_or (same_new hp) hp) fun _ z => z)⟩

/-! ### calls of defs -/
mutual
def old : Dat → Dat
  | .tup ds => .tup (olds ds)
  | .lst _ ds => .lst false (olds ds)
  | .dK ks ds => .dK ks (olds ds)
  | .dT ks ds => .dT ks (olds ds)
  | d => d
def olds : List Dat → List Dat
  | [] => []
  | d :: r => old d :: olds r
end
mutual
theorem Den.old {H1 : Hp} : ∀ {d : Dat} {v : V}, Den K H0 LL H d v → Den K H1 LL H (old d) v
  | .non, _, h => h
  | .bl _, _, h => h
  | .int _, _, h => h
  | .str _, _, h => h
  | .tup ds, _, ⟨a, vs, e, t, h⟩ => ⟨a, vs, e, t, DenL.olds h⟩
  | .lst t ds, _, ⟨a, vs, e, hl, ht, ha, h⟩ => ⟨a, vs, e, hl, fun z => (nomatch z), ha, DenL.olds h⟩
  | .dK ks ds, _, ⟨a, vs, o, e, hl, ha, z, h⟩ => ⟨a, vs, o, e, hl, ha, z, DenL.olds h⟩
  | .dT ks ds, _, ⟨a, vs, o, e, hl, ha, z, h⟩ => ⟨a, vs, o, e, hl, ha, z, DenL.olds h⟩
  | .scr ns, _, h => h
  | .cst ss, _, h => h
  | .hvl, _, h => h
  | .cel d, _, h => h
  | .als _ _, _, h => h
  | .dN _, _, h => h
  | .reg _, _, h => h
  | .exn x, _, h => h
theorem DenL.olds {H1 : Hp} : ∀ {ds : List Dat} {vs : List V}, DenL K H0 LL H ds vs → DenL K H1 LL H (olds ds) vs
  | [], _, h => h
  | d :: ds, _, ⟨v, r, e, h, t⟩ => ⟨v, r, e, Den.old h, DenL.olds t⟩
end
/-- a def's promise: it computes F -/
def spD (K : PySem.W.Frag) (mg : Str → Option Value) (n : Nat) (F : List Dat → Rs Dat) : Sp := fun vs H Q E => vs.length = n ∧ ∃ (L : Addr → Prop) (ds : List Dat), (∀ a, L a → ∃ o, H a = some o ∧ Mut (some o)) ∧ DenL K H (Lk.of L) H ds vs ∧
  (F ds).to (fun d => ∀ v H', Same H H' → Den K H (Lk.of L) H' d v → Q v H') (fun c => ∀ C H', mg c = some (Value.ref C) → Same H H' → E (.ref C) none H')
mutual
/-- made by a callee: every list in it is new -/
def fresh : Dat → Bool
  | .tup ds => freshs ds
  | .lst t ds => t && freshs ds
  | .dK _ _ => false
  | .dT _ _ => false
  | .scr _ => false
  | .cst _ => false
  | .hvl => false
  | .cel _ => false
  | .als _ _ => false
  | .dN _ => false
  | .reg _ => false
  | .exn _ => false
  | _ => true
def freshs : List Dat → Bool
  | [] => true
  | d :: r => fresh d && freshs r
end
mutual
theorem Den.fresh {L' : Lk} (hl : ∀ a, H0 a = none → ¬ L' a) (ht : ∀ a xs, ¬ LL a → H a = some (.tup xs) → ¬ L' a) : ∀ {d : Dat} {v : V}, Den K H0 LL H d v → fresh d = true → Den K H0 L' H d v
  | .non, _, h, _ => h
  | .bl _, _, h, _ => h
  | .int _, _, h, _ => h
  | .str _, _, h, _ => h
  | .tup ds, _, ⟨a, vs, e, t, h⟩, c => ⟨a, vs, e, ⟨ht _ _ t.1 t.2, t.2⟩, DenL.fresh hl ht h c⟩
  | .lst t ds, _, ⟨a, vs, e, _, tt, ha, h⟩, c => by
    have c' : (t && freshs ds) = true := c
    rw [Bool.and_eq_true] at c'
    exact ⟨a, vs, e, hl _ (tt c'.1), tt, ha, DenL.fresh hl ht h c'.2⟩
  | .dK ks ds, _, _, c => nomatch c
  | .dT ks ds, _, _, c => nomatch c
  | .scr ns, _, _, c => nomatch c
  | .cst ss, _, _, c => nomatch c
  | .hvl, _, _, c => nomatch c
  | .cel d, _, _, c => nomatch c
  | .als _ _, _, _, c => nomatch c
  | .dN _, _, _, c => nomatch c
  | .reg _, _, _, c => nomatch c
  | .exn x, _, _, c => nomatch c
theorem DenL.fresh {L' : Lk} (hl : ∀ a, H0 a = none → ¬ L' a) (ht : ∀ a xs, ¬ LL a → H a = some (.tup xs) → ¬ L' a) : ∀ {ds : List Dat} {vs : List V}, DenL K H0 LL H ds vs → freshs ds = true → DenL K H0 L' H ds vs
  | [], _, h, _ => h
  | d :: ds, _, ⟨v, r, e, h, t⟩, c => by
    have c' : (fresh d && freshs ds) = true := c
    rw [Bool.and_eq_true] at c'
    exact ⟨v, r, e, Den.fresh hl ht h c'.1, DenL.fresh hl ht t c'.2⟩
end
variable {k : Nat} {f' : Addr} {fd : FuncData} {ps : List Str} {F : List Dat → Rs Dat} {x : Str} {p : Pos} {n : Nat}
/-- n: how many arguments -/
def callD (n : Nat) (F : List Dat → Rs Dat) (fa : DEnv → Rs (List Dat)) (ε : DEnv) : Rs Dat := fa ε >>= fun ds => chk (ds.length == n) (F (olds ds))
/-- arguments that may be lists of one's own: what comes back is new through and through -/
def callB (n : Nat) (F : List Dat → Rs Dat) (fa : DEnv → Rs (List Dat)) (ε : DEnv) : Rs Dat := fa ε >>= fun ds => chk (ds.length == n) (F (olds ds) >>= fun d => chk (fresh d) (.ok d))
theorem Den.of (h : Den K H0 LL H d v) : Den K H0 (Lk.of LL.f) H d v := h.kp (L' := Lk.of LL.f) kp_of fun _ z => z
theorem DenL.of (h : DenL K H0 LL H ds vs) : DenL K H0 (Lk.of LL.f) H ds vs := h.kp (L' := Lk.of LL.f) kp_of fun _ z => z
theorem Den.fo (h : Den K H0 (Lk.of LL.f) H d v) : Den K H0 LL H d v := h.kp (L := Lk.of LL.f) kp_of fun _ z => z
theorem DenL.fo (h : DenL K H0 (Lk.of LL.f) H ds vs) : DenL K H0 LL H ds vs := h.kp (L := Lk.of LL.f) kp_of fun _ z => z
theorem call_use {LL : Addr → Prop} {F : List Dat → Rs Dat} {ds : List Dat} {vs : List V} {Q : VK} {E : XK} (hl : ∀ a, LL a → ∃ o, H a = some o ∧ Mut (some o)) (hf : ∀ a, H a = none → H0 a = none) (q : DenL K H0 (Lk.of LL) H ds vs) (hlen : ds.length = n)
    (h : (F (olds ds)).to (fun d => ∀ v H', Same H H' → Den K H0 (Lk.of LL) H' d v → Q v H') (fun c => ∀ C H', mg c = some (Value.ref C) → Same H H' → E (.ref C) none H')) : spD K mg n F vs H Q E :=
  ⟨by rw [← q.length]; exact hlen, LL, olds ds, hl, q.olds, h.imp (fun d _ hd v H' s dd => hd v H' s (dd.kp .refl hf)) fun c z => z⟩
theorem de_call (hc : L.c = false) (G : FnOk X.prog X.w X.K X.mg X.base (L2.CX X.prog X.w) k f' fd ps (spD X.K X.mg n F)) (hr : Room k X.A) (hm : X.mg x = some (.ref f')) (hk : PySem.W.keepIn X.K (.ref f') = true) (hb : Binds X.K fd ps [])
    (tk : Takes X W) (ha : DA true X W H0 L (e :: es) fa) (hg : Gl X x := by rfl) (hdb : (x == ("__debug__" : Str)) = false := by decide) (he : starEach (e :: es) X.env = (false, eval e X.env) :: starEach es X.env := by rfl) (hpl : (backTo pos (starEach es X.env)).any (·.1) = false := by rfl) :
    DE m X W H0 L (.Call (.Name x p) (e :: es) [] pos) (callD n F fa) :=
  peimp (pe_callSD G hr hg hm hk hb .nil (fun σ => passAt tk σ) ha hdb he hpl) fun σ H Q ⟨ε, LL, r, h⟩ => by
    unfold callD at h
    rw [Rs.to_bind] at h
    refine ⟨ε, LL, r, h.imp (fun ds _ hd vs H1 s1 q => ?_) fun n z => z⟩
    obtain ⟨hl, hd⟩ := chk_to hd
    have r1 := r.mono s1
    rw [List.append_nil]
    exact call_use r1.mu r1.good.fr (den_pair q).of (by simpa using hl) (hd.imp (fun d _ z v H2 s2 dd => z v H2 (s1.trans s2) (Den.m r.good.sub dd.fo)) fun c z C H2 hm s2 => z C H2 hm (s1.trans s2))
theorem de_callB (G : FnOk X.prog X.w X.K X.mg X.base (L2.CX X.prog X.w) k f' fd ps (spD X.K X.mg n F)) (hr : Room k X.A) (hm : X.mg x = some (.ref f')) (hk : PySem.W.keepIn X.K (.ref f') = true) (hb : Binds X.K fd ps [])
    (tk : Takes X W) (ha : DAQ X W H0 L (e :: es) fa) (hg : Gl X x := by rfl) (hdb : (x == ("__debug__" : Str)) = false := by decide) (he : starEach (e :: es) X.env = (false, eval e X.env) :: starEach es X.env := by rfl) (hpl : (backTo pos (starEach es X.env)).any (·.1) = false := by rfl) :
    DE m X W H0 L (.Call (.Name x p) (e :: es) [] pos) (callB n F fa) :=
  peimp (pe_callSD G hr hg hm hk hb .nil (fun σ => passAt tk σ) ha hdb he hpl) fun σ H Q ⟨ε, LL, r, h⟩ => by
    unfold callB at h
    rw [Rs.to_bind] at h
    refine ⟨ε, LL, r, h.imp (fun ds _ hd vs H1 s1 q1 => ?_) fun n z => z⟩
    obtain ⟨hl, hd⟩ := chk_to hd
    have r1 := r.mono s1
    rw [List.append_nil]
    rw [Rs.to_bind] at hd
    refine ⟨by rw [← q1.length]; simpa using hl, L.f, olds ds, fun a z => r1.mu a (r1.sub a z), q1.olds, hd.imp (fun d _ z v H2 s2 dd => ?_) fun c z C H2 hm s2 => z C H2 hm (s1.trans s2)⟩
    obtain ⟨hfr, z⟩ := chk_to z
    have r2 := r1.mono s2
    refine z v H2 (s1.trans s2) (Den.m r.good.sub ?_)
    refine Den.kp .refl (fun a z => r1.good.fr a z) (Den.fresh (fun a ha hz => r1.trk a hz ha) (fun a xs hL ha hz => ?_) dd hfr)
    obtain ⟨o, e2, mu⟩ := r2.mu a hz
    rw [ha] at e2
    cases e2
    exact mu

/-! ### a list that a call gives back stands nowhere within itself -/
mutual
def size : Dat → Nat
  | .tup ds => sizes ds + 1
  | .lst _ ds => sizes ds + 1
  | _ => 1
def sizes : List Dat → Nat
  | [] => 0
  | d :: r => size d + sizes r
end
variable {H1 H2 : Hp} {L1 : Lk}
mutual
theorem size_eq : ∀ {d e : Dat} {v : V}, Den K H0 LL H d v → Den K H1 L1 H e v → fresh d = true → fresh e = true → size d = size e
  | .non, e, _, h, g, _, c => by cases h; cases e <;> first | rfl | (cases g; done) | (obtain ⟨_, _, q, _⟩ := g; cases q; done) | (cases c; done)
  | .bl _, e, _, h, g, _, c => by cases h; cases e <;> first | rfl | (cases g; done) | (obtain ⟨_, _, q, _⟩ := g; cases q; done) | (cases c; done)
  | .int _, e, _, h, g, _, c => by cases h; cases e <;> first | rfl | (cases g; done) | (obtain ⟨_, _, q, _⟩ := g; cases q; done) | (cases c; done)
  | .str _, e, _, h, g, _, c => by cases h; cases e <;> first | rfl | (cases g; done) | (obtain ⟨_, _, q, _⟩ := g; cases q; done) | (cases c; done)
  | .tup ds, e, _, ⟨a, vs, ev, t, h⟩, g, c1, c => by
    subst ev
    cases e with
    | tup es =>
      obtain ⟨b, ws, ev, u, g⟩ := g
      cases ev
      have q := t.2.symm.trans u.2
      cases q
      exact congrArg (· + 1) (sizes_eq h g c1 c)
    | lst t' es =>
      obtain ⟨b, ws, ev, _, _, u, g⟩ := g
      cases ev
      have q := t.2.symm.trans u
      cases q
    | dK _ _ => cases c
    | dT _ _ => cases c
    | scr _ => cases c
    | cst _ => cases c
    | hvl => cases c
    | cel _ => cases c
    | als _ _ => cases c
    | dN _ => cases c
    | reg _ => cases c
    | exn _ => cases c
    | _ => cases g
  | .lst tt ds, e, _, ⟨a, vs, ev, _, _, t, h⟩, g, c1, c => by
    subst ev
    have c1' : (tt && freshs ds) = true := c1
    rw [Bool.and_eq_true] at c1'
    cases e with
    | tup es =>
      obtain ⟨b, ws, ev, u, g⟩ := g
      cases ev
      have q := t.symm.trans u.2
      cases q
    | lst t' es =>
      have c' : (t' && freshs es) = true := c
      rw [Bool.and_eq_true] at c'
      obtain ⟨b, ws, ev, _, _, u, g⟩ := g
      cases ev
      have q := t.symm.trans u
      cases q
      exact congrArg (· + 1) (sizes_eq h g c1'.2 c'.2)
    | dK _ _ => cases c
    | dT _ _ => cases c
    | scr _ => cases c
    | cst _ => cases c
    | hvl => cases c
    | cel _ => cases c
    | als _ _ => cases c
    | dN _ => cases c
    | reg _ => cases c
    | exn _ => cases c
    | _ => cases g
  | .dK _ _, _, _, _, _, c, _ => nomatch c
  | .dT _ _, _, _, _, _, c, _ => nomatch c
  | .scr _, _, _, _, _, c, _ => nomatch c
  | .cst _, _, _, _, _, c, _ => nomatch c
  | .hvl, _, _, _, _, c, _ => nomatch c
  | .cel _, _, _, _, _, c, _ => nomatch c
  | .als _ _, _, _, _, _, c, _ => nomatch c
  | .dN _, _, _, _, _, c, _ => nomatch c
  | .reg _, _, _, _, _, c, _ => nomatch c
  | .exn _, _, _, _, _, c, _ => nomatch c
theorem sizes_eq : ∀ {ds es : List Dat} {vs : List V}, DenL K H0 LL H ds vs → DenL K H1 L1 H es vs → freshs ds = true → freshs es = true → sizes ds = sizes es
  | [], [], _, _, _, _, _ => rfl
  | [], _ :: _, _, h, ⟨_, _, e, _, _⟩, _, _ => by cases h; cases e
  | _ :: _, [], _, ⟨_, _, e, _, _⟩, h, _, _ => by cases h; cases e
  | d :: ds, e :: es, _, ⟨v, r, ev, h, t⟩, ⟨v', r', ev', g, u⟩, c1, c2 => by
    subst ev
    cases ev'
    have c1' : (fresh d && freshs ds) = true := c1
    have c2' : (fresh e && freshs es) = true := c2
    rw [Bool.and_eq_true] at c1' c2'
    show size d + sizes ds = size e + sizes es
    rw [size_eq h g c1'.1 c2'.1, sizes_eq t u c1'.2 c2'.2]
end
variable {a0 : Addr} {vs0 : List V} {N : Nat}
mutual
theorem Den.apart (hv : H a0 = some (.lst vs0)) (hN : ∀ e, fresh e = true → Den K H0 LL H e (.ref a0) → size e = N) : ∀ {d : Dat} {v : V}, Den K H0 LL H d v → fresh d = true → size d < N → Den K H0 (LL.or a0) H d v
  | .non, _, h, _, _ => h
  | .bl _, _, h, _, _ => h
  | .int _, _, h, _, _ => h
  | .str _, _, h, _, _ => h
  | .tup ds, _, ⟨a, vs, e, t, h⟩, c, hs => ⟨a, vs, e, ⟨(by
      intro z
      rcases z with z | z
      · exact t.1 z
      · subst z
        have q := hv.symm.trans t.2
        cases q), t.2⟩, DenL.apart hv hN h c (Nat.lt_of_succ_lt hs)⟩
  | .lst tt ds, _, ⟨a, vs, e, hl, ht, ha, h⟩, c, hs => by
    have c' : (tt && freshs ds) = true := c
    rw [Bool.and_eq_true] at c'
    refine ⟨a, vs, e, fun z => ?_, ht, ha, DenL.apart hv hN h c'.2 (Nat.lt_of_succ_lt hs)⟩
    rcases z with z | z
    · exact hl z
    · subst z
      have := hN (.lst tt ds) c ⟨a, vs, rfl, hl, ht, ha, h⟩
      omega
  | .dK _ _, _, _, c, _ => nomatch c
  | .dT _ _, _, _, c, _ => nomatch c
  | .scr _, _, _, c, _ => nomatch c
  | .cst _, _, _, c, _ => nomatch c
  | .hvl, _, _, c, _ => nomatch c
  | .cel _, _, _, c, _ => nomatch c
  | .als _ _, _, _, c, _ => nomatch c
  | .dN _, _, _, c, _ => nomatch c
  | .reg _, _, _, c, _ => nomatch c
  | .exn _, _, _, c, _ => nomatch c
theorem DenL.apart (hv : H a0 = some (.lst vs0)) (hN : ∀ e, fresh e = true → Den K H0 LL H e (.ref a0) → size e = N) : ∀ {ds : List Dat} {vs : List V}, DenL K H0 LL H ds vs → freshs ds = true → sizes ds < N → DenL K H0 (LL.or a0) H ds vs
  | [], _, h, _, _ => h
  | d :: ds, _, ⟨v, r, e, h, t⟩, c, hs => by
    have c' : (fresh d && freshs ds) = true := c
    rw [Bool.and_eq_true] at c'
    have hs' : size d + sizes ds < N := hs
    exact ⟨v, r, e, h.apart hv hN c'.1 (by omega), t.apart hv hN c'.2 (by omega)⟩
end
theorem Den.alone {ds : List Dat} {a : Addr} (h : Den K H0 LL H (.lst true ds) (.ref a)) (c : freshs ds = true) : ∃ vs, H a = some (.lst vs) ∧ H0 a = none ∧ DenL K H0 (LL.or a) H ds vs := by
  obtain ⟨b, vs, e, hl, ht, ha, q⟩ := id h
  cases e
  refine ⟨vs, ha, ht rfl, q.apart (N := sizes ds + 1) ha (fun e c2 g => ?_) c (Nat.lt_succ_self _)⟩
  exact (size_eq g h c2 c)
/-- the list that comes back from a def -/
def lstOf : Dat → Rs (List Dat)
  | .lst true ds => chk (freshs ds) (.ok ds)
  | _ => .no
def ownC (f : DEnv → Rs Dat) (ε : DEnv) : Rs (List Dat) := f ε >>= lstOf
theorem lstOf_to {d : Dat} {P : List Dat → Prop} {E : Str → Prop} (h : (lstOf d).to P E) : ∃ ds, d = .lst true ds ∧ freshs ds = true ∧ P ds := by
  unfold lstOf at h
  split at h
  · obtain ⟨hc, h⟩ := chk_to h
    exact ⟨_, rfl, hc, h⟩
  · exact h.elim
theorem df_call (hc : L.c = false) (G : FnOk X.prog X.w X.K X.mg X.base (L2.CX X.prog X.w) k f' fd ps (spD X.K X.mg n F)) (hr : Room k X.A) (hm : X.mg x = some (.ref f')) (hk : PySem.W.keepIn X.K (.ref f') = true) (hb : Binds X.K fd ps [])
    (tk : Takes X W) (ha : DA true X W H0 L (e :: es) fa) (hg : Gl X x := by rfl) (hdb : (x == ("__debug__" : Str)) = false := by decide) (he : starEach (e :: es) X.env = (false, eval e X.env) :: starEach es X.env := by rfl) (hpl : (backTo pos (starEach es X.env)).any (·.1) = false := by rfl) :
    DF X W H0 L (.Call (.Name x p) (e :: es) [] pos) (ownC (callD n F fa)) :=
  peimp (pe_callSD G hr hg hm hk hb .nil (fun σ => passAt tk σ) ha hdb he hpl) fun σ H Q ⟨ε, LL, r, h⟩ => by
    unfold ownC callD at h
    rw [Rs.to_bind, Rs.to_bind] at h
    refine ⟨ε, LL, r, h.imp (fun ds _ hd vs H1 s1 q => ?_) fun n z => z⟩
    obtain ⟨hl, hd⟩ := chk_to hd
    have r1 := r.mono s1
    rw [List.append_nil]
    have q1 := den_pair q
    have hlen : ds.length = n := by simpa using hl
    refine ⟨by rw [← q1.length]; exact hlen, _, olds ds, r1.mu, q1.of.olds, hd.imp (fun d _ z v H2 s2 dd => ?_) fun c z C H2 hm s2 => z C H2 hm (s1.trans s2)⟩
    obtain ⟨es, rfl, hc, z⟩ := lstOf_to z
    have dd := dd.fo
    obtain ⟨a, ws, ev, _⟩ := id dd
    subst ev
    obtain ⟨ws, ha, hn, q2⟩ := Den.alone dd hc
    exact z a ws H2 (s1.trans s2) (s1.free hn) ha (q2.kp .refl r1.good.fr)
end
end DL

set_option maxRecDepth 100000
set_option maxHeartbeats 4000000
/-! DLf: targets, walks, loops, comprehensions, defs. -/
namespace DL
open PySem PySem.Spec PyProof.Rows L2

section
variable {X : Cx} {W : WX} {H0 : Hp} {L : Lp} {m : Bool} {a b e : Expr} {es : List Expr} {pos : Pos} {f g : DEnv → Rs Dat} {fa : DEnv → Rs (List Dat)} {st : Stmt} {sts body : List Stmt} {fs gs : DEnv → Rs Out}
variable {K : PySem.W.Frag} {mg : Str → Option Value} {σ : L2.St} {H : Hp} {ε : DEnv} {tg iter : Expr} {P : Nat → Prop}
/-! ### targets -/
def tG (P : Nat → Prop) (K : PySem.W.Frag) (H0 : Hp) (L : Lp) (g : Dat → DEnv → Option DEnv) : TG := fun v σ H Q => ∃ ε LL d, Rel K H0 L LL ε σ H ∧ Den K H0 LL H d v ∧ ∃ ε', g d ε = some ε' ∧
  ∀ σ', Rel K H0 L LL ε' σ' H → (∀ j, ¬ P j → σ'[j]? = σ[j]?) → σ'.length = σ.length → Q σ' H
structure DG (P : Nat → Prop) (X : Cx) (H0 : Hp) (L : Lp) (tg : Expr) (g : Dat → DEnv → Option DEnv) : Prop where
  pg : PG X tg (tG P X.K H0 L g)
  loc : ∀ d ε ε', g d ε = some ε' → ∀ j, ¬ P j → ε'[j]? = ε[j]?
def gN (i : Nat) (d : Dat) (ε : DEnv) : Option DEnv := some (ε.set i (some (false, d)))
theorem dg_name (i : Nat) {x : Str} (hN : X.N.Nodup) (hP : P i) (hi : X.N[i]? = some x := by rfl) (hx : Loc X.env.scope x := by first | exact .inl rfl | exact .inr rfl) (hf : X.fn x = true ∨ X.env.scope.names.lookup x = some .local := by first | exact .inl rfl | exact .inr rfl | assumption) : DG P X H0 L (.Name x pos) (gN i) := by
  refine ⟨?_, fun d ε ε' e j hj => by cases e; exact set_get_ne fun z => hj (by rw [z]; exact hP)⟩
  refine ⟨fun pins s σ H v u Q I r ⟨ε, LL, d, rel, hd, ε', e, h⟩ => ?_⟩
  cases e
  have r1 := rel.setv (i := i) (by rw [I.len]; exact lt_of_get hi) hd
  refine (pg_name hN hi hx hf).run pins s σ H v u Q I r (h _ r1 (fun j hj => set_get_ne fun z => hj (by rw [z]; exact hP)) (by rw [List.length_set]))
/-- several names -/
def tGs (P : Nat → Prop) (K : PySem.W.Frag) (H0 : Hp) (L : Lp) (g : List Dat → DEnv → Option DEnv) : TGs := fun vs σ H Q => ∃ ε LL ds, Rel K H0 L LL ε σ H ∧ DenL K H0 LL H ds vs ∧ ∃ ε', g ds ε = some ε' ∧
  ∀ σ', Rel K H0 L LL ε' σ' H → (∀ j, ¬ P j → σ'[j]? = σ[j]?) → σ'.length = σ.length → Q σ' H
structure DGs (P : Nat → Prop) (X : Cx) (H0 : Hp) (L : Lp) (tg : List Expr) (g : List Dat → DEnv → Option DEnv) : Prop where
  pg : PGs X tg (tGs P X.K H0 L g)
  loc : ∀ d ε ε', g d ε = some ε' → ∀ j, ¬ P j → ε'[j]? = ε[j]?
def gNil' : List Dat → DEnv → Option DEnv
  | [], ε => some ε
  | _, _ => none
def gCons' (g : Dat → DEnv → Option DEnv) (gs : List Dat → DEnv → Option DEnv) : List Dat → DEnv → Option DEnv
  | d :: r, ε => (g d ε).bind (gs r)
  | _, _ => none
theorem dgs_nil : DGs P X H0 L [] gNil' := by
  refine ⟨?_, fun d ε ε' e j hj => by unfold gNil' at e; split at e <;> cases e; rfl⟩
  refine ⟨fun pins s σ H vs us Q I r ⟨ε, LL, ds, rel, hd, ε', e, h⟩ => ?_⟩
  unfold gNil' at e
  split at e
  · cases e
    cases hd
    exact pgs_nil.run pins s σ H [] us Q I r ⟨rfl, h σ rel (fun _ _ => rfl) rfl⟩
  · cases e
theorem dgs_cons {g : Dat → DEnv → Option DEnv} {gs : List Dat → DEnv → Option DEnv} (h1 : DG P X H0 L e g) (h2 : DGs P X H0 L es gs)
    (hs : (assignEach (e :: es) X.env).map (·.2) = assign e X.env :: (assignEach es X.env).map (·.2) := by rfl) : DGs P X H0 L (e :: es) (gCons' g gs) := by
  refine ⟨?_, fun d ε ε' e j hj => by
    unfold gCons' at e
    split at e
    · rename_i d r
      cases hg : g d ε with
      | none => rw [hg] at e; cases e
      | some ε1 => rw [hg] at e; exact (h2.loc _ _ _ e j hj).trans (h1.loc _ _ _ hg j hj)
    · cases e⟩
  refine ⟨fun pins s σ H vs us Q I r ⟨ε, LL, ds, rel, hd, ε', e, h⟩ => ?_⟩
  unfold gCons' at e
  split at e
  · rename_i d r' 
    obtain ⟨v, vr, ev, q1, q2⟩ := hd
    subst ev
    cases hg : g d ε with
    | none => rw [hg] at e; cases e
    | some ε1 =>
      rw [hg] at e
      refine (pgs_cons h1.pg h2.pg hs).run pins s σ H _ us Q I r ⟨v, vr, rfl, ε, LL, d, rel, q1, ε1, hg, fun σ1 r1 j1 l1 => ⟨ε1, LL, r', r1, q2, ε', e, fun σ2 r2 j2 l2 => h σ2 r2 (fun j hj => (j2 j hj).trans (j1 j hj)) (l2.trans l1)⟩⟩
  · cases e
def gT (gs : List Dat → DEnv → Option DEnv) : Dat → DEnv → Option DEnv
  | .tup ds, ε => gs ds ε
  | _, _ => none
/-- how many names: told by the length that gs takes -/
theorem dg_tup {k n : Nat} {gs : List Dat → DEnv → Option DEnv} (hc : X.calm = true) (h : DGs P X H0 L es gs) (hl : ∀ ds ε ε', gs ds ε = some ε' → ds.length = n)
    (hn : (assignEach es X.env).length = n := by rfl) (hst : (assignEach es X.env).findIdx? (·.1) = none := by rfl) : DG P X H0 L (.Tuple es k pos) (gT gs) := by
  refine ⟨?_, fun d ε ε' e j hj => by
    unfold gT at e
    split at e
    · exact h.loc _ _ _ e j hj
    · cases e⟩
  refine ⟨fun pins s σ H v u Q I r ⟨ε, LL, d, rel, hd, ε', e, h2⟩ => ?_⟩
  unfold gT at e
  split at e
  · obtain ⟨a, vs, ev, t, q⟩ := hd
    exact (pg_tup hc h.pg hn hst).run pins s σ H v u Q I r ⟨a, vs, ev, t.sq, by rw [← q.length]; exact hl _ _ _ e, ε, LL, _, rel, q, ε', e, h2⟩
  · cases e
theorem gl_nil : ∀ ds ε ε', gNil' ds ε = some ε' → ds.length = 0 := fun ds ε ε' h => by
  unfold gNil' at h
  split at h
  · rfl
  · cases h
theorem gl_cons {n : Nat} {g : Dat → DEnv → Option DEnv} {gs : List Dat → DEnv → Option DEnv} (h : ∀ ds ε ε', gs ds ε = some ε' → ds.length = n) : ∀ ds ε ε', gCons' g gs ds ε = some ε' → ds.length = n + 1 := fun ds ε ε' e => by
  unfold gCons' at e
  split at e
  · rename_i d r
    cases hg : g d ε with
    | none => rw [hg] at e; cases e
    | some ε1 => rw [hg] at e; exact congrArg (· + 1) (h _ _ _ e)
  · cases e
/-- target = value -/
def asgD (g : Dat → DEnv → Option DEnv) (f : DEnv → Rs Dat) (ε : DEnv) : Rs Out := f ε >>= fun d => Rs.of (g d ε) >>= fun ε' => .ok (.nx ε')
theorem ds_asg {g : Dat → DEnv → Option DEnv} (he : DE true X W H0 L e f) (hg : DG (fun _ => True) X H0 L tg g) (hs : swapsWithSole [tg] e pos.line X.env = pure false := by rfl) (hw : swappedStores [tg] e X.env = pure none := by rfl)
    (h1 : (assignEach [tg] X.env).map (·.2) = [assign tg X.env] := by rfl) : DS X W H0 L (.Assign [tg] e pos) (asgD g f) :=
  psimp (ps_asg he hg.pg hs hw h1) fun D σ H _ h => tD.expr (m := true) h fun ε LL d v H' r q h => by
    rw [Rs.to_bind] at h
    obtain ⟨ε', e, h⟩ := Rs.to_of h
    exact ⟨ε, LL, d, r, q, ε', e, fun σ' r' _ _ => h LL σ' H' r' .refl⟩

/-! ### walks -/
structure Wlk (m : Bool) (K : PySem.W.Frag) (H0 : Hp) (LL : Lk) (H : Hp) (J : It) (ds : List Dat) : Prop where
  run : ∀ (L2 : Lp) (LL2 : Lk) H2, Good H0 L2 LL2 H2 → Kp LL LL2 H H2 → (m = false → Same H H2) → ∀ i, (∀ d, ds[i]? = some d → J.go i H2 ∧ ∀ x H3, J.yld i H2 x H3 → Same H2 H3 ∧ Den K H0 LL2 H3 d x) ∧ (ds.length ≤ i → J.stop i H2)
def tI (m : Bool) (K : PySem.W.Frag) (mg : Str → Option Value) (W : WX) (H0 : Hp) (L : Lp) (w : DEnv → Rs (List Dat)) : TI := fun σ H R => ∃ ε LL, Rel K H0 L LL ε σ H ∧
  (w ε).to (fun ds => ∀ J H', Same H H' → Wlk m K H0 LL H' J ds → R J H') (XW mg W σ H)
def DI (m : Bool) (X : Cx) (W : WX) (H0 : Hp) (L : Lp) (tg iter : Expr) (w : DEnv → Rs (List Dat)) : Prop := PI X tg iter (tI m X.K X.mg W H0 L w)
theorem piimp {t t' : TI} (h : PI X tg iter t) (k : ∀ σ H R, t' σ H R → t σ H R) : PI X tg iter t' := ⟨fun pins s σ H R I q => h.run pins s σ H R I (k σ H R q)⟩
theorem pior {t t' : TI} (h : PI X tg iter t) (h' : PI X tg iter t') : PI X tg iter (fun σ H R => t σ H R ∨ t' σ H R) :=
  ⟨fun pins s σ H R I q => q.elim (h.run pins s σ H R I) (h'.run pins s σ H R I)⟩
theorem peor {t t' : TE} (h : PE X e t) (h' : PE X e t') : PE X e (fun σ H Q => t σ H Q ∨ t' σ H Q) :=
  ⟨fun pins s σ H Q I q => q.elim (h.run pins s σ H Q I) (h'.run pins s σ H Q I)⟩
/-- the operand's value known ahead: for two rules of one expression -/
theorem tE.alt {f : DEnv → Rs Dat} {Q : VK} {A B : VK} (h : tE m K mg W H0 L f σ H Q) : True := trivial
def asL : Dat → Rs (List Dat)
  | .lst _ ds => .ok ds
  | _ => .no
def asT : Dat → Rs (List Dat)
  | .tup ds => .ok ds
  | _ => .no
theorem wlk_list {LL : Lk} {p : Addr} {ds : List Dat} {vs : List V} (hp : H p = some (.lst vs)) (hl : m = true → ¬ LL p) (q : DenL K H0 LL H ds vs) : Wlk m K H0 LL H (Itl K p) ds := ⟨fun L2 LL2 H2 g k s i => by
  have hp2 : H2 p = some (.lst vs) := by
    cases m with
    | true => exact (k.k p _ (hl rfl) hp).2
    | false => exact s rfl _ _ hp
  have hS : SqL K H2 p vs := .of hp2
  refine ⟨fun d hd => ?_, fun hi => ⟨vs, hS, by rw [← q.length]; exact hi⟩⟩
  obtain ⟨v, hv, qd⟩ := q.get hd
  refine ⟨⟨vs, v, hS, hv⟩, fun x H3 ⟨e, y⟩ => ?_⟩
  subst e
  have : v = x := Option.some.inj (hv.symm.trans (y vs hS))
  subst this
  exact ⟨Same.refl _, qd.kp k fun _ z => z⟩⟩
theorem wlk_tup {LL : Lk} {p : Addr} {ds : List Dat} {vs : List V} (hp : H p = some (.tup vs)) (hl : ¬ LL p) (q : DenL K H0 LL H ds vs) : Wlk m K H0 LL H (Itt K p) ds := ⟨fun L2 LL2 H2 g k s i => by
  have hp2 : H2 p = some (.tup vs) := (k.k p _ hl hp).2
  have hS : SqT K H2 p vs := .of hp2
  refine ⟨fun d hd => ?_, fun hi => ⟨vs, hS, by rw [← q.length]; exact hi⟩⟩
  obtain ⟨v, hv, qd⟩ := q.get hd
  refine ⟨⟨vs, v, hS, hv⟩, fun x H3 ⟨e, y⟩ => ?_⟩
  subst e
  have : v = x := Option.some.inj (hv.symm.trans (y vs hS))
  subst this
  exact ⟨Same.refl _, qd.kp k fun _ z => z⟩⟩
def walkD (f : DEnv → Rs Dat) (ε : DEnv) : Rs (List Dat) := f ε >>= asL
def walkT (f : DEnv → Rs Dat) (ε : DEnv) : Rs (List Dat) := f ε >>= asT
theorem di_list (he : DE m X W H0 L e f) : DI m X W H0 L tg e (walkD f) :=
  piimp (pi_list he) fun σ H R ⟨ε, LL, r, h⟩ => by
    unfold walkD at h
    rw [Rs.to_bind] at h
    refine ⟨ε, LL, r, h.imp (fun d _ hd v H1 s1 q => ?_) fun n z => z⟩
    cases d with
    | lst t ds =>
      cases m with
      | true =>
        obtain ⟨a, vs, ev, hl, ht, ha, q⟩ := q
        exact ⟨a, ev, ⟨vs, .of ha⟩, hd _ _ s1 (wlk_list ha (fun _ => hl) q)⟩
      | false =>
        obtain ⟨a, vs, ev, hl, ht, ha, q⟩ := q
        exact ⟨a, ev, ⟨vs, .of ha⟩, hd _ _ s1 (wlk_list ha (fun z => nomatch z) q)⟩
    | _ => exact hd.elim
theorem di_tup (he : DE m X W H0 L e f) : DI m X W H0 L tg e (walkT f) :=
  piimp (pi_tup he) fun σ H R ⟨ε, LL, r, h⟩ => by
    unfold walkT at h
    rw [Rs.to_bind] at h
    refine ⟨ε, LL, r, h.imp (fun d _ hd v H1 s1 q => ?_) fun n z => z⟩
    cases d with
    | tup ds =>
      have q' : Den X.K H0 LL H1 (.tup ds) v := by cases m <;> exact q
      obtain ⟨a, vs, ev, ha, q⟩ := q'
      exact ⟨a, ev, ⟨vs, .of ha.2⟩, hd _ _ s1 (wlk_tup ha.2 ha.1 q)⟩
    | _ => exact hd.elim
def rng (lo : Int) (n : Nat) : List Dat := (List.range n).map fun (i : Nat) => Dat.int (lo + i)
theorem wlk_rng {LL : Lk} {lo : Int} {n : Nat} : Wlk m K H0 LL H (Itr lo n) (rng lo n) := ⟨fun L2 LL2 H2 g k s i => by
  refine ⟨fun d hd => ?_, fun hi => by simpa [rng, Itr] using hi⟩
  unfold rng at hd
  rw [List.getElem?_map] at hd
  by_cases hi : i < n
  · rw [List.getElem?_range hi] at hd
    cases hd
    exact ⟨hi, fun x H3 ⟨e, y⟩ => by subst e; exact ⟨Same.refl _, y⟩⟩
  · rw [List.getElem?_eq_none (by simp; omega)] at hd
    cases hd⟩
noncomputable def inR (i : Int) : Bool := cls (-(2 ^ 62) ≤ i ∧ i < 2 ^ 62)
theorem inR_true {i : Int} (h : -(2 ^ 62) ≤ i) (h2 : i < 2 ^ 62) : DL.inR i = true := cls_true ⟨h, h2⟩
noncomputable def asR1 : List Dat → Rs (List Dat)
  | [.int j] => chk (DL.inR j) (.ok (rng 0 j.toNat))
  | _ => .no
noncomputable def asR2 : List Dat → Rs (List Dat)
  | [.int i, .int j] => chk (DL.inR i && DL.inR j) (.ok (rng i (j - i).toNat))
  | _ => .no
def rngD (f : List Dat → Rs (List Dat)) (fa : DEnv → Rs (List Dat)) (ε : DEnv) : Rs (List Dat) := fa ε >>= f
theorem pair1 {LL : Lk} {d : Dat} {vs : List V} (h : Paired (DM m K H0 L LL H) [d] vs) : ∃ v, vs = [v] ∧ DM m K H0 L LL H d v := by
  cases h with
  | cons h t => cases t; exact ⟨_, rfl, h⟩
theorem pair2 {LL : Lk} {d e : Dat} {vs : List V} (h : Paired (DM m K H0 L LL H) [d, e] vs) : ∃ v w, vs = [v, w] ∧ DM m K H0 L LL H d v ∧ DM m K H0 L LL H e w := by
  cases h with
  | cons h t => obtain ⟨w, ev, t2⟩ := pair1 t; subst ev; exact ⟨_, _, rfl, h, t2⟩
theorem inR_ok {i : Int} (h : DL.inR i = true) : -(2 ^ 62) ≤ i ∧ i < 2 ^ 62 := cls_ok h
theorem di_range1 {p : Pos} (hm : X.mg "range" = none) (ha : DA false X W H0 L [a] fa) (hg : Gl X "range" := by rfl) (hs : starEach [a] X.env = [(false, eval a X.env)] := by rfl) : DI m X W H0 L tg (.Call (.Name "range" p) [a] [] pos) (rngD asR1 fa) :=
  piimp (pi_range1 hg hm ha hs) fun σ H R ⟨ε, LL, r, h⟩ => by
    unfold rngD at h
    rw [Rs.to_bind] at h
    refine ⟨ε, LL, r, h.imp (fun ds _ hd vs H1 s1 q => ?_) fun n z => z⟩
    unfold asR1 at hd
    split at hd
    · obtain ⟨hz, hd⟩ := chk_to hd
      obtain ⟨v, rfl, q1⟩ := pair1 q
      have q1 : v = _ := q1
      subst q1
      exact ⟨_, rfl, (inR_ok hz).1, (inR_ok hz).2, hd _ _ s1 wlk_rng⟩
    · exact hd.elim
theorem di_range2 {p : Pos} (hm : X.mg "range" = none) (ha : DA false X W H0 L [a, b] fa) (hg : Gl X "range" := by rfl) (hs : starEach [a, b] X.env = [(false, eval a X.env), (false, eval b X.env)] := by rfl) (hs2 : starEach [b] X.env = [(false, eval b X.env)] := by rfl) : DI m X W H0 L tg (.Call (.Name "range" p) [a, b] [] pos) (rngD asR2 fa) :=
  piimp (pi_range2 hg hm ha hs hs2) fun σ H R ⟨ε, LL, r, h⟩ => by
    unfold rngD at h
    rw [Rs.to_bind] at h
    refine ⟨ε, LL, r, h.imp (fun ds _ hd vs H1 s1 q => ?_) fun n z => z⟩
    unfold asR2 at hd
    split at hd
    · obtain ⟨hz, hd⟩ := chk_to hd
      rw [Bool.and_eq_true] at hz
      obtain ⟨v, w, rfl, q1, q2⟩ := pair2 q
      have q1 : v = _ := q1
      have q2 : w = _ := q2
      subst q1 q2
      exact ⟨_, _, rfl, ⟨(inR_ok hz.1).1, (inR_ok hz.1).2, (inR_ok hz.2).1, (inR_ok hz.2).2⟩, hd _ _ s1 wlk_rng⟩
    · exact hd.elim

/-! ### for -/
def forD (body : Dat → DEnv → Rs Out) : List Dat → DEnv → Rs Out
  | [], ε => .ok (.nx ε)
  | d :: r, ε => body d ε >>= fun o => match o with
    | .nx ε' => forD body r ε'
    | .ct ε' => forD body r ε'
    | .bk ε' => .ok (.nx ε')
    | .rt d => .ok (.rt d)
def trn (g : Dat → DEnv → Option DEnv) (fs : DEnv → Rs Out) (d : Dat) (ε : DEnv) : Rs Out := Rs.of (g d ε) >>= fs
def loopD (w : DEnv → Rs (List Dat)) (body : Dat → DEnv → Rs Out) (ε : DEnv) : Rs Out := w ε >>= fun ds => forD body ds ε
theorem ds_for {w : DEnv → Rs (List Dat)} {g : Dat → DEnv → Option DEnv} (hc : X.calm = true) (hp : PassesOwn (model X.prog X.w) X.A X.env X.xe) (hi : DI true X W H0 L tg iter w) (hg : DG (fun _ => True) X H0 L tg g) (hb : DSs X W H0 L body fs)
    (hs : ∀ x, foldedSetIterable iter X.env x = pure x := by intro _; rfl) : DS X W H0 L (.For tg iter body [] pos) (loopD w (trn g fs)) :=
  psimp (ps_for hp hc hi hg.pg hb hs) fun D σ H _ ⟨ε, LL, r, h⟩ => by
    unfold loopD at h
    rw [Rs.to_bind] at h
    refine ⟨ε, LL, r, h.imp (fun ds _ hd J H1 s1 wk => ?_) fun n z => z.w r.same⟩
    refine ⟨fun i m σ2 H2 => m = ds.length - i ∧ i ≤ ds.length ∧ ∃ ε2 L2, Rel X.K H0 L L2 ε2 σ2 H2 ∧ Kp LL L2 H1 H2 ∧ (forD (trn g fs) (ds.drop i) ε2).to (OutP X.K H0 L L2 H2 D) (XS X.mg W H0),
      ⟨ds.length, by simp, Nat.zero_le _, ε, LL, r.mono s1, .refl, hd.imp (fun o _ z => z.mono (.same s1)) fun n z => z⟩, ?_⟩
    rintro i m σ2 H2 ⟨rfl, hi, ε2, L2, r2, k2, h2⟩
    have wi := wk.run L L2 H2 r2.good k2 (fun z => nomatch z) i
    by_cases hlt : i < ds.length
    · have hdi : ds[i]? = some ds[i] := List.getElem?_eq_getElem hlt
      have hdrop : ds.drop i = ds[i] :: ds.drop (i + 1) := List.drop_eq_getElem_cons hlt
      rw [hdrop] at h2
      have h2 : (trn g fs ds[i] ε2 >>= fun o => match o with
        | .nx ε' => forD (trn g fs) (ds.drop (i + 1)) ε'
        | .ct ε' => forD (trn g fs) (ds.drop (i + 1)) ε'
        | .bk ε' => .ok (.nx ε')
        | .rt d => .ok (.rt d)).to _ _ := h2
      unfold trn at h2
      rw [Rs.to_bind, Rs.to_bind] at h2
      obtain ⟨ε3, he3, h3⟩ := Rs.to_of h2
      obtain ⟨go, yl⟩ := wi.1 _ hdi
      refine .inr ⟨go, fun σ' H' => ∃ ε2 L2, Rel X.K H0 L L2 ε2 σ' H' ∧ Kp LL L2 H1 H' ∧ (forD (trn g fs) (ds.drop (i + 1)) ε2).to (OutP X.K H0 L L2 H' D) (XS X.mg W H0),
        fun σ' H' z => ⟨ds.length - (i + 1), by omega, rfl, hlt, z⟩, fun x H3 hy => ?_⟩
      obtain ⟨s3, q3⟩ := yl x H3 hy
      have r3 := r2.mono s3
      refine ⟨ε2, L2, _, r3, q3, ε3, he3, fun σ4 r4 _ _ => ⟨ε3, L2, r4, h3.imp (fun o _ ho => ?_) fun n z => z⟩⟩
      have kk : Kp L2 L2 H2 H3 := Kp.same s3
      cases o with
      | nx ε' => exact fun L5 σ5 H5 r5 k5 => ⟨ε', L5, r5, k2.trans (kk.trans k5), (show (forD (trn g fs) (ds.drop (i + 1)) ε').to _ _ from ho).imp (fun o _ z => z.mono (kk.trans k5)) fun n z => z⟩
      | ct ε' => exact fun L5 σ5 H5 r5 k5 => ⟨ε', L5, r5, k2.trans (kk.trans k5), (show (forD (trn g fs) (ds.drop (i + 1)) ε').to _ _ from ho).imp (fun o _ z => z.mono (kk.trans k5)) fun n z => z⟩
      | bk ε' => exact fun L5 σ5 H5 r5 k5 => ho L5 σ5 H5 r5 (kk.trans k5)
      | rt d => exact ho
    · have e : i = ds.length := by omega
      subst e
      rw [List.drop_length] at h2
      exact .inl ⟨wi.2 (Nat.le_refl _), h2 L2 σ2 H2 r2 .refl⟩

/-! ### while -/
def whileD (c : DEnv → Rs Bool) (fs : DEnv → Rs Out) : Nat → DEnv → Rs Out
  | 0, _ => .no
  | n + 1, ε => c ε >>= fun b => if b = true then (fs ε >>= fun o => match o with
      | .nx ε' => whileD c fs n ε'
      | .ct ε' => whileD c fs n ε'
      | .bk ε' => .ok (.nx ε')
      | .rt d => .ok (.rt d)) else .ok (.nx ε)
theorem ds_while (n : Nat) {c : DEnv → Rs Bool} (hp : PassesOwn (model X.prog X.w) X.A X.env X.xe) (hc : DT X W H0 L e c) (hb : DSs X W H0 L body fs) : DS X W H0 L (.While e body [] pos) (whileD c fs n) :=
  psimp (ps_while hp hc hb) fun D σ H _ ⟨ε, LL, r, h⟩ => by
    refine ⟨fun m σ2 H2 => ∃ ε2 L2, Rel X.K H0 L L2 ε2 σ2 H2 ∧ (whileD c fs m ε2).to (OutP X.K H0 L L2 H2 D) (XS X.mg W H0), ⟨n, ε, LL, r, h⟩, ?_⟩
    rintro m σ2 H2 ⟨ε2, L2, r2, h2⟩
    cases m with
    | zero => exact h2.elim
    | succ m =>
      unfold whileD at h2
      rw [Rs.to_bind] at h2
      refine ⟨ε2, L2, r2, h2.imp (fun b _ hb H3 s3 => ?_) fun n z => z.w r2.same⟩
      have r3 := r2.mono s3
      cases b with
      | true =>
        have hb : (fs ε2 >>= fun o => match o with
          | .nx ε' => whileD c fs m ε'
          | .ct ε' => whileD c fs m ε'
          | .bk ε' => .ok (.nx ε')
          | .rt d => .ok (.rt d)).to _ _ := hb
        rw [Rs.to_bind] at hb
        refine ⟨fun σ' H' => ∃ ε2 L2, Rel X.K H0 L L2 ε2 σ' H' ∧ (whileD c fs m ε2).to (OutP X.K H0 L L2 H' D) (XS X.mg W H0), fun σ' H' z => ⟨m, Nat.lt_succ_self _, z⟩, ε2, L2, r3, hb.imp (fun o _ ho => ?_) fun n z => z⟩
        have kk : Kp L2 L2 H2 H3 := .same s3
        cases o with
        | nx ε' => exact fun L5 σ5 H5 r5 k5 => ⟨ε', L5, r5, (show (whileD c fs m ε').to _ _ from ho).imp (fun o _ z => z.mono (kk.trans k5)) fun n z => z⟩
        | ct ε' => exact fun L5 σ5 H5 r5 k5 => ⟨ε', L5, r5, (show (whileD c fs m ε').to _ _ from ho).imp (fun o _ z => z.mono (kk.trans k5)) fun n z => z⟩
        | bk ε' => exact fun L5 σ5 H5 r5 k5 => ho L5 σ5 H5 r5 (kk.trans k5)
        | rt d => exact ho
      | false => exact hb L2 σ2 H3 r3 (.same s3)
end
end DL

set_option maxRecDepth 100000
set_option maxHeartbeats 4000000
/-! DLg: comprehensions, defs. -/
namespace DL
open PySem PySem.Spec PyProof.Rows L2

/-! ### comprehensions -/
def wipeD (ε : DEnv) : List Nat → DEnv
  | [] => ε
  | v :: vs => (wipeD ε vs).set v none
def noOwn (ε : DEnv) : List Nat → Bool
  | [] => true
  | v :: vs => (match ε[v]? with | some (some (true, _)) => false | _ => true) && noOwn ε vs
def Rs.nox {α : Type} : Rs α → Rs α
  | .ok a => .ok a
  | _ => .no
@[simp] theorem Rs.nox_ok {α : Type} (a : α) : (Rs.ok a).nox = .ok a := rfl
def compL (F : Dat → Rs (Option Dat)) : List Dat → Rs (List Dat)
  | [] => .ok []
  | d :: r => F d >>= fun o => compL F r >>= fun zs => .ok (match o with | some z => z :: zs | none => zs)
def compT (g : Dat → DEnv → Option DEnv) (c : DEnv → Rs Bool) (fe : DEnv → Rs Dat) (ε : DEnv) (d : Dat) : Rs (Option Dat) :=
  Rs.of (g d ε) >>= fun ε2 => (c ε2).nox >>= fun b => if b = true then (fe ε2).nox >>= fun z => .ok (some z) else .ok none
noncomputable def compD (w : DEnv → Rs (List Dat)) (g : Dat → DEnv → Option DEnv) (c : DEnv → Rs Bool) (fe : DEnv → Rs Dat) (vs : List Nat) (ε : DEnv) : Rs (List Dat) :=
  w ε >>= fun ds => chk (sz ds.length && noOwn ε vs) (compL (compT g c fe (wipeD ε vs)) ds)
abbrev W0 : WX := fun _ _ _ _ => False
def DTs (X : Cx) (W : WX) (H0 : Hp) (L : Lp) (es : List Expr) (f : DEnv → Rs Bool) : Prop := PTs X es (tT X.K X.mg W H0 L f)
def yesT (_ : DEnv) : Rs Bool := .ok true

section
variable {K : PySem.W.Frag} {H0 H H1 H2 : Hp} {L : Lp} {LL : Lk} {ε : DEnv} {σ : L2.St} {D : Addr}
theorem wipeD_get {i : Nat} {x : Bool × Dat} : ∀ {vs : List Nat}, (wipeD ε vs)[i]? = some (some x) → ε[i]? = some (some x) ∧ i ∉ vs
  | [], h => ⟨h, by simp⟩
  | v :: vs, h => by
    unfold wipeD at h
    rcases get_set _ _ _ _ _ h with ⟨_, _, z⟩ | ⟨hj, e⟩
    · cases z
    · obtain ⟨h1, h2⟩ := wipeD_get e
      exact ⟨h1, by simp only [List.mem_cons, not_or]; exact ⟨hj, h2⟩⟩
theorem wipeD_out {i : Nat} : ∀ {vs : List Nat}, i ∉ vs → (wipeD ε vs)[i]? = ε[i]?
  | [], _ => rfl
  | v :: vs, h => by
    simp only [List.mem_cons, not_or] at h
    unfold wipeD
    rw [set_get_ne h.1, wipeD_out h.2]
theorem wipe_out' {i : Nat} : ∀ {vs : List Nat}, i ∉ vs → (wipe σ vs)[i]? = σ[i]?
  | [], _ => rfl
  | v :: vs, h => by
    simp only [List.mem_cons, not_or] at h
    unfold wipe
    rw [set_get_ne h.1, wipe_out' h.2]
theorem wipeD_length : ∀ vs : List Nat, (wipeD ε vs).length = ε.length
  | [] => rfl
  | v :: vs => by unfold wipeD; rw [List.length_set, wipeD_length vs]
theorem noOwn_not {i : Nat} {d : Dat} : ∀ {vs : List Nat}, noOwn ε vs = true → ε[i]? = some (some (true, d)) → i ∉ vs
  | [], _, _ => by simp
  | v :: vs, h, e => by
    unfold noOwn at h
    rw [Bool.and_eq_true] at h
    simp only [List.mem_cons, not_or]
    refine ⟨fun z => ?_, noOwn_not h.2 e⟩
    rw [← z, e] at h
    exact Bool.false_ne_true h.1
theorem Rel.block (r : Rel K H0 L LL ε σ H) {vs : List Nat} (hv : noOwn ε vs = true) (hs : Same H H2) (hD : H D = none) (hD2 : ∃ o, H2 D = some o ∧ Mut (some o)) :
    Rel K H0 (L.or D) (LL.or D) (wipeD ε vs) (L2.wipe σ vs) H2 := by
  have kp : Kp LL (LL.or D) H H2 := kp_or' hs hD
  refine ⟨r.same.trans hs, fun b h => h.imp (r.sub b) id, fun b h => ?_, by rw [wipeD_length, wipe_length]; exact r.len, fun i d e => ?_, fun i d e => ?_, fun i j d e a e1 e2 e3 e4 => ?_, fun j i p d e1 e2 => ?_⟩
  · rcases h with h | h
    · obtain ⟨o, e, m⟩ := r.mu b h
      exact ⟨o, hs _ _ e, m⟩
    · rw [h]; exact hD2
  · obtain ⟨e1, h1⟩ := wipeD_get e
    obtain ⟨v, e2, q⟩ := r.val i d e1
    exact ⟨v, by rw [wipe_out' h1]; exact e2, q.kp kp fun _ z => z⟩
  · obtain ⟨e1, h1⟩ := wipeD_get e
    obtain ⟨v, e2, g1, g4⟩ := r.own i d e1
    refine ⟨v, by rw [wipe_out' h1]; exact e2, fun a m => ⟨.inl (g1 a m).1, fun z => ?_, (g1 a m).2.2⟩, g4.kp kp (fun _ z => z) fun a _ o z => hs _ _ z⟩
    rcases z with z | z
    · exact (g1 a m).2.1 z
    · exact r.trk a (g1 a m).1 (by rw [z]; exact hD)
  · obtain ⟨f1, h1⟩ := wipeD_get e1
    obtain ⟨f2, h2⟩ := wipeD_get e2
    exact r.uni i j d e a f1 f2 e3 e4
  · obtain ⟨f1, h1⟩ := wipeD_get e1
    obtain ⟨f2, h2⟩ := wipeD_get e2
    obtain ⟨w, a, g1, g2, g3⟩ := r.als j i p d f1 f2
    exact ⟨w, a, by rw [wipe_out' h2]; exact g1, g2.mono fun b hb => ⟨hb, fun o ho => ⟨o, hs _ _ ho, fun _ _ z => z⟩⟩, by rw [wipe_out' h1]; exact g3⟩
theorem wipe_eq {σ' : L2.St} {vs : List Nat} (h : ∀ j, j ∉ vs → σ'[j]? = σ[j]?) (hl : σ'.length = σ.length) : wipe σ' vs = wipe σ vs := by
  apply List.ext_getElem?
  intro j
  by_cases hj : j ∈ vs
  · have go : ∀ (τ : L2.St) (ws : List Nat), j ∈ ws → (wipe τ ws)[j]? = if j < τ.length then some none else none := by
      intro τ ws
      induction ws with
      | nil => intro h; cases h
      | cons v ws ih =>
        intro h
        unfold wipe
        rw [List.getElem?_set]
        by_cases e : v = j
        · rw [if_pos e]
          have : (wipe τ ws).length = τ.length := wipe_length τ ws
          rw [this, e]
        · rw [if_neg e]
          exact ih ((List.mem_cons.mp h).resolve_left fun z => e z.symm)
    rw [go σ' vs hj, go σ vs hj, hl]
  · rw [wipe_out' hj, wipe_out' hj]
    exact h j hj
end

section
variable {X : Cx} {W : WX} {H0 : Hp} {L : Lp} {m : Bool} {a b e : Expr} {es : List Expr} {pos : Pos} {f fe : DEnv → Rs Dat} {fa w : DEnv → Rs (List Dat)} {c : DEnv → Rs Bool} {g : Dat → DEnv → Option DEnv} {tg iter elt : Expr} {ifs : List Expr} {scope : Scope} {own : List (Str × Nat)}
theorem dts_nil : DTs X W H0 L [] yesT := ⟨fun pins s σ H Q I ⟨ε, LL, r, h⟩ => pts_nil.run pins s σ H Q I (h H (Same.refl H))⟩
theorem dts_one (h : DT X W H0 L e c) : DTs X W H0 L [e] c := pts_one h
theorem nox_to {α : Type} {x : Rs α} {P : α → Prop} {E E' : Str → Prop} (h : (x.nox).to P E) : x.to P E' := by
  cases x with
  | ok a => exact h
  | ex n => exact h.elim
  | no => exact h.elim
theorem pgex {ι : Type} {t : ι → TG} (h : ∀ L, PG X tg (t L)) : PG X tg (fun v σ H Q => ∃ L, t L v σ H Q) := ⟨fun pins s σ H v u Q I r ⟨L, q⟩ => (h L).run pins s σ H v u Q I r q⟩
theorem peex {ι : Type} {t : ι → TE} (h : ∀ L, PE X e (t L)) : PE X e (fun σ H Q => ∃ L, t L σ H Q) := ⟨fun pins s σ H Q I ⟨L, q⟩ => (h L).run pins s σ H Q I q⟩
theorem ptsex {ι : Type} {t : ι → TT} (h : ∀ L, PTs X es (t L)) : PTs X es (fun σ H Q => ∃ L, t L σ H Q) := ⟨fun pins s σ H Q I ⟨L, q⟩ => (h L).run pins s σ H Q I q⟩
theorem lc_use {K : PySem.W.Frag} {mg : Str → Option Value} {σ : L2.St} {H : Hp} {Q : VK} {vs : List Nat} (hloc : ∀ d ε ε', g d ε = some ε' → ∀ j, ¬ j ∈ vs → ε'[j]? = ε[j]?) (h : tF K mg W H0 L (compD w g c fe vs) σ H Q) :
    tLc (tI false K mg W H0 L w) (fun v σ H Q => ∃ M : {M : Lp // M.c = L.c}, tG (fun j => j ∈ vs) K H0 M.1 g v σ H Q) (fun σ H Q => ∃ M : {M : Lp // M.c = L.c}, tT K mg W0 H0 M.1 c σ H Q) (fun σ H Q => ∃ M : {M : Lp // M.c = L.c}, tE true K mg W0 H0 M.1 fe σ H Q) vs σ H Q := by
  obtain ⟨ε, LL, r, h⟩ := h
  unfold compD at h
  rw [Rs.to_bind] at h
  refine ⟨ε, LL, r, h.imp (fun ds _ hd J H1 s1 wk D hD => ?_) fun n z => z⟩
  obtain ⟨hz, hd⟩ := chk_to hd
  rw [Bool.and_eq_true] at hz
  have hsz := sz_ok hz.1
  have hHD : H D = none := s1.free hD
  refine ⟨fun i m H2 => m = ds.length - i ∧ i ≤ ds.length ∧ Same H1 H2 ∧ ∃ acc dacc, H2 D = some (.lst acc) ∧ acc.length ≤ i ∧ DenL K H0 (LL.or D) H2 dacc acc ∧
      (compL (compT g c fe (wipeD ε vs)) (ds.drop i)).to (fun zs => ∀ a us H', Same H H' → H a = none → H' a = some (.lst us) → DenL K H0 (LL.or a) H' (dacc ++ zs) us → Q (.ref a) H') (XW mg W σ H),
    ⟨ds.length, by simp, Nat.zero_le _, same_new hD, [], [], upd_same, Nat.le_refl _, rfl, hd⟩, ?_⟩
  rintro i m H2 ⟨rfl, hi, s2, acc, dacc, hacc, hlen, dden, h2⟩
  have hH2 : Same H H2 := s1.trans s2
  have good : ∀ {H3 : Hp}, Same H2 H3 → Good H0 (L.or D) (LL.or D) H3 := fun {H3} s3 => ⟨fun _ z => z.imp (r.sub _) id, (by
    intro b z
    rcases z with z | z
    · obtain ⟨o, e, m⟩ := r.mu b z
      exact ⟨o, (hH2.trans s3) _ _ e, m⟩
    · exact ⟨.lst acc, by rw [z]; exact s3 _ _ hacc, trivial⟩), fun b e => r.same.free ((hH2.trans s3).free e)⟩
  have wi := wk.run (L.or D) (LL.or D) H2 (good (Same.refl _)) (kp_or s2 hD) (fun _ => s2) i
  by_cases hlt : i < ds.length
  · have hdi : ds[i]? = some ds[i] := List.getElem?_eq_getElem hlt
    have hdrop : ds.drop i = ds[i] :: ds.drop (i + 1) := List.drop_eq_getElem_cons hlt
    rw [hdrop] at h2
    unfold compL at h2
    rw [Rs.to_bind] at h2
    unfold compT at h2
    rw [Rs.to_bind] at h2
    obtain ⟨ε2, he2, h3⟩ := Rs.to_of h2
    rw [Rs.to_bind] at h3
    obtain ⟨go, yl⟩ := wi.1 _ hdi
    refine .inr ⟨go, fun H' => Same H1 H' ∧ ∃ acc dacc, H' D = some (.lst acc) ∧ acc.length ≤ i + 1 ∧ DenL K H0 (LL.or D) H' dacc acc ∧
      (compL (compT g c fe (wipeD ε vs)) (ds.drop (i + 1))).to (fun zs => ∀ a us H', Same H H' → H a = none → H' a = some (.lst us) → DenL K H0 (LL.or a) H' (dacc ++ zs) us → Q (.ref a) H') (XW mg W σ H),
      fun H' z => ⟨ds.length - (i + 1), by omega, rfl, hlt, z⟩, fun x H3 hy => ?_⟩
    obtain ⟨s3, q3⟩ := yl x H3 hy
    have hD3 : H3 D = some (.lst acc) := s3 _ _ hacc
    have r3 := r.block hz.2 (hH2.trans s3) hHD ⟨_, hD3, trivial⟩
    refine ⟨⟨L.or D, rfl⟩, wipeD ε vs, LL.or D, ds[i], r3, q3, ε2, he2, fun σ2 r4 j4 l4 => ⟨?_, ?_⟩⟩
    · exact wipe_eq (fun j hj => (j4 j hj).trans (wipe_out' hj)) (l4.trans (wipe_length _ _))
    · refine ⟨⟨L.or D, rfl⟩, ε2, LL.or D, r4, (nox_to h3).imp (fun b _ hb H4 s4 => ?_) fun n z => z⟩
      cases b with
      | true =>
        simp only [if_true] at hb ⊢
        rw [Rs.to_bind] at hb
        refine ⟨⟨L.or D, rfl⟩, ε2, LL.or D, r4.mono s4, (nox_to hb).imp (fun z _ hz y H5 s5 dz => ?_) fun n z => z⟩
        have hD5 : H5 D = some (.lst acc) := s5 _ _ (s4 _ _ hD3)
        have sn : Kp (LL.or D) (LL.or D) H5 (upd H5 D (.lst (acc ++ [y]))) := kp_mut (.inr rfl) .lst
        refine ⟨acc, hD5, by omega, fun b o e => ?_, acc ++ [y], dacc ++ [z], upd_same, by rw [List.length_append]; simp; exact hlen, ?_, ?_⟩
        · rw [upd_ne (ne_of_none e hD)]
          exact s5 _ _ (s4 _ _ (s3 _ _ (s2 _ _ e)))
        · refine DenL.app ?_ ⟨y, [], rfl, ?_, rfl⟩
          · exact (dden.same (s3.trans (s4.trans s5))).kp sn fun _ z => z
          · exact Den.kp sn (fun _ z => z) (show Den _ _ _ _ _ _ from dz)
        · have hz' : (compL (compT g c fe (wipeD ε vs)) (ds.drop (i + 1)) >>= fun zs => Rs.ok (z :: zs)).to _ _ := hz
          rw [Rs.to_bind] at hz'
          refine hz'.imp (fun zs _ q a us H' s hn ha dd => ?_) fun n z => z
          rw [List.append_assoc] at dd
          exact q a us H' s hn ha dd
      | false =>
        simp only [Bool.false_eq_true, if_false] at hb ⊢
        have hb' : (compL (compT g c fe (wipeD ε vs)) (ds.drop (i + 1)) >>= fun zs => Rs.ok zs).to _ _ := hb
        rw [Rs.to_bind] at hb'
        exact ⟨s2.trans (s3.trans s4), acc, dacc, s4 _ _ hD3, Nat.le_succ_of_le hlen, dden.same (s3.trans s4), hb'⟩
  · have e : i = ds.length := by omega
    subst e
    rw [List.drop_length] at h2
    refine .inl ⟨wi.2 (Nat.le_refl _), ?_⟩
    have h2' : ∀ a us H', Same H H' → H a = none → H' a = some (.lst us) → DenL K H0 (LL.or a) H' (dacc ++ []) us → Q (.ref a) H' := h2
    rw [List.append_nil] at h2'
    exact h2' D acc H2 hH2 hHD hacc dden

theorem df_lc (hc : X.calm = true) (hN : X.N.Nodup) (hi : DI false X W H0 L tg iter w) (ok : BlkOk X.N X.env.scope scope own)
    {vs : List Nat} (hg : ∀ (s : Shared) (H : Hp) (C : Addr) (cl : List (Str × Addr)) (fp : List Addr) (M : Lp), M.c = L.c → DG (fun j => j ∈ vs) (X.blk s H scope (compEnvC scope cl C X.env) fp) H0 M tg g)
    (ht : ∀ (s : Shared) (H : Hp) (C : Addr) (cl : List (Str × Addr)) (fp : List Addr) (M : Lp), M.c = L.c → DTs (X.blk s H scope (compEnvC scope cl C X.env) fp) W0 H0 M ifs c)
    (he : ∀ (s : Shared) (H : Hp) (C : Addr) (cl : List (Str × Addr)) (fp : List Addr) (M : Lp), M.c = L.c → DE true (X.blk s H scope (compEnvC scope cl C X.env) fp) W0 H0 M elt fe)
    (hvs : own.map (·.2) = vs := by rfl) (hs : ∀ x, foldedSetIterable iter X.env x = pure x := by intro _; rfl) :
    DF X W H0 L (.ListComp elt [⟨tg, iter, ifs, 0⟩] scope pos) (compD w g c fe vs) := by
  subst hvs
  exact peimp (pe_lc hc hN hi ok (fun s H C cl fp => pgex (t := fun M : {M : Lp // M.c = L.c} => tG (fun j => j ∈ own.map (·.2)) X.K H0 M.1 g) fun M => (hg s H C cl fp M.1 M.2).pg) (fun s H C cl fp => ptsex (t := fun M : {M : Lp // M.c = L.c} => tT X.K X.mg W0 H0 M.1 c) fun M => ht s H C cl fp M.1 M.2) (fun s H C cl fp => peex (t := fun M : {M : Lp // M.c = L.c} => tE true X.K X.mg W0 H0 M.1 fe) fun M => he s H C cl fp M.1 M.2) hs) fun σ H Q h => lc_use (hg X.s_0 H 0 [] [] L rfl).loc h
theorem ds_setLc (i : Nat) {y : Str} {py spos : Pos} (hc : X.calm = true) (hN : X.N.Nodup) (hi : DI false X W H0 L tg iter w) (ok : BlkOk X.N X.env.scope scope own)
    {vs : List Nat} (hg : ∀ (s : Shared) (H : Hp) (C : Addr) (cl : List (Str × Addr)) (fp : List Addr) (M : Lp), M.c = L.c → DG (fun j => j ∈ vs) (X.blk s H scope (compEnvC scope cl C X.env) fp) H0 M tg g)
    (ht : ∀ (s : Shared) (H : Hp) (C : Addr) (cl : List (Str × Addr)) (fp : List Addr) (M : Lp), M.c = L.c → DTs (X.blk s H scope (compEnvC scope cl C X.env) fp) W0 H0 M ifs c)
    (he : ∀ (s : Shared) (H : Hp) (C : Addr) (cl : List (Str × Addr)) (fp : List Addr) (M : Lp), M.c = L.c → DE true (X.blk s H scope (compEnvC scope cl C X.env) fp) W0 H0 M elt fe)
    (hy : X.N[i]? = some y := by rfl) (hyl : X.env.scope.names.lookup y = some .local := by rfl)
    (hsw : swapsWith (.ListComp elt [⟨tg, iter, ifs, 0⟩] scope pos) (some (.Name y py)) spos.line X.env = pure true := by exact sw_true rfl rfl rfl (by decide +kernel)) (hvs : own.map (·.2) = vs := by rfl) (hs : ∀ x, foldedSetIterable iter X.env x = pure x := by intro _; rfl) :
    DS X W H0 L (.Assign [.Name y py] (.ListComp elt [⟨tg, iter, ifs, 0⟩] scope pos) spos) (setD i (lstD (compD w g c fe vs))) ∧ DS X W H0 L (.Assign [.Name y py] (.ListComp elt [⟨tg, iter, ifs, 0⟩] scope pos) spos) (ownD i (compD w g c fe vs)) := by
  subst hvs
  have base := ps_setLc (i := i) hc hN hy hyl hsw hi ok (fun s H C cl fp => pgex (t := fun M : {M : Lp // M.c = L.c} => tG (fun j => j ∈ own.map (·.2)) X.K H0 M.1 g) fun M => (hg s H C cl fp M.1 M.2).pg) (fun s H C cl fp => ptsex (t := fun M : {M : Lp // M.c = L.c} => tT X.K X.mg W0 H0 M.1 c) fun M => ht s H C cl fp M.1 M.2) (fun s H C cl fp => peex (t := fun M : {M : Lp // M.c = L.c} => tE true X.K X.mg W0 H0 M.1 fe) fun M => he s H C cl fp M.1 M.2) hs
  refine ⟨psimp base fun D σ H hl ⟨ε, LL, r, h⟩ => ?_, psimp base fun D σ H hl ⟨ε, LL, r, h⟩ => ?_⟩
  · refine lc_use (W := W) (L := L) (hg X.s_0 H 0 [] [] L rfl).loc ⟨ε, LL, r, ?_⟩
    unfold setD lstD at h
    rw [Rs.to_bind, Rs.to_bind] at h
    refine h.imp (fun ds _ hd a vs H' s hn ha q => ?_) fun n z => z.w r.same
    have r1 := (r.mono s).setv (d := .lst true ds) (v := .ref a) (i := i) (by rw [hl]; exact lt_of_get hy) ⟨a, vs, rfl, fun z => r.trk a z hn, fun _ => r.same.free hn, ha, DenL.kp (L := LL.or a) ⟨fun b o n e => ⟨fun z => n (Or.inl z), e⟩, KL.refl⟩ (fun _ z => z) q⟩
    exact hd _ _ _ r1 (Kp.same s)
  · refine lc_use (W := W) (L := L) (hg X.s_0 H 0 [] [] L rfl).loc ⟨ε, LL, r, ?_⟩
    unfold ownD at h
    rw [Rs.to_bind] at h
    refine h.imp (fun ds _ hd a vs H' s hn ha q => ?_) fun n z => z.w r.same
    obtain ⟨r1, k1⟩ := r.setown (d := .lst true ds) (i := i) (by rw [hl]; exact lt_of_get hy) s hn ⟨vs, ha, q⟩
    exact hd _ _ _ r1 k1

/-! ### defs -/
variable {P : Program} {w' : World} {K : PySem.W.Frag} {mg : Str → Option Value} {base : Heap} {x qual : Str} {st : Stmt} {f' : Addr} {fd : FuncData} {N ps : List Str} {k : Nat} {fs : DEnv → Rs Out}
def startD (n : Nat) (ds : List Dat) : DEnv := ds.map (fun d => some (false, d)) ++ List.replicate (n - ds.length) none
def runF (n : Nat) (fs : DEnv → Rs Out) (ds : List Dat) : Rs Dat := fs (startD n ds) >>= fun o => match o with
  | .nx _ => .ok .non
  | .rt d => .ok d
  | _ => .no
theorem start_rel {H : Hp} {L : Addr → Prop} {ds : List Dat} {vs : List V} (hl : ∀ a, L a → ∃ o, H a = some o ∧ Mut (some o)) (q : DenL K H (Lk.of L) H ds vs) (N : List Str) (c : Bool) : Rel K H ⟨L, c⟩ (Lk.of L) (startD N.length ds) (L2.start N vs) H := by
  have hlen := q.length
  have none_own : ∀ (i : Nat) (d : Dat), (startD N.length ds)[i]? = some (some (true, d)) → False := fun i d e => by
    unfold startD at e
    rw [List.getElem?_append] at e
    split at e
    · rw [List.getElem?_map] at e
      cases h : ds[i]? with
      | none => rw [h] at e; cases e
      | some d' => rw [h] at e; cases e
    · rw [List.getElem?_replicate] at e
      split at e <;> cases e
  refine ⟨Same.refl H, fun a z => z, hl, ?_, fun i d e => ?_, fun i d e => (none_own i d e).elim, fun i j d e a e1 _ _ _ => (none_own i d e1).elim, fun j i p d e1 _ => (none_own j _ e1).elim⟩
  · unfold startD L2.start
    simp [hlen]
  · unfold startD at e
    rw [List.getElem?_append] at e
    split at e
    · rw [List.getElem?_map] at e
      cases h : ds[i]? with
      | none => rw [h] at e; cases e
      | some d' =>
        rw [h] at e
        cases e
        obtain ⟨v, hv, qd⟩ := q.get h
        refine ⟨v, ?_, qd⟩
        unfold L2.start
        rw [List.getElem?_append_left (by rw [List.length_map]; exact lt_of_get hv), List.getElem?_map, hv]
        rfl
    · rw [List.getElem?_replicate] at e
      split at e <;> cases e
theorem fn_okD (c : Bool) (Fn : Fun K x qual st f' fd) (S : FnScope N ps (defScope st))
    (hbody : ∀ (cdv : Value) (A : Around) (outer : List Env) (s : Shared) (H : Hp) (E : XK), Room k (A.deeper (envOfC qual (defScope st) s.heap.objs.size f' cdv)) → ∀ L : Lp, L.c = c →
      DSs (cxOf (L2.CX P w') P w' K mg base N qual (defScope st) f' cdv A outer s H E) (fun c d _ H' => E c d H') H L (defBody st) fs) : FnOk P w' K mg base (L2.CX P w') (k + 1) f' fd ps (spD K mg ps.length (runF N.length fs)) := by
  refine Fn.okX S (fun vs H Q E h => h.1) fun cdv A outer s H vs Q E hr ⟨hl, L, ds, trk, den, h⟩ => ⟨_, hbody cdv A outer s H E hr ⟨L, c⟩ rfl, startD N.length ds, Lk.of L, start_rel trk den N c, ?_⟩
  unfold runF at h
  rw [Rs.to_bind] at h
  refine h.imp (fun o _ ho => ?_) fun n z C σ H' hm s => z C H' hm s
  cases o with
  | nx ε => exact fun L2 σ' H' r k => ho .non H' r.same rfl
  | rt d => exact ho
  | bk ε => exact ho.elim
  | ct ε => exact ho.elim
theorem FnOk.spD_imp {n : Nat} {F G : List Dat → Rs Dat} (h : FnOk P w' K mg base (L2.CX P w') k f' fd ps (spD K mg n F)) (e : ∀ ds, F ds = G ds) : FnOk P w' K mg base (L2.CX P w') k f' fd ps (spD K mg n G) := by
  have : F = G := funext e
  rw [← this]
  exact h
end
end DL

set_option maxRecDepth 100000
set_option maxHeartbeats 4000000
/-! DLh: tests, subscripts, slices, built-ins, stores. -/
namespace DL
open PySem PySem.Spec PyProof.Rows L2

section
variable {X : Cx} {W : WX} {H0 : Hp} {L : Lp} {LL : Lk} {m : Bool} {a b e : Expr} {es rest : List Expr} {pos : Pos} {f g : DEnv → Rs Dat} {fa : DEnv → Rs (List Dat)} {c c' : DEnv → Rs Bool}
variable {K : PySem.W.Frag} {mg : Str → Option Value} {σ : L2.St} {H : Hp} {ε : DEnv}
/-! ### tests -/
def notT (c : DEnv → Rs Bool) (ε : DEnv) : Rs Bool := c ε >>= fun b => .ok (!b)
theorem dt_not (h : DT X W H0 L a c) : DT X W H0 L (.UnaryOp .Not a pos) (notT c) :=
  ptimp (pt_not h) fun σ H Q ⟨ε, LL, r, h⟩ => by
    unfold notT at h
    rw [Rs.to_bind] at h
    exact ⟨ε, LL, r, h⟩
def DW (X : Cx) (W : WX) (H0 : Hp) (L : Lp) (e : Expr) (f : DEnv → Rs Bool) : Prop := PW X e (tT X.K X.mg W H0 L f)
theorem pwimp {t t' : TT} (h : PW X e t) (k : ∀ σ H Q, t' σ H Q → t σ H Q) : PW X e t' := ⟨fun wh pins s σ H Q I q => h.run wh pins s σ H Q I (k σ H Q q)⟩
theorem DW.t (h : DW X W H0 L e c) : DT X W H0 L e c := PW.pt h
def andT (c c' : DEnv → Rs Bool) (ε : DEnv) : Rs Bool := c ε >>= fun b => if b = true then c' ε else .ok false
def orT (c c' : DEnv → Rs Bool) (ε : DEnv) : Rs Bool := c ε >>= fun b => if b = true then .ok true else c' ε
theorem dw_and1 (h : DT X W H0 L a c) : DW X W H0 L (.BoolOp .And [a] pos) c := pw_and1 h
theorem dw_or1 (h : DT X W H0 L a c) : DW X W H0 L (.BoolOp .Or [a] pos) c := pw_or1 h
theorem dw_and (h : DT X W H0 L a c) (h' : DW X W H0 L (.BoolOp .And (b :: rest) pos) c') : DW X W H0 L (.BoolOp .And (a :: b :: rest) pos) (andT c c') :=
  pwimp (pw_and h h') fun σ H Q ⟨ε, LL, r, h⟩ => by
    unfold andT at h
    rw [Rs.to_bind] at h
    refine ⟨ε, LL, r, h.imp (fun b _ hb H1 s1 => ?_) fun n z => z⟩
    cases b with
    | true => exact ⟨ε, LL, r.mono s1, (show (c' ε).to _ _ from hb).imp (fun b _ z H2 s2 => z H2 (s1.trans s2)) fun n z => z.mono s1⟩
    | false => exact hb H1 s1
theorem dw_or (h : DT X W H0 L a c) (h' : DW X W H0 L (.BoolOp .Or (b :: rest) pos) c') : DW X W H0 L (.BoolOp .Or (a :: b :: rest) pos) (orT c c') :=
  pwimp (pw_or h h') fun σ H Q ⟨ε, LL, r, h⟩ => by
    unfold orT at h
    rw [Rs.to_bind] at h
    refine ⟨ε, LL, r, h.imp (fun b _ hb H1 s1 => ?_) fun n z => z⟩
    cases b with
    | true => exact hb H1 s1
    | false => exact ⟨ε, LL, r.mono s1, (show (c' ε).to _ _ from hb).imp (fun b _ z H2 s2 => z H2 (s1.trans s2)) fun n z => z.mono s1⟩
def andV (f g : DEnv → Rs Dat) (ε : DEnv) : Rs Dat := f ε >>= fun d => asB d >>= fun b => if b = true then g ε else .ok (.bl false)
def orV (f g : DEnv → Rs Dat) (ε : DEnv) : Rs Dat := f ε >>= fun d => asB d >>= fun b => if b = true then .ok (.bl true) else g ε
theorem de_one {op} (h : DE m X W H0 L a f) : DE m X W H0 L (.BoolOp op [a] pos) f := pe_one h
theorem bl_den {d : Dat} {v : V} {P : Bool → Prop} {E : Str → Prop} (hd : DenS K H0 L LL H d v) (h : (asB d).to P E) : ∃ b, v = .bl b ∧ P b := by
  cases d with
  | bl b => exact ⟨b, hd, h⟩
  | _ => exact h.elim
theorem de_and (ha : DE false X W H0 L a f) (hb : DE m X W H0 L (.BoolOp .And (b :: rest) pos) g) : DE m X W H0 L (.BoolOp .And (a :: b :: rest) pos) (andV f g) :=
  peimp (pe_and ha hb) fun σ H Q ⟨ε, LL, r, h⟩ => by
    unfold andV at h
    rw [Rs.to_bind] at h
    refine ⟨ε, LL, r, h.imp (fun d _ hd v H1 s1 q => ?_) fun n z => z⟩
    rw [Rs.to_bind] at hd
    obtain ⟨b, ev, hb⟩ := bl_den q hd
    refine ⟨b, ev, ?_⟩
    cases b with
    | true => exact ⟨ε, LL, r.mono s1, (show (g ε).to _ _ from hb).imp (fun b _ z v H2 s2 => z v H2 (s1.trans s2)) fun n z => z.mono s1⟩
    | false => exact hb (.bl false) H1 s1 (Den.m (d := .bl false) r.good.sub rfl)
theorem de_or (ha : DE false X W H0 L a f) (hb : DE m X W H0 L (.BoolOp .Or (b :: rest) pos) g) : DE m X W H0 L (.BoolOp .Or (a :: b :: rest) pos) (orV f g) :=
  peimp (pe_or ha hb) fun σ H Q ⟨ε, LL, r, h⟩ => by
    unfold orV at h
    rw [Rs.to_bind] at h
    refine ⟨ε, LL, r, h.imp (fun d _ hd v H1 s1 q => ?_) fun n z => z⟩
    rw [Rs.to_bind] at hd
    obtain ⟨b, ev, hb⟩ := bl_den q hd
    refine ⟨b, ev, ?_⟩
    cases b with
    | true => exact hb (.bl true) H1 s1 (Den.m (d := .bl true) r.good.sub rfl)
    | false => exact ⟨ε, LL, r.mono s1, (show (g ε).to _ _ from hb).imp (fun b _ z v H2 s2 => z v H2 (s1.trans s2)) fun n z => z.mono s1⟩

/-! ### subscripts -/
theorem atI_den {ds : List Dat} {vs : List V} {i : Int} {d : Dat} (q : DenL K H0 LL H ds vs) (h : atI ds i = some d) : ∃ v, atI vs i = some v ∧ Den K H0 LL H d v := by
  unfold atI at h ⊢
  rw [← q.length]
  cases e : ixN ds.length i with
  | none => rw [e] at h; cases h
  | some j => rw [e] at h; exact q.get h
noncomputable def dIx : Dat → Dat → Option Dat
  | .lst _ ds, .int i => atI ds i
  | .tup ds, .int i => atI ds i
  | .str z, .int i => if sz z.length = true then (atI z.cps.toList i).map fun c => .str ⟨#[c]⟩ else none
  | _, _ => none
theorem opd_ix : OpD K (rIx K) dIx := by
  intro H0 L LL H x y d e z Q gd hx hy hz hq
  unfold dIx at hz
  split at hz
  · obtain ⟨p, vs, rfl, _, _, hp, q⟩ := hx
    obtain ⟨v, hv, qd⟩ := atI_den q hz
    exact .inl ⟨p, vs, _, v, rfl, hy, .of hp, hv, hq _ _ (Same.refl _) qd⟩
  · obtain ⟨p, vs, rfl, hp, q⟩ := hx
    obtain ⟨v, hv, qd⟩ := atI_den q hz
    exact .inr (.inl ⟨p, vs, _, v, rfl, hy, hp.sq, hv, hq _ _ (Same.refl _) qd⟩)
  · split at hz
    · rename_i s i hs
      cases hc : atI s.cps.toList i with
      | none => rw [hc] at hz; cases hz
      | some c =>
        rw [hc] at hz
        cases hz
        exact .inr (.inr ⟨s, i, c, hx, hy, sz_ok hs, hc, hq _ _ (Same.refl _) rfl⟩)
    · cases hz
  · cases hz
theorem de_ix (ha : DE false X W H0 L a f) (hb : DE false X W H0 L b g) (hs : PlainIx b := by intro _ _; rfl) : DE m X W H0 L (.Subscript a b pos) (bop dIx f g) :=
  peimp (pe_ix ix_seq ha hb hs) fun _ _ _ h => bin_use opd_ix h

/-! ### slices -/
def tO (K : PySem.W.Frag) (mg : Str → Option Value) (W : WX) (H0 : Hp) (L : Lp) (f : DEnv → Rs (Option Int)) : TO := fun σ H Q => ∃ ε LL, Rel K H0 L LL ε σ H ∧
  (f ε).to (fun i => ∀ H', Same H H' → Q i H') (XW mg W σ H)
def DO (X : Cx) (W : WX) (H0 : Hp) (L : Lp) (e : Option Expr) (f : DEnv → Rs (Option Int)) : Prop := PO X e (tO X.K X.mg W H0 L f)
theorem poimp {o : Option Expr} {t t' : TO} (h : PO X o t) (k : ∀ σ H Q, t' σ H Q → t σ H Q) : PO X o t' := ⟨fun pins s σ H Q I q => h.run pins s σ H Q I (k σ H Q q)⟩
def noO (_ : DEnv) : Rs (Option Int) := .ok none
def asI : Dat → Rs Int
  | .int i => .ok i
  | _ => .no
def smO (f : DEnv → Rs Dat) (ε : DEnv) : Rs (Option Int) := f ε >>= fun d => asI d >>= fun i => .ok (some i)
theorem do_none : DO X W H0 L none noO := poimp po_none fun σ H Q ⟨ε, LL, r, h⟩ => h H (Same.refl _)
theorem do_some (he : DE false X W H0 L e f) : DO X W H0 L (some e) (smO f) := poimp (po_some he) fun σ H Q ⟨ε, LL, r, h⟩ => by
  unfold smO at h
  rw [Rs.to_bind] at h
  refine ⟨ε, LL, r, h.imp (fun d _ hd v H1 s1 q => ?_) fun n z => z⟩
  rw [Rs.to_bind] at hd
  cases d with
  | int i => exact ⟨i, q, hd H1 s1⟩
  | _ => exact hd.elim
def cutD {α : Type} (xs : List α) (lo hi : Option Int) : List α := (xs.drop (HT.sIx xs.length 0 lo)).take (HT.sIx xs.length xs.length hi - HT.sIx xs.length 0 lo)
theorem cut_den {ds : List Dat} {vs : List V} (q : DenL K H0 LL H ds vs) (lo hi : Option Int) : DenL K H0 LL H (cutD ds lo hi) (cutV vs lo hi) := by
  unfold cutD cutV
  rw [q.length]
  exact (q.drop _).take _
theorem denL_int : ∀ ns : List Int, DenL K H0 LL H (ns.map .int) (ns.map V.int)
  | [] => rfl
  | n :: r => ⟨_, _, rfl, rfl, denL_int r⟩
theorem cut_map {α β : Type} (h : α → β) (xs : List α) (lo hi : Option Int) : cutD (xs.map h) lo hi = (cutD xs lo hi).map h := by
  unfold cutD
  rw [List.length_map, ← List.map_drop, ← List.map_take]
noncomputable def dSl : Dat → Option Int → Option Int → Option Dat
  | .lst _ ds, lo, hi => some (.lst true (cutD ds lo hi))
  | .tup ds, lo, hi => some (.tup (cutD ds lo hi))
  | .scr ns, lo, hi => some (.lst true ((cutD ns lo hi).map .int))
  | .str z, lo, hi => if sz z.length = true then some (.str (cutS z lo hi)) else none
  | _, _, _ => none
theorem cut_whole {α : Type} {xs : List α} {lo hi : Option Int} (h : HT.sIx xs.length 0 lo = 0 ∧ HT.sIx xs.length xs.length hi = xs.length) : cutD xs lo hi = xs := by
  unfold cutD
  rw [h.1, h.2]
  simp
theorem opd_sl {H0 : Hp} {x : V} {d z : Dat} {lo hi : Option Int} {Q : VK} (gd : Good H0 L LL H) (hx : DenS K H0 L LL H d x) (hz : dSl d lo hi = some z) (hq : ∀ v H', Same H H' → Den K H0 LL H' z v → Q v H') :
    rSlL K x lo hi H Q ∨ rSlA K x lo hi H Q ∨ rSlS x lo hi H Q := by
  unfold dSl at hz
  split at hz
  · cases hz
    obtain ⟨p, vs, rfl, _, _, hp, q⟩ := hx
    exact .inl ⟨p, vs, rfl, .of hp, fun r hr => hq _ _ (same_new hr) (gd.lst hr (cut_den q lo hi))⟩
  · cases hz
    obtain ⟨p, vs, rfl, hp, q⟩ := hx
    refine .inr (.inl ⟨p, vs, rfl, hp.sq, fun hw => ?_, fun hw r hr => hq _ _ (same_new hr) (gd.tup hr (cut_den q lo hi))⟩)
    rw [← q.length] at hw
    exact hq _ _ (Same.refl _) (by rw [cut_whole hw]; exact ⟨p, vs, rfl, hp, q⟩)
  · cases hz
    rename_i ns
    obtain ⟨p, rfl, hp⟩ := hx
    refine .inl ⟨p, _, rfl, hp.sq, fun r hr => hq _ _ (same_new hr) ?_⟩
    rw [← cut_map]
    exact gd.lst hr (cut_den (denL_int ns) lo hi)
  · split at hz
    · rename_i hs
      cases hz
      exact .inr (.inr ⟨_, hx, sz_ok hs, hq _ _ (Same.refl _) rfl⟩)
    · cases hz
  · cases hz
noncomputable def slD (f : DEnv → Rs Dat) (l h : DEnv → Rs (Option Int)) (ε : DEnv) : Rs Dat := f ε >>= fun d => l ε >>= fun lo => h ε >>= fun hi => Rs.of (dSl d lo hi)
theorem de_slice {lo hi : Option Expr} {p2 : Pos} {fl fh : DEnv → Rs (Option Int)} (he : DE false X W H0 L e f) (hl : DO X W H0 L lo fl) (hu : DO X W H0 L hi fh) : DE m X W H0 L (.Subscript e (.Slice lo hi none p2) pos) (slD f fl fh) :=
  peimp (pe_slice (sl_list.or (sl_tupA.or sl_str)) he hl hu) fun σ H Q ⟨ε, LL, r, h⟩ => by
    unfold slD at h
    rw [Rs.to_bind] at h
    refine ⟨ε, LL, r, h.imp (fun d _ hd v H1 s1 q => ?_) fun n z => z⟩
    rw [Rs.to_bind] at hd
    refine ⟨ε, LL, r.mono s1, hd.imp (fun lo _ hd H2 s2 => ?_) fun n z => z.mono s1⟩
    rw [Rs.to_bind] at hd
    refine ⟨ε, LL, r.mono (s1.trans s2), hd.imp (fun hi _ hd H3 s3 => ?_) fun n z => z.mono (s1.trans s2)⟩
    obtain ⟨z, hz, hq⟩ := Rs.to_of hd
    have s := s1.trans (s2.trans s3)
    exact opd_sl (r.mono s).good (DenS.same (s2.trans s3) q) hz fun v H' s' dd => hq v H' (s.trans s') (dd.m r.good.sub)
/-- xs[::-1] -/
def dRev : Dat → Option Dat
  | .lst _ ds => some (.lst true ds.reverse)
  | _ => none
theorem de_rev {k : Nat} {p1 p2 p3 : Pos} (he : DE false X W H0 L e f) : DE m X W H0 L (.Subscript e (.Slice none none (some (.UnaryOp .USub (.Constant (.int 1) k p1) p2)) p3) pos) (uop dRev f) :=
  peimp (pe_revL he) fun σ H Q h => un_use (r := fun x H1 Q => ∃ a xs, x = .ref a ∧ SqL X.K H1 a xs ∧ ∀ p, H1 p = none → Q (.ref p) (upd H1 p (.lst xs.reverse))) (fun {H0 L LL H x d z Q} gd hx hz hq => by
    unfold dRev at hz
    split at hz
    · cases hz
      obtain ⟨p, vs, rfl, _, _, hp, q⟩ := hx
      exact ⟨p, vs, rfl, .of hp, fun r hr => hq _ _ (same_new hr) (gd.lst hr q.rev)⟩
    · cases hz) h

/-! ### built-ins, by values -/
def OpL (K : PySem.W.Frag) (r : List V → Hp → VK → Prop) (F : List Dat → Option Dat) : Prop := ∀ {H0 : Hp} {L : Lp} {LL : Lk} {H : Hp} {vs : List V} {ds : List Dat} {z : Dat} {Q : VK}, Good H0 L LL H → Paired (DM false K H0 L LL H) ds vs → F ds = some z →
  (∀ v H', Same H H' → Den K H0 LL H' z v → Q v H') → r vs H Q
def biD (F : List Dat → Option Dat) (fa : DEnv → Rs (List Dat)) (ε : DEnv) : Rs Dat := fa ε >>= fun ds => Rs.of (F ds)
theorem l_use {r : List V → Hp → VK → Prop} {F : List Dat → Option Dat} {Q : VK} (hF : OpL K r F) (h : tE m K mg W H0 L (biD F fa) σ H Q) : tCB r (tA false K mg W H0 L fa) σ H Q := by
  obtain ⟨ε, LL, rel, h⟩ := h
  unfold biD at h
  rw [Rs.to_bind] at h
  refine ⟨ε, LL, rel, h.imp (fun ds _ hd vs H1 s1 q => ?_) fun n z => z⟩
  obtain ⟨z, hz, hq⟩ := Rs.to_of hd
  exact hF (rel.mono s1).good q hz fun v H3 s3 q => hq v H3 (s1.trans s3) (q.m rel.good.sub)
variable {x : Str} {idn T : String} {p : Pos} {r : List V → Hp → VK → Prop} {F : List Dat → Option Dat}
theorem de_bi (hc : CallR X (.builtin idn) r) (hF : OpL X.K r F) (hm : X.mg x = none) (hv : bootBuiltins x = some (.builtin idn)) (ha : DA false X W H0 L (e :: es) fa) (hg : Gl X x := by rfl) (hn : x ≠ "__name__" := by decide) (hdb : (x == ("__debug__" : Str)) = false := by decide)
    (he : starEach (e :: es) X.env = (false, eval e X.env) :: starEach es X.env := by rfl) (hpl : (backTo pos (starEach es X.env)).any (·.1) = false := by rfl) : DE m X W H0 L (.Call (.Name x p) (e :: es) [] pos) (biD F fa) :=
  peimp (pe_callB hc hg hm hv ha hn hdb he hpl) fun _ _ _ h => l_use hF h
theorem de_ty (hc : CallR X (.type T) r) (hF : OpL X.K r F) (hm : X.mg x = none) (hv : bootBuiltins x = some (.type T)) (ha : DA false X W H0 L (e :: es) fa) (hg : Gl X x := by rfl) (hn : x ≠ "__name__" := by decide) (hdb : (x == ("__debug__" : Str)) = false := by decide)
    (he : starEach (e :: es) X.env = (false, eval e X.env) :: starEach es X.env := by rfl) (hpl : (backTo pos (starEach es X.env)).any (·.1) = false := by rfl) : DE m X W H0 L (.Call (.Name x p) (e :: es) [] pos) (biD F fa) :=
  peimp (pe_callTy hc hg hm hv ha hn hdb he hpl) fun _ _ _ h => l_use hF h
theorem p1 {ds : List Dat} {d : Dat} {vs : List V} (h : Paired (DM false K H0 L LL H) [d] vs) : ∃ v, vs = [v] ∧ DenS K H0 L LL H d v := pair1 h
/-- len -/
noncomputable def dLen : List Dat → Option Dat
  | [.lst _ ds] => some (.int ds.length)
  | [.tup ds] => some (.int ds.length)
  | [.str z] => if sz z.length = true then some (.int z.length) else none
  | _ => none
theorem opl_len : OpL K (fun xs H Q => (∃ p ys, xs = [.ref p] ∧ (SqL K H p ys ∨ SqT K H p ys) ∧ Q (.int ys.length) H) ∨ ∃ z, xs = [.str z] ∧ z.length ≤ sizeLine ∧ Q (.int z.length) H) dLen := by
  intro H0 L LL H vs ds z Q gd hp hz hq
  unfold dLen at hz
  split at hz
  · obtain ⟨v, rfl, p, ws, rfl, _, _, h, q⟩ := pair1 hp
    cases hz
    exact .inl ⟨p, ws, rfl, .inl (.of h), by rw [← q.length]; exact hq _ _ (Same.refl _) rfl⟩
  · obtain ⟨v, rfl, p, ws, rfl, h, q⟩ := pair1 hp
    cases hz
    exact .inl ⟨p, ws, rfl, .inr h.sq, by rw [← q.length]; exact hq _ _ (Same.refl _) rfl⟩
  · split at hz
    · rename_i hs
      obtain ⟨v, rfl, hv⟩ := pair1 hp
      cases hz
      exact .inr ⟨_, by rw [show v = V.str _ from hv], sz_ok hs, hq _ _ (Same.refl _) rfl⟩
    · cases hz
  · cases hz
theorem de_len (hm : X.mg "len" = none) (ha : DA false X W H0 L (e :: es) fa) (hg : Gl X "len" := by rfl)
    (he : starEach (e :: es) X.env = (false, eval e X.env) :: starEach es X.env := by rfl) (hpl : (backTo pos (starEach es X.env)).any (·.1) = false := by rfl) : DE m X W H0 L (.Call (.Name "len" p) (e :: es) [] pos) (biD dLen fa) :=
  de_bi (call_len_seq.or call_len_str) opl_len hm PySem.boot_len ha hg (by decide) (by decide) he hpl
/-- truths -/
def blsD : List Dat → Option (List Bool)
  | [] => some []
  | .bl i :: r => (blsD r).map (i :: ·)
  | _ :: _ => none
theorem denL_bls : ∀ {ds : List Dat} {vs : List V} {ns : List Bool}, DenL K H0 LL H ds vs → blsD ds = some ns → vs = ns.map V.bl
  | [], _, _, h, e => by cases h; cases e; rfl
  | d :: r, _, ns, ⟨v, vr, e1, h, t⟩, e => by
    subst e1
    unfold blsD at e
    split at e
    · rename_i e2; cases e2
    · rename_i i r' e2
      cases e2
      cases q : blsD r with
      | none => rw [q] at e; cases e
      | some ms =>
        rw [q] at e
        cases e
        rw [denL_bls t q]
        cases h
        rfl
    · cases e
def dAny : List Dat → Option Dat
  | [.lst _ ds] => (blsD ds).map fun bs => .bl (bs.any id)
  | _ => none
def dAll : List Dat → Option Dat
  | [.lst _ ds] => (blsD ds).map fun bs => .bl (bs.all id)
  | _ => none
theorem opl_any : OpL K (rAny K) dAny := by
  intro H0 L LL H vs ds z Q gd hp hz hq
  unfold dAny at hz
  split at hz
  · rename_i tt ds
    obtain ⟨v, rfl, p, ws, rfl, _, _, h, q⟩ := pair1 hp
    cases hb : blsD ds with
    | none => rw [hb] at hz; cases hz
    | some bs =>
      rw [hb] at hz
      cases hz
      have := denL_bls q hb
      subst this
      exact ⟨p, bs, rfl, .of h, hq _ _ (Same.refl _) rfl⟩
  · cases hz
theorem opl_all : OpL K (rAll K) dAll := by
  intro H0 L LL H vs ds z Q gd hp hz hq
  unfold dAll at hz
  split at hz
  · rename_i tt ds
    obtain ⟨v, rfl, p, ws, rfl, _, _, h, q⟩ := pair1 hp
    cases hb : blsD ds with
    | none => rw [hb] at hz; cases hz
    | some bs =>
      rw [hb] at hz
      cases hz
      have := denL_bls q hb
      subst this
      exact ⟨p, bs, rfl, .of h, hq _ _ (Same.refl _) rfl⟩
  · cases hz
def dSum : List Dat → Option Dat
  | [.lst _ ds] => (intsD ds).map fun bs => .int bs.sum
  | _ => none
theorem opl_sum : OpL K (rSum K) dSum := by
  intro H0 L LL H vs ds z Q gd hp hz hq
  unfold dSum at hz
  split at hz
  · rename_i tt ds
    obtain ⟨v, rfl, p, ws, rfl, _, _, h, q⟩ := pair1 hp
    cases hb : intsD ds with
    | none => rw [hb] at hz; cases hz
    | some bs =>
      rw [hb] at hz
      cases hz
      have := denL_ints q hb
      subst this
      exact ⟨p, bs, rfl, .of h, hq _ _ (Same.refl _) rfl⟩
  · cases hz
theorem de_any (hc : X.calm = true) (hm : X.mg "any" = none) (ha : DA false X W H0 L (e :: es) fa) (hg : Gl X "any" := by rfl)
    (he : starEach (e :: es) X.env = (false, eval e X.env) :: starEach es X.env := by rfl) (hpl : (backTo pos (starEach es X.env)).any (·.1) = false := by rfl) : DE m X W H0 L (.Call (.Name "any" p) (e :: es) [] pos) (biD dAny fa) :=
  de_bi (cr_any hc) opl_any hm (by decide +kernel) ha hg (by decide) (by decide) he hpl
theorem de_all (hc : X.calm = true) (hm : X.mg "all" = none) (ha : DA false X W H0 L (e :: es) fa) (hg : Gl X "all" := by rfl)
    (he : starEach (e :: es) X.env = (false, eval e X.env) :: starEach es X.env := by rfl) (hpl : (backTo pos (starEach es X.env)).any (·.1) = false := by rfl) : DE m X W H0 L (.Call (.Name "all" p) (e :: es) [] pos) (biD dAll fa) :=
  de_bi (cr_all hc) opl_all hm (by decide +kernel) ha hg (by decide) (by decide) he hpl
theorem de_sum (hc : X.calm = true) (hm : X.mg "sum" = none) (ha : DA false X W H0 L (e :: es) fa) (hg : Gl X "sum" := by rfl)
    (he : starEach (e :: es) X.env = (false, eval e X.env) :: starEach es X.env := by rfl) (hpl : (backTo pos (starEach es X.env)).any (·.1) = false := by rfl) : DE m X W H0 L (.Call (.Name "sum" p) (e :: es) [] pos) (biD dSum fa) :=
  de_bi (cr_sum hc) opl_sum hm (by decide +kernel) ha hg (by decide) (by decide) he hpl
def dMin2 : List Dat → Option Dat
  | [.int i, .int j] => some (.int (if j < i then j else i))
  | _ => none
def dMax2 : List Dat → Option Dat
  | [.int i, .int j] => some (.int (if j > i then j else i))
  | _ => none
theorem opl_min2 : OpL K (fun xs H Q => ∃ i j, xs = [.int i, .int j] ∧ Q (.int (if j < i then j else i)) H) dMin2 := by
  intro H0 L LL H vs ds z Q gd hp hz hq
  unfold dMin2 at hz
  split at hz
  · obtain ⟨v, w, rfl, h1, h2⟩ := pair2 hp
    cases hz
    have h1 : v = _ := h1
    have h2 : w = _ := h2
    subst h1 h2
    exact ⟨_, _, rfl, hq _ _ (Same.refl _) rfl⟩
  · cases hz
theorem opl_max2 : OpL K (fun xs H Q => ∃ i j, xs = [.int i, .int j] ∧ Q (.int (if j > i then j else i)) H) dMax2 := by
  intro H0 L LL H vs ds z Q gd hp hz hq
  unfold dMax2 at hz
  split at hz
  · obtain ⟨v, w, rfl, h1, h2⟩ := pair2 hp
    cases hz
    have h1 : v = _ := h1
    have h2 : w = _ := h2
    subst h1 h2
    exact ⟨_, _, rfl, hq _ _ (Same.refl _) rfl⟩
  · cases hz
theorem de_min2 (hc : X.calm = true) (hm : X.mg "min" = none) (ha : DA false X W H0 L (e :: es) fa) (hg : Gl X "min" := by rfl)
    (he : starEach (e :: es) X.env = (false, eval e X.env) :: starEach es X.env := by rfl) (hpl : (backTo pos (starEach es X.env)).any (·.1) = false := by rfl) : DE m X W H0 L (.Call (.Name "min" p) (e :: es) [] pos) (biD dMin2 fa) :=
  de_bi (call_min2 hc) opl_min2 hm (by decide +kernel) ha hg (by decide) (by decide) he hpl
theorem de_max2 (hc : X.calm = true) (hm : X.mg "max" = none) (ha : DA false X W H0 L (e :: es) fa) (hg : Gl X "max" := by rfl)
    (he : starEach (e :: es) X.env = (false, eval e X.env) :: starEach es X.env := by rfl) (hpl : (backTo pos (starEach es X.env)).any (·.1) = false := by rfl) : DE m X W H0 L (.Call (.Name "max" p) (e :: es) [] pos) (biD dMax2 fa) :=
  de_bi (call_max2 hc) opl_max2 hm (by decide +kernel) ha hg (by decide) (by decide) he hpl
/-- tuple(x) -/
def dTuple : List Dat → Option Dat
  | [.lst _ ds] => some (.tup ds)
  | [.tup ds] => some (.tup ds)
  | _ => none
theorem opl_tuple : OpL K (fun xs H Q => ∃ p ys, xs = [.ref p] ∧ ((SqL K H p ys ∧ ∀ l, H l = none → Q (.ref l) (upd H l (.tup ys))) ∨ (SqT K H p ys ∧ Q (.ref p) H))) dTuple := by
  intro H0 L LL H vs ds z Q gd hp hz hq
  unfold dTuple at hz
  split at hz
  · obtain ⟨v, rfl, p, ws, rfl, _, _, h, q⟩ := pair1 hp
    cases hz
    exact ⟨p, ws, rfl, .inl ⟨.of h, fun l hl => hq _ _ (same_new hl) (gd.tup hl q)⟩⟩
  · obtain ⟨v, rfl, p, ws, rfl, h, q⟩ := pair1 hp
    cases hz
    exact ⟨p, ws, rfl, .inr ⟨h.sq, hq _ _ (Same.refl _) ⟨p, ws, rfl, h, q⟩⟩⟩
  · cases hz
theorem de_tuple (hm : X.mg "tuple" = none) (ha : DA false X W H0 L (e :: es) fa) (hg : Gl X "tuple" := by rfl)
    (he : starEach (e :: es) X.env = (false, eval e X.env) :: starEach es X.env := by rfl) (hpl : (backTo pos (starEach es X.env)).any (·.1) = false := by rfl) : DE m X W H0 L (.Call (.Name "tuple" p) (e :: es) [] pos) (biD dTuple fa) :=
  de_ty call_tuple_of opl_tuple hm (by decide +kernel) ha hg (by decide) (by decide) he hpl

/-! ### built-ins that make a list -/
def OpF (K : PySem.W.Frag) (r : List V → Hp → VK → Prop) (F : List Dat → Option (List Dat)) : Prop := ∀ {H0 : Hp} {L : Lp} {LL : Lk} {H : Hp} {vs : List V} {ds es : List Dat} {Q : VK}, Good H0 L LL H → Paired (DM false K H0 L LL H) ds vs → F ds = some es →
  (∀ p us, H p = none → DenL K H0 LL H es us → Q (.ref p) (upd H p (.lst us))) → r vs H Q
def mkD (F : List Dat → Option (List Dat)) (fa : DEnv → Rs (List Dat)) (ε : DEnv) : Rs (List Dat) := fa ε >>= fun ds => Rs.of (F ds)
theorem f_use {r : List V → Hp → VK → Prop} {F : List Dat → Option (List Dat)} {Q : VK} (hF : OpF K r F) (h : tF K mg W H0 L (mkD F fa) σ H Q) : tCB r (tA false K mg W H0 L fa) σ H Q := by
  obtain ⟨ε, LL, rel, h⟩ := h
  unfold mkD at h
  rw [Rs.to_bind] at h
  refine ⟨ε, LL, rel, h.imp (fun ds _ hd vs H1 s1 q => ?_) fun n z => z⟩
  obtain ⟨z, hz, hq⟩ := Rs.to_of hd
  exact hF (rel.mono s1).good q hz fun p us hp hd => hq p us _ (s1.trans (same_new hp)) (s1.free hp) upd_same (hd.kp (kp_or (same_new hp) hp) fun _ z => z)
theorem df_bi {F : List Dat → Option (List Dat)} (hc : CallR X (.builtin idn) r) (hF : OpF X.K r F) (hm : X.mg x = none) (hv : bootBuiltins x = some (.builtin idn)) (ha : DA false X W H0 L (e :: es) fa) (hg : Gl X x := by rfl) (hn : x ≠ "__name__" := by decide) (hdb : (x == ("__debug__" : Str)) = false := by decide)
    (he : starEach (e :: es) X.env = (false, eval e X.env) :: starEach es X.env := by rfl) (hpl : (backTo pos (starEach es X.env)).any (·.1) = false := by rfl) : DF X W H0 L (.Call (.Name x p) (e :: es) [] pos) (mkD F fa) :=
  peimp (pe_callB hc hg hm hv ha hn hdb he hpl) fun _ _ _ h => f_use hF h
theorem df_ty {F : List Dat → Option (List Dat)} (hc : CallR X (.type T) r) (hF : OpF X.K r F) (hm : X.mg x = none) (hv : bootBuiltins x = some (.type T)) (ha : DA false X W H0 L (e :: es) fa) (hg : Gl X x := by rfl) (hn : x ≠ "__name__" := by decide) (hdb : (x == ("__debug__" : Str)) = false := by decide)
    (he : starEach (e :: es) X.env = (false, eval e X.env) :: starEach es X.env := by rfl) (hpl : (backTo pos (starEach es X.env)).any (·.1) = false := by rfl) : DF X W H0 L (.Call (.Name x p) (e :: es) [] pos) (mkD F fa) :=
  peimp (pe_callTy hc hg hm hv ha hn hdb he hpl) fun _ _ _ h => f_use hF h
def dList : List Dat → Option (List Dat)
  | [.lst _ ds] => some ds
  | [.tup ds] => some ds
  | _ => none
theorem opf_list : OpF K (fun xs H Q => ∃ p ys, xs = [.ref p] ∧ (SqL K H p ys ∨ SqT K H p ys) ∧ ∀ l, H l = none → Q (.ref l) (upd H l (.lst ys))) dList := by
  intro H0 L LL H vs ds z Q gd hp hz hq
  unfold dList at hz
  split at hz
  · obtain ⟨v, rfl, p, ws, rfl, _, _, h, q⟩ := pair1 hp
    cases hz
    exact ⟨p, ws, rfl, .inl (.of h), fun l hl => hq _ _ hl q⟩
  · obtain ⟨v, rfl, p, ws, rfl, h, q⟩ := pair1 hp
    cases hz
    exact ⟨p, ws, rfl, .inr h.sq, fun l hl => hq _ _ hl q⟩
  · cases hz
theorem df_list (hm : X.mg "list" = none) (ha : DA false X W H0 L (e :: es) fa) (hg : Gl X "list" := by rfl)
    (he : starEach (e :: es) X.env = (false, eval e X.env) :: starEach es X.env := by rfl) (hpl : (backTo pos (starEach es X.env)).any (·.1) = false := by rfl) : DF X W H0 L (.Call (.Name "list" p) (e :: es) [] pos) (mkD dList fa) :=
  df_ty call_list_of opf_list hm (by decide +kernel) ha hg (by decide) (by decide) he hpl

/-! ### isinstance(x, a built-in type) -/
def tyN : Dat → Option String
  | .non => some "NoneType"
  | .bl _ => some "bool"
  | .int _ => some "int"
  | .str _ => some "str"
  | .tup _ => some "tuple"
  | .lst _ _ => some "list"
  | .hvl => some "list"
  | _ => none
def dIsi (T : String) (d : Dat) : Option Dat := (tyN d).bind fun a => (kitB a T).map .bl
theorem ty_of {d : Dat} {v : V} {a : String} (h : DenS K H0 L LL H d v) (e : tyN d = some a) : TyX K H v (.type a) := by
  cases d with
  | non => cases e; cases h; exact .base .non
  | bl b => cases e; cases h; exact .base (.bl _)
  | int b => cases e; cases h; exact .base (.int _)
  | str b => cases e; cases h; exact .base (.str _)
  | tup ds => cases e; obtain ⟨p, vs, rfl, t, _⟩ := h; exact .base (.tup t.2)
  | lst t ds => cases e; obtain ⟨p, vs, rfl, _, _, t, _⟩ := h; exact .base (.lst t)
  | hvl => cases e; obtain ⟨p, vs, rfl, t⟩ := h; exact .base (.lst t)
  | _ => cases e
def isiD (T : String) (f : DEnv → Rs Dat) (ε : DEnv) : Rs Dat := f ε >>= fun d => Rs.of (dIsi T d)
theorem pe_tyn {n : Str} {p2 : Pos} (hg : Gl X n) (hm : X.mg n = none) (hv : bootBuiltins n = some (.type T)) (hn : n ≠ "__name__") (hd : (n == ("__debug__" : Str)) = false) : PE X (.Name n p2) (tC (.ty T)) := pe_bltn hg hm hv rfl hn hd
theorem de_isi {n : Str} {p2 : Pos} (hm : X.mg "isinstance" = none) (hm2 : X.mg n = none) (hv : bootBuiltins n = some (.type T)) (ha : DE false X W H0 L a f) (hg : Gl X "isinstance" := by rfl) (hg2 : Gl X n := by rfl) (hn : n ≠ "__name__" := by decide) (hd : (n == ("__debug__" : Str)) = false := by decide)
    (he1 : starEach [a, .Name n p2] X.env = (false, eval a X.env) :: starEach [.Name n p2] X.env := by rfl) (he2 : starEach [.Name n p2] X.env = (false, eval (.Name n p2) X.env) :: starEach [] X.env := by rfl) (hpl : (backTo pos (starEach [.Name n p2] X.env)).any (·.1) = false := by rfl) :
    DE m X W H0 L (.Call (.Name "isinstance" p) [a, .Name n p2] [] pos) (isiD T f) :=
  peimp (pe_callB call_isi hg hm (by decide +kernel) (pa_cons ha (pa_cons (pe_tyn hg2 hm2 hv hn hd) pa_nil he2) he1) (by decide) (by decide) he1 hpl) fun σ H Q ⟨ε, LL, r, h⟩ => by
    unfold isiD at h
    rw [Rs.to_bind] at h
    refine ⟨ε, LL, r, h.imp (fun d _ hd v H1 s1 q => ?_) fun n z => z⟩
    obtain ⟨z, hz, hq⟩ := Rs.to_of hd
    unfold dIsi at hz
    cases ha : tyN d with
    | none => rw [ha] at hz; cases hz
    | some a =>
      rw [ha] at hz
      cases hk : kitB a T with
      | none => rw [Option.bind_some, hk] at hz; cases hz
      | some b =>
        rw [Option.bind_some, hk] at hz
        cases hz
        exact ⟨v, .ty T, _, _, b, rfl, .ty T, ty_of q ha, kit_ty hk, hq _ _ s1 (Den.m (d := .bl b) r.good.sub rfl)⟩

/-! ### stores into a list of one's own -/
def ownL (i : Nat) (ε : DEnv) : Rs (Bool × List Dat) := match ε[i]? with
  | some (some (true, .lst t ds)) => .ok (t, ds)
  | _ => .no
theorem ownL_to {i : Nat} {P : Bool × List Dat → Prop} {E : Str → Prop} (h : (ownL i ε).to P E) : ∃ t ds, ε[i]? = some (some (true, .lst t ds)) ∧ P (t, ds) := by
  unfold ownL at h
  split at h
  · rename_i t ds he
    exact ⟨t, ds, he, h⟩
  · exact h.elim
noncomputable def appD (i : Nat) (f : DEnv → Rs Dat) (ε : DEnv) : Rs Out := ownL i ε >>= fun p => f ε >>= fun d => chk (sz (p.2.length + 1)) (.ok (.nx (ε.set i (some (true, .lst p.1 (p.2 ++ [d]))))))
theorem app_use {i : Nat} {D : Ends} (h : tD K mg W H0 L (appD i f) D σ H) : tDrop (tBM K "list" rAppend (tVar i) (tCons (tE true K mg W H0 L f) tNil)) D σ H := by
  obtain ⟨ε, LL, r, h⟩ := h
  unfold appD at h
  rw [Rs.to_bind] at h
  obtain ⟨t, ds, he, h⟩ := ownL_to h
  obtain ⟨a, ha, own, hL, h0, ⟨vs, hv, q⟩, _⟩ := r.ownS he rfl
  rw [Rs.to_bind] at h
  refine ⟨_, ha, .inl ⟨rfl, vs, .of hv⟩, ε, LL, r, h.imp (fun d _ hd v H1 s1 qd => ?_) fun n z => z.w r.same⟩
  obtain ⟨hs, hd⟩ := chk_to hd
  have r1 := r.mono s1
  have hv1 : H1 a = some (.lst vs) := s1 _ _ hv
  refine ⟨a, vs, v, rfl, rfl, hv1, by rw [← q.length]; exact sz_ok hs, ?_⟩
  have kp : Kp LL LL H1 (upd H1 a (.lst (vs ++ [v]))) := kp_mut own .lst
  obtain ⟨r2, k2⟩ := r1.mut (d := .lst t (ds ++ [d])) he rfl ha (o := .lst (vs ++ [v])) ⟨_, upd_same, ((q.same s1).app (show DenL K H0 LL H1 [d] [v] from ⟨v, [], rfl, qd, rfl⟩)).kp kp fun _ z => z⟩ .lst
  exact hd _ _ _ r2 ((Kp.same s1).trans k2)
theorem ds_app (i : Nat) {x : Str} {px pa pc : Pos} (he : DE true X W H0 L e f) 
    (h1 : PA X [e] (tCons (tE true X.K X.mg W H0 L f) tNil) → PE X (.Call (.Attribute (.Name x px) "append" pa) [e] [] pc) (tBM X.K "list" rAppend (tVar i) (tCons (tE true X.K X.mg W H0 L f) tNil)) := by
      exact fun b => pe_bm PySem.F.plainAttrs_list PySem.F.slot_list_append PySem.F.type_list_append mt_append (pv i) b)
    (he1 : starEach [e] X.env = (false, eval e X.env) :: starEach [] X.env := by rfl)
    (hs : swapsWith (.Call (.Attribute (.Name x px) "append" pa) [e] [] pc) none pos.line X.env = pure false := by rfl) :
    DS X W H0 L (.Expr (.Call (.Attribute (.Name x px) "append" pa) [e] [] pc) pos) (appD i f) :=
  psimp (ps_expr (h1 (pa_cons he pa_nil he1)) hs) fun D σ H _ h => app_use h
/-- x[k] = v -/
def stD (i : Nat) (fk fv : DEnv → Rs Dat) (ε : DEnv) : Rs Out := fv ε >>= fun d => ownL i ε >>= fun p => fk ε >>= fun k => asI k >>= fun n => Rs.of (ixN p.2.length n) >>= fun j => .ok (.nx (ε.set i (some (true, .lst p.1 (p.2.set j d)))))
theorem st_use {i : Nat} {D : Ends} {fk fv : DEnv → Rs Dat} (h : tD K mg W H0 L (stD i fk fv) D σ H) : tAsg (tE true K mg W H0 L fv) (gSub (tVar i) (tE false K mg W H0 L fk) rSetL) D σ H := by
  obtain ⟨ε, LL, r, h⟩ := h
  unfold stD at h
  rw [Rs.to_bind] at h
  refine ⟨ε, LL, r, h.imp (fun d _ hd v H1 s1 qd => ?_) fun n z => z.w r.same⟩
  rw [Rs.to_bind] at hd
  obtain ⟨t, ds, he, hd⟩ := ownL_to hd
  obtain ⟨a, ha, own, hL, h0, ⟨vs, hv, q⟩, _⟩ := r.ownS he rfl
  rw [Rs.to_bind] at hd
  refine ⟨_, ha, ε, LL, r.mono s1, hd.imp (fun k _ hk y H2 s2 qk => ?_) fun n z => z.w (r.mono s1).same⟩
  rw [Rs.to_bind] at hk
  cases k with
  | int n =>
    have hk : (Rs.of (ixN ds.length n) >>= fun j => Rs.ok (Out.nx (ε.set i (some (true, .lst t (ds.set j d)))))).to _ _ := hk
    rw [Rs.to_bind] at hk
    obtain ⟨j, hj, hk⟩ := Rs.to_of hk
    have s := s1.trans s2
    have r1 := r.mono s
    have hv1 : H2 a = some (.lst vs) := s _ _ hv
    refine ⟨a, vs, n, j, rfl, qk, hv1, by rw [← q.length]; exact hj, ?_⟩
    have kp : Kp LL LL H2 (upd H2 a (.lst (vs.set j v))) := kp_mut own .lst
    obtain ⟨r2, k2⟩ := r1.mut (d := .lst t (ds.set j d)) he rfl ha (o := .lst (vs.set j v)) ⟨_, upd_same, ((q.same s).set j (Den.same s2 qd)).kp kp fun _ z => z⟩ .lst
    exact hk _ _ _ r2 ((Kp.same s).trans k2)
  | _ => exact hk.elim
theorem ds_st (i : Nat) {x : Str} {px p2 : Pos} {fk fv : DEnv → Rs Dat} (hk : DE false X W H0 L a fk) (hv : DE true X W H0 L e fv)
    (h1 : PE X a (tE false X.K X.mg W H0 L fk) → PG X (.Subscript (.Name x px) a p2) (gSub (tVar i) (tE false X.K X.mg W H0 L fk) rSetL) := by exact fun b => pg_sub (pv i) b set_list)
    (hs : swapsWithSole [.Subscript (.Name x px) a p2] e pos.line X.env = pure false := by rfl) (hw : swappedStores [.Subscript (.Name x px) a p2] e X.env = pure none := by rfl)
    (h2 : (assignEach [.Subscript (.Name x px) a p2] X.env).map (·.2) = [assign (.Subscript (.Name x px) a p2) X.env] := by rfl) : DS X W H0 L (.Assign [.Subscript (.Name x px) a p2] e pos) (stD i fk fv) :=
  psimp (ps_asg hv (h1 hk) hs hw h2) fun D σ H _ h => st_use h
end
end DL

set_option maxRecDepth 100000
set_option maxHeartbeats 4000000
/-! DLi: defs by name; the law's own promise. -/
namespace DL
open PySem PySem.Spec PyProof.Rows L2

/-- the def that the module's name x holds computes F, n arguments, at most k calls deep -/
structure DefOk (P : Program) (w : World) (K : PySem.W.Frag) (mg : Str → Option Value) (base : Heap) (x : Str) (n k : Nat) (F : List Dat → Rs Dat) : Prop where
  ex : ∃ f fd ps, FnOk P w K mg base (L2.CX P w) k f fd ps (spD K mg n F) ∧ mg x = some (.ref f) ∧ PySem.W.keepIn K (.ref f) = true ∧ Binds K fd ps []
section
variable {P : Program} {w : World} {K : PySem.W.Frag} {mg : Str → Option Value} {base : Heap} {x qual : Str} {n k j : Nat} {F G : List Dat → Rs Dat}
theorem DefOk.mono (D : DefOk P w K mg base x n k F) (h : k ≤ j) : DefOk P w K mg base x n j F := by
  obtain ⟨f, fd, ps, a, b, c, d⟩ := D.ex
  exact ⟨⟨f, fd, ps, a.mono h, b, c, d⟩⟩
theorem DefOk.eq (D : DefOk P w K mg base x n k F) (h : ∀ ds, F ds = G ds) : DefOk P w K mg base x n k G := by
  have : F = G := funext h
  rw [← this]
  exact D
/-- a weaker function -/
theorem DefOk.imp (D : DefOk P w K mg base x n k F) (h : ∀ ds d, G ds = .ok d → F ds = .ok d) (h2 : ∀ ds c, G ds = .ex c → F ds = .ex c) : DefOk P w K mg base x n k G := by
  obtain ⟨f, fd, ps, a, b, c, d⟩ := D.ex
  refine ⟨⟨f, fd, ps, a.imp fun vs H Q E ⟨hl, L, ds, trk, den, q⟩ => ⟨hl, L, ds, trk, den, ?_⟩, b, c, d⟩⟩
  cases e : G ds with
  | no => rw [e] at q; exact q.elim
  | ok z => rw [e] at q; rw [h _ _ e]; exact q
  | ex z => rw [e] at q; rw [h2 _ _ e]; exact q
theorem DefOk.none : ∀ {f : Addr} {fd : FuncData} {ps : List Str}, mg x = some (.ref f) → PySem.W.keepIn K (.ref f) = true → Binds K fd ps [] → DefOk P w K mg base x n 0 (fun _ => .no) := fun {f fd ps} a b c => by
  have no : ∀ vs H Q E, ¬ spD K mg n (fun _ => .no) vs H Q E := fun vs H Q E ⟨_, _, _, _, _, h⟩ => h
  exact ⟨⟨f, fd, ps, ⟨fun vs H Q E h => absurd h (no vs H Q E), fun A outer s H args us vs Q E _ _ _ _ h => absurd h (no vs H Q E)⟩, a, b, c⟩⟩
end
section
variable {X : Cx} {W : WX} {H0 : Hp} {L : Lp} {LL : Lk} {m : Bool} {a b e : Expr} {es rest : List Expr} {pos p : Pos} {f g : DEnv → Rs Dat} {fa : DEnv → Rs (List Dat)} {x : Str} {n k j : Nat} {F : List Dat → Rs Dat}
theorem dcall (hc : L.c = false) (G : DefOk X.prog X.w X.K X.mg X.base x n k F) (hr : Room j X.A) (hkj : k ≤ j) (tk : Takes X W) (ha : DA true X W H0 L (e :: es) fa) (hg : Gl X x := by rfl) (hdb : (x == ("__debug__" : Str)) = false := by decide) (he : starEach (e :: es) X.env = (false, eval e X.env) :: starEach es X.env := by rfl) (hpl : (backTo pos (starEach es X.env)).any (·.1) = false := by rfl) :
    DE m X W H0 L (.Call (.Name x p) (e :: es) [] pos) (callD n F fa) := by
  obtain ⟨f, fd, ps, a, b, c, d⟩ := G.ex
  exact de_call hc a (hr.mono hkj) b c d tk ha hg hdb he hpl
theorem dcallB (G : DefOk X.prog X.w X.K X.mg X.base x n k F) (hr : Room j X.A) (hkj : k ≤ j) (tk : Takes X W) (ha : DAQ X W H0 L (e :: es) fa) (hg : Gl X x := by rfl) (hdb : (x == ("__debug__" : Str)) = false := by decide) (he : starEach (e :: es) X.env = (false, eval e X.env) :: starEach es X.env := by rfl) (hpl : (backTo pos (starEach es X.env)).any (·.1) = false := by rfl) :
    DE m X W H0 L (.Call (.Name x p) (e :: es) [] pos) (callB n F fa) := by
  obtain ⟨f, fd, ps, a, b, c, d⟩ := G.ex
  exact de_callB a (hr.mono hkj) b c d tk ha hg hdb he hpl
theorem dcallF (hc : L.c = false) (G : DefOk X.prog X.w X.K X.mg X.base x n k F) (hr : Room j X.A) (hkj : k ≤ j) (tk : Takes X W) (ha : DA true X W H0 L (e :: es) fa) (hg : Gl X x := by rfl) (hdb : (x == ("__debug__" : Str)) = false := by decide) (he : starEach (e :: es) X.env = (false, eval e X.env) :: starEach es X.env := by rfl) (hpl : (backTo pos (starEach es X.env)).any (·.1) = false := by rfl) :
    DF X W H0 L (.Call (.Name x p) (e :: es) [] pos) (ownC (callD n F fa)) := by
  obtain ⟨f, fd, ps, a, b, c, d⟩ := G.ex
  exact df_call hc a (hr.mono hkj) b c d tk ha hg hdb he hpl
end
section
variable {P : Program} {w : World} {K : PySem.W.Frag} {mg : Str → Option Value} {base : Heap} {x qual : Str} {st : Stmt} {f : Addr} {fd : FuncData} {N ps : List Str} {k : Nat} {fs : DEnv → Rs Out}
/-- THE RULE for a def -/
theorem def_ok (c : Bool) (Fn : Fun K x qual st f fd) (hm : mg x = some (.ref f)) (hb : Binds K fd ps []) (S : FnScope N ps (defScope st))
    (hbody : ∀ (cdv : Value) (A : Around) (outer : List Env) (s : Shared) (H : Hp) (E : XK), Room k (A.deeper (envOfC qual (defScope st) s.heap.objs.size f cdv)) → ∀ L : Lp, L.c = c →
      DSs (cxOf (L2.CX P w) P w K mg base N qual (defScope st) f cdv A outer s H E) (fun c d _ H' => E c d H') H L (defBody st) fs) : DefOk P w K mg base x ps.length (k + 1) (runF N.length fs) :=
  ⟨⟨f, fd, ps, fn_okD c Fn S hbody, hm, Fn.kp, hb⟩⟩
/-- what the law promises -/
def spLaw (K : PySem.W.Frag) : Sp := fun vs H Q _ => ∃ (a : Addr) (ns : List Int), vs = [.ref a] ∧ SqL K H a (ns.map V.int) ∧ ns.length ≤ 63 ∧ ∀ H', Q (.bl true) H'
theorem law_ok {F : List Dat → Rs Dat} {x : Str} (G : FnOk P w K mg base (L2.CX P w) k f fd [x] (spD K mg 1 F)) (hF : ∀ ns : List Int, ns.length ≤ 63 → F [.scr ns] = .ok (.bl true)) : FnOk P w K mg base (L2.CX P w) k f fd [x] (spLaw K) :=
  G.imp fun vs H Q E ⟨a, ns, e, hS, hn, q⟩ => by
    subst e
    refine ⟨rfl, fun _ => False, [.scr ns], fun _ z => z.elim, ⟨_, [], rfl, ⟨a, rfl, ?_⟩, rfl⟩, ?_⟩
    · rcases hS with h | h
      · exact .inl ⟨id, h⟩
      · exact .inr (.inr h)
    · rw [hF ns hn]
      exact fun v H' _ hv => by
        have hv : v = .bl true := hv
        rw [hv]
        exact q H'
theorem cx_false {outer : List Env} {H : Hp} {s s' : Shared} {e : Value} (h : L2.CX P w outer H s (fun _ _ _ => False) e s') : False := by
  obtain ⟨_, _, _, _, _, _, _, _, _, _, _, _, z⟩ := h
  exact z
end
end DL

set_option maxRecDepth 100000
set_option maxHeartbeats 4000000
/-! DLm: reckoning with the pure functions. -/
namespace DL
open PySem PySem.Spec PyProof.Rows L2

/-! ### the combinators by one step each -/
@[simp] theorem runF_eq (n : Nat) (fs : DEnv → Rs Out) (ds : List Dat) : runF n fs ds = (fs (startD n ds) >>= fun o => match o with
  | .nx _ => .ok .non
  | .rt d => .ok d
  | _ => .no) := rfl
theorem startD_eq (n : Nat) (ds : List Dat) : startD n ds = ds.map (fun d => some (false, d)) ++ List.replicate (n - ds.length) none := rfl
variable {ε : DEnv} {f g : DEnv → Rs Dat} {fa : DEnv → Rs (List Dat)} {fs gs : DEnv → Rs Out} {c c' : DEnv → Rs Bool} {m : Bool} {i : Nat}
@[simp] theorem seqD_eq : seqD fs gs ε = (fs ε >>= fun o => match o with
  | .nx ε' => gs ε'
  | o => .ok o) := rfl
@[simp] theorem setD_eq : setD i f ε = (f ε >>= fun d => .ok (.nx (ε.set i (some (false, d))))) := rfl
@[simp] theorem ownD_eq : ownD i fa ε = (fa ε >>= fun ds => .ok (.nx (ε.set i (some (true, .lst true ds))))) := rfl
@[simp] theorem retD_eq : retD f ε = (f ε >>= fun d => .ok (.rt d)) := rfl
@[simp] theorem iteD_eq : iteD c fs gs ε = (c ε >>= fun b => if b = true then fs ε else gs ε) := rfl
@[simp] theorem drpD_eq : drpD f ε = (f ε >>= fun _ => .ok (.nx ε)) := rfl
@[simp] theorem tst_eq : tst f ε = (f ε >>= asB) := rfl
@[simp] theorem asB_bl (b : Bool) : asB (.bl b) = .ok b := rfl
@[simp] theorem asI_int (b : Int) : asI (.int b) = .ok b := rfl
@[simp] theorem bop_eq {F : Dat → Dat → Option Dat} : bop F f g ε = (f ε >>= fun d => g ε >>= fun e => Rs.of (F d e)) := rfl
@[simp] theorem uop_eq {F : Dat → Option Dat} : uop F f ε = (f ε >>= fun d => Rs.of (F d)) := rfl
@[simp] theorem kst_eq {d : Dat} : kst d ε = .ok d := rfl
@[simp] theorem argsN_eq : argsN ε = .ok [] := rfl
@[simp] theorem argsC_eq : argsC f fa ε = (f ε >>= fun d => fa ε >>= fun ds => .ok (d :: ds)) := rfl
@[simp] theorem biD_eq {F : List Dat → Option Dat} : biD F fa ε = (fa ε >>= fun ds => Rs.of (F ds)) := rfl
@[simp] theorem mkD_eq {F : List Dat → Option (List Dat)} : mkD F fa ε = (fa ε >>= fun ds => Rs.of (F ds)) := rfl
@[simp] theorem callD_eq {n : Nat} {F : List Dat → Rs Dat} : callD n F fa ε = (fa ε >>= fun ds => chk (ds.length == n) (F (olds ds))) := rfl
@[simp] theorem callB_eq {n : Nat} {F : List Dat → Rs Dat} : callB n F fa ε = (fa ε >>= fun ds => chk (ds.length == n) (F (olds ds) >>= fun d => chk (fresh d) (.ok d))) := rfl
@[simp] theorem tupD_eq : tupD fa ε = (fa ε >>= fun ds => chk (sz ds.length) (.ok (.tup ds))) := rfl
@[simp] theorem lstD_eq : lstD fa ε = (fa ε >>= fun ds => .ok (.lst true ds)) := rfl
@[simp] theorem dspD_eq : dspD fa ε = (fa ε >>= fun ds => chk (sz ds.length) (.ok ds)) := rfl
@[simp] theorem ownC_eq : ownC f ε = (f ε >>= lstOf) := rfl
@[simp] theorem notT_eq : notT c ε = (c ε >>= fun b => .ok (!b)) := rfl
@[simp] theorem andT_eq : andT c c' ε = (c ε >>= fun b => if b = true then c' ε else .ok false) := rfl
@[simp] theorem orT_eq : orT c c' ε = (c ε >>= fun b => if b = true then .ok true else c' ε) := rfl
@[simp] theorem andV_eq : andV f g ε = (f ε >>= fun d => asB d >>= fun b => if b = true then g ε else .ok (.bl false)) := rfl
@[simp] theorem orV_eq : orV f g ε = (f ε >>= fun d => asB d >>= fun b => if b = true then .ok (.bl true) else g ε) := rfl
@[simp] theorem noO_eq : noO ε = .ok none := rfl
@[simp] theorem smO_eq : smO f ε = (f ε >>= fun d => asI d >>= fun i => .ok (some i)) := rfl
@[simp] theorem slD_eq {l h : DEnv → Rs (Option Int)} : slD f l h ε = (f ε >>= fun d => l ε >>= fun lo => h ε >>= fun hi => Rs.of (dSl d lo hi)) := rfl
@[simp] theorem isiD_eq {T : String} : isiD T f ε = (f ε >>= fun d => Rs.of (dIsi T d)) := rfl
@[simp] theorem fgtD_eq {is : List Nat} : fgtD is fs ε = (fs ε >>= fun o => .ok (o.fgt is)) := rfl
@[simp] theorem outfgt_nx {is : List Nat} : (Out.nx ε).fgt is = .nx (fgt is ε) := rfl
@[simp] theorem outfgt_ct {is : List Nat} : (Out.ct ε).fgt is = .ct (fgt is ε) := rfl
@[simp] theorem outfgt_bk {is : List Nat} : (Out.bk ε).fgt is = .bk ε := rfl
@[simp] theorem outfgt_rt {is : List Nat} {d : Dat} : (Out.rt d).fgt is = .rt d := rfl
@[simp] theorem fgt_nil : fgt [] ε = ε := rfl
@[simp] theorem fgt_cons {j : Nat} {is : List Nat} : fgt (j :: is) ε = fgt is (ε.set j none) := rfl
@[simp] theorem walkD_eq : walkD f ε = (f ε >>= asL) := rfl
@[simp] theorem walkT_eq : walkT f ε = (f ε >>= asT) := rfl
@[simp] theorem asL_lst {t : Bool} {ds : List Dat} : asL (.lst t ds) = .ok ds := rfl
@[simp] theorem asT_tup {ds : List Dat} : asT (.tup ds) = .ok ds := rfl
@[simp] theorem rngD_eq {F : List Dat → Rs (List Dat)} : rngD F fa ε = (fa ε >>= F) := rfl
@[simp] theorem loopD_eq {w : DEnv → Rs (List Dat)} {body : Dat → DEnv → Rs Out} : loopD w body ε = (w ε >>= fun ds => forD body ds ε) := rfl
@[simp] theorem asgD_eq {G : Dat → DEnv → Option DEnv} : asgD G f ε = (f ε >>= fun d => Rs.of (G d ε) >>= fun ε' => .ok (.nx ε')) := rfl
@[simp] theorem trn_eq {G : Dat → DEnv → Option DEnv} {d : Dat} : trn G fs d ε = (Rs.of (G d ε) >>= fs) := rfl
@[simp] theorem gN_eq {d : Dat} : gN i d ε = some (ε.set i (some (false, d))) := rfl
@[simp] theorem gT_eq {G : List Dat → DEnv → Option DEnv} {ds : List Dat} : gT G (.tup ds) ε = G ds ε := rfl
@[simp] theorem gNil_eq : gNil' [] ε = some ε := rfl
@[simp] theorem gCons_eq {G : Dat → DEnv → Option DEnv} {Gs : List Dat → DEnv → Option DEnv} {d : Dat} {ds : List Dat} : gCons' G Gs (d :: ds) ε = (G d ε).bind (Gs ds) := rfl
@[simp] theorem forD_nil {body : Dat → DEnv → Rs Out} : forD body [] ε = .ok (.nx ε) := rfl
@[simp] theorem yesT_eq : yesT ε = .ok true := rfl
@[simp] theorem olds_nil : olds [] = [] := rfl
@[simp] theorem olds_cons {d : Dat} {ds : List Dat} : olds (d :: ds) = old d :: olds ds := rfl
@[simp] theorem old_int {k : Int} : old (.int k) = .int k := rfl
@[simp] theorem old_bl {k : Bool} : old (.bl k) = .bl k := rfl
@[simp] theorem old_str {k : Str} : old (.str k) = .str k := rfl
@[simp] theorem old_non : old .non = .non := rfl
@[simp] theorem old_tup {ds : List Dat} : old (.tup ds) = .tup (olds ds) := rfl
@[simp] theorem old_lst {t : Bool} {ds : List Dat} : old (.lst t ds) = .lst false (olds ds) := rfl
@[simp] theorem fresh_int {k : Int} : fresh (.int k) = true := rfl
@[simp] theorem fresh_bl {k : Bool} : fresh (.bl k) = true := rfl
@[simp] theorem fresh_str {k : Str} : fresh (.str k) = true := rfl
@[simp] theorem fresh_non : fresh .non = true := rfl
@[simp] theorem fresh_tup {ds : List Dat} : fresh (.tup ds) = freshs ds := rfl
@[simp] theorem fresh_lst {t : Bool} {ds : List Dat} : fresh (.lst t ds) = (t && freshs ds) := rfl
@[simp] theorem freshs_nil : freshs [] = true := rfl
@[simp] theorem freshs_cons {d : Dat} {ds : List Dat} : freshs (d :: ds) = (fresh d && freshs ds) := rfl
theorem olds_map {α : Type} (h : α → Dat) (k : α → Dat) (e : ∀ a, old (h a) = k a) : ∀ l : List α, olds (l.map h) = l.map k
  | [] => rfl
  | a :: l => by simp [e, olds_map h k e l]
@[simp] theorem olds_ints (l : List Int) : olds (l.map .int) = l.map .int := olds_map _ _ (fun _ => rfl) l
@[simp] theorem freshs_ints : ∀ l : List Int, freshs (l.map .int) = true
  | [] => rfl
  | a :: l => by simp [freshs_ints l]

/-! ### slots -/
@[simp] theorem rdv_val {d : Dat} {r : DEnv} : rdv m 0 (some (false, d) :: r) = .ok d := rfl
@[simp] theorem rdv_own {d : Dat} {r : DEnv} : rdv true 0 (some (true, d) :: r) = .no := rfl
@[simp] theorem rdv_lst {t : Bool} {ds : List Dat} {r : DEnv} : rdv false 0 (some (true, .lst t ds) :: r) = .ok (.lst t ds) := rfl
@[simp] theorem rdv_dK {ks : List Key} {ds : List Dat} {r : DEnv} : rdv false 0 (some (true, .dK ks ds) :: r) = .ok (.dK ks ds) := rfl
@[simp] theorem rdv_dT {ks : List (List Key)} {ds : List Dat} {r : DEnv} : rdv false 0 (some (true, .dT ks ds) :: r) = .ok (.dT ks ds) := rfl
@[simp] theorem rdv_succ {s : Option (Bool × Dat)} {r : DEnv} : rdv m (i + 1) (s :: r) = rdv m i r := by
  unfold rdv
  rw [List.getElem?_cons_succ]
@[simp] theorem ownL_zero {t : Bool} {ds : List Dat} {r : DEnv} : ownL 0 (some (true, .lst t ds) :: r) = .ok (t, ds) := rfl
@[simp] theorem ownL_succ {s : Option (Bool × Dat)} {r : DEnv} : ownL (i + 1) (s :: r) = ownL i r := by
  unfold ownL
  rw [List.getElem?_cons_succ]
@[simp] theorem fz_own {t : Bool} {ds : List Dat} {r : DEnv} : fz 0 (some (true, .lst t ds) :: r) = some (false, .lst t ds) :: r := rfl
@[simp] theorem fz_dK {t : List Key} {ds : List Dat} {r : DEnv} : fz 0 (some (true, .dK t ds) :: r) = some (false, .dK t ds) :: r := rfl
@[simp] theorem fz_dT {t : List (List Key)} {ds : List Dat} {r : DEnv} : fz 0 (some (true, .dT t ds) :: r) = some (false, .dT t ds) :: r := rfl
@[simp] theorem fz_val {d : Dat} {r : DEnv} : fz 0 (some (false, d) :: r) = some (false, d) :: r := rfl
@[simp] theorem fz_none {r : DEnv} : fz 0 (none :: r) = none :: r := rfl
@[simp] theorem fz_succ {s : Option (Bool × Dat)} {r : DEnv} : fz (i + 1) (s :: r) = s :: fz i r := by
  unfold fz
  rw [List.getElem?_cons_succ]
  cases r[i]? with
  | none => rfl
  | some x => cases x with
    | none => rfl
    | some p =>
      obtain ⟨o, d⟩ := p
      cases o with
      | false => rfl
      | true => cases d <;> rfl
@[simp] theorem fzD_eq : fzD i fs ε = chk (fzO i ε) (fs (fz i ε)) := rfl
@[simp] theorem fzkD_eq : fzkD i fs ε = chk (fzK i ε) (fs (fz i ε)) := rfl
@[simp] theorem fzO_own {t : Bool} {ds : List Dat} {r : DEnv} : fzO 0 (some (true, .lst t ds) :: r) = true := rfl
@[simp] theorem fzO_cel {d : Dat} {r : DEnv} : fzO 0 (some (true, .cel d) :: r) = lonN d := rfl
@[simp] theorem fzO_reg {d : Dat} {r : DEnv} : fzO 0 (some (true, .reg d) :: r) = true := rfl
@[simp] theorem fzO_val {d : Dat} {r : DEnv} : fzO 0 (some (false, d) :: r) = true := rfl
@[simp] theorem fzO_none {r : DEnv} : fzO 0 (none :: r) = true := rfl
@[simp] theorem fzO_succ {s : Option (Bool × Dat)} {r : DEnv} : fzO (i + 1) (s :: r) = fzO i r := by
  unfold fzO
  rw [List.getElem?_cons_succ]
@[simp] theorem fzK_dK {ks : List Key} {ds : List Dat} {r : DEnv} : fzK 0 (some (true, .dK ks ds) :: r) = true := rfl
@[simp] theorem fzK_dT {ks : List (List Key)} {ds : List Dat} {r : DEnv} : fzK 0 (some (true, .dT ks ds) :: r) = true := rfl
@[simp] theorem fzK_cK {ks : List Key} {ds : List Dat} {r : DEnv} : fzK 0 (some (true, .cel (.dK ks ds)) :: r) = lons ds := rfl
@[simp] theorem fzK_cT {ks : List (List Key)} {ds : List Dat} {r : DEnv} : fzK 0 (some (true, .cel (.dT ks ds)) :: r) = lons ds := rfl
@[simp] theorem fzK_succ {s : Option (Bool × Dat)} {r : DEnv} : fzK (i + 1) (s :: r) = fzK i r := by
  unfold fzK
  rw [List.getElem?_cons_succ]
@[simp] theorem fz_cel {d : Dat} {r : DEnv} : fz 0 (some (true, .cel d) :: r) = some (false, meltN d) :: r := rfl
@[simp] theorem fz_reg {d : Dat} {r : DEnv} : fz 0 (some (true, .reg d) :: r) = some (false, d) :: r := rfl
@[simp] theorem drp_nil : drp i [] = [] := rfl
@[simp] theorem drp_cons {s : Option (Bool × Dat)} {r : DEnv} : drp i (s :: r) = drp1 i s :: drp i r := rfl
@[simp] theorem drp1_none : drp1 i none = none := rfl
@[simp] theorem drp1_val {d : Dat} : drp1 i (some (false, d)) = some (false, d) := rfl
@[simp] theorem drp1_lst {t : Bool} {ds : List Dat} : drp1 i (some (true, .lst t ds)) = some (true, .lst t ds) := rfl
@[simp] theorem drp1_dK {ks : List Key} {ds : List Dat} : drp1 i (some (true, .dK ks ds)) = some (true, .dK ks ds) := rfl
@[simp] theorem drp1_dT {ks : List (List Key)} {ds : List Dat} : drp1 i (some (true, .dT ks ds)) = some (true, .dT ks ds) := rfl
@[simp] theorem drp1_cel {d : Dat} : drp1 i (some (true, .cel d)) = some (true, .cel d) := rfl
@[simp] theorem drp1_reg {d : Dat} : drp1 i (some (true, .reg d)) = some (true, .reg d) := rfl
theorem rdq_eq : rdq i ε = (match ε[i]? with
  | some (some (false, d)) => .ok d
  | some (some (true, d)) => Rs.of (wkD ε d)
  | _ => .no) := rfl
@[simp] theorem wkD_lst {t : Bool} {ds : List Dat} : wkD ε (.lst t ds) = some (.lst t ds) := rfl
@[simp] theorem wkD_reg {d : Dat} : wkD ε (.reg d) = some d := rfl
@[simp] theorem wkD_cel {d : Dat} : wkD ε (.cel d) = if lonN d = true then some (meltN d) else none := rfl
@[simp] theorem sz_small {n : Nat} (h : n ≤ 16777216) : sz n = true := sz_le h
theorem dI_ok {C : Int → Int → Prop} {h : Int → Int → Int} {x y : Int} (hc : C x y) : dI C h (.int x) (.int y) = some (.int (h x y)) := by
  show (if cls (C x y) = true then _ else _) = _
  rw [if_pos (cls_true hc)]
@[simp] theorem dAdd_int {x y : Int} : dAdd (.int x) (.int y) = some (.int (x + y)) := rfl
@[simp] theorem dSub_int {x y : Int} : dSub (.int x) (.int y) = some (.int (x - y)) := dI_ok trivial
@[simp] theorem dNeg_int {x : Int} : dNeg (.int x) = some (.int (-x)) := rfl
theorem dMod_int {x y : Int} (h : 0 < y) : dMod (.int x) (.int y) = some (.int (x % y)) := dI_ok h
theorem dFdiv_int {x y : Int} (h : 0 < y) (h2 : y < 2 ^ 64) : dFdiv (.int x) (.int y) = some (.int (x / y)) := by
  refine dI_ok ⟨h, ?_⟩
  have h3 : y.natAbs < 2 ^ 64 := by omega
  exact Nat.lt_of_lt_of_le (Nat.log2_lt (by omega) |>.mpr h3) (by decide)
theorem dMul_l {x y : Int} (h : -(2 ^ 64) < x) (h2 : x < 2 ^ 64) : dMul (.int x) (.int y) = some (.int (x * y)) := dI_ok (.inl (.inl ⟨h, h2⟩))
theorem dMul_r {x y : Int} (h : -(2 ^ 64) < y) (h2 : y < 2 ^ 64) : dMul (.int x) (.int y) = some (.int (x * y)) := dI_ok (.inl (.inr ⟨h, h2⟩))
theorem dPow_int {x y : Int} (h : 0 ≤ y) (h2 : y ≤ 1000000) (h3 : x.natAbs < 2 ^ 64) : dPow (.int x) (.int y) = some (.int (x ^ y.toNat)) := dI_ok ⟨h, h2, h3⟩
theorem dShr_int {x y : Int} (h : 0 ≤ y) : dShr (.int x) (.int y) = some (.int (x / 2 ^ y.toNat)) := dI_ok h
@[simp] theorem dLt_int {x y : Int} : dLt (.int x) (.int y) = some (.bl (decide (x < y))) := rfl
@[simp] theorem dLe_int {x y : Int} : dLe (.int x) (.int y) = some (.bl (decide (x ≤ y))) := rfl
@[simp] theorem dGt_int {x y : Int} : dGt (.int x) (.int y) = some (.bl (decide (y < x))) := rfl
@[simp] theorem dGe_int {x y : Int} : dGe (.int x) (.int y) = some (.bl (decide (y ≤ x))) := rfl
@[simp] theorem dEq_int {x y : Int} : dEq (.int x) (.int y) = some (.bl (decide (x = y))) := by
  unfold dEq
  rw [if_pos (show eqOk (.int x) (.int y) = true from rfl)]
  simp [deq, toP, PyData.eqv, Bool.beq_eq_decide_eq]
@[simp] theorem dNe_int {x y : Int} : dNe (.int x) (.int y) = some (.bl (!decide (x = y))) := by
  unfold dNe
  rw [if_pos (show eqOk (.int x) (.int y) = true from rfl)]
  simp [deq, toP, PyData.eqv, Bool.beq_eq_decide_eq]
@[simp] theorem dEq_str {x y : Str} : dEq (.str x) (.str y) = some (.bl (decide (x = y))) := by
  unfold dEq
  rw [if_pos (show eqOk (.str x) (.str y) = true from rfl)]
  simp [deq, toP, PyData.eqv, Bool.beq_eq_decide_eq]
@[simp] theorem dNe_str {x y : Str} : dNe (.str x) (.str y) = some (.bl (!decide (x = y))) := by
  unfold dNe
  rw [if_pos (show eqOk (.str x) (.str y) = true from rfl)]
  simp [deq, toP, PyData.eqv, Bool.beq_eq_decide_eq]
@[simp] theorem dEq_bl {x y : Bool} : dEq (.bl x) (.bl y) = some (.bl (decide (x = y))) := by
  unfold dEq
  rw [if_pos (show eqOk (.bl x) (.bl y) = true from rfl)]
  simp [deq, toP, PyData.eqv, Bool.beq_eq_decide_eq]
@[simp] theorem dNe_bl {x y : Bool} : dNe (.bl x) (.bl y) = some (.bl (!decide (x = y))) := by
  unfold dNe
  rw [if_pos (show eqOk (.bl x) (.bl y) = true from rfl)]
  simp [deq, toP, PyData.eqv, Bool.beq_eq_decide_eq]
@[simp] theorem dNot_bl {x : Bool} : dNot (.bl x) = some (.bl (!x)) := rfl
@[simp] theorem dIsN_non : dIsN .non .non = some (.bl true) := rfl
@[simp] theorem dIsN_int {x : Int} : dIsN (.int x) .non = some (.bl false) := rfl
@[simp] theorem dNotN_non : dNotN .non .non = some (.bl false) := rfl
@[simp] theorem dNotN_int {x : Int} : dNotN (.int x) .non = some (.bl true) := rfl
@[simp] theorem dIx_lst {t : Bool} {ds : List Dat} {k : Int} : dIx (.lst t ds) (.int k) = atI ds k := rfl
@[simp] theorem dIx_tup {ds : List Dat} {k : Int} : dIx (.tup ds) (.int k) = atI ds k := rfl
@[simp] theorem dLen_lst {t : Bool} {ds : List Dat} : dLen [.lst t ds] = some (.int ds.length) := rfl
@[simp] theorem dLen_tup {ds : List Dat} : dLen [.tup ds] = some (.int ds.length) := rfl
@[simp] theorem dTuple_lst {t : Bool} {ds : List Dat} : dTuple [.lst t ds] = some (.tup ds) := rfl
@[simp] theorem dTuple_tup {ds : List Dat} : dTuple [.tup ds] = some (.tup ds) := rfl
@[simp] theorem dSl_lst {t : Bool} {ds : List Dat} {lo hi : Option Int} : dSl (.lst t ds) lo hi = some (.lst true (cutD ds lo hi)) := rfl
@[simp] theorem dSl_tup {ds : List Dat} {lo hi : Option Int} : dSl (.tup ds) lo hi = some (.tup (cutD ds lo hi)) := rfl
@[simp] theorem dSl_scr {ds : List Int} {lo hi : Option Int} : dSl (.scr ds) lo hi = some (.lst true ((cutD ds lo hi).map .int)) := rfl
theorem atI_at {α : Type} {l : List α} {k : Int} {x : α} (h0 : 0 ≤ k) (h : l[k.toNat]? = some x) : atI l k = some x := by
  have e : k = ((k.toNat : Nat) : Int) := by omega
  rw [e]
  exact atI_nat h
@[simp] theorem atI_zero {α : Type} {l : List α} {x : α} : atI (x :: l) 0 = some x := atI_at (by decide) rfl
@[simp] theorem atI_one {α : Type} {l : List α} {x y : α} : atI (x :: y :: l) 1 = some y := atI_at (by decide) rfl
@[simp] theorem atI_two {α : Type} {l : List α} {x y z : α} : atI (x :: y :: z :: l) 2 = some z := atI_at (by decide) rfl
theorem atI_map {α β : Type} {l : List α} {k : Int} {x : α} (h : β = β) (g : α → β) (h0 : 0 ≤ k) (h : l[k.toNat]? = some x) : atI (l.map g) k = some (g x) := atI_at h0 (by rw [List.getElem?_map, h]; rfl)
end DL
namespace DL
open PySem PySem.Spec PyProof.Rows L2
/-! ### comprehensions, slices -/
variable {ε : DEnv}
@[simp] theorem compD_eq {w : DEnv → Rs (List Dat)} {G : Dat → DEnv → Option DEnv} {c : DEnv → Rs Bool} {fe : DEnv → Rs Dat} {vs : List Nat} : compD w G c fe vs ε =
    (w ε >>= fun ds => chk (sz ds.length && noOwn ε vs) (compL (compT G c fe (wipeD ε vs)) ds)) := rfl
@[simp] theorem compT_eq {G : Dat → DEnv → Option DEnv} {c : DEnv → Rs Bool} {fe : DEnv → Rs Dat} {d : Dat} : compT G c fe ε d =
    (Rs.of (G d ε) >>= fun ε2 => (c ε2).nox >>= fun b => if b = true then (fe ε2).nox >>= fun z => .ok (some z) else .ok none) := rfl
@[simp] theorem wipeD_nil : wipeD ε [] = ε := rfl
@[simp] theorem wipeD_cons {v : Nat} {vs : List Nat} : wipeD ε (v :: vs) = (wipeD ε vs).set v none := rfl
@[simp] theorem noOwn_nil : noOwn ε [] = true := rfl
@[simp] theorem compL_nil {F : Dat → Rs (Option Dat)} : compL F [] = .ok [] := rfl
theorem compL_map {α : Type} {F : Dat → Rs (Option Dat)} {e : α → Dat} {k : α → Dat} : ∀ {l : List α}, (∀ a ∈ l, F (e a) = .ok (some (k a))) → compL F (l.map e) = .ok (l.map k)
  | [], _ => rfl
  | a :: l, h => by
    have ih := compL_map (F := F) (e := e) (k := k) (l := l) fun b hb => h b (List.mem_cons_of_mem _ hb)
    simp only [List.map_cons]
    unfold compL
    rw [h a List.mem_cons_self, ih]
    rfl
theorem compL_filter {α : Type} {F : Dat → Rs (Option Dat)} {e : α → Dat} {p : α → Bool} {k : α → Dat} : ∀ {l : List α}, (∀ a ∈ l, F (e a) = .ok (if p a = true then some (k a) else none)) → compL F (l.map e) = .ok ((l.filter p).map k)
  | [], _ => rfl
  | a :: l, h => by
    have ih := compL_filter (F := F) (e := e) (p := p) (k := k) (l := l) fun b hb => h b (List.mem_cons_of_mem _ hb)
    simp only [List.map_cons]
    unfold compL
    rw [h a List.mem_cons_self, ih]
    cases hp : p a <;> simp [hp]
theorem compL_rng {F : Dat → Rs (Option Dat)} {n : Nat} {lo : Int} {k : Nat → Dat} (h : ∀ i, i < n → F (.int (lo + (i : Nat))) = .ok (some (k i))) : compL F (rng lo n) = .ok ((List.range n).map k) :=
  compL_map fun a ha => h a (List.mem_range.mp ha)
@[simp] theorem rng_length {lo : Int} {n : Nat} : (rng lo n).length = n := by simp [rng]
theorem cut_take {α : Type} (l : List α) (n : Nat) : cutD l none (some (n : Int)) = l.take n := by
  unfold cutD
  rw [HT.sIx_none, HT.sIx_nat]
  simp
theorem cut_drop {α : Type} (l : List α) (n : Nat) : cutD l (some (n : Int)) none = l.drop n := by
  unfold cutD
  rw [HT.sIx_none, HT.sIx_nat, List.take_of_length_le (by simp)]
  by_cases h : n ≤ l.length
  · rw [Nat.min_eq_left h]
  · rw [Nat.min_eq_right (by omega), List.drop_length, List.drop_eq_nil_of_le (by omega)]
theorem cut_both {α : Type} (l : List α) (n k : Nat) : cutD l (some (n : Int)) (some (k : Int)) = (l.drop n).take (k - n) := by
  unfold cutD
  rw [HT.sIx_nat, HT.sIx_nat]
  by_cases h : n ≤ l.length
  · rw [Nat.min_eq_left h]
    by_cases h2 : k ≤ l.length
    · rw [Nat.min_eq_left h2]
    · rw [Nat.min_eq_right (by omega)]
      rw [List.take_of_length_le (by simp), List.take_of_length_le (by simp; omega)]
  · rw [Nat.min_eq_right (show l.length ≤ n by omega), List.drop_length, List.drop_eq_nil_of_le (show l.length ≤ n by omega)]
    simp
@[simp] theorem dAdd_lst {t u : Bool} {a b : List Dat} (h : a.length + b.length ≤ sizeLine) : dAdd (.lst t a) (.lst u b) = some (.lst true (a ++ b)) := if_pos h
theorem dAdd_lst' {t u : Bool} {a b : List Dat} (h : a.length + b.length ≤ 16777216) : dAdd (.lst t a) (.lst u b) = some (.lst true (a ++ b)) := if_pos (by rw [sizeLine_eq]; exact h)
theorem dAdd_tup' {a b : List Dat} (h : a.length + b.length ≤ 16777216) : dAdd (.tup a) (.tup b) = some (.tup (a ++ b)) := if_pos (by rw [sizeLine_eq]; exact h)
theorem kit_bool : kitB "bool" "bool" = some true := by decide +kernel
theorem kit_int_bool : kitB "int" "bool" = some false := by decide +kernel
theorem kit_int : kitB "int" "int" = some true := by decide +kernel
theorem kit_list : kitB "list" "list" = some true := by decide +kernel
theorem kit_tuple : kitB "tuple" "tuple" = some true := by decide +kernel
theorem kit_non_int : kitB "NoneType" "int" = some false := by decide +kernel
@[simp] theorem isi_bool {b : Bool} : dIsi "bool" (.bl b) = some (.bl true) := by simp [dIsi, tyN, kit_bool]
@[simp] theorem isi_int_bool {b : Int} : dIsi "bool" (.int b) = some (.bl false) := by simp [dIsi, tyN, kit_int_bool]
@[simp] theorem isi_int {b : Int} : dIsi "int" (.int b) = some (.bl true) := by simp [dIsi, tyN, kit_int]
@[simp] theorem isi_list {t : Bool} {ds : List Dat} : dIsi "list" (.lst t ds) = some (.bl true) := by simp [dIsi, tyN, kit_list]
@[simp] theorem isi_hvl : dIsi "list" .hvl = some (.bl true) := by simp [dIsi, tyN, kit_list]
@[simp] theorem isi_tuple {ds : List Dat} : dIsi "tuple" (.tup ds) = some (.bl true) := by simp [dIsi, tyN, kit_tuple]
end DL

set_option maxRecDepth 100000
set_option maxHeartbeats 4000000
/-! DLs: sorted(xs, key=f). -/
namespace DL
open PySem PySem.Spec PyProof.Rows L2

def keyI : Dat → Option (List Int)
  | .tup xs => match intsD xs with
    | some (n :: ns) => some (n :: ns)
    | _ => none
  | _ => none
def keysD (F : List Dat → Rs Dat) : List Dat → Rs (List (List Int × Dat))
  | [] => .ok []
  | d :: r => F [old d] >>= fun k => Rs.of (keyI k) >>= fun ns => keysD F r >>= fun ps => .ok ((ns, d) :: ps)
def keyP (p : List Int × Dat) : PyData := .tuple (p.1.map .int)
noncomputable def ordK (ps : List (List Int × Dat)) : List Dat := (ps.mergeSort (PySem.W.dataLe false keyP)).map (·.2)
theorem Rs.bind_ok {α β : Type} {x : Rs α} {f : α → Rs β} {b : β} (h : (x >>= f) = .ok b) : ∃ a, x = .ok a ∧ f a = .ok b := by
  cases x with
  | no => cases h
  | ex n => cases h
  | ok a => exact ⟨a, rfl, h⟩
theorem Rs.of_ok {α : Type} {x : Option α} {a : α} (h : Rs.of x = .ok a) : x = some a := by
  cases x with
  | none => cases h
  | some b => cases h; rfl
theorem keyI_some {k : Dat} {ns : List Int} (h : keyI k = some ns) : ∃ xs, k = .tup xs ∧ intsD xs = some ns ∧ ∃ n r, ns = n :: r := by
  unfold keyI at h
  split at h
  · split at h
    · rename_i e
      cases h
      exact ⟨_, rfl, e, _, _, rfl⟩
    · cases h
  · cases h
theorem keysD_get {F : List Dat → Rs Dat} : ∀ {ds : List Dat} {ps : List (List Int × Dat)}, keysD F ds = .ok ps → ps.length = ds.length ∧ ps.map (·.2) = ds ∧ (∀ p ∈ ps, ∃ n r, p.1 = n :: r) ∧
    ∀ (i : Nat) (d : Dat), ds[i]? = some d → ∃ k ns, F [old d] = .ok k ∧ keyI k = some ns ∧ ps[i]? = some (ns, d)
  | [], ps, h => by
    cases h
    exact ⟨rfl, rfl, fun p z => (nomatch z), fun i d z => by simp at z⟩
  | d :: r, ps, h => by
    unfold keysD at h
    obtain ⟨k, e1, h⟩ := Rs.bind_ok h
    obtain ⟨ns, e2, h⟩ := Rs.bind_ok h
    obtain ⟨qs, e3, h⟩ := Rs.bind_ok h
    cases h
    obtain ⟨a1, a2, a3, a4⟩ := keysD_get e3
    have e2 := Rs.of_ok e2
    refine ⟨by simp [a1], by simp [a2], fun p z => ?_, fun i e z => ?_⟩
    · rcases List.mem_cons.mp z with rfl | z
      · obtain ⟨_, _, _, q⟩ := keyI_some e2
        exact q
      · exact a3 p z
    · cases i with
      | zero => cases z; exact ⟨k, ns, e1, e2, rfl⟩
      | succ i => exact a4 i e (by simpa using z)
theorem reads_ints (h : Heap) : ∀ {ns : List Int} {us : List Value}, Vals (ns.map V.int) us → ReadsAll h us (ns.map .int) []
  | [], _, r => by cases r; exact .nil
  | n :: ns, _, r => by
    cases r with
    | cons h1 h2 =>
      obtain ⟨t, rfl⟩ := h1
      exact .cons (as := []) (.int _ _) (reads_ints h h2)
section
variable {X : Cx} {pins : List (Addr × Obj)} {s : Shared} {σ : L2.St} {H H0 : Hp} {LL : Lk}
theorem each_tups (I : Inv X pins σ H s) : ∀ {ks : List (List Int)} {vs : List V} {us : List Value}, DenL X.K H0 LL H (ks.map fun ns => .tup (ns.map .int)) vs → Vals vs us →
    PySem.W.EachIs (fun v k => ∃ as, Reads s.heap v k as) us (ks.map fun ns => .tuple (ns.map .int))
  | [], _, _, h, r => by cases h; cases r; exact .nil
  | ns :: ks, _, _, ⟨v, r, e, h, t⟩, rv => by
    subst e
    cases rv with
    | cons h1 h2 =>
      refine .cons ?_ (each_tups I t h2)
      obtain ⟨a, ws, rfl, ta, dn⟩ := h
      have e := denL_ints dn (ns := ns) (by
        clear dn h1 t
        induction ns with
        | nil => rfl
        | cons n ns ih => show (intsD (ns.map .int)).map (n :: ·) = _; rw [ih]; rfl)
      subst e
      obtain ⟨its, rw_, ⟨o, ho, hc, n, hd⟩, _⟩ := I.tuple ta.sq
      cases h1
      exact ⟨[], .tuple ho hc hd (by rw [List.toList_toArray]; exact reads_ints _ rw_)⟩
theorem gone {h : Heap} {a : Addr} : (h.update a fun o => ⟨o.cls, o.dict, .freed, o.slots⟩).get? a = none := by
  cases e : (h.update a fun o => ⟨o.cls, o.dict, .freed, o.slots⟩).get? a with
  | none => rfl
  | some o =>
    exfalso
    unfold Heap.get? Heap.update at e
    simp only [Array.getElem?_modify, if_pos] at e
    cases q : h.objs[a]? with
    | none => rw [q] at e; cases e
    | some o' => rw [q] at e; cases e
theorem vals_snoc {xs : List V} {us : List Value} {x : V} {u : Value} (h : Vals xs us) (r : RelV x u) : Vals (xs ++ [x]) (us ++ [u]) := h.append (.cons r .nil)
def rSK (K : PySem.W.Frag) (F : List Dat → Rs Dat) (f : Addr) : List V → List V → Hp → VK → Prop := fun vs zs H Q => ∃ l xs ds ks, ∃ (LL : Addr → Prop), ∃ H0, vs = [V.ref l] ∧ zs = [V.ref f] ∧ SqL K H l xs ∧ (∀ a, LL a → ∃ o, H a = some o ∧ Mut (some o)) ∧ (∀ a, H a = none → H0 a = none) ∧ DenL K H0 (Lk.of LL) H ds xs ∧ keysD F ds = .ok ks ∧
  ∀ p ys H', Same H H' → H p = none → H' p = some (.lst ys) → DenL K H0 ((Lk.of LL).or p) H' (ordK ks) ys → Q (.ref p) H'
theorem cr_sortKey {k : Nat} {f : Addr} {fd : FuncData} {ps : List Str} {F : List Dat → Rs Dat} (G : FnOk X.prog X.w X.K X.mg X.base (L2.CX X.prog X.w) k f fd ps (spD X.K X.mg 1 F)) (hr : Room (k + 2) X.A) (hb : Binds X.K fd ps []) :
    CallRK X (.builtin "sorted") [Str.ofString "key"] (rSK X.K F f) := by
  rintro pins s σ H xs zs us ws Q I rx rz ⟨l, vs, ds, ks, LL, H0, rfl, rfl, hS, htrk, hfr, den, hk, q⟩
  obtain rfl := Vals.ref1 rx
  obtain ⟨w1, rfl, e1⟩ := vals1 rz
  cases e1
  obtain ⟨its, rv, hl, hz⟩ := I.list hS
  obtain ⟨k1, k2, k3, k4⟩ := keysD_get hk
  have hlen : its.length = ds.length := by rw [← rv.length, ← den.length]
  have hZ : its.length ≤ sizeLine := by rw [← rv.length]; exact hz
  refine PySem.W.sorted_of_sort hl.isList hZ (PyProof.Rows.ksk_s1 _ _) (fun _ => PyProof.Rows.ksk_l1 _ _) fun E' => ?_
  show wpAny _ _ (Builtin.«list.sort» ⟨[.ref _], [(Str.ofString "key", .ref f)]⟩) _ _ _
  rw [PyProof.Rows.ksk_t1]
  have hmem : ∀ d, d ∈ ks.map keyP → ∃ p : List Int × Dat, p ∈ ks ∧ d = keyP p := fun d hd => by
    obtain ⟨p, hp, e⟩ := List.mem_map.mp hd
    exact ⟨p, hp, e.symm⟩
  have hal : PySem.W.AllAlike (ks.map keyP) := fun d hd d' hd' => by
    obtain ⟨p, _, rfl⟩ := hmem d hd
    obtain ⟨p', _, rfl⟩ := hmem d' hd'
    show PySem.W.alikeAll _ _ = true
    exact PySem.W.alike_ints _ _
  have hsk : PySem.W.Sortable (ks.map keyP) := .inl fun d hd => by
    obtain ⟨p, hp, rfl⟩ := hmem d hd
    obtain ⟨n, r, e⟩ := k3 p hp
    exact ⟨.int n, r.map .int, by unfold keyP; rw [e]; rfl⟩
  have hu : ∀ d, d ∈ ks.map keyP → X.A.in1.in1.units + d.depth < cLine := fun d hd => by
    obtain ⟨p, hp, rfl⟩ := hmem d hd
    have h1 := hr.un
    have h2 : (keyP p).depth = 1 := by
      show PyData.depth (.tuple (p.1.map .int)) = 1
      rw [PyData.depth, PySem.W.depth_ints]
    rw [h2]
    show X.A.units + 1 + 1 + 1 < cLine
    omega
  generalize ha : s.heap.objs.size + 1 = a
  generalize hg : PySem.W.copyHeap s.heap its = g0
  have hg0 : ∀ b o, s.heap.get? b = some o → g0.get? b = some o := fun b o e => by rw [← hg]; exact PySem.W.copyHeap_old e
  have ho : g0.get? a = some (seqObj "list" its.toArray 0) := by rw [← hg, ← ha]; exact PySem.W.copyHeap_at s.heap its
  have hsa : s.heap.get? a = none := by rw [← ha]; exact Heap.get?_none_of_le (Nat.le_succ _)
  have hag : a < g0.objs.size := Heap.lt_size ho
  have hsg : s.heap.objs.size ≤ a := by rw [← ha]; exact Nat.le_succ _
  obtain ⟨e1, ho1⟩ : ∃ e1, (g0.update a (Obj.mapSeq fun _ => (#[] : Array Value))).get? a = some (seqObj "list" #[] e1) := ⟨_, get?_update_seq ho fun _ => #[]⟩
  unfold PyProof.Rows.ksk_tree
  refine wpAny_bind (listItems_at ho rfl ?_)
  refine wpAny_bind (listUpdate_at ho rfl ?_ (by rw [List.size_toArray]; exact hZ) (Nat.zero_le _))
  refine wpAny_bind (seqEpoch_at ho1 rfl ?_)
  refine wpAny_bind (wpAny_newTuple ?_ (by show its.length ≤ _; exact hZ))
  refine wpAny_bind (wpAny_newList ?_ (Nat.zero_le _))
  refine wpAny_holding ?_
  have hkS : ((g0.update a (Obj.mapSeq fun _ => (#[] : Array Value))).push (seqObj "tuple" its.toArray 0)).objs.size = g0.objs.size + 1 := by rw [size_push', Heap.size_update]
  generalize hc : ((g0.update a (Obj.mapSeq fun _ => (#[] : Array Value))).push (seqObj "tuple" its.toArray 0)).objs.size = kS at *
  have hcs : s.heap.objs.size ≤ kS := by rw [hkS]; exact Nat.le_trans hsg (Nat.le_trans (Nat.le_of_lt hag) (Nat.le_succ _))
  have hac : kS ≠ a := by rw [hkS]; exact Nat.ne_of_gt (Nat.lt_succ_of_lt hag)
  have hkn : s.heap.get? kS = none := Heap.get?_none_of_le hcs
  have ht0 : (((g0.update a (Obj.mapSeq fun _ => (#[] : Array Value))).push (seqObj "tuple" its.toArray 0)).push (seqObj "list" #[] 0)).get? kS = some (seqObj "list" #[] 0) := by rw [← hc]; exact Heap.get?_push_size _ rfl
  have hta : (((g0.update a (Obj.mapSeq fun _ => (#[] : Array Value))).push (seqObj "tuple" its.toArray 0)).push (seqObj "list" #[] 0)).get? a = some (seqObj "list" #[] e1) := Heap.get?_push_of_some _ (Heap.get?_push_of_some _ ho1)
  have htk : ∀ b o, s.heap.get? b = some o → (((g0.update a (Obj.mapSeq fun _ => (#[] : Array Value))).push (seqObj "tuple" its.toArray 0)).push (seqObj "list" #[] 0)).get? b = some o := fun b o e =>
    Heap.get?_push_of_some _ (Heap.get?_push_of_some _ ((Heap.get?_update_ne _ _ _ _ (fun z => by rw [z, hsa] at e; cases e)).trans (hg0 b o e)))
  show wpAny (model X.prog X.w) X.A.in1.in1 (PyProof.Rows.ksk_rest a (.ref f) false its.toArray e1 (.ref kS)) _ _ { s with heap := ((g0.update a (Obj.mapSeq fun _ => (#[] : Array Value))).push (seqObj "tuple" its.toArray 0)).push (seqObj "list" #[] 0) }
  generalize (((g0.update a (Obj.mapSeq fun _ => (#[] : Array Value))).push (seqObj "tuple" its.toArray 0)).push (seqObj "list" #[] 0)) = g1 at *
  have I1 : Inv X pins σ H { s with heap := g1 } := I.kept (t' := s.toks) htk
  have HN : H a = none := I.hok.fresh hsg
  have HK : H kS = none := I.hok.fresh hcs
  unfold PyProof.Rows.ksk_rest
  refine wpAny_bind (wpAny_rule ?_)
  first
    | rw [List.forIn_toArray]
    | (rw [← Array.forIn_toList]; simp only [List.toList_toArray])
    | rw [← Array.forIn_toList]
  refine wpAny_bind (PyProof.Rows.ksk_fold (fun i s' => ∃ H' kA e kvs, Same H H' ∧ Inv X pins σ H' s' ∧ H' a = none ∧ H' kS = none ∧ s'.heap.get? kS = some (seqObj "list" kA e) ∧ s'.heap.get? a = some (seqObj "list" #[] e1) ∧ Vals kvs kA.toList ∧
      DenL X.K H0 (Lk.of LL) H' (((ks.map (·.1)).take i).map fun ns => .tup (ns.map .int)) kvs ∧ kA.size = i) its 0 _
    ⟨H, #[], 0, [], Same.refl H, I1, HN, HK, ht0, hta, .nil, by rw [List.take_zero]; rfl, rfl⟩ ?step ?done)
  case step =>
    rintro j x s' hx ⟨H', kA, e, kvs, hs, I', na, nk, gk, ga, rk, dk, hsz⟩
    simp only [Nat.zero_add] at dk hsz ⊢
    have hj : j < its.length := (List.getElem?_eq_some_iff.mp hx).1
    have fk : FpOk X pins H' kS := I.fpOk hcs nk
    have fa : FpOk X pins H' a := I.fpOk hsg na
    obtain ⟨v, hv⟩ : ∃ v, vs[j]? = some v := ⟨_, List.getElem?_eq_getElem (by rw [rv.length]; exact hj)⟩
    obtain ⟨x', hx', rx⟩ := rv.get hv
    rw [hx] at hx'
    cases hx'
    obtain ⟨d, hd, dd⟩ := den.get' hv
    obtain ⟨kd, ns, hF, hkn', hps⟩ := k4 j d hd
    obtain ⟨xs, rfl, hns, _⟩ := keyI_some hkn'
    have I2 : Inv X (pins ++ [(kS, seqObj "list" kA e), (a, seqObj "list" #[] e1)]) σ H' s' := I'.pins_of fun p hp => by
      rcases List.mem_append.mp hp with hp | hp
      · exact I'.pin p (List.mem_append_right _ hp)
      · rcases List.mem_cons.mp hp with rfl | hp
        · exact ⟨gk, nk, fk.2.1, fk.2.2.1, fun v z => by cases z⟩
        · rcases List.mem_cons.mp hp with rfl | hp
          · exact ⟨ga, na, fa.2.1, fa.2.2.1, fun v z => by cases z⟩
          · cases hp
    have turn : wpAny (model X.prog X.w) X.A.in1.in1 (call (.ref f) [x]) (EP X (pins ++ [(kS, seqObj "list" kA e), (a, seqObj "list" #[] e1)]) σ (fun v H'' => Same H' H'' ∧ Den X.K H0 (Lk.of LL) H'' (.tup xs) v)) (fun _ _ => False) s' := by
      refine wpAny_call (codeAny_mono (G.run X.A.in1.in1 X.stack s' H' ⟨[x], []⟩ ([x] ++ []) ([v] ++ []) (fun v H'' => Same H' H'' ∧ Den X.K H0 (Lk.of LL) H'' (.tup xs) v) (fun _ _ _ => False) hr.in1.in1 I2.env0.in1.in1 (hb s' [x] I'.kIn ?_) (Vals.append (xs := [v]) (us := [x]) (.cons rx .nil) .nil) ?_) fun r s'' hq => ?_)
      · have := G.len [v] H' (fun v H'' => Same H' H'' ∧ Den X.K H0 (Lk.of LL) H'' (.tup xs) v) (fun _ _ _ => False) ⟨rfl, LL, [old d], fun b z => let ⟨o, e, m⟩ := htrk b z; ⟨o, hs _ _ e, m⟩, ⟨v, [], rfl, (dd.same hs).old, rfl⟩, by
          rw [hF]
          exact fun v H'' s2 dn => ⟨s2, dn.kp .refl fun b z => hfr b (hs.free z)⟩⟩
        simpa using this
      · exact ⟨rfl, LL, [old d], fun b z => let ⟨o, e, m⟩ := htrk b z; ⟨o, hs _ _ e, m⟩, ⟨v, [], rfl, (dd.same hs).old, rfl⟩, by
          rw [hF]
          exact fun v H'' s2 dn => ⟨s2, dn.kp .refl fun b z => hfr b (hs.free z)⟩⟩
      · cases r with
        | error e => exact cx_false hq
        | ok fl =>
          cases fl with
          | ret u => exact I2.after hq
          | next => exact False.elim hq
          | brk => exact False.elim hq
          | cont => exact False.elim hq
    refine wpAny_bind (wpAny_attempt (wpAny_mono turn (fun u s'' he => ?_) fun _ _ hF => hF.elim))
    obtain ⟨w, H'', I3, rw_, s3, dw⟩ := he
    have hzA : kA.size ≤ sizeLine := by omega
    have pk := I3.pin (kS, seqObj "list" kA e) (by simp)
    have pa := I3.pin (a, seqObj "list" #[] e1) (by simp)
    have gk2 := pk.1
    refine wpAny_bind (listUpdate_at gk2 rfl ?_ hzA (Nat.le_trans (Nat.le_of_eq (Array.size_push ..)) (Nat.succ_le_succ hzA)))
    have sb := Heap.SameBut.update s''.heap kS (Obj.mapSeq (·.push u))
    obtain ⟨c2, hc2⟩ : ∃ c2, (s''.heap.update kS (Obj.mapSeq (·.push u))).get? kS = some (seqObj "list" (kA.push u) c2) := ⟨_, get?_update_seq gk2 (·.push u)⟩
    have I4 : Inv X pins σ H'' s'' := I3.unpinned
    refine wpAny_pure ⟨rfl, H'', kA.push u, c2, kvs ++ [w], hs.trans s3, I4.turned (t' := s''.toks) (fun b o hb z => (sb.2 b hb).trans z) pk.2.1 fk.2.1 fk.2.2.2.1 fk.2.2.2.2.1 fk.2.2.2.2.2, pa.2.1, pk.2.1, hc2, (sb.2 a hac.symm).trans pa.1, ?_, ?_, ?_⟩
    · rw [Array.toList_push]
      exact Vals.append rk (.cons rw_ .nil)
    · have e3 : (ks.map (·.1)).take (j + 1) = (ks.map (·.1)).take j ++ [ns] := by
        rw [List.take_add_one, List.getElem?_map, hps]
        rfl
      rw [e3, List.map_append]
      refine (dk.same s3).app ⟨w, [], rfl, ?_, rfl⟩
      obtain ⟨aw, uw, rfl, tw, qw⟩ := dw
      have ew := denL_ints qw hns
      subst ew
      refine ⟨aw, _, rfl, tw, ?_⟩
      have gen : ∀ l : List Int, DenL X.K H0 (Lk.of LL) H'' (l.map .int) (l.map V.int) := fun l => by
        induction l with
        | nil => rfl
        | cons n l ih => exact ⟨_, _, rfl, rfl, ih⟩
      exact gen ns
    · rw [Array.size_push, hsz]
  case done =>
    rintro s' ⟨H', kA, e, kvs, hs, I', na, nk, gk, ga, rk, dk, hsz⟩
    simp only [Nat.zero_add] at dk hsz
    rw [List.take_of_length_le (by rw [List.length_map, k1, hlen]; exact Nat.le_refl _)] at dk
    have hk' : PySem.W.EachIs (fun v k => ∃ as, Reads s'.heap v k as) kA.toList (ks.map keyP) := by
      have h1 := each_tups I' dk rk
      rw [List.map_map] at h1
      exact h1
    try dsimp only
    refine wpAny_bind (listItems_at gk rfl ?_)
    have g2 : ∀ b o, b ≠ kS → s'.heap.get? b = some o → (s'.heap.update kS fun o => ⟨o.cls, o.dict, .freed, o.slots⟩).get? b = some o := fun b o hb z => (Heap.get?_update_ne _ _ _ _ hb).trans z
    have g3 : ∀ b o, (s'.heap.update kS fun o => ⟨o.cls, o.dict, .freed, o.slots⟩).get? b = some o → s'.heap.get? b = some o := fun b o z => by
      by_cases hb : b = kS
      · rw [hb, gone] at z
        cases z
      · rw [Heap.get?_update_ne _ _ _ _ hb] at z
        exact z
    have fk : FpOk X pins H' kS := I.fpOk hcs nk
    refine PySem.W.keyH_end (κ := PySem.W.dataKind s'.heap (ks.map keyP)) (h₁ := s'.heap.update kS fun o => ⟨o.cls, o.dict, .freed, o.slots⟩) (fun b o _ z => g3 b o z) gone gk ga hac (PySem.W.SortsAt.data hk' hal hsk hu) (hsz.trans (by simp)) hZ fun h' tk c kp hD => ?_
    refine ⟨rfl, ?_⟩
    have eq2 : PySem.W.EachIs (fun u (p : List Int × Dat) => ∃ v, RelV v u ∧ Den X.K H0 (Lk.of LL) H' p.2 v) its ks := by
      have go : ∀ {its : List Value} {vs : List V} {ks : List (List Int × Dat)}, DenL X.K H0 (Lk.of LL) H' (ks.map (·.2)) vs → Vals vs its → PySem.W.EachIs (fun u (p : List Int × Dat) => ∃ v, RelV v u ∧ Den X.K H0 (Lk.of LL) H' p.2 v) its ks := by
        intro its vs ks
        induction ks generalizing its vs with
        | nil => intro h r; cases h; cases r; exact .nil
        | cons p ks ih =>
          rintro ⟨v, r, e, h, t⟩ rv
          subst e
          cases rv with
          | cons h1 h2 => exact .cons ⟨v, h1, h⟩ (ih t h2)
      exact go (vs := vs) (by rw [k2]; exact den.same hs) rv
    have so := PySem.W.sortVals_each (κ := PySem.W.dataKind s'.heap (ks.map keyP)) (rev := false) (fun p => PySem.W.keyToks (keyP p)) eq2 (PySem.W.each_of_map keyP (PySem.W.each_keys hal hk'))
    generalize PySem.W.sortVals (PySem.W.dataKind s'.heap (ks.map keyP)) false kA.toList its = out at so hD
    have fin : ∀ {out : List Value} {qs : List (List Int × Dat)}, PySem.W.EachIs (fun u (p : List Int × Dat) => ∃ v, RelV v u ∧ Den X.K H0 (Lk.of LL) H' p.2 v) out qs → ∃ ys, Vals ys out ∧ DenL X.K H0 (Lk.of LL) H' (qs.map (·.2)) ys := fun {out qs} h => by
      induction h with
      | nil => exact ⟨[], .nil, rfl⟩
      | cons h1 h2 ih =>
        obtain ⟨v, a1, a2⟩ := h1
        obtain ⟨ys, b1, b2⟩ := ih
        exact ⟨v :: ys, .cons a1 b1, v, ys, rfl, a2, b2⟩
    obtain ⟨ys, ry, dy⟩ := fin so
    have hyl : ys.length ≤ sizeLine := by
      rw [← dy.length, List.length_map, List.length_mergeSort, k1, ← hlen]
      exact hZ
    have IG : Inv X pins σ H' { s' with heap := s'.heap.update kS fun o => ⟨o.cls, o.dict, .freed, o.slots⟩ } := I'.turned (t' := s'.toks) g2 nk fk.2.1 fk.2.2.2.1 fk.2.2.2.2.1 fk.2.2.2.2.2
    have IF : Inv X pins σ (upd H' a (.lst ys)) { s' with heap := h', toks := tk } := L2.Inv.take (s := { s' with heap := s'.heap.update kS fun o => ⟨o.cls, o.dict, .freed, o.slots⟩ }) (t' := tk) IG (fun b o hb z => kp b o hb z) (I.fpOk hsg na) ⟨hyl, out, c, ry, hD⟩
    refine ⟨.ref a, _, IF, rfl, q a ys _ (hs.trans (same_new na)) HN upd_same ?_⟩
    exact (DenL.kp (kp_or (same_new na) na) (fun _ z => z) dy)
end
end DL

set_option maxRecDepth 100000
set_option maxHeartbeats 4000000
/-! DLt: sorted by a def; walks over lists or tuples, zip, enumerate. -/
namespace DL
open PySem PySem.Spec PyProof.Rows L2

section
variable {X : Cx} {W : WX} {H0 : Hp} {L : Lp} {LL : Lk} {m : Bool} {a b e : Expr} {es rest : List Expr} {pos p : Pos} {f g : DEnv → Rs Dat} {fa : DEnv → Rs (List Dat)} {tg iter : Expr}
variable {K : PySem.W.Frag} {mg : Str → Option Value} {σ : L2.St} {H : Hp} {ε : DEnv}
/-! ### sorted(xs, key=f) -/
noncomputable def sortA (F : List Dat → Rs Dat) : List Dat → Rs (List Dat)
  | [.lst _ ds] => (keysD F ds).nox >>= fun ks => .ok (ordK ks)
  | _ => .no
noncomputable def sortKD (F : List Dat → Rs Dat) (fa : DEnv → Rs (List Dat)) (ε : DEnv) : Rs (List Dat) := fa ε >>= sortA F
theorem df_sortK (hc : L.c = false) {y : Str} {k j : Nat} {F : List Dat → Rs Dat} {q kp : Pos} (G : DefOk X.prog X.w X.K X.mg X.base y 1 k F) (hr : Room j X.A) (hkj : k + 2 ≤ j) (hm : X.mg "sorted" = none) (ha : DA false X W H0 L [e] fa) (hg : Gl X "sorted" := by rfl) (hgy : Gl X y := by rfl) (hdy : (y == ("__debug__" : Str)) = false := by decide)
    (he : backTo pos (starEach [e] X.env) = (false, eval e X.env) :: backTo pos (starEach [] X.env) := by rfl) (hpl : (backTo pos (starEach [e] X.env)).any (·.1) = false := by rfl)
    (hall : (backToKw pos (keywordEach [⟨some "key", .Name y q, kp⟩] X.env)).all (·.1.isSome) = true := by rfl) (hnone : (backToKw pos (keywordEach [⟨some "key", .Name y q, kp⟩] X.env)).any (·.1.isNone) = false := by rfl) (hks : (backToKw pos (keywordEach [⟨some "key", .Name y q, kp⟩] X.env)).filterMap (·.1) = [Str.ofString "key"] := by rfl) :
    DF X W H0 L (.Call (.Name "sorted" p) [e] [⟨some "key", .Name y q, kp⟩] pos) (sortKD F fa) := by
  obtain ⟨f, fd, ps, a1, a2, a3, a4⟩ := G.ex
  refine peimp (pe_callBK (cr_sortKey a1 (hr.mono hkj) a4) hg hm PyProof.Rows.boot_sorted ha (pk_cons (pe_glob (v := .ref f) hgy a2 rfl hdy) pk_nil) (by decide) (by decide) he hpl hall hnone hks) fun σ H Q ⟨ε, LL, r, h⟩ => ?_
  unfold sortKD at h
  rw [Rs.to_bind] at h
  refine ⟨ε, LL, r, h.imp (fun ds _ hd vs H1 s1 q => ?_) fun n z => z⟩
  unfold sortA at hd
  split at hd
  · rename_i t ds eds
    rw [Rs.to_bind] at hd
    obtain ⟨v, rfl, q1⟩ := pair1 q
    obtain ⟨l, xs, rfl, hl, ht, hlx, den⟩ := q1
    cases hk : keysD F ds with
    | no => rw [hk] at hd; exact hd.elim
    | ex n => rw [hk] at hd; exact hd.elim
    | ok ks =>
      rw [hk] at hd
      have r1 := r.mono s1
      refine ⟨l, xs, ds, ks, LL.f, H0, rfl, rfl, .of hlx, r1.mu, r1.good.fr, den.of, hk, fun p ys H' s2 hp hH' dn => ?_⟩
      exact hd p ys H' (s1.trans s2) (s1.free hp) hH' (DenL.kp (L := (Lk.of LL.f).or p) (L' := LL.or p) ⟨fun b o n e => ⟨n, e⟩, KL.refl⟩ (fun _ z => z) dn)
  · exact hd.elim

/-! ### walks over what is a list or a tuple -/
def asA : Dat → Rs (List Dat)
  | .lst _ ds => .ok ds
  | .tup ds => .ok ds
  | _ => .no
def walkA (f : DEnv → Rs Dat) (ε : DEnv) : Rs (List Dat) := f ε >>= asA
theorem di_any (he : DE m X W H0 L e f) : DI m X W H0 L tg e (walkA f) :=
  piimp (pior (di_list (tg := tg) he) (di_tup (tg := tg) he)) fun σ H R ⟨ε, LL, r, h⟩ => by
    unfold walkA at h
    cases e : f ε with
    | no => rw [e] at h; exact h.elim
    | ex n => rw [e] at h; exact .inl ⟨ε, LL, r, by unfold walkD; rw [e]; exact h⟩
    | ok d =>
      rw [e] at h
      cases d with
      | lst t ds => exact .inl ⟨ε, LL, r, by unfold walkD; rw [e]; exact h⟩
      | tup ds => exact .inr ⟨ε, LL, r, by unfold walkT; rw [e]; exact h⟩
      | _ => exact h.elim

/-! ### zip of two lists, enumerate -/
def zipD : List Dat → List Dat → List Dat
  | d :: ds, e :: es => .tup [d, e] :: zipD ds es
  | _, _ => []
theorem zipD_get : ∀ {ds es : List Dat} {i : Nat} {z : Dat}, (zipD ds es)[i]? = some z → ∃ d e, ds[i]? = some d ∧ es[i]? = some e ∧ z = .tup [d, e]
  | [], _, _, _, h => by simp [zipD] at h
  | _ :: _, [], _, _, h => by simp [zipD] at h
  | d :: ds, e :: es, 0, z, h => by
    cases (show some (Dat.tup [d, e]) = some z from h)
    exact ⟨d, e, rfl, rfl, rfl⟩
  | d :: ds, e :: es, i + 1, z, h => zipD_get (ds := ds) (es := es) (i := i) h
theorem zipD_length : ∀ {ds es : List Dat}, (zipD ds es).length = min ds.length es.length
  | [], _ => by simp [zipD]
  | _ :: _, [] => by simp [zipD]
  | d :: ds, e :: es => by simp [zipD, zipD_length]
def asZ : List Dat → Rs (List Dat)
  | [.lst _ ds, .lst _ es] => .ok (zipD ds es)
  | _ => .no
theorem wlk_zip {LL : Lk} {p q : Addr} {ds es : List Dat} {vs ws : List V} (hp : H p = some (.lst vs)) (hl : m = true → ¬ LL p) (dq : DenL K H0 LL H ds vs) (hq : H q = some (.lst ws)) (hl2 : m = true → ¬ LL q) (eq : DenL K H0 LL H es ws) : Wlk m K H0 LL H (Itz K p q) (zipD ds es) := ⟨fun L2 LL2 H2 g k s i => by
  have hp2 : H2 p = some (.lst vs) := by
    cases m with
    | true => exact (k.k p _ (hl rfl) hp).2
    | false => exact s rfl _ _ hp
  have hq2 : H2 q = some (.lst ws) := by
    cases m with
    | true => exact (k.k q _ (hl2 rfl) hq).2
    | false => exact s rfl _ _ hq
  have hS : SqL K H2 p vs := .of hp2
  have hT : SqL K H2 q ws := .of hq2
  refine ⟨fun d hd => ?_, fun hi => ⟨vs, ws, hS, hT, ?_⟩⟩
  · obtain ⟨x, y, e1, e2, rfl⟩ := zipD_get hd
    obtain ⟨v, hv, qd⟩ := dq.get e1
    obtain ⟨w, hw, qe⟩ := eq.get e2
    refine ⟨⟨vs, ws, v, w, hS, hT, hv, hw⟩, fun z H3 ⟨T, x', y', ez, hn, eH, y1, y2⟩ => ?_⟩
    subst ez eH
    have e3 : v = x' := Option.some.inj (hv.symm.trans (y1 vs hS))
    have e4 : w = y' := Option.some.inj (hw.symm.trans (y2 ws hT))
    subst e3 e4
    exact ⟨same_new hn, g.tup hn ⟨v, _, rfl, qd.kp k fun _ z => z, w, _, rfl, qe.kp k fun _ z => z, rfl⟩⟩
  · rw [zipD_length] at hi
    rw [← dq.length, ← eq.length]
    omega⟩
theorem di_zip {elts : List Expr} {kk : Nat} {tpos : Pos} (hm : X.mg "zip" = none) (ha : DA m X W H0 L [a, b] fa) (hg : Gl X "zip" := by rfl) (hs : starEach [a, b] X.env = (false, eval a X.env) :: starEach [b] X.env := by rfl) (hpl : (backTo pos (starEach [b] X.env)).any (·.1) = false := by rfl) :
    DI m X W H0 L (.Tuple elts kk tpos) (.Call (.Name "zip" p) [a, b] [] pos) (rngD asZ fa) :=
  piimp (pi_zip hg hm ha hs hpl) fun σ H R ⟨ε, LL, r, h⟩ => by
    unfold rngD at h
    rw [Rs.to_bind] at h
    refine ⟨ε, LL, r, h.imp (fun ds _ hd vs H1 s1 q => ?_) fun n z => z⟩
    unfold asZ at hd
    split at hd
    · obtain ⟨v, w, rfl, q1, q2⟩ := pair2 q
      cases m with
      | true =>
        obtain ⟨p1, xs, rfl, l1, t1, h1, d1⟩ := q1
        obtain ⟨p2, ys, rfl, l2, t2, h2, d2⟩ := q2
        exact ⟨p1, p2, xs, ys, rfl, .of h1, .of h2, hd _ _ s1 (wlk_zip h1 (fun _ => l1) d1 h2 (fun _ => l2) d2)⟩
      | false =>
        obtain ⟨p1, xs, rfl, l1, t1, h1, d1⟩ := q1
        obtain ⟨p2, ys, rfl, l2, t2, h2, d2⟩ := q2
        exact ⟨p1, p2, xs, ys, rfl, .of h1, .of h2, hd _ _ s1 (wlk_zip h1 (fun z => nomatch z) d1 h2 (fun z => nomatch z) d2)⟩
    · exact hd.elim
def enumD : Nat → List Dat → List Dat
  | _, [] => []
  | i, d :: ds => .tup [.int i, d] :: enumD (i + 1) ds
theorem enumD_get : ∀ {ds : List Dat} {n i : Nat} {z : Dat}, (enumD n ds)[i]? = some z → ∃ d, ds[i]? = some d ∧ z = .tup [.int ((n + i : Nat) : Int), d]
  | [], _, _, _, h => by simp [enumD] at h
  | d :: ds, n, 0, z, h => by
    cases (show some (Dat.tup [.int n, d]) = some z from h)
    exact ⟨d, rfl, rfl⟩
  | d :: ds, n, i + 1, z, h => by
    obtain ⟨e, h1, h2⟩ := enumD_get (ds := ds) (n := n + 1) (i := i) h
    exact ⟨e, h1, by rw [h2, Nat.add_right_comm, Nat.add_assoc]⟩
theorem enumD_length : ∀ {ds : List Dat} {n : Nat}, (enumD n ds).length = ds.length
  | [], _ => rfl
  | d :: ds, n => by simp [enumD, enumD_length]
def asE : List Dat → Rs (List Dat)
  | [.lst _ ds] => .ok (enumD 0 ds)
  | _ => .no
theorem wlk_enum {LL : Lk} {p : Addr} {ds : List Dat} {vs : List V} (hp : H p = some (.lst vs)) (hl : m = true → ¬ LL p) (q : DenL K H0 LL H ds vs) : Wlk m K H0 LL H (Ite K p) (enumD 0 ds) := ⟨fun L2 LL2 H2 g k s i => by
  have hp2 : H2 p = some (.lst vs) := by
    cases m with
    | true => exact (k.k p _ (hl rfl) hp).2
    | false => exact s rfl _ _ hp
  have hS : SqL K H2 p vs := .of hp2
  refine ⟨fun d hd => ?_, fun hi => ⟨vs, hS, by rw [← q.length]; rw [enumD_length] at hi; exact hi⟩⟩
  obtain ⟨x, e1, rfl⟩ := enumD_get hd
  obtain ⟨v, hv, qd⟩ := q.get e1
  refine ⟨⟨vs, v, hS, hv⟩, fun z H3 ⟨T, x', ez, hn, eH, y1⟩ => ?_⟩
  subst ez eH
  have e3 : v = x' := Option.some.inj (hv.symm.trans (y1 vs hS))
  subst e3
  rw [Nat.zero_add]
  exact ⟨same_new hn, g.tup hn ⟨_, _, rfl, rfl, v, _, rfl, qd.kp k fun _ z => z, rfl⟩⟩⟩
theorem di_enum {elts : List Expr} {kk : Nat} {tpos : Pos} (hm : X.mg "enumerate" = none) (ha : DA m X W H0 L [a] fa) (hg : Gl X "enumerate" := by rfl) (hs : starEach [a] X.env = [(false, eval a X.env)] := by rfl) :
    DI m X W H0 L (.Tuple elts kk tpos) (.Call (.Name "enumerate" p) [a] [] pos) (rngD asE fa) :=
  piimp (pi_enum hg hm ha hs) fun σ H R ⟨ε, LL, r, h⟩ => by
    unfold rngD at h
    rw [Rs.to_bind] at h
    refine ⟨ε, LL, r, h.imp (fun ds _ hd vs H1 s1 q => ?_) fun n z => z⟩
    unfold asE at hd
    split at hd
    · obtain ⟨v, rfl, q1⟩ := pair1 q
      cases m with
      | true =>
        obtain ⟨p1, xs, rfl, l1, t1, h1, d1⟩ := q1
        exact ⟨p1, xs, rfl, .of h1, hd _ _ s1 (wlk_enum h1 (fun _ => l1) d1)⟩
      | false =>
        obtain ⟨p1, xs, rfl, l1, t1, h1, d1⟩ := q1
        exact ⟨p1, xs, rfl, .of h1, hd _ _ s1 (wlk_enum h1 (fun z => nomatch z) d1)⟩
    · exact hd.elim
end
end DL

set_option maxRecDepth 100000
set_option maxHeartbeats 4000000
/-! DLo: dicts. -/
namespace DL
open PySem PySem.Spec PyProof.Rows L2

/-! ### keys and places -/
section
variable {κ : Type} [DecidableEq κ] {α : Type}
def lookL : List κ → List α → κ → Option α
  | j :: js, x :: xs, k => if j = k then some x else lookL js xs k
  | _, _, _ => none
def replL : List κ → List α → κ → α → List α
  | j :: js, x :: xs, k, y => (if j = k then y else x) :: replL js xs k y
  | _, xs, _, _ => xs
def hasL (ks : List κ) (k : κ) : Bool := ks.any fun j => decide (j = k)
def putKs (ks : List κ) (k : κ) : List κ := if hasL ks k = true then ks else ks ++ [k]
def putDs (ks : List κ) (xs : List α) (k : κ) (y : α) : List α := if hasL ks k = true then replL ks xs k y else xs ++ [y]
theorem val_zip (ks : List κ) (vs : List V) (k : κ) : valV (ks.zip vs) k = lookL ks vs k := by
  induction ks generalizing vs with
  | nil => rfl
  | cons j js ih =>
    cases vs with
    | nil => rfl
    | cons v vs =>
      show valV ((j, v) :: js.zip vs) k = if j = k then some v else lookL js vs k
      by_cases h : j = k
      · rw [valV_pos (p := (j, v)) h, if_pos h]
      · rw [valV_neg (p := (j, v)) h, if_neg h, ih]
theorem any_zip (ks : List κ) (vs : List V) (k : κ) (h : ks.length = vs.length) : ((ks.zip vs).any fun kv => decide (kv.1 = k)) = hasL ks k := by
  induction ks generalizing vs with
  | nil => rfl
  | cons j js ih =>
    cases vs with
    | nil => cases h
    | cons v vs =>
      show (decide (j = k) || (js.zip vs).any _) = (decide (j = k) || hasL js k)
      rw [ih vs (Nat.succ.inj h)]
theorem map_zip (ks : List κ) (vs : List V) (k : κ) (y : V) : (ks.zip vs).map (fun kv => if kv.1 = k then (kv.1, y) else kv) = ks.zip (replL ks vs k y) := by
  induction ks generalizing vs with
  | nil => rfl
  | cons j js ih =>
    cases vs with
    | nil => rfl
    | cons v vs =>
      show (if j = k then (j, y) else (j, v)) :: (js.zip vs).map _ = (j, if j = k then y else v) :: js.zip (replL js vs k y)
      rw [ih]
      by_cases h : j = k
      · rw [if_pos h, if_pos h]
      · rw [if_neg h, if_neg h]
theorem put_zip (ks : List κ) (vs : List V) (k : κ) (y : V) (h : ks.length = vs.length) : putK (ks.zip vs) k y = (putKs ks k).zip (putDs ks vs k y) := by
  unfold putK putKs putDs
  rw [any_zip ks vs k h]
  cases hasL ks k with
  | true => rw [if_pos rfl, if_pos rfl, if_pos rfl, map_zip]
  | false =>
    simp only [Bool.false_eq_true, if_false]
    rw [List.zip_append h]
    rfl
theorem replL_length (ks : List κ) (xs : List α) (k : κ) (y : α) : (replL ks xs k y).length = xs.length := by
  induction ks generalizing xs with
  | nil => cases xs <;> rfl
  | cons j js ih => cases xs with
    | nil => rfl
    | cons x xs => show (replL js xs k y).length + 1 = _; rw [ih]; rfl
theorem put_length (ks : List κ) (xs : List α) (k : κ) (y : α) (h : ks.length = xs.length) : (putKs ks k).length = (putDs ks xs k y).length := by
  unfold putKs putDs
  cases hasL ks k with
  | true => rw [if_pos rfl, if_pos rfl, replL_length, h]
  | false => simp [h]
end
section
variable {κ : Type} [DecidableEq κ] {K : PySem.W.Frag} {H0 H : Hp} {LL : Lk}
theorem look_den {ks : List κ} {k : κ} : ∀ {ds : List Dat} {vs : List V}, DenL K H0 LL H ds vs → ∀ {d : Dat}, lookL ks ds k = some d → ∃ v, lookL ks vs k = some v ∧ Den K H0 LL H d v := by
  induction ks with
  | nil => intro ds vs h d e; cases e
  | cons j js ih =>
    intro ds vs h d e
    cases ds with
    | nil => cases e
    | cons x ds =>
      obtain ⟨v, r, rfl, h1, h2⟩ := h
      have e : (if j = k then some x else lookL js ds k) = some d := e
      by_cases hj : j = k
      · rw [if_pos hj] at e
        cases e
        exact ⟨v, if_pos hj, h1⟩
      · rw [if_neg hj] at e
        obtain ⟨w, e1, q⟩ := ih h2 e
        exact ⟨w, (if_neg hj).trans e1, q⟩
theorem look_none {ks : List κ} {k : κ} : ∀ {ds : List Dat} {vs : List V}, DenL K H0 LL H ds vs → lookL ks ds k = none → lookL ks vs k = none := by
  induction ks with
  | nil => intro ds vs h e; rfl
  | cons j js ih =>
    intro ds vs h e
    cases ds with
    | nil => cases h; rfl
    | cons x ds =>
      obtain ⟨v, r, rfl, h1, h2⟩ := h
      have e : (if j = k then some x else lookL js ds k) = none := e
      by_cases hj : j = k
      · rw [if_pos hj] at e
        cases e
      · rw [if_neg hj] at e
        exact (if_neg hj).trans (ih h2 e)
theorem repl_den {ks : List κ} {k : κ} {d : Dat} {v : V} (hd : Den K H0 LL H d v) : ∀ {ds : List Dat} {vs : List V}, DenL K H0 LL H ds vs → DenL K H0 LL H (replL ks ds k d) (replL ks vs k v) := by
  induction ks with
  | nil => intro ds vs h; cases ds <;> cases vs <;> exact h
  | cons j js ih =>
    intro ds vs h
    cases ds with
    | nil => cases h; rfl
    | cons x ds =>
      obtain ⟨w, r, rfl, h1, h2⟩ := h
      refine ⟨_, _, rfl, ?_, ih h2⟩
      by_cases hj : j = k
      · rw [if_pos hj, if_pos hj]; exact hd
      · rw [if_neg hj, if_neg hj]; exact h1
theorem put_den {ks : List κ} {k : κ} {d : Dat} {v : V} (hd : Den K H0 LL H d v) {ds : List Dat} {vs : List V} (h : DenL K H0 LL H ds vs) : DenL K H0 LL H (putDs ks ds k d) (putDs ks vs k v) := by
  unfold putDs
  cases hasL ks k with
  | true => rw [if_pos rfl, if_pos rfl]; exact repl_den hd h
  | false =>
    simp only [Bool.false_eq_true, if_false]
    exact h.app ⟨v, [], rfl, hd, rfl⟩
def keyK : Dat → Option Key
  | .int i => some (.inl i)
  | .str s => some (.inr s)
  | _ => none
def keysL : List Dat → Option (List Key)
  | [] => some []
  | d :: r => (keyK d).bind fun k => (keysL r).map (k :: ·)
def keyT : Dat → Option (List Key)
  | .tup ds => keysL ds
  | _ => none
theorem keyK_den {d : Dat} {v : V} {k : Key} {L : Lp} (h : DenS K H0 L LL H d v) (e : keyK d = some k) : v = kV k := by
  cases d with
  | int i => cases e; exact h
  | str s => cases e; exact h
  | _ => cases e
theorem keysL_den : ∀ {ds : List Dat} {vs : List V} {ks : List Key}, DenL K H0 LL H ds vs → keysL ds = some ks → vs = ks.map kV
  | [], _, _, h, e => by cases h; cases e; rfl
  | d :: r, _, ks, ⟨v, vr, e1, h, t⟩, e => by
    subst e1
    have e : ((keyK d).bind fun k => (keysL r).map (k :: ·)) = some ks := e
    cases hk : keyK d with
    | none => rw [hk] at e; cases e
    | some k =>
      rw [hk] at e
      cases hr : keysL r with
      | none => rw [hr] at e; cases e
      | some kr =>
        rw [hr] at e
        cases e
        have := keyK_den (L := ⟨LL.f, false⟩) (Den.s (fun _ z => z) h) hk
        rw [this, keysL_den t hr]
        rfl
theorem keyT_den {d : Dat} {v : V} {ks : List Key} {L : Lp} (h : DenS K H0 L LL H d v) (e : keyT d = some ks) : ∃ b, v = .ref b ∧ H b = some (.tup (ks.map kV)) := by
  cases d with
  | tup ds =>
    obtain ⟨b, vs, rfl, t, q⟩ := h
    rw [keysL_den q e] at t
    exact ⟨b, rfl, t.2⟩
  | _ => cases e
end

section
variable {X : Cx} {W : WX} {H0 : Hp} {L : Lp} {LL : Lk} {m : Bool} {a b c e : Expr} {es rest : List Expr} {pos p : Pos} {f g h : DEnv → Rs Dat} {fa : DEnv → Rs (List Dat)}
variable {K : PySem.W.Frag} {mg : Str → Option Value} {σ : L2.St} {H : Hp} {ε : DEnv}
/-- d[k], what stands there -/
def dLook : Dat → Dat → Option (Option Dat)
  | .dK ks ds, k => (keyK k).map (lookL ks ds)
  | .dT ks ds, k => (keyT k).map (lookL ks ds)
  | _, _ => none
theorem look_at {d k : Dat} {x y : V} {o : Option Dat} (hx : DenS K H0 L LL H d x) (hy : DenS K H0 L LL H k y) (e : dLook d k = some o) :
    ∃ a v, x = .ref a ∧ IsD H a ∧ DGet H a y v ∧ (∀ z, o = some z → ∃ w, v = some w ∧ Den K H0 LL H z w) ∧ (o = none → v = none) := by
  cases d with
  | dK ks ds =>
    obtain ⟨a, vs, rfl, _, ha, hl, q⟩ := hx
    cases hk : keyK k with
    | none => rw [dLook, hk] at e; cases e
    | some k' =>
      rw [dLook, hk] at e
      cases e
      refine ⟨a, lookL ks vs k', rfl, .inl ⟨_, ha⟩, .inl ⟨_, k', ha, keyK_den hy hk, (val_zip ks vs k').symm⟩, fun z hz => ?_, fun hz => look_none q hz⟩
      obtain ⟨w, e1, e2⟩ := look_den q hz
      exact ⟨w, e1, e2⟩
  | dT ks ds =>
    obtain ⟨a, vs, rfl, _, ha, hl, q⟩ := hx
    cases hk : keyT k with
    | none => rw [dLook, hk] at e; cases e
    | some k' =>
      rw [dLook, hk] at e
      cases e
      obtain ⟨b, rfl, hb⟩ := keyT_den hy hk
      refine ⟨a, lookL ks vs k', rfl, .inr ⟨_, ha⟩, .inr ⟨_, k', b, ha, rfl, hb, (val_zip ks vs k').symm⟩, fun z hz => ?_, fun hz => look_none q hz⟩
      obtain ⟨w, e1, e2⟩ := look_den q hz
      exact ⟨w, e1, e2⟩
  | _ => cases e
def dGet (d k : Dat) : Option Dat := (dLook d k).bind id
theorem opd_get : OpD K (fun x y H Q => ∃ a v, x = .ref a ∧ DGet H a y (some v) ∧ Q v H) dGet := by
  intro H0 L LL H x y d e z Q gd hx hy hz hq
  unfold dGet at hz
  cases ho : dLook d e with
  | none => rw [ho] at hz; cases hz
  | some o =>
    rw [ho] at hz
    have hz : o = some z := hz
    obtain ⟨a, v, ex, _, g1, g2, _⟩ := look_at hx hy ho
    obtain ⟨w, e1, e2⟩ := g2 z hz
    rw [e1] at g1
    exact ⟨a, w, ex, g1, hq _ _ (Same.refl _) e2⟩
theorem de_dget {j : Nat} (hr : Room j X.A) (ha : DE false X W H0 L a f) (hb : DE false X W H0 L b g) (hs : NoSl b := by intro _ _; rfl) : DE m X W H0 L (.Subscript a b pos) (bop dGet f g) :=
  peimp (pe_dget (by have := hr.units; omega) ha hb hs) fun σ H Q h => bin_use opd_get h
/-- k in d -/
def dInD (k d : Dat) : Option Dat := (dLook d k).map fun o => .bl o.isSome
theorem opd_inD : OpD K (fun y x H Q => ∃ a o, x = .ref a ∧ DGet H a y o ∧ Q (.bl o.isSome) H) dInD := by
  intro H0 L LL H x y d e z Q gd hx hy hz hq
  unfold dInD at hz
  cases ho : dLook e d with
  | none => rw [ho] at hz; cases hz
  | some o =>
    rw [ho] at hz
    cases hz
    obtain ⟨a, v, ex, _, g1, g2, g3⟩ := look_at hy hx ho
    refine ⟨a, v, ex, g1, hq _ _ (Same.refl _) ?_⟩
    cases o with
    | none => rw [g3 rfl]; rfl
    | some z => obtain ⟨w, e1, _⟩ := g2 z rfl; rw [e1]; rfl
theorem de_inD {j : Nat} (hr : Room j X.A) (ha : DE false X W H0 L a f) (hb : DE false X W H0 L b g) (h1 : behindInMarks .In b = false := by first | exact nobehind _ (by decide) (by decide) | rfl) : DE m X W H0 L (.Compare a [.In] [b] pos) (bop dInD f g) :=
  peimp (pe_cmp (pc_din (by have := hr.units; omega) ha hb) h1) fun σ H Q h => bin_use opd_inD h
theorem dt_inD {j : Nat} (hr : Room j X.A) (ha : DE false X W H0 L a f) (hb : DE false X W H0 L b g) (h1 : behindInMarks .In b = false := by first | exact nobehind _ (by decide) (by decide) | rfl) : DT X W H0 L (.Compare a [.In] [b] pos) (tst (bop dInD f g)) :=
  ptimp (pt_cmp (pc_din (by have := hr.units; omega) ha hb) h1) fun σ H Q h => by
    have h2 := tst_use h
    unfold tTest at h2
    exact bin_use (m := false) opd_inD h2
def dNinD (k d : Dat) : Option Dat := (dLook d k).map fun o => .bl (!o.isSome)
theorem opd_ninD : OpD K (fun y x H Q => ∃ a o, x = .ref a ∧ DGet H a y o ∧ Q (.bl (!o.isSome)) H) dNinD := by
  intro H0 L LL H x y d e z Q gd hx hy hz hq
  unfold dNinD at hz
  cases ho : dLook e d with
  | none => rw [ho] at hz; cases hz
  | some o =>
    rw [ho] at hz
    cases hz
    obtain ⟨a, v, ex, _, g1, g2, g3⟩ := look_at hy hx ho
    refine ⟨a, v, ex, g1, hq _ _ (Same.refl _) ?_⟩
    cases o with
    | none => rw [g3 rfl]; rfl
    | some z => obtain ⟨w, e1, _⟩ := g2 z rfl; rw [e1]; rfl
theorem de_ninD {j : Nat} (hr : Room j X.A) (ha : DE false X W H0 L a f) (hb : DE false X W H0 L b g) (h1 : behindInMarks .NotIn b = false := by first | exact nobehind _ (by decide) (by decide) | rfl) : DE m X W H0 L (.Compare a [.NotIn] [b] pos) (bop dNinD f g) :=
  peimp (pe_cmp (pc_dnotin (by have := hr.units; omega) ha hb) h1) fun σ H Q h => bin_use opd_ninD h
theorem dt_ninD {j : Nat} (hr : Room j X.A) (ha : DE false X W H0 L a f) (hb : DE false X W H0 L b g) (h1 : behindInMarks .NotIn b = false := by first | exact nobehind _ (by decide) (by decide) | rfl) : DT X W H0 L (.Compare a [.NotIn] [b] pos) (tst (bop dNinD f g)) :=
  ptimp (pt_cmp (pc_dnotin (by have := hr.units; omega) ha hb) h1) fun σ H Q h => by
    have h2 := tst_use h
    unfold tTest at h2
    exact bin_use (m := false) opd_ninD h2
/-! ### a dict of one's own -/
def dnewD (i : Nat) (d : Dat) (ε : DEnv) : Rs Out := .ok (.nx (ε.set i (some (true, d))))
theorem ds_dnewT (i : Nat) {x : Str} {pos' : Pos} (hN : X.N.Nodup) (hi : X.N[i]? = some x := by rfl) (hx : Loc X.env.scope x := by first | exact .inl rfl | exact .inr rfl) (hs : swapsWith (.Dict [] [] p) (some (.Name x pos')) pos.line X.env = pure false := by rfl) (hf : X.fn x = true ∨ X.env.scope.names.lookup x = some .local := by first | exact .inl rfl | exact .inr rfl | assumption) :
    DS X W H0 L (.Assign [.Name x pos'] (.Dict [] [] p) pos) (dnewD i (.dT [] [])) :=
  psimp (ps_set hN hi hx pe_dnewT hs hf) fun D σ H hl ⟨ε, LL, r, h⟩ => fun p hp => by
    obtain ⟨r1, k1⟩ := r.setown (d := .dT [] []) (i := i) (by rw [hl]; exact lt_of_get hi) (same_new hp) hp ⟨[], upd_same, rfl, rfl⟩
    exact h _ _ _ r1 k1
theorem ds_dnewK (i : Nat) {x : Str} {pos' : Pos} (hN : X.N.Nodup) (hi : X.N[i]? = some x := by rfl) (hx : Loc X.env.scope x := by first | exact .inl rfl | exact .inr rfl) (hs : swapsWith (.Dict [] [] p) (some (.Name x pos')) pos.line X.env = pure false := by rfl) (hf : X.fn x = true ∨ X.env.scope.names.lookup x = some .local := by first | exact .inl rfl | exact .inr rfl | assumption) :
    DS X W H0 L (.Assign [.Name x pos'] (.Dict [] [] p) pos) (dnewD i (.dK [] [])) :=
  psimp (ps_set hN hi hx pe_dnewK hs hf) fun D σ H hl ⟨ε, LL, r, h⟩ => fun p hp => by
    obtain ⟨r1, k1⟩ := r.setown (d := .dK [] []) (i := i) (by rw [hl]; exact lt_of_get hi) (same_new hp) hp ⟨[], upd_same, rfl, rfl⟩
    exact h _ _ _ r1 k1
/-- the dict behind d[k] = v -/
noncomputable def dPut : Dat → Dat → Dat → Option Dat
  | .dK ks ds, k, v => (keyK k).bind fun j => if sz (ks.length + 1) = true then some (.dK (putKs ks j) (putDs ks ds j v)) else none
  | .dT ks ds, k, v => (keyT k).bind fun j => if sz (ks.length + 1) = true then some (.dT (putKs ks j) (putDs ks ds j v)) else none
  | _, _, _ => none
def ownX (i : Nat) (ε : DEnv) : Rs Dat := match ε[i]? with
  | some (some (true, d)) => rdC d
  | _ => .no
theorem ownX_to {i : Nat} {P : Dat → Prop} {E : Str → Prop} (h : (ownX i ε).to P E) : ∃ d, ε[i]? = some (some (true, d)) ∧ shD d = true ∧ P d := by
  unfold ownX at h
  split at h
  · rename_i d he
    unfold rdC at h
    split at h
    · rename_i hs
      exact ⟨_, he, shR_D hs, h⟩
    · exact h.elim
  · exact h.elim
noncomputable def dputD (i : Nat) (fk fv : DEnv → Rs Dat) (ε : DEnv) : Rs Out := fv ε >>= fun v => ownX i ε >>= fun d => fk ε >>= fun k => Rs.of (dPut d k v) >>= fun d' => .ok (.nx (ε.set i (some (true, d'))))
theorem dput_use {i : Nat} {D : Ends} {fk fv : DEnv → Rs Dat} (h : tD K mg W H0 L (dputD i fk fv) D σ H) : sDPut (tVar i) (tE false K mg W H0 L fk) (tE true K mg W H0 L fv) D σ H := by
  obtain ⟨ε, LL, r, h⟩ := h
  unfold dputD at h
  rw [Rs.to_bind] at h
  refine ⟨ε, LL, r, h.imp (fun v _ hd w H1 s1 qv => ?_) fun n z => z.w r.same⟩
  rw [Rs.to_bind] at hd
  obtain ⟨d, he, hc, hd⟩ := ownX_to hd
  obtain ⟨a, ha', own, hL, h0, hob, _⟩ := r.ownS he hc
  rw [Rs.to_bind] at hd
  refine ⟨_, ha', ε, LL, r.mono s1, hd.imp (fun k _ hk y H2 s2 qk => ?_) fun n z => z.w (r.mono s1).same⟩
  rw [Rs.to_bind] at hk
  obtain ⟨d', hp, hk⟩ := Rs.to_of hk
  have s := s1.trans s2
  have r1 := r.mono s
  have qv2 : Den K H0 LL H2 v w := Den.same s2 qv
  have kl : ∀ o, KL H2 (upd H2 a o) := fun o => by
    have q : OwnB K H0 LL H2 a d := hob.kp (.same s) (fun _ z => z) fun o z => s _ _ z
    cases d with
    | dK ks ds => obtain ⟨vs, hv, _⟩ := q; exact .dict hv fun vs z => (nomatch z)
    | dT ks ds => obtain ⟨vs, hv, _⟩ := q; exact .dict hv fun vs z => (nomatch z)
    | _ => cases hp
  have fin : ∀ {o : HO} {d' : Dat}, OwnB K H0 LL (upd H2 a o) a d' → (Rs.ok (Out.nx (ε.set i (some (true, d'))))).to (OutP K H0 L LL H D) (XS mg W H0) → D.nx σ (upd H2 a o) := fun {o d'} ho hk => by
    obtain ⟨r2, k2⟩ := r1.mut (d := d') he hc ha' ho (kl o)
    exact hk _ _ _ r2 ((Kp.same s).trans k2)
  have kp : ∀ o, Kp LL LL H2 (upd H2 a o) := fun o => kp_mut own (kl o)
  cases d with
  | dK ks ds =>
    obtain ⟨vs, hv, hlen, q⟩ := hob
    cases hkk : keyK k with
    | none => rw [dPut, hkk] at hp; cases hp
    | some j =>
      rw [dPut, hkk] at hp
      have hp : (if sz (ks.length + 1) = true then some (Dat.dK (putKs ks j) (putDs ks ds j v)) else none) = some d' := hp
      split at hp
      · rename_i hsz
        cases hp
        have hz := sz_ok hsz
        have hv2 : H2 a = some (.dK (ks.zip vs)) := s _ _ hv
        have hy := keyK_den qk hkk
        refine ⟨a, _, rfl, .inl ⟨_, j, hv2, hy, ?_, rfl⟩, fin (d' := .dK (putKs ks j) (putDs ks ds j v)) ⟨putDs ks vs j w, ?_, put_length _ _ _ _ hlen, (put_den qv2 (q.same s)).kp (kp _) fun _ z => z⟩ hk⟩
        · rw [List.length_zip, ← hlen, Nat.min_self]; omega
        · rw [put_zip ks vs j w hlen]; exact upd_same
      · cases hp
  | dT ks ds =>
    obtain ⟨vs, hv, hlen, q⟩ := hob
    cases hkk : keyT k with
    | none => rw [dPut, hkk] at hp; cases hp
    | some j =>
      rw [dPut, hkk] at hp
      have hp : (if sz (ks.length + 1) = true then some (Dat.dT (putKs ks j) (putDs ks ds j v)) else none) = some d' := hp
      split at hp
      · rename_i hsz
        cases hp
        have hz := sz_ok hsz
        have hv2 : H2 a = some (.dT (ks.zip vs)) := s _ _ hv
        obtain ⟨b, rfl, hb⟩ := keyT_den qk hkk
        refine ⟨a, _, rfl, .inr ⟨_, j, b, hv2, rfl, hb, ?_, rfl⟩, fin (d' := .dT (putKs ks j) (putDs ks ds j v)) ⟨putDs ks vs j w, ?_, put_length _ _ _ _ hlen, (put_den qv2 (q.same s)).kp (kp _) fun _ z => z⟩ hk⟩
        · rw [List.length_zip, ← hlen, Nat.min_self]; omega
        · rw [put_zip ks vs j w hlen]; exact upd_same
      · cases hp
  | _ => cases hp
theorem ds_dput (i : Nat) {x : Str} {px p2 : Pos} {fk fv : DEnv → Rs Dat} {j : Nat} (hr : Room j X.A) (hv0 : PE X (.Name x px) (tVar i)) (hk : DE false X W H0 L a fk) (hv : DE true X W H0 L e fv)
    (hs : swapsWith e (some (.Subscript (.Name x px) a p2)) pos.line X.env = pure false := by rfl) : DS X W H0 L (.Assign [.Subscript (.Name x px) a p2] e pos) (dputD i fk fv) :=
  psimp (ps_dput (by have := hr.units; omega) hv0 hk hv hs) fun D σ H _ h => dput_use h
/-- d.get(k, x) -/
def isDi : Dat → Bool
  | .dK _ _ => true
  | .dT _ _ => true
  | _ => false
def get2D (f g h : DEnv → Rs Dat) (ε : DEnv) : Rs Dat := f ε >>= fun d => chk (isDi d) (g ε >>= fun k => h ε >>= fun x => Rs.of ((dLook d k).map fun o => o.getD x))
theorem de_dget2 {j : Nat} {pa pc : Pos} (hr : Room j X.A) (ha : DE false X W H0 L a f) (hb : DE false X W H0 L b g) (hc : DE true X W H0 L c h) (m2 : M2 X a "get" pa b c pc := by exact ⟨rfl, rfl, rfl, rfl⟩) : DE m X W H0 L (.Call (.Attribute a "get" pa) [b, c] [] pc) (get2D f g h) :=
  peimp (pe_dget2 (by have := hr.units; omega) ha hb hc m2) fun σ H Q ⟨ε, LL, r, hh⟩ => by
    unfold get2D at hh
    rw [Rs.to_bind] at hh
    refine ⟨ε, LL, r, hh.imp (fun d _ hd x H1 s1 dx => ?_) fun n z => z⟩
    obtain ⟨hi, hd⟩ := chk_to hd
    rw [Rs.to_bind] at hd
    obtain ⟨a, ex, isd⟩ : ∃ a, x = .ref a ∧ IsD H1 a := by
      cases d with
      | dK ks ds => obtain ⟨a, vs, rfl, _, ha, _⟩ := dx; exact ⟨a, rfl, .inl ⟨_, ha⟩⟩
      | dT ks ds => obtain ⟨a, vs, rfl, _, ha, _⟩ := dx; exact ⟨a, rfl, .inr ⟨_, ha⟩⟩
      | _ => cases hi
    refine ⟨a, ex, isd, ε, LL, r.mono s1, hd.imp (fun k _ hk y H2 s2 dy => ?_) fun n z => z.mono s1⟩
    rw [Rs.to_bind] at hk
    refine ⟨ε, LL, r.mono (s1.trans s2), hk.imp (fun xx _ hx w H3 s3 dw => ?_) fun n z => z.mono (s1.trans s2)⟩
    obtain ⟨z, hz, hq⟩ := Rs.to_of hx
    cases ho : dLook d k with
    | none => rw [ho] at hz; cases hz
    | some o =>
      rw [ho] at hz
      have hz : o.getD xx = z := Option.some.inj hz
      obtain ⟨a', v, ex', _, g1, g2, g3⟩ := look_at (H := H3) (DenS.same (s2.trans s3) dx) (DenS.same s3 dy) ho
      rw [ex] at ex'
      cases ex'
      refine ⟨v, g1, hq _ _ (s1.trans (s2.trans s3)) (Den.m r.good.sub ?_)⟩
      cases o with
      | none =>
        rw [g3 rfl]
        rw [← hz]
        exact dw
      | some o' =>
        obtain ⟨w', e1, e2⟩ := g2 o' rfl
        rw [e1, ← hz]
        exact e2
end
end DL

set_option maxRecDepth 100000
set_option maxHeartbeats 4000000
/-! DLqa: sorted(xs) where each two are alike, or are tuples whose first items tell them apart. -/
namespace DL
open PySem PySem.Calls PySem.W PyProof.Rows
/-- can be told which comes first -/
def cmpb (d d' : PyData) : Prop := alike d d' = true ∨ ∃ x r x' r', d = .tuple (x :: r) ∧ d' = .tuple (x' :: r') ∧ alike x x' = true ∧ PyData.eqv x x' = false
def AllCmp (ds : List PyData) : Prop := ∀ d, d ∈ ds → ∀ d', d' ∈ ds → cmpb d d'
theorem AllCmp.of {ds : List PyData} (h : AllAlike ds) : AllCmp ds := fun d hd d' hd' => .inl (h d hd d' hd')
theorem cmpb_unique {h : Heap} {d d' : PyData} {v : Value} {as as' : List Addr} (c : cmpb d d') (r : Reads h v d as) (r' : Reads h v d' as') : d = d' := by
  rcases c with c | ⟨x, q, x', q', rfl, rfl, ha, he⟩
  · exact alike_unique _ _ _ _ _ c r r'
  · cases r with
    | @tuple a o vs n _ _ h1 h2 h3 h4 =>
      cases r' with
      | @tuple a' o' vs' n' _ _ k1 k2 k3 k4 =>
        rw [h1] at k1
        cases k1
        rw [h3] at k3
        cases k3
        cases e : vs.toList with
        | nil => rw [e] at h4; cases h4
        | cons f fr =>
          rw [e] at h4 k4
          cases h4 with
          | cons r1 _ =>
            cases k4 with
            | cons r2 _ =>
              have := alike_unique _ _ _ _ _ ha r1 r2
              subst this
              rw [eqv_refl_alike _ ha] at he
              cases he
theorem kind_some {h : Heap} {ds : List PyData} (hal : AllCmp ds) {v : Value} {d : PyData} {as : List Addr} (hd : d ∈ ds) (r : Reads h v d as) : (dataKind h ds).keyOf v = some (keyToks d) := by
  have q : ∃ d, d ∈ ds ∧ ∃ as, Reads h v d as := ⟨d, hd, as, r⟩
  have e : (dataKind h ds).keyOf v = some (keyToks q.choose) := by
    show (open Classical in if q : ∃ d, d ∈ ds ∧ ∃ as, Reads h v d as then some (keyToks q.choose) else none) = _
    rw [dif_pos q]
  obtain ⟨h1, as', h2⟩ := q.choose_spec
  rw [e, cmpb_unique (hal _ h1 _ hd) h2 r]
/-- all are tuples with an item at least, or none is a tuple or None, or all are empty tuples -/
def Srt (ds : List PyData) : Prop := Sortable ds ∨ ∀ d, d ∈ ds → d = .tuple []
section
variable {prog : Program} {w : World} {A : Around} {s : Shared} {E : Value → Shared → Prop}
/-- v is an empty tuple -/
def EmT (h : Heap) (v : Value) : Prop := ∃ a o n, v = .ref a ∧ h.get? a = some o ∧ o.cls = .type "tuple" ∧ o.data = .seq #[] n
theorem emT_of {h : Heap} {v : Value} {as : List Addr} (r : Reads h v (.tuple []) as) : EmT h v := by
  cases r with
  | @tuple a o vs n _ _ h1 h2 h3 h4 =>
    have : vs.toList = [] := by
      cases e : vs.toList with
      | nil => rfl
      | cons f fr => rw [e] at h4; cases h4
    have e : vs = #[] := by cases vs with | mk l => cases this; rfl
    subst e
    exact ⟨a, o, n, rfl, h1, h2, h3⟩
theorem emT_lt {v u : Value} {Q : Bool → Shared → Prop} (hu : A.units < cLine) (hv : EmT s.heap v) (hw : EmT s.heap u) (h : Q false s) : wpAny (model prog w) A (keyLt' oneType' v u) Q E s := by
  obtain ⟨a, ⟨cls, dd, data, sl⟩, n, rfl, ho, hc, hd⟩ := hv
  obtain ⟨b, ⟨cls2, dd2, data2, sl2⟩, n2, rfl, ho2, hc2, hd2⟩ := hw
  simp only at hc hd hc2 hd2
  subst hc hd hc2 hd2
  rw [keyLt'_oneType, oneLt'_eq]
  simp only [if_true]
  refine wpAny_bind (wpAny_cRoomFor hu ?_)
  refine wpAny_bind (wpAny_callSpecialIfBound?_slot (T := "tuple") ⟨_, ho, rfl⟩ PySem.F.slot_tuple_lt (call_meets PySem.F.slot_tuple_lt ⟨_, ho, rfl⟩ PySem.F.entry_tuple_lt (PySem.F.args_tuple_lt_2 _ _) (HT.tuple_lt_ints a b #[] #[] n n2 dd dd2 sl sl2 [] [] .nil .nil) ⟨ho, ho2, ?_⟩))
  exact wpAny_truthy_bool h
theorem emT_kind {M : Model} {vs : List Value} {Q : SortKind → Shared → Prop} (h2 : 2 ≤ vs.length) (hT : ∀ v ∈ vs, EmT s.heap v) (h : Q oneType' s) : wpAny M A (keyKind' vs.toArray) Q E s := by
  obtain ⟨v₁, v₂, rest, rfl⟩ : ∃ v₁ v₂ rest, vs = v₁ :: v₂ :: rest := by
    match vs, h2 with
    | [], h2 => simp at h2
    | [_], h2 => simp at h2
    | v₁ :: v₂ :: rest, _ => exact ⟨v₁, v₂, rest, rfl⟩
  have ty : ∀ v ∈ v₁ :: v₂ :: rest, Looks M s.heap (typeOf v) (.type "tuple") := fun v hv => by
    obtain ⟨a, o, n, rfl, ho, hc, hd⟩ := hT v hv
    rw [← hc]
    exact (Looks.ld ho).andThen .now
  rw [keyKind'_eq, List.mapM_toArray, map_eq_pure_bind]
  refine wpAny_bind (wpAny_bind (kas_mapM (r := none) _ (fun v hv Q' hq => ?_) (wpAny_pure ?_)))
  · rw [kas_first_eq]
    refine wpAny_bind ((ty v hv).here ?_)
    rw [if_neg (by first | decide | simp)]
    obtain ⟨a, o, n, rfl, ho, hc, hd⟩ := hT v hv
    exact wpAny_bind (listItems_at ho hd (wpAny_pure hq))
  · rw [if_neg (by simp), if_neg (by simp)]
    rw [oneTypeOnly'_eq, List.mapM_toArray, map_eq_pure_bind]
    refine wpAny_bind (wpAny_bind (wpAny_bind (kas_mapM (r := Value.type "tuple") _ (fun v hv Q' hq => (ty v hv).here hq) (wpAny_pure ?_))))
    have hall : ((List.map (fun _ => Value.type "tuple") (v₁ :: v₂ :: rest)).toArray.all fun x => x == Value.type "tuple") = true := by
      simp only [List.all_toArray, List.all_map, List.all_eq_true]
      intro _ _
      rfl
    have h0 : (List.map (fun _ => Value.type "tuple") (v₁ :: v₂ :: rest)).toArray[0]? = some (Value.type "tuple") := by simp
    rw [h0]
    simp only [hall, if_true]
    exact wpAny_pure (wpAny_pure h)
theorem sorts_cmp {vs : List Value} {ds : List PyData} (e : EachIs (fun v d => ∃ as, Reads s.heap v d as) vs ds) (hal : AllCmp ds) (hk : Srt ds) (hu : ∀ d, d ∈ ds → A.units + d.depth < cLine) : SortsAt prog w A s (dataKind s.heap ds) vs := by
  have room : ∀ {d d' : PyData}, d ∈ ds → A.units + min d.depth d'.depth < cLine := fun {d d'} hd => Nat.lt_of_le_of_lt (Nat.add_le_add_left (Nat.min_le_left _ _) _) (hu d hd)
  rcases hk with (ht | hn) | he
  · refine ⟨fun v hv => ?_, ?_⟩
    · obtain ⟨d, hd, as, r⟩ := e.left v hv
      exact ⟨_, kind_some hal hd r⟩
    · cases ds with
      | nil =>
        cases e
        exact ⟨general', fun E x y a b Q ha _ _ => (by
          obtain ⟨d, _, hd, _⟩ := dataKind_inv ha
          exact absurd hd (by simp)), fun h2 => absurd h2 (by simp)⟩
      | cons d₀ ds₀ =>
        obtain ⟨x₀, r₀, e₀⟩ := ht d₀ (List.mem_cons_self ..)
        have hfirst : ∀ x r, PyData.tuple (x :: r) ∈ d₀ :: ds₀ → alike x x₀ = true := by
          intro x r hm
          rcases hal _ hm d₀ (List.mem_cons_self ..) with q | ⟨y, q, y', q', e1, e2, q1, _⟩
          · rw [e₀] at q
            exact (alike_all_cons (by simpa [alike] using q)).1
          · cases e1
            rw [e₀] at e2
            cases e2
            exact q1
        refine ⟨tuples' (dataType x₀ != Value.type "tuple"), ?_, fun h2 E Q hq => ?_⟩
        · intro E x y a b Q ha hb hq
          obtain ⟨d, as, hd, ra, rfl⟩ := dataKind_inv ha
          obtain ⟨d', as', hd', rb, rfl⟩ := dataKind_inv hb
          have hroom := room (d' := d') hd
          have hdd := hal d hd d' hd'
          obtain ⟨x1, r1, rfl⟩ := ht d hd
          obtain ⟨x2, r2, rfl⟩ := ht d' hd'
          have hq' : Q (dataLt (.tuple (x1 :: r1)) (.tuple (x2 :: r2))) s := hq
          rw [dataLt_tuple] at hq'
          cases ra with
          | @tuple l o xs n _ _ h1 h2 h3 h4 =>
            cases rb with
            | @tuple l' o' xs' n' _ _ k1 k2 k3 k4 =>
              have n1 : xs.size = (x1 :: r1).length := by simpa using SeqAt.ReadsAll.length _ _ _ h4
              have n2 : xs'.size = (x2 :: r2).length := by simpa using SeqAt.ReadsAll.length _ _ _ k4
              have nt : (dataType x₀ != Value.type "tuple") = true → ∀ t, x1 ≠ .tuple t := fun hb t => by
                have q := dataType_alike (hfirst _ _ hd)
                rw [← q] at hb
                exact dataType_tuple hb t
              rcases hdd with hdd | ⟨y, q, y', q', e1, e2, ca, ce⟩
              · refine kat_lt h1 h3 k1 k3 (katLex_alike (x1 :: r1) (x2 :: r2) 0 _ _ _ _ h4 k4 (by simpa [alike] using hdd) (by have q := SeqAt.room_in hroom; omega) (fun hb _ x r t ex => ?_) (by rw [n1, n2]) hq')
                obtain ⟨rfl, rfl⟩ := List.cons.inj ex
                exact nt hb t
              · cases e1
                cases e2
                rw [dataLt_all_no ca ce] at hq'
                refine kat_lt h1 h3 k1 k3 ?_
                have hr2 := SeqAt.room_in hroom
                cases e3 : xs.toList with
                | nil => rw [e3] at h4; cases h4
                | cons f fr =>
                  cases e4 : xs'.toList with
                  | nil => rw [e4] at k4; cases k4
                  | cons f' fr' =>
                    rw [e3] at h4
                    rw [e4] at k4
                    cases h4 with
                    | cons ra1 _ =>
                      cases k4 with
                      | cons rb1 _ =>
                        rw [List.zip_cons_cons]
                        have hrm : A.units + min x1.depth x2.depth < cLine := by
                          have hr3 : A.units + min (PyData.depthAll (x1 :: r1)) (PyData.depthAll (x2 :: r2)) < cLine := by omega
                          exact SeqAt.room_head hr3
                        refine kat_cons (eqAt_alike x1 x2 A s _ _ _ _ ra1 rb1 ca hrm prog w _ _ ?_)
                        rw [ce]
                        refine kat_no (oneLt_alike (fun hbi t => ?_) ra1 rb1 ca (ne_none_of ca ce) hrm hq')
                        rw [Bool.and_eq_true] at hbi
                        exact nt hbi.1 t
        · obtain ⟨fs, t1, t2, t3⟩ := each_katTups e ht
          refine kat_kind (T := dataType x₀) t1 (by omega) (fun f hf => ?_) (beq_self_eq_true _) hq
          obtain ⟨x, r, as, m1, m2⟩ := t3 f hf
          rw [← dataType_alike (hfirst x r m1)]
          exact looks_reads m2
  · have hal' : AllAlike ds := fun d hd d' hd' => by
      rcases hal d hd d' hd' with q | ⟨x, r, x', r', e1, _⟩
      · exact q
      · exact absurd e1 ((hn d hd).2 _)
    exact SortsAt.data e hal' (.inr hn) hu
  · have em : ∀ v ∈ vs, EmT s.heap v := fun v hv => by
      obtain ⟨d, hd, as, r⟩ := e.left v hv
      rw [he d hd] at r
      exact emT_of r
    refine ⟨fun v hv => ?_, oneType', ?_, fun h2 E Q hq => ?_⟩
    · obtain ⟨d, hd, as, r⟩ := e.left v hv
      exact ⟨_, kind_some hal hd r⟩
    · intro E x y a b Q ha hb hq
      obtain ⟨d, as, hd, ra, rfl⟩ := dataKind_inv ha
      obtain ⟨d', as', hd', rb, rfl⟩ := dataKind_inv hb
      have hu' := hu d hd
      have e1 := he d hd
      have e2 := he d' hd'
      subst e1 e2
      have hq' : Q (PyProof.Rows.lexLt itemOrd (keyToks (.tuple [])) (keyToks (.tuple []))) s := hq
      rw [lex_irrefl] at hq'
      exact emT_lt (by omega) (emT_of ra) (emT_of rb) hq'
    · exact emT_kind h2 em hq
theorem sorted_cmp {β : Type} {vs : List Value} {bs : List β} {enc : β → PyData} {R : Value → β → Prop} {l : Addr} {Q : Value → Shared → Prop} (hl : s.heap.IsList l vs.toArray) (e : EachIs R vs bs) (er : EachIs (fun v b => ∃ as, Reads s.heap v (enc b) as) vs bs) (hal : AllCmp (bs.map enc)) (hk : Srt (bs.map enc)) (hL : bs.length ≤ sizeLine)
    (hu : ∀ b, b ∈ bs → A.units + 2 + (enc b).depth < cLine) (h : ∀ out, out.length = bs.length → EachIs R out (bs.mergeSort (dataLe false enc)) → Q (.ref (s.heap.objs.size + 1)) { s with heap := sortedAll s.heap vs (List.toArray out) }) :
    wpAny (model prog w) A (call (.builtin "sorted") [.ref l]) Q E s := by
  have er' : EachIs (fun v b => ∃ as, Reads (sortingHeap (copyHeap s.heap vs) (s.heap.objs.size + 1) vs) v (enc b) as) vs bs := er.mono fun _ _ ⟨as, r⟩ => ⟨as, PyProof.Rows.Reads.keeps (fun _ _ => sorting_copy_old) r⟩
  have ek : EachIs (fun v d => ∃ as, Reads (sortingHeap (copyHeap s.heap vs) (s.heap.objs.size + 1) vs) v d as) vs (bs.map enc) := each_map (R := fun v d => ∃ as, Reads (sortingHeap (copyHeap s.heap vs) (s.heap.objs.size + 1) vs) v d as) enc er'
  refine sorted_vals hl (sorts_cmp (s := { s with heap := sortingHeap (copyHeap s.heap vs) (s.heap.objs.size + 1) vs }) ek hal hk (bound_map hu)) (by rw [e.length]; exact hL) (h _ (by rw [sortVals_length false rfl]; exact e.length) ?_)
  exact sortVals_each (κ := dataKind _ (bs.map enc)) (fun b => keyToks (enc b)) e (each_of_map enc ((each_mem ek).mono fun _ _ ⟨⟨_, r⟩, hd⟩ => kind_some hal hd r))
end
end DL

set_option maxRecDepth 100000
set_option maxHeartbeats 4000000
/-! DLq: sorted(xs) of alike data. -/
namespace DL
open PySem PySem.Spec PyProof.Rows L2
structure SoOk (ds : List Dat) : Prop where
  al : PySem.W.AllAlike (ds.map toP)
  so : PySem.W.Sortable (ds.map toP)
  lay : ∀ d ∈ ds, (toP d).canLay0 = true ∧ (toP d).depth ≤ 60
/-- as tuples told apart by their first items, too -/
structure SoOk2 (ds : List Dat) : Prop where
  al : AllCmp (ds.map toP)
  so : Srt (ds.map toP)
  lay : ∀ d ∈ ds, (toP d).canLay0 = true ∧ (toP d).depth ≤ 60
theorem SoOk.two {ds : List Dat} (h : SoOk ds) : SoOk2 ds := ⟨.of h.al, .inl h.so, h.lay⟩
noncomputable def ordP (ds : List Dat) : List Dat := ds.mergeSort (PySem.W.dataLe false toP)
noncomputable def dSorted : List Dat → Option (List Dat)
  | [.lst _ ds] => if cls (SoOk2 ds) = true then some (ordP ds) else none
  | _ => none
def rSo (K : PySem.W.Frag) : List V → Hp → VK → Prop := fun xs H Q => ∃ (a : Addr) (vs : List V) (ds : List Dat) (H0 : Hp) (LL : Lk), xs = [V.ref a] ∧ SqL K H a vs ∧ DenL K H0 LL H ds vs ∧ SoOk2 ds ∧
  ∀ p us, H p = none → DenL K H0 LL H (ordP ds) us → Q (.ref p) (upd H p (.lst us))
section
variable {X : Cx} {W : WX} {H0 : Hp} {L : Lp} {m : Bool} {e : Expr} {es : List Expr} {pos p : Pos} {fa : DEnv → Rs (List Dat)}
theorem each_den {K : PySem.W.Frag} {H0 H : Hp} {LL : Lk} : ∀ {ds : List Dat} {vs : List V} {us : List Value}, DenL K H0 LL H ds vs → Vals vs us → PySem.W.EachIs (fun u d => ∃ v, RelV v u ∧ Den K H0 LL H d v) us ds
  | [], _, _, h, r => by cases h; cases r; exact .nil
  | d :: ds, _, _, ⟨v, r, e, h, t⟩, rv => by
    subst e
    cases rv with
    | cons h1 h2 => exact .cons ⟨v, h1, h⟩ (each_den t h2)
theorem den_each {K : PySem.W.Frag} {H0 H : Hp} {LL : Lk} {us : List Value} {ds : List Dat} (h : PySem.W.EachIs (fun u d => ∃ v, RelV v u ∧ Den K H0 LL H d v) us ds) : ∃ vs, Vals vs us ∧ DenL K H0 LL H ds vs := by
  induction h with
  | nil => exact ⟨[], .nil, rfl⟩
  | cons h1 h2 ih =>
    obtain ⟨v, a1, a2⟩ := h1
    obtain ⟨ys, b1, b2⟩ := ih
    exact ⟨v :: ys, .cons a1 b1, v, ys, rfl, a2, b2⟩
theorem cr_sortD {j : Nat} (hr : Room j X.A) : CallR X (.builtin "sorted") (rSo X.K) := by
  intro pins s σ H xs us Q I r h
  obtain ⟨a, vs, ds, H0, LL, rfl, hS, den, ok, q⟩ := h
  obtain rfl := Vals.ref1 r
  obtain ⟨its, rv, hl, hz⟩ := I.list hS
  have ee := each_den den rv
  have er : PySem.W.EachIs (fun u d => ∃ as, Reads s.heap u (toP d) as) its ds := (PySem.W.each_mem ee).mono fun u d ⟨⟨v, h1, h2⟩, hd⟩ => Dp.reads I (toP d) v u (dp_of h2 (ok.lay d hd).1) h1
  have hlen : ds.length = its.length := by rw [den.length, rv.length]
  have hu := hr.units
  refine sorted_cmp hl.isList ee er ok.al ok.so (by rw [hlen, ← rv.length]; exact hz) (fun d hd => by have := (ok.lay d hd).2; omega) fun out ho hE => ?_
  obtain ⟨ys, ry, dy⟩ := den_each hE
  obtain ⟨ep, he'⟩ := PyProof.Rows.sortedAll_at s.heap its (List.toArray out)
  have hyl : ys.length ≤ sizeLine := by rw [ry.length, ho, hlen, ← rv.length]; exact hz
  exact ⟨.ref _, _, I.laid (o := .lst ys) (t' := s.toks) (fun _ _ => PyProof.Rows.sortedAll_old) (Nat.le_succ _) ⟨hyl, out, ep, ry, he'⟩, rfl, q _ ys (I.hok.fresh (Nat.le_succ _)) dy⟩
theorem opf_sorted {K : PySem.W.Frag} : OpF K (rSo K) dSorted := by
  intro H0 L LL H vs ds z Q gd hp hz hq
  unfold dSorted at hz
  split at hz
  · split at hz
    · rename_i hc
      cases hz
      obtain ⟨v, rfl, p, ws, rfl, _, _, h, q⟩ := pair1 hp
      exact ⟨p, ws, _, H0, LL, rfl, .of h, q, cls_ok hc, fun p us h1 h2 => hq p us h1 h2⟩
    · cases hz
  · cases hz
theorem df_sorted {j : Nat} (hr : Room j X.A) (hm : X.mg "sorted" = none) (ha : DA false X W H0 L (e :: es) fa) (hg : Gl X "sorted" := by rfl)
    (he : starEach (e :: es) X.env = (false, eval e X.env) :: starEach es X.env := by rfl) (hpl : (backTo pos (starEach es X.env)).any (·.1) = false := by rfl) : DF X W H0 L (.Call (.Name "sorted" p) (e :: es) [] pos) (mkD dSorted fa) :=
  df_bi (cr_sortD hr) opf_sorted hm PyProof.Rows.boot_sorted ha hg (by decide) (by decide) he hpl
end
end DL

set_option maxRecDepth 100000
set_option maxHeartbeats 4000000
/-! DLr: extend. -/
namespace DL
open PySem PySem.Spec PyProof.Rows L2
section
variable {X : Cx} {W : WX} {H0 : Hp} {L : Lp} {LL : Lk} {e : Expr} {pos : Pos} {f : DEnv → Rs (List Dat)}
variable {K : PySem.W.Frag} {mg : Str → Option Value} {σ : L2.St} {H : Hp} {ε : DEnv}
noncomputable def extD (i : Nat) (f : DEnv → Rs (List Dat)) (ε : DEnv) : Rs Out := ownL i ε >>= fun p => f ε >>= fun ds => chk (sz (p.2.length + ds.length)) (.ok (.nx (ε.set i (some (true, .lst p.1 (p.2 ++ ds))))))
theorem ext_use {i : Nat} {D : Ends} (h : tD K mg W H0 L (extD i f) D σ H) : tDrop (tBM K "list" rExtend (tVar i) (tCons (tF K mg W H0 L f) tNil)) D σ H := by
  obtain ⟨ε, LL, r, h⟩ := h
  unfold extD at h
  rw [Rs.to_bind] at h
  obtain ⟨t, ds, he, h⟩ := ownL_to h
  obtain ⟨a, ha, own, hL, h0, ⟨vs, hv, q⟩, _⟩ := r.ownS he rfl
  rw [Rs.to_bind] at h
  refine ⟨_, ha, .inl ⟨rfl, vs, .of hv⟩, ε, LL, r, h.imp (fun es _ hd b us H1 s1 hn hb qd => ?_) fun n z => z.w r.same⟩
  obtain ⟨hs, hd⟩ := chk_to hd
  have r1 := r.mono s1
  have hv1 : H1 a = some (.lst vs) := s1 _ _ hv
  have qd' : DenL K H0 LL H1 es us := DenL.kp (L := LL.or b) ⟨fun b o n e => ⟨fun z => n (Or.inl z), e⟩, KL.refl⟩ (fun _ z => z) qd
  refine ⟨a, b, vs, us, rfl, rfl, hv1, hb, by rw [← q.length, ← qd'.length]; exact sz_ok hs, ?_⟩
  have kp : Kp LL LL H1 (upd H1 a (.lst (vs ++ us))) := kp_mut own .lst
  obtain ⟨r2, k2⟩ := r1.mut (d := .lst t (ds ++ es)) he rfl ha (o := .lst (vs ++ us)) ⟨_, upd_same, ((q.same s1).app qd').kp kp fun _ z => z⟩ .lst
  exact hd _ _ _ r2 ((Kp.same s1).trans k2)
theorem ds_ext (i : Nat) {x : Str} {px pa pc : Pos} (he : DF X W H0 L e f)
    (h1 : PA X [e] (tCons (tF X.K X.mg W H0 L f) tNil) → PE X (.Call (.Attribute (.Name x px) "extend" pa) [e] [] pc) (tBM X.K "list" rExtend (tVar i) (tCons (tF X.K X.mg W H0 L f) tNil)))
    (he1 : starEach [e] X.env = (false, eval e X.env) :: starEach [] X.env := by rfl)
    (hs : swapsWith (.Call (.Attribute (.Name x px) "extend" pa) [e] [] pc) none pos.line X.env = pure false := by rfl) :
    DS X W H0 L (.Expr (.Call (.Attribute (.Name x px) "extend" pa) [e] [] pc) pos) (extD i f) :=
  psimp (ps_expr (h1 (pa_cons he pa_nil he1)) hs) fun D σ H _ h => ext_use h
end
end DL

set_option maxRecDepth 100000
set_option maxHeartbeats 4000000
/-! DLp: trees in slots. -/
namespace DL
open PySem PySem.Spec PyProof.Rows L2

/-! ### setdefault, of dicts of both kinds -/
section
variable {X : Cx} {pins : List (Addr × Obj)} {σ : L2.St} {H : Hp} {s : Shared} {a b : Addr} {u r : Value} {d : V} {k : List Key} {A : Around} {E : Value → Shared → Prop}
theorem d_setdT {kvs : List (List Key × V)} {Q : Value → Shared → Prop} (hu : A.units + 1 < cLine) (I : Inv X pins σ H s) (e : H a = some (.dT kvs)) (eb : H b = some (.tup (k.map kV))) (rd : RelV d r) (hl : kvs.length < sizeLine)
    (h1 : ∀ v, valV kvs k = some v → ∀ (w' : Value) (s' : Shared), Inv X pins σ H s' → RelV v w' → Q w' s') (h2 : valV kvs k = none → ∀ (w' : Value) (s' : Shared), Inv X pins σ (upd H a (.dT (putK kvs k d))) s' → RelV d w' → Q w' s') :
    wpAny (model X.prog X.w) A (call (.builtin "dict.setdefault") [.ref a, .ref b, r]) Q E s := by
  obtain ⟨z, hd, xs, rel, dd⟩ := dt_of I.hok e
  have hz : xs.length ≤ sizeLine := by rw [← Paired.length rel]; exact z
  refine call_setdefault_heap (hsz := hz) (tupleKind_room_in1 hu) (key_of I.hok eb) hd dd (fun p hp => ?_) fun hn h' dd' hs => ?_
  · have q := rel.val k
    rw [hp] at q
    cases q0 : valV kvs k with
    | none => rw [q0] at q; exact (show False from q).elim
    | some v0 => rw [q0] at q; exact h1 v0 q0 _ _ (I.tok _) q
  · have q := rel.val k
    rw [hn] at q
    cases q0 : valV kvs k with
    | some v0 => rw [q0] at q; exact (show False from q).elim
    | none =>
      have hl2 : (putK kvs k d).length ≤ sizeLine := by have := length_putK kvs k d; omega
      obtain ⟨q, es, ep, hq, g2, g3, g4, _, g5⟩ := dd'
      refine h2 q0 _ _ (d_write I (by rw [e]; exact True.intro) hs ⟨q, hq⟩ ⟨hl2, hd, _, (rel.put k eb rd).keeps fun c ys ec => ?_, q, es, ep, hq, g2, g3, g4, g5⟩) rd
      rw [upd_ne (ne_of ec e (fun z => nomatch z))]
      exact ec
end
def tDSetG (td ty tx : TE) : TE := fun σ H Q => td σ H fun x H1 => ∃ a, x = .ref a ∧ IsD H1 a ∧ ty σ H1 fun y H2 => tx σ H2 fun z H3 =>
  (∃ (kvs : List (Key × V)) (k : Key), H3 a = some (.dK kvs) ∧ y = kV k ∧ kvs.length < sizeLine ∧ (∀ v, valV kvs k = some v → Q v H3) ∧ (valV kvs k = none → Q z (upd H3 a (.dK (putK kvs k z))))) ∨
  (∃ (kvs : List (List Key × V)) (k : List Key) (b : Addr), H3 a = some (.dT kvs) ∧ y = .ref b ∧ H3 b = some (.tup (k.map kV)) ∧ kvs.length < sizeLine ∧ (∀ v, valV kvs k = some v → Q v H3) ∧ (valV kvs k = none → Q z (upd H3 a (.dT (putK kvs k z)))))
section
variable {X : Cx} {o e f : Expr} {td ty tx : TE} {apos cpos : Pos}
theorem pe_dsetG (hu : X.A.units + 1 < cLine) (ho : PE X o td) (he : PE X e ty) (hf : PE X f tx) (m : M2 X o "setdefault" apos e f cpos) : PE X (.Call (.Attribute o "setdefault" apos) [e, f] [] cpos) (tDSetG td ty tx) := by
  refine ⟨fun pins s σ H Q I h => ?_⟩
  refine wpAny_Call_method m.base m.few m.line PySem.F.plainAttrs_dict PySem.F.slot_dict_setdefault PySem.F.type_dict_setdefault (thn (ho.run pins s σ H _ I h) fun u s1 ⟨x, H1, I1, rx, a, ex, d, q1⟩ => ?_)
  subst ex
  obtain rfl : u = Value.ref a := rx
  obtain ⟨t1, t2, _⟩ := isD_at I1 d
  refine ⟨t1, t2, ?_⟩
  rw [m.trees]
  refine Calls.callWith_builtin rfl (Calls.evalArgs_plain (Calls.spliced_cons (thn (he.run pins s1 σ H1 _ I1 q1) fun iv s2 ⟨y, H2, I2, ry, q2⟩ =>
    Calls.spliced_cons (thn (hf.run pins s2 σ H2 _ I2 q2) fun fv s3 ⟨z, H3, I3, rz, q⟩ => Calls.spliced_nil ?_))))
  rcases q with ⟨kvs, k, ea, ey, hl, q3, q4⟩ | ⟨kvs, k, b, ea, ey, eb, hl, q3, q4⟩
  · subst ey
    exact d_setd I3 ea ry rz hl (fun v hv w' s4 I4 rw' => ⟨v, _, I4, rw', q3 v hv⟩) fun hn w' s4 I4 rw' => ⟨z, _, I4, rw', q4 hn⟩
  · subst ey
    obtain rfl : iv = Value.ref b := ry
    exact d_setdT hu I3 ea eb rz hl (fun v hv w' s4 I4 rw' => ⟨v, _, I4, rw', q3 v hv⟩) fun hn w' s4 I4 rw' => ⟨z, _, I4, rw', q4 hn⟩
end

/-! ### places of keys -/
section
variable {κ : Type} [DecidableEq κ]
def posL : List κ → κ → Option Nat
  | [], _ => none
  | j :: js, k => if j = k then some 0 else (posL js k).map (· + 1)
theorem look_pos {α : Type} (k : κ) : ∀ (ks : List κ) (xs : List α), ks.length = xs.length → lookL ks xs k = (posL ks k).bind fun n => xs[n]?
  | [], xs, _ => by cases xs <;> rfl
  | j :: js, [], h => by cases h
  | j :: js, x :: xs, h => by
    show (if j = k then some x else lookL js xs k) = (if j = k then some 0 else (posL js k).map (· + 1)).bind fun n => (x :: xs)[n]?
    by_cases e : j = k
    · rw [if_pos e, if_pos e]; rfl
    · rw [if_neg e, if_neg e, look_pos k js xs (Nat.succ.inj h)]
      cases posL js k <;> rfl
theorem pos_has (k : κ) : ∀ ks : List κ, hasL ks k = (posL ks k).isSome
  | [] => rfl
  | j :: js => by
    show (decide (j = k) || hasL js k) = (if j = k then some 0 else (posL js k).map (· + 1)).isSome
    by_cases e : j = k
    · simp [e]
    · rw [if_neg e, pos_has k js]; simp [e]
theorem pos_lt (k : κ) : ∀ {ks : List κ} {n : Nat}, posL ks k = some n → n < ks.length
  | [], n, h => by cases h
  | j :: js, n, h => by
    have h : (if j = k then some 0 else (posL js k).map (· + 1)) = some n := h
    by_cases e : j = k
    · rw [if_pos e] at h; cases h; exact Nat.succ_pos _
    · rw [if_neg e] at h
      cases q : posL js k with
      | none => rw [q] at h; cases h
      | some m => rw [q] at h; cases h; exact Nat.succ_lt_succ (pos_lt k q)
end
/-- where the key stands in the dict; none: at no place -/
def keyAt : Dat → Dat → Option (Option Nat)
  | .dK ks _, k => (keyK k).map (posL ks)
  | .dT ks _, k => (keyT k).map (posL ks)
  | _, _ => none
/-- the dict with one entry more -/
noncomputable def keyNew : Dat → Dat → Dat → Option Dat
  | .dK ks ds, k, x => (keyK k).bind fun j => if sz (ks.length + 1) = true then some (.dK (ks ++ [j]) (ds ++ [x])) else none
  | .dT ks ds, k, x => (keyT k).bind fun j => if sz (ks.length + 1) = true then some (.dT (ks ++ [j]) (ds ++ [x])) else none
  | _, _, _ => none
/-- setdefault on a tree: the tree behind it, and where the part stands -/
noncomputable def setdT (d k x : Dat) : Option (Dat × Nat) := (kidsD d).bind fun ds => if sz (ds.length + 1) = true then (keyAt d k).bind fun o => (match o with
  | some n => if (kidC d n).isSome = true then some (d, n) else none
  | none => (keyNew d k x).map fun d' => (d', ds.length)) else none
theorem setdT_some {d k x : Dat} {q : Dat × Nat} (h : setdT d k x = some q) : ∃ ds o, kidsD d = some ds ∧ ds.length < sizeLine ∧ keyAt d k = some o ∧ ((∃ e, o = some q.2 ∧ kidC d q.2 = some e ∧ q.1 = d) ∨ (o = none ∧ keyNew d k x = some q.1 ∧ q.2 = ds.length)) := by
  unfold setdT at h
  cases hd : kidsD d with
  | none => rw [hd] at h; cases h
  | some ds =>
    rw [hd, Option.bind_some] at h
    split at h
    · rename_i hs
      have hs := sz_ok hs
      cases ho : keyAt d k with
      | none => rw [ho] at h; cases h
      | some o =>
        rw [ho, Option.bind_some] at h
        refine ⟨ds, o, rfl, by omega, rfl, ?_⟩
        cases o with
        | some n =>
          have h : (if (kidC d n).isSome = true then some (d, n) else none) = some q := h
          split at h
          · rename_i hc
            cases h
            obtain ⟨e, he⟩ := Option.isSome_iff_exists.mp hc
            exact .inl ⟨e, rfl, he, rfl⟩
          · cases h
        | none =>
          have h : (keyNew d k x).map (fun d' => (d', ds.length)) = some q := h
          cases hn : keyNew d k x with
          | none => rw [hn] at h; cases h
          | some d' => rw [hn] at h; cases h; exact .inr ⟨rfl, rfl, rfl⟩
    · cases h
def treeX (i : Nat) (ε : DEnv) : Rs Dat := match ε[i]? with
  | some (some (true, .cel d)) => .ok d
  | _ => .no
theorem treeX_to {i : Nat} {ε : DEnv} {P : Dat → Prop} {E : Str → Prop} (h : (treeX i ε).to P E) : ∃ d, ε[i]? = some (some (true, .cel d)) ∧ P d := by
  unfold treeX at h
  split at h
  · rename_i d he
    exact ⟨d, he, h⟩
  · exact h.elim

section
variable {K : PySem.W.Frag} {H0 H H' H3 : Hp} {L : Lp} {LL : Lk} {ε : DEnv} {σ : L2.St} {a : Addr} {d e x k : Dat} {v w : V} {i j : Nat}
/-- another name for a part -/
theorem Rel.setals (r : Rel K H0 L LL ε σ H) (hj : j < σ.length) (he : ε[i]? = some (some (true, .cel d))) (hv : σ[i]? = some (some v)) (hij : i ≠ j) {p : List Nat} (ha : AddrIn H (LL.ρ i) v p a) :
    Rel K H0 L (LL.put j []) (ε.set j (some (true, .als i p))) (σ.set j (some (.ref a))) H ∧ Kp LL (LL.put j []) H H := by
  have k : Kp LL (LL.put j []) H H := .sub fun b z => z.elim id fun m => by cases m
  have k' : ∀ b, (LL.put j []).f b → LL b := fun b z => z.elim id fun m => by cases m
  refine ⟨⟨r.same, fun b z => .inl (r.sub b z), fun b z => r.mu b (k' b z), by rw [List.length_set, List.length_set]; exact r.len, fun m e h => ?_, fun m e h => ?_, fun m n e e' b e1 e2 e3 e4 => ?_, fun m n q e e1 e2 => ?_⟩, k⟩
  · rcases get_set _ _ _ _ _ h with ⟨_, _, z⟩ | ⟨hm, h⟩
    · cases z
    · obtain ⟨w, e1, q⟩ := r.val m e h
      exact ⟨w, by rw [set_get_ne hm]; exact e1, q.kp k fun _ z => z⟩
  · rcases get_set _ _ _ _ _ h with ⟨hm, _, z⟩ | ⟨hm, h⟩
    · cases z
      rw [hm, put_self]
      exact ⟨_, set_get hj, (fun a m => by cases m), rfl⟩
    · obtain ⟨w, e1, g1, g2⟩ := r.own m e h
      rw [put_ne hm]
      exact ⟨w, by rw [set_get_ne hm]; exact e1, fun a z => ⟨.inl (g1 a z).1, (g1 a z).2⟩, g2.kp k (fun _ z => z) fun a _ o z => z⟩
  · have hm : m ≠ j := fun z => by rw [z, put_self] at e3; cases e3
    have hn : n ≠ j := fun z => by rw [z, put_self] at e4; cases e4
    rw [set_get_ne hm] at e1
    rw [set_get_ne hn] at e2
    rw [put_ne hm] at e3
    rw [put_ne hn] at e4
    exact r.uni m n e e' b e1 e2 e3 e4
  · rcases get_set _ _ _ _ _ e2 with ⟨_, _, z⟩ | ⟨hn, e2'⟩
    · cases z
    rcases get_set _ _ _ _ _ e1 with ⟨hm, _, z⟩ | ⟨hm, e1'⟩
    · cases z
      rw [put_ne hij]
      exact ⟨v, a, by rw [set_get_ne hij]; exact hv, ha, by rw [hm]; exact set_get hj⟩
    · obtain ⟨w, b, g1, g2, g3⟩ := r.als m n q e e1' e2'
      rw [put_ne hn]
      exact ⟨w, b, by rw [set_get_ne hn]; exact g1, g2, by rw [set_get_ne hm]; exact g3⟩
theorem AddrIn.kid {F : List Addr} {o : HO} {p : Addr} (ha : a ∈ F) (hH : H a = some o) (hk : kidV o j = some (.ref p)) (hp : p ∈ F) : AddrIn H F (.ref a) [j] p := ⟨a, o, .ref p, rfl, ha, hH, hk, rfl, hp⟩
/-- a dict in a tree: how it is read -/
theorem TrN.dict {F : List Addr} {o : Option Nat} {ds : List Dat} (h : TrN K H0 LL H d v F) (hk : keyAt d k = some o) (hd : kidsD d = some ds) {y : V} (hy : DenS K H0 L LL H k y) : ∃ a u, v = .ref a ∧ a ∈ F ∧ IsD H a ∧ H a = some u ∧
    ((∃ (kvs : List (Key × V)) (kk : Key), u = .dK kvs ∧ y = kV kk ∧ kvs.length = ds.length ∧ valV kvs kk = o.bind (kidV u)) ∨
     (∃ (kvs : List (List Key × V)) (kk : List Key) (b : Addr), u = .dT kvs ∧ y = .ref b ∧ H b = some (.tup (kk.map kV)) ∧ kvs.length = ds.length ∧ valV kvs kk = o.bind (kidV u))) := by
  cases d with
  | dK ks ds' =>
    cases hd
    obtain ⟨a, vs, G, e, eF, ha, hl, ht⟩ := h
    cases q : keyK k with
    | none => rw [keyAt, q] at hk; cases hk
    | some k' =>
      rw [keyAt, q] at hk
      cases hk
      refine ⟨a, _, e, by rw [eF]; exact List.mem_cons_self, .inl ⟨_, .inl ha⟩, ha, .inl ⟨_, k', rfl, keyK_den hy q, by rw [List.length_zip, ← hl, Nat.min_self, ht.length, hl], ?_⟩⟩
      rw [val_zip, look_pos k' ks vs hl]
      exact congrArg _ (funext fun n => (kid_zip hl).symm)
  | dT ks ds' =>
    cases hd
    obtain ⟨a, vs, G, e, eF, ha, hl, ht⟩ := h
    cases q : keyT k with
    | none => rw [keyAt, q] at hk; cases hk
    | some k' =>
      rw [keyAt, q] at hk
      cases hk
      obtain ⟨b, hy', hb⟩ := keyT_den hy q
      refine ⟨a, _, e, by rw [eF]; exact List.mem_cons_self, .inr ⟨_, .inl ha⟩, ha, .inr ⟨_, k', b, rfl, hy', hb, by rw [List.length_zip, ← hl, Nat.min_self, ht.length, hl], ?_⟩⟩
      rw [val_zip, look_pos k' ks vs hl]
      exact congrArg _ (funext fun n => (kid_zip hl).symm)
  | _ => cases hk
/-- the heap behind setdefault, at which the key was not there: one part more -/
theorem Rel.grow (r : Rel K H0 L LL ε σ H) (he : ε[i]? = some (some (true, .cel d))) (hv : σ[i]? = some (some v)) (s : Same H H3) {p : Addr} {us : List V} {es : List Dat} {d' : Dat} {y : V} (hp : H p = none) (hp3 : H3 p = some (.lst us)) (hu : DenL K H0 (LL.or p) H3 es us)
    (hy : DenS K H0 L LL H3 k y) (hk : keyAt d k = some none) (hd : keyNew d k (.cel (.lst true es)) = some d') :
    ∃ a H' ds, v = .ref a ∧ kidsD d = some ds ∧ ((∃ kvs kk, H3 a = some (.dK kvs) ∧ y = kV kk ∧ kvs.length < sizeLine ∧ valV kvs kk = none ∧ H' = upd H3 a (.dK (putK kvs kk (.ref p)))) ∨
      (∃ kvs kk b, H3 a = some (.dT kvs) ∧ y = .ref b ∧ H3 b = some (.tup (kk.map kV)) ∧ kvs.length < sizeLine ∧ valV kvs kk = none ∧ H' = upd H3 a (.dT (putK kvs kk (.ref p))))) ∧
      Rel K H0 L (LL.put i (LL.ρ i ++ [p])) (ε.set i (some (true, .cel d'))) σ H' ∧ Kp LL (LL.put i (LL.ρ i ++ [p])) H H' ∧ AddrIn H' (LL.ρ i ++ [p]) v [ds.length] p ∧ Same H H3 := by
  obtain ⟨v', f1, f2, f3, f4⟩ := r.own i _ he
  rw [hv] at f1
  cases f1
  have hpn : p ∉ LL.ρ i := fun m => r.trk p (f2 p m).1 hp
  have main : ∀ (a : Addr) (u u' : HO) (vs : List V) (ds : List Dat) (G : List Addr), v = .ref a → LL.ρ i = a :: G → H a = some u → (∀ ws, u ≠ .lst ws) → (∀ n, kidV u n = vs[n]?) → (∀ n, kidV u' n = (vs ++ [V.ref p])[n]?) → Mut (some u') → TrL K H0 LL H ds vs G → kidsD d = some ds →
      (∀ {LL' H'}, H' a = some u' → TrL K H0 LL' H' (ds ++ [.cel (.lst true es)]) (vs ++ [V.ref p]) (G ++ [p]) → TrN K H0 LL' H' d' (.ref a) (a :: (G ++ [p]))) →
      Rel K H0 L (LL.put i (LL.ρ i ++ [p])) (ε.set i (some (true, .cel d'))) σ (upd H3 a u') ∧ Kp LL (LL.put i (LL.ρ i ++ [p])) H (upd H3 a u') ∧ AddrIn (upd H3 a u') (LL.ρ i ++ [p]) v [ds.length] p := by
    intro a u u' vs ds G ev eF ha hnl kv kv' mu ht hkd mk
    have ham : a ∈ LL.ρ i := by rw [eF]; exact List.mem_cons_self
    have hpa : p ≠ a := fun z => hpn (by rw [z]; exact ham)
    have h3a : H3 a = some u := s _ _ ha
    have hH : ∀ b o, b ∉ LL.ρ i → H b = some o → upd H3 a u' b = some o := fun b o hb e => by rw [upd_ne (fun z => hb (by rw [z]; exact ham))]; exact s _ _ e
    have kl : KL H (upd H3 a u') := KL.trans (.same s) (.dict h3a hnl)
    have kpF : Kp LL (LL.put i (LL.ρ i ++ [p])) H (upd H3 a u') := ⟨fun b o n e => ⟨(by
      intro q
      rcases q with q | q
      · exact n q
      · rcases List.mem_append.mp q with q | q
        · exact n (f2 b q).1
        · rw [List.mem_singleton.mp q, hp] at e; cases e), hH b o (fun q => n (f2 b q).1) e⟩, kl⟩
    have nd := f4
    rw [eF] at nd
    have haG := (List.nodup_cons.mp nd).1
    have t1 : TrL K H0 (LL.put i (LL.ρ i ++ [p])) (upd H3 a u') ds vs G := ht.kp kpF (fun _ z => z) fun b hb o e => by rw [upd_ne (fun z => haG (by rw [← z]; exact hb))]; exact s _ _ e
    have k3 : Kp (LL.or p) (LL.put i (LL.ρ i ++ [p])) H3 (upd H3 a u') := ⟨fun b o n e => ⟨(by
      intro q
      rcases q with q | q
      · exact n (.inl q)
      · rcases List.mem_append.mp q with q | q
        · exact n (.inl (f2 b q).1)
        · exact n (.inr (List.mem_singleton.mp q))), by rw [upd_ne (fun z => n (.inl (by rw [z]; exact (f2 a ham).1)))]; exact e⟩, KL.dict h3a hnl⟩
    have hp' : upd H3 a u' p = some (.lst us) := by rw [upd_ne hpa]; exact hp3
    have t2 : Tr K H0 (LL.put i (LL.ρ i ++ [p])) (upd H3 a u') (.cel (.lst true es)) (.ref p) [p] := ⟨p, us, [], rfl, rfl, fun _ => r.same.free hp, hp', TrL.of (hu.kp k3 fun _ z => z)⟩
    have tn := mk (LL' := LL.put i (LL.ρ i ++ [p])) (H' := upd H3 a u') upd_same (t1.app (.one t2))
    have eF' : LL.ρ i ++ [p] = a :: (G ++ [p]) := by rw [eF]; rfl
    have hlen := ht.length
    have addr : AddrIn (upd H3 a u') (LL.ρ i ++ [p]) v [ds.length] p := by
      rw [ev]
      refine AddrIn.kid (o := u') (List.mem_append_left _ ham) upd_same ?_ (by simp)
      rw [kv', hlen]
      simp
    have old : ∀ b, b ∈ LL.ρ i → ∃ o, upd H3 a u' b = some o ∧ Mut (some o) := fun b m => by
      by_cases hb : b = a
      · rw [hb]; exact ⟨u', upd_same, mu⟩
      · obtain ⟨o, g1, g2⟩ := r.mu b (f2 b m).1
        exact ⟨o, by rw [upd_ne hb]; exact s _ _ g1, g2⟩
    have hm : ∀ b, b ∈ LL.ρ i ∨ b ∈ LL.ρ i ++ [p] → ∃ o, upd H3 a u' b = some o ∧ Mut (some o) := fun b m => by
      rcases m with m | m
      · exact old b m
      · rcases List.mem_append.mp m with m | m
        · exact old b m
        · rw [List.mem_singleton.mp m]; exact ⟨_, hp', trivial⟩
    have hk2 : ∀ c, c ∈ LL.ρ i → ∀ o, H c = some o → ∃ o', upd H3 a u' c = some o' ∧ ∀ j b, kidV o j = some (.ref b) → kidV o' j = some (.ref b) := fun c hc o ho => by
      by_cases hc' : c = a
      · rw [hc'] at ho ⊢
        rw [ha] at ho
        cases ho
        refine ⟨u', upd_same, fun n b hb => ?_⟩
        rw [kv] at hb
        rw [kv', List.getElem?_append_left (List.getElem?_eq_some_iff.mp hb).1]
        exact hb
      · exact ⟨o, by rw [upd_ne hc']; exact s _ _ ho, fun _ _ z => z⟩
    have hnd : (LL.ρ i ++ [p]).Nodup := List.nodup_append.mpr ⟨f4, by simp, fun x hx y hy z => hpn (by rw [List.mem_singleton] at hy; rw [← hy, ← z]; exact hx)⟩
    obtain ⟨r1, k1⟩ := r.chg (d := .cel d') (F' := LL.ρ i ++ [p]) he hv hH kl (fun b m => (List.mem_append.mp m).imp id fun q => by rw [List.mem_singleton.mp q]; exact hp) hm (by rw [ev]; exact ⟨by rw [eF'] at tn ⊢; exact tn, hnd⟩) (fun k p z => nomatch z) fun x hx => ⟨⟨d, rfl⟩, fun m q _ b hb => hb.mono fun c hc => ⟨List.mem_append_left _ hc, hk2 c hc⟩⟩
    exact ⟨r1, k1, addr⟩
  cases d with
  | dK ks ds =>
    obtain ⟨a, vs, G, ev, eF, ha, hl, ht⟩ := f3
    cases q : keyK k with
    | none => rw [keyAt, q] at hk; cases hk
    | some k' =>
      rw [keyAt, q] at hk
      have hk : posL ks k' = none := Option.some.inj hk
      rw [keyNew, q] at hd
      have hd : (if sz (ks.length + 1) = true then some (Dat.dK (ks ++ [k']) (ds ++ [.cel (.lst true es)])) else none) = some d' := hd
      split at hd
      · rename_i hsz
        cases hd
        have hsz := sz_ok hsz
        have hval : valV (ks.zip vs) k' = none := by rw [val_zip, look_pos k' ks vs hl, hk]; rfl
        have hput : putK (ks.zip vs) k' (V.ref p) = (ks ++ [k']).zip (vs ++ [V.ref p]) := by rw [putK_new _ hval, List.zip_append hl]; rfl
        have hl' : (ks ++ [k']).length = (vs ++ [V.ref p]).length := by simp [hl]
        obtain ⟨m1, m2, m3⟩ := main a _ (.dK (putK (ks.zip vs) k' (.ref p))) vs ds G ev eF ha (fun ws z => nomatch z) (fun n => kid_zip hl) (fun n => by rw [hput]; exact kid_zip hl') trivial ht rfl (fun {LL' H'} h1 h2 => ⟨a, _, _, rfl, rfl, by rw [← hput]; exact h1, hl', h2⟩)
        exact ⟨a, _, ds, ev, rfl, .inl ⟨_, k', s _ _ ha, keyK_den hy q, by rw [List.length_zip, ← hl, Nat.min_self]; omega, hval, rfl⟩, m1, m2, m3, s⟩
      · cases hd
  | dT ks ds =>
    obtain ⟨a, vs, G, ev, eF, ha, hl, ht⟩ := f3
    cases q : keyT k with
    | none => rw [keyAt, q] at hk; cases hk
    | some k' =>
      rw [keyAt, q] at hk
      have hk : posL ks k' = none := Option.some.inj hk
      rw [keyNew, q] at hd
      have hd : (if sz (ks.length + 1) = true then some (Dat.dT (ks ++ [k']) (ds ++ [.cel (.lst true es)])) else none) = some d' := hd
      split at hd
      · rename_i hsz
        cases hd
        have hsz := sz_ok hsz
        obtain ⟨b, hy', hb⟩ := keyT_den hy q
        have hval : valV (ks.zip vs) k' = none := by rw [val_zip, look_pos k' ks vs hl, hk]; rfl
        have hput : putK (ks.zip vs) k' (V.ref p) = (ks ++ [k']).zip (vs ++ [V.ref p]) := by rw [putK_new _ hval, List.zip_append hl]; rfl
        have hl' : (ks ++ [k']).length = (vs ++ [V.ref p]).length := by simp [hl]
        obtain ⟨m1, m2, m3⟩ := main a _ (.dT (putK (ks.zip vs) k' (.ref p))) vs ds G ev eF ha (fun ws z => nomatch z) (fun n => kid_zip hl) (fun n => by rw [hput]; exact kid_zip hl') trivial ht rfl (fun {LL' H'} h1 h2 => ⟨a, _, _, rfl, rfl, by rw [← hput]; exact h1, hl', h2⟩)
        exact ⟨a, _, ds, ev, rfl, .inr ⟨_, k', b, s _ _ ha, hy', hb, by rw [List.length_zip, ← hl, Nat.min_self]; omega, hval, rfl⟩, m1, m2, m3, s⟩
      · cases hd
  | _ => cases hk
/-- a list in a tree: how it is written -/
theorem Rel.node (r : Rel K H0 L LL ε σ H) (he : ε[i]? = some (some (true, .cel d))) (hv : σ[i]? = some (some v)) {p : List Nat} {t : Bool} {ds : List Dat} (hn : nodeAt d p = some (.lst t ds)) :
    ∃ b vs G, H b = some (.lst vs) ∧ TrL K H0 LL H ds vs G ∧ b ∉ G ∧ LL b ∧ AddrIn H (LL.ρ i) v p b ∧ ∀ (vs' : List V) (ds' : List Dat), (∀ (j : Nat) (c : Addr), vs[j]? = some (V.ref c) → vs'[j]? = some (V.ref c)) →
      (∀ {LL' : Lk} {H' : Hp}, Kp LL LL' H H' → (∀ c, c ∈ G → ∀ o, H c = some o → H' c = some o) → TrL K H0 LL' H' ds' vs' G) →
      Rel K H0 L (LL.put i (LL.ρ i)) (ε.set i (some (true, .cel (setAt d p (.lst t ds'))))) σ (upd H b (.lst vs')) ∧ Kp LL (LL.put i (LL.ρ i)) H (upd H b (.lst vs')) := by
  obtain ⟨v', f1, f2, f3, f4⟩ := r.own i _ he
  rw [hv] at f1
  cases f1
  obtain ⟨b, G1, Fe, G2, eF, adr, tn, rb⟩ := f3.focus p hn
  obtain ⟨b', vs, G, eb, eFe, ht, hb, tl⟩ := tn
  cases eb
  subst eFe
  have hbm : b ∈ LL.ρ i := by rw [eF]; simp
  have nd := f4
  rw [eF] at nd
  have nd2 : (b :: G).Nodup := (List.nodup_append.mp (List.nodup_append.mp nd).1).2.1
  have hbG : b ∉ G := (List.nodup_cons.mp nd2).1
  refine ⟨b, vs, G, hb, tl, hbG, (f2 b hbm).1, adr, fun vs' ds' hks mk => ?_⟩
  have hH : ∀ c o, c ∉ LL.ρ i → H c = some o → upd H b (.lst vs') c = some o := fun c o hc e => by rw [upd_ne (fun z => hc (by rw [z]; exact hbm))]; exact e
  have kp : Kp LL (LL.put i (LL.ρ i)) H (upd H b (.lst vs')) := ⟨fun c o n e => ⟨fun q => q.elim n fun m => n (f2 c m).1, hH c o (fun m => n (f2 c m).1) e⟩, KL.lst⟩
  have out : ∀ c, c ∈ G1 ++ G2 → c ≠ b := fun c hc z => by
    rw [z] at hc
    rcases List.mem_append.mp hc with hc | hc
    · exact (List.nodup_append.mp (List.nodup_append.mp nd).1).2.2 b hc b List.mem_cons_self rfl
    · exact (List.nodup_append.mp nd).2.2 b (by simp) b hc rfl
  have t1 : TrL K H0 (LL.put i (LL.ρ i)) (upd H b (.lst vs')) ds' vs' G := mk kp fun c hc o e => by rw [upd_ne (fun z => hbG (by rw [← z]; exact hc))]; exact e
  have t2 := rb (H1 := H0) kp (fun _ z => z) (fun c hc o e => by rw [upd_ne (out c hc)]; exact e) (e' := .lst t ds') (Fe' := b :: G) ⟨b, vs', G, rfl, rfl, ht, upd_same, t1⟩
  rw [← eF] at t2
  refine r.chg (d := .cel (setAt d p (.lst t ds'))) (F' := LL.ρ i) he hv hH .lst (fun _ m => .inl m) (fun c m => ?_) ⟨t2, f4⟩ (fun _ _ z => nomatch z) fun x hx => ⟨⟨d, rfl⟩, fun m q _ c hc => hc.mono fun e he' => ⟨he', fun o ho => ?_⟩⟩
  · rw [or_self] at m
    by_cases hc : c = b
    · rw [hc]; exact ⟨_, upd_same, trivial⟩
    · obtain ⟨o, g1, g2⟩ := r.mu c (f2 c m).1
      exact ⟨o, by rw [upd_ne hc]; exact g1, g2⟩
  · by_cases hc : e = b
    · rw [hc] at ho ⊢
      rw [hb] at ho
      cases ho
      exact ⟨_, upd_same, fun j c z => hks j c z⟩
    · exact ⟨o, by rw [upd_ne hc]; exact ho, fun _ _ z => z⟩
end
end DL

set_option maxRecDepth 100000
set_option maxHeartbeats 4000000
/-! DLpa: statements over trees. -/
namespace DL
open PySem PySem.Spec PyProof.Rows L2

section
variable {X : Cx} {W : WX} {H0 : Hp} {L : Lp} {LL : Lk} {m : Bool} {a b c e e1 e2 ke fe : Expr} {es rest : List Expr} {pos p : Pos} {f g h fk fv : DEnv → Rs Dat} {ff : DEnv → Rs (List Dat)}
variable {K : PySem.W.Frag} {mg : Str → Option Value} {σ : L2.St} {H : Hp} {ε : DEnv}
/-! ### a new tree -/
def tnewD (i : Nat) (d : Dat) (ε : DEnv) : Rs Out := .ok (.nx ((drp i ε).set i (some (true, .cel d))))
theorem tnew_use {i : Nat} {D : Ends} {d : Dat} {u : HO} (hl : i < σ.length) (mu : Mut (some u)) (mk : ∀ {LL H p}, H p = some u → TrN K H0 LL H d (.ref p) [p]) (h : tD K mg W H0 L (tnewD i d) D σ H) : ∀ p, H p = none → D.nx (σ.set i (some (.ref p))) (upd H p u) := fun p hp => by
  obtain ⟨ε, LL, r, h⟩ := h
  obtain ⟨r1, k1⟩ := (r.drp i).setOwn (d := .cel d) (v := .ref p) (F := [p]) (H' := upd H p u) hl (same_new hp) (fun a m => by rw [List.mem_singleton.mp m]; exact hp) (fun a m => by rw [List.mem_singleton.mp m]; exact ⟨u, upd_same, mu⟩)
    ⟨mk upd_same, List.nodup_cons.mpr ⟨by simp, List.nodup_nil⟩⟩ (fun k p z => nomatch z) fun e _ j q z => absurd z drp_no
  exact h _ _ _ r1 k1
theorem ds_tnewT (i : Nat) {x : Str} {pos' : Pos} (hN : X.N.Nodup) (hi : X.N[i]? = some x := by rfl) (hx : Loc X.env.scope x := by first | exact .inl rfl | exact .inr rfl) (hs : swapsWith (.Dict [] [] p) (some (.Name x pos')) pos.line X.env = pure false := by rfl) (hf : X.fn x = true ∨ X.env.scope.names.lookup x = some .local := by first | exact .inl rfl | exact .inr rfl | assumption) :
    DS X W H0 L (.Assign [.Name x pos'] (.Dict [] [] p) pos) (tnewD i (.dT [] [])) :=
  psimp (ps_set hN hi hx pe_dnewT hs hf) fun D σ H hl h => tnew_use (d := .dT [] []) (by rw [hl]; exact lt_of_get hi) trivial (fun {LL H p} hp => ⟨p, [], [], rfl, rfl, hp, rfl, rfl, rfl⟩) h
theorem ds_tnewK (i : Nat) {x : Str} {pos' : Pos} (hN : X.N.Nodup) (hi : X.N[i]? = some x := by rfl) (hx : Loc X.env.scope x := by first | exact .inl rfl | exact .inr rfl) (hs : swapsWith (.Dict [] [] p) (some (.Name x pos')) pos.line X.env = pure false := by rfl) (hf : X.fn x = true ∨ X.env.scope.names.lookup x = some .local := by first | exact .inl rfl | exact .inr rfl | assumption) :
    DS X W H0 L (.Assign [.Name x pos'] (.Dict [] [] p) pos) (tnewD i (.dK [] [])) :=
  psimp (ps_set hN hi hx pe_dnewK hs hf) fun D σ H hl h => tnew_use (d := .dK [] []) (by rw [hl]; exact lt_of_get hi) trivial (fun {LL H p} hp => ⟨p, [], [], rfl, rfl, hp, rfl, rfl, rfl⟩) h

/-! ### setdefault -/
/-- what setdefault leads to: the tree behind it, the part's address -/
theorem setd_use {i : Nat} {d k : Dat} {es : List Dat} {q : Dat × Nat} {H3 : Hp} {v y : V} {p : Addr} {us : List V} {Q : VK} (r : Rel K H0 L LL ε σ H) (he : ε[i]? = some (some (true, .cel d))) (hv : σ[i]? = some (some v)) (s : Same H H3)
    (hp : H p = none) (hp3 : H3 p = some (.lst us)) (hu : DenL K H0 (LL.or p) H3 es us) (hy : DenS K H0 L LL H3 k y) (hq : setdT d k (.cel (.lst true es)) = some q) (a : Addr) (ea : v = .ref a)
    (hQ : ∀ LL' H' b, Rel K H0 L LL' (ε.set i (some (true, .cel q.1))) σ H' → Kp LL LL' H H' → AddrIn H' (LL'.ρ i) v [q.2] b → Q (.ref b) H') :
    (∃ (kvs : List (Key × V)) (kk : Key), H3 a = some (.dK kvs) ∧ y = kV kk ∧ kvs.length < sizeLine ∧ (∀ v, valV kvs kk = some v → Q v H3) ∧ (valV kvs kk = none → Q (.ref p) (upd H3 a (.dK (putK kvs kk (.ref p)))))) ∨
    (∃ (kvs : List (List Key × V)) (kk : List Key) (b : Addr), H3 a = some (.dT kvs) ∧ y = .ref b ∧ H3 b = some (.tup (kk.map kV)) ∧ kvs.length < sizeLine ∧ (∀ v, valV kvs kk = some v → Q v H3) ∧ (valV kvs kk = none → Q (.ref p) (upd H3 a (.dT (putK kvs kk (.ref p)))))) := by
  obtain ⟨ds, o, hk, hz, ho, alt⟩ := setdT_some hq
  have r3 := r.mono s
  obtain ⟨v', f1, f2, f3, f4⟩ := r3.own i _ he
  rw [hv] at f1
  cases f1
  obtain ⟨a', u, ea', ham, isd, ha, dis⟩ := f3.dict ho hk hy
  rw [ea] at ea'
  cases ea'
  rcases alt with ⟨e, ho', hc, eq⟩ | ⟨ho', hnew, en⟩
  · -- the key is there
    have hn : nodeAt d [q.2] = some e := by show (kidC d q.2).bind _ = _; rw [hc]; rfl
    obtain ⟨b, G1, Fe, G2, eF, adr, tn, rb⟩ := f3.focus [q.2] hn
    obtain ⟨a2, o2, w, e2, _, ha2, hkv, ew, _⟩ := id adr
    rw [ea] at e2
    cases e2
    rw [ha] at ha2
    cases ha2
    have fin : ∀ v', o.bind (kidV u) = some v' → Q v' H3 := fun v' hv' => by
      rw [ho', Option.bind_some, hkv] at hv'
      cases hv'
      rw [ew]
      refine hQ LL H3 b ?_ (Kp.same s) adr
      rw [eq, set_same he]
      exact r3
    have no : o.bind (kidV u) ≠ none := by rw [ho', Option.bind_some, hkv]; exact fun z => nomatch z
    rcases dis with ⟨kvs, kk, eu, ey, hlen, hval⟩ | ⟨kvs, kk, b', eu, ey, hb, hlen, hval⟩
    · exact .inl ⟨kvs, kk, by rw [← eu]; exact ha, ey, by rw [hlen]; exact hz, fun v' hv' => fin v' (by rw [← hval]; exact hv'), fun z => absurd (hval ▸ z) no⟩
    · exact .inr ⟨kvs, kk, b', by rw [← eu]; exact ha, ey, hb, by rw [hlen]; exact hz, fun v' hv' => fin v' (by rw [← hval]; exact hv'), fun z => absurd (hval ▸ z) no⟩
  · subst ho'
    obtain ⟨a2, H', ds', ea2, hk', alt, r1, k1, adr, _⟩ := r.grow he hv s hp hp3 hu hy ho hnew
    rw [ea] at ea2
    cases ea2
    rw [hk] at hk'
    cases hk'
    have adr' : AddrIn H' ((LL.put i (LL.ρ i ++ [p])).ρ i) v [q.2] p := by rw [put_self, en]; exact adr
    have fin := hQ _ H' p r1 k1 adr'
    rcases alt with ⟨kvs, kk, h1, h2, h3, h4, h5⟩ | ⟨kvs, kk, b, h1, h2, hb, h3, h4, h5⟩
    · exact .inl ⟨kvs, kk, h1, h2, h3, fun v' hv' => (by rw [h4] at hv'; cases hv'), fun _ => by rw [← h5]; exact fin⟩
    · exact .inr ⟨kvs, kk, b, h1, h2, hb, h3, fun v' hv' => (by rw [h4] at hv'; cases hv'), fun _ => by rw [← h5]; exact fin⟩
/-- y = x.setdefault(k, list) -/
noncomputable def setdD (i j : Nat) (fk : DEnv → Rs Dat) (ff : DEnv → Rs (List Dat)) (ε : DEnv) : Rs Out := treeX i ε >>= fun d => fk ε >>= fun k => ff ε >>= fun es => Rs.of (setdT d k (.cel (.lst true es))) >>= fun q =>
  .ok (.nx ((ε.set i (some (true, .cel q.1))).set j (some (true, .als i [q.2]))))
theorem tree_isD {i : Nat} {d : Dat} {ds : List Dat} (r : Rel K H0 L LL ε σ H) (he : ε[i]? = some (some (true, .cel d))) {k : Dat} {o : Option Nat} (hk : keyAt d k = some o) : ∃ a, σ[i]? = some (some (V.ref a)) ∧ IsD H a := by
  obtain ⟨v, f1, f2, f3, f4⟩ := r.own i _ he
  cases d with
  | dK ks ds => obtain ⟨a, vs, G, rfl, eF, ha, _⟩ := f3; exact ⟨a, f1, .inl ⟨_, .inl ha⟩⟩
  | dT ks ds => obtain ⟨a, vs, G, rfl, eF, ha, _⟩ := f3; exact ⟨a, f1, .inr ⟨_, .inl ha⟩⟩
  | _ => cases hk
theorem Rs.to_ne {α : Type} {R : Rs α} {P : α → Prop} {E : Str → Prop} (h : R.to P E) : R ≠ .no := fun z => by rw [z] at h; exact h
def isDic : Dat → Bool
  | .dK _ _ => true
  | .dT _ _ => true
  | _ => false
theorem tree_dic {i : Nat} {d : Dat} (r : Rel K H0 L LL ε σ H) (he : ε[i]? = some (some (true, .cel d))) (hd : isDic d = true) : ∃ a, σ[i]? = some (some (V.ref a)) ∧ IsD H a := by
  obtain ⟨v, f1, f2, f3, f4⟩ := r.own i _ he
  cases d with
  | dK ks ds => obtain ⟨a, vs, G, rfl, eF, ha, _⟩ := f3; exact ⟨a, f1, .inl ⟨_, .inl ha⟩⟩
  | dT ks ds => obtain ⟨a, vs, G, rfl, eF, ha, _⟩ := f3; exact ⟨a, f1, .inr ⟨_, .inl ha⟩⟩
  | _ => cases hd
theorem ds_setd (i j : Nat) {jj : Nat} {x y : Str} {px py pa pc : Pos} (hr : Room jj X.A) (hij : i ≠ j) (hN : X.N.Nodup) (hx : PE X (.Name x px) (tVar i)) (hk : DE false X W H0 L ke fk) (hf : DF X W H0 L fe ff) (m2 : M2 X (.Name x px) "setdefault" pa ke fe pc := by exact ⟨rfl, rfl, rfl, rfl⟩)
    (hj : X.N[j]? = some y := by rfl) (hy : Loc X.env.scope y := by first | exact .inl rfl | exact .inr rfl) (hs : swapsWith (.Call (.Attribute (.Name x px) "setdefault" pa) [ke, fe] [] pc) (some (.Name y py)) pos.line X.env = pure false := by rfl) (hfn : X.fn y = true ∨ X.env.scope.names.lookup y = some .local := by first | exact .inl rfl | exact .inr rfl | assumption) :
    DS X W H0 L (.Assign [.Name y py] (.Call (.Attribute (.Name x px) "setdefault" pa) [ke, fe] [] pc) pos) (fun ε => treeX i ε >>= fun d => chk (isDic d) (setdD i j fk ff ε)) :=
  psimp (ps_set hN hj hy (pe_dsetG (by have := hr.units; omega) hx hk hf m2) hs hfn) fun D σ H hl ⟨ε, LL, r, h⟩ => by
    rw [Rs.to_bind] at h
    obtain ⟨d, he, h⟩ := treeX_to h
    obtain ⟨hdic, h⟩ := chk_to h
    unfold setdD at h
    rw [Rs.to_bind] at h
    obtain ⟨d2, he2, h⟩ := treeX_to h
    rw [he] at he2
    cases he2
    rw [Rs.to_bind] at h
    obtain ⟨a, hv, isd⟩ := tree_dic r he hdic
    refine ⟨.ref a, hv, a, rfl, isd, ε, LL, r, h.imp (fun k _ hk y H1 s1 qk => ?_) fun n z => z.w r.same⟩
    rw [Rs.to_bind] at hk
    refine ⟨ε, LL, r.mono s1, hk.imp (fun es _ hes p us H2 s2 hn hp hd => ?_) fun n z => z.w (r.mono s1).same⟩
    rw [Rs.to_bind] at hes
    obtain ⟨q, hq, hes⟩ := Rs.to_of hes
    refine setd_use r he hv (s1.trans s2) (s1.free hn) hp hd (DenS.same s2 qk) hq a rfl fun LL' H' b r1 k1 adr => ?_
    have he' : (ε.set i (some (true, .cel q.1)))[i]? = some (some (true, .cel q.1)) := set_get (lt_of_get he)
    obtain ⟨r2, k2⟩ := r1.setals (by rw [hl]; exact lt_of_get hj) he' hv hij adr
    exact hes _ _ _ r2 (k1.trans k2)
/-- x.setdefault(k, []).append(v) -/
def asLN : Dat → Option (Bool × List Dat)
  | .lst t ds => some (t, ds)
  | _ => none
theorem asLN_some {d : Dat} {q : Bool × List Dat} (h : asLN d = some q) : d = .lst q.1 q.2 := by
  unfold asLN at h
  split at h
  · cases h; rfl
  · cases h
def listAt (d : Dat) (p : List Nat) : Option (Bool × List Dat) := (nodeAt d p).bind asLN
theorem listAt_some {d : Dat} {p : List Nat} {q : Bool × List Dat} (h : listAt d p = some q) : nodeAt d p = some (.lst q.1 q.2) := by
  unfold listAt at h
  cases hn : nodeAt d p with
  | none => rw [hn] at h; cases h
  | some e => rw [hn] at h; rw [asLN_some h]
noncomputable def sapD (i : Nat) (fk fv : DEnv → Rs Dat) (ε : DEnv) : Rs Out := treeX i ε >>= fun d => chk (isDic d) (fk ε >>= fun k => Rs.of (setdT d k (.cel (.lst true []))) >>= fun q => Rs.of (listAt q.1 [q.2]) >>= fun l => fv (ε.set i (some (true, .cel q.1))) >>= fun x =>
  chk (sz (l.2.length + 1)) (.ok (.nx (ε.set i (some (true, .cel (setAt q.1 [q.2] (.lst l.1 (l.2 ++ [x])))))))))
/-- append to a list in a tree -/
theorem Rel.nodeApp (r : Rel K H0 L LL ε σ H) {i : Nat} {d x : Dat} {v w : V} (he : ε[i]? = some (some (true, .cel d))) (hv : σ[i]? = some (some v)) {p : List Nat} {t : Bool} {ds : List Dat} (hn : nodeAt d p = some (.lst t ds)) (hd : Den K H0 LL H x w) {b : Addr} (hb : AddrIn H (LL.ρ i) v p b) :
    ∃ vs, H b = some (.lst vs) ∧ vs.length = ds.length ∧ Rel K H0 L (LL.put i (LL.ρ i)) (ε.set i (some (true, .cel (setAt d p (.lst t (ds ++ [x])))))) σ (upd H b (.lst (vs ++ [w]))) ∧ Kp LL (LL.put i (LL.ρ i)) H (upd H b (.lst (vs ++ [w]))) := by
  obtain ⟨b', vs, G, hb', tl, hbG, hLb, adr, mk⟩ := r.node he hv hn
  cases hb.inj adr
  obtain ⟨r1, k1⟩ := mk (vs ++ [w]) (ds ++ [x]) (fun j c z => by rw [List.getElem?_append_left (List.getElem?_eq_some_iff.mp z).1]; exact z) fun {LL' H'} k kk => by
    have := (tl.kp (H1 := H0) k (fun _ z => z) kk).app (.one (.of (hd.kp k fun _ z => z)))
    rwa [List.append_nil] at this
  exact ⟨vs, hb', tl.length.symm, r1, k1⟩
theorem ds_sap (i : Nat) {jj : Nat} {x : Str} {px pa pa2 pc pc2 pl : Pos} (hr : Room jj X.A) (hx : PE X (.Name x px) (tVar i)) (hk : DE false X W H0 L ke fk) (hv : DE true X W H0 L e fv) (m2 : M2 X (.Name x px) "setdefault" pa ke (.List [] pl) pc := by exact ⟨rfl, rfl, rfl, rfl⟩)
    (h1 : PE X (.Call (.Attribute (.Name x px) "setdefault" pa) [ke, .List [] pl] [] pc) (tDSetG (tVar i) (tE false X.K X.mg W H0 L fk) (tLst tNil)) → PA X [e] (tCons (tE true X.K X.mg W H0 L fv) tNil) →
      PE X (.Call (.Attribute (.Call (.Attribute (.Name x px) "setdefault" pa) [ke, .List [] pl] [] pc) "append" pa2) [e] [] pc2) (tBM X.K "list" rAppend (tDSetG (tVar i) (tE false X.K X.mg W H0 L fk) (tLst tNil)) (tCons (tE true X.K X.mg W H0 L fv) tNil)))
    (he1 : starEach [e] X.env = (false, eval e X.env) :: starEach [] X.env := by rfl)
    (hs : swapsWith (.Call (.Attribute (.Call (.Attribute (.Name x px) "setdefault" pa) [ke, .List [] pl] [] pc) "append" pa2) [e] [] pc2) none pos.line X.env = pure false := by rfl) :
    DS X W H0 L (.Expr (.Call (.Attribute (.Call (.Attribute (.Name x px) "setdefault" pa) [ke, .List [] pl] [] pc) "append" pa2) [e] [] pc2) pos) (sapD i fk fv) :=
  psimp (ps_expr (h1 (pe_dsetG (by have := hr.units; omega) hx hk (pe_lst pa_nil) m2) (pa_cons hv pa_nil he1)) hs) fun D σ H hl ⟨ε, LL, r, h⟩ => by
    unfold sapD at h
    rw [Rs.to_bind] at h
    obtain ⟨d, he, h⟩ := treeX_to h
    obtain ⟨hdic, h⟩ := chk_to h
    rw [Rs.to_bind] at h
    obtain ⟨a, hva, isd⟩ := tree_dic r he hdic
    refine ⟨.ref a, hva, a, rfl, isd, ε, LL, r, h.imp (fun k _ hk y H1 s1 qk => ?_) fun n z => z.w r.same⟩
    rw [Rs.to_bind] at hk
    obtain ⟨q, hq, hk⟩ := Rs.to_of hk
    refine ⟨Nat.zero_le _, fun p hp => ?_⟩
    have s := s1.trans (same_new (o := .lst []) hp)
    refine setd_use (Q := fun x H1 => tyV X.K "list" x H1 ∧ tCons (tE true X.K X.mg W H0 L fv) tNil σ H1 fun xs H2 => rAppend x xs H2 fun x H1 => D.nx σ H1) (es := []) r he hva s (s1.free hp) upd_same rfl (DenS.same (same_new hp) qk) hq a rfl fun LL' H' b r1 k1 adr => ?_
    have he' : (ε.set i (some (true, .cel q.1)))[i]? = some (some (true, .cel q.1)) := set_get (lt_of_get he)
    rw [Rs.to_bind] at hk
    obtain ⟨l, hl2, hk⟩ := Rs.to_of hk
    have hn := listAt_some hl2
    rw [Rs.to_bind] at hk
    obtain ⟨vs0, hb0, _⟩ := r1.nodeApp he' hva hn (x := .non) (w := .non) rfl adr
    refine ⟨.inl ⟨rfl, vs0, .of hb0⟩, _, LL', r1, hk.imp (fun x _ hx w H2 s2 qx => ?_) fun n z => z.w r1.same⟩
    obtain ⟨hz, hx⟩ := chk_to hx
    have hz := sz_ok hz
    have r2 := r1.mono s2
    obtain ⟨vs, hb, hlen, r3, k3⟩ := r2.nodeApp he' hva hn qx (adr.mono fun c hc => ⟨hc, fun o ho => ⟨o, s2 _ _ ho, fun _ _ z => z⟩⟩)
    refine ⟨b, vs, w, rfl, rfl, hb, by rw [hlen]; omega, ?_⟩
    rw [List.set_set] at r3
    exact hx _ _ _ r3 (k1.trans ((Kp.same s2).trans k3))
end
end DL

set_option maxRecDepth 100000
set_option maxHeartbeats 4000000
/-! DLpb: stores into lists of trees; lists of lists. -/
namespace DL
open PySem PySem.Spec PyProof.Rows L2

section
variable {X : Cx} {W : WX} {H0 : Hp} {L : Lp} {LL : Lk} {m : Bool} {a b c e e1 e2 ke fe : Expr} {es rest : List Expr} {pos p : Pos} {f g h fk fv f1 : DEnv → Rs Dat} {ff : DEnv → Rs (List Dat)}
variable {K : PySem.W.Frag} {mg : Str → Option Value} {σ : L2.St} {H : Hp} {ε : DEnv}
theorem isS_fv {d : Dat} {v : V} (h : Den K H0 LL H d v) (hs : isS d = true) : ∀ a, v ≠ V.ref a := fun a z => by
  cases d <;> first | (cases h; cases z; done) | cases hs
/-- the place written to held no thing -/
def scAt (ds : List Dat) (n : Nat) : Bool := match ds[n]? with
  | some d => isS d
  | none => false
/-- a list in a tree is written -/
theorem Rel.nodeSet (r : Rel K H0 L LL ε σ H) {i : Nat} {d x : Dat} {v w : V} (he : ε[i]? = some (some (true, .cel d))) (hv : σ[i]? = some (some v)) {p : List Nat} {t : Bool} {ds : List Dat} (hn : nodeAt d p = some (.lst t ds)) (hd : Den K H0 LL H x w) {b : Addr} (hb : AddrIn H (LL.ρ i) v p b) {n : Nat} (hs : scAt ds n = true) :
    ∃ vs, H b = some (.lst vs) ∧ vs.length = ds.length ∧ Rel K H0 L (LL.put i (LL.ρ i)) (ε.set i (some (true, .cel (setAt d p (.lst t (ds.set n x)))))) σ (upd H b (.lst (vs.set n w))) ∧ Kp LL (LL.put i (LL.ρ i)) H (upd H b (.lst (vs.set n w))) := by
  obtain ⟨b', vs, G, hb', tl, hbG, hLb, adr, mk⟩ := r.node he hv hn
  cases hb.inj adr
  unfold scAt at hs
  split at hs
  · rename_i old ho
    obtain ⟨w0, G1, Gd, G2, hw0, eG, htr, rb⟩ := tl.set ho
    have hnc : isCel old = false := by cases old <;> first | rfl | cases hs
    obtain ⟨rfl, hden⟩ := (tr_data hnc).mp htr
    have nref := isS_fv hden hs
    obtain ⟨r1, k1⟩ := mk (vs.set n w) (ds.set n x) (fun j c z => by
      have hj : j ≠ n := fun e => by rw [e, hw0] at z; exact nref c (Option.some.inj z)
      rw [set_get_ne hj]; exact z) fun {LL' H'} k kk => by
        have := rb (H1 := H0) k (fun _ z => z) (fun c hc => kk c (by rw [eG]; simpa using hc)) (.of (hd.kp k fun _ z => z))
        rw [eG]
        simpa using this
    exact ⟨vs, hb', tl.length.symm, r1, k1⟩
  · cases hs
/-- what slot j names a part of -/
def alsX (j : Nat) (ε : DEnv) : Option (Nat × List Nat × Dat) := match ε[j]? with
  | some (some (true, .als i p)) => match ε[i]? with
    | some (some (true, .cel d)) => some (i, p, d)
    | _ => none
  | _ => none
theorem alsX_some {j : Nat} {q : Nat × List Nat × Dat} (h : alsX j ε = some q) : ε[j]? = some (some (true, .als q.1 q.2.1)) ∧ ε[q.1]? = some (some (true, .cel q.2.2)) := by
  unfold alsX at h
  split at h
  · rename_i i p e1
    split at h
    · rename_i d e2
      cases h
      exact ⟨e1, e2⟩
    · cases h
  · cases h
noncomputable def putL (i : Nat) (d : Dat) (p : List Nat) (fk : DEnv → Rs Dat) (x : Dat) (ε : DEnv) : Rs Out := Rs.of (listAt d p) >>= fun l => fk ε >>= fun k => asI k >>= fun n => Rs.of (ixN l.2.length n) >>= fun m =>
  chk (scAt l.2 m) (.ok (.nx (ε.set i (some (true, .cel (setAt d p (.lst l.1 (l.2.set m x))))))))
theorem putL_use {i : Nat} {d x : Dat} {q : List Nat} {D : Ends} {w : V} {b : Addr} {v : V} (r : Rel K H0 L LL ε σ H) (he : ε[i]? = some (some (true, .cel d))) (hv : σ[i]? = some (some v)) (hb : AddrIn H (LL.ρ i) v q b) (hw : Den K H0 LL H x w)
    (h : (putL i d q fk x ε).to (OutP K H0 L LL H D) (XS mg W H0)) : tE false K mg W H0 L fk σ H (fun y H2 => rSetL (.ref b) y w H2 fun H3 => D.nx σ H3) := by
  unfold putL at h
  rw [Rs.to_bind] at h
  obtain ⟨l, hl, h⟩ := Rs.to_of h
  rw [Rs.to_bind] at h
  refine ⟨ε, LL, r, h.imp (fun k _ hk y H2 s2 qk => ?_) fun n z => z.w r.same⟩
  rw [Rs.to_bind] at hk
  cases k with
  | int n =>
    have hk : (Rs.of (ixN l.2.length n) >>= fun m => chk (scAt l.2 m) (Rs.ok (Out.nx (ε.set i (some (true, Dat.cel (setAt d q (.lst l.1 (l.2.set m x)))))))) : Rs Out).to (OutP K H0 L LL H D) (XS mg W H0) := hk
    rw [Rs.to_bind] at hk
    obtain ⟨j, hj, hk⟩ := Rs.to_of hk
    obtain ⟨hs, hk⟩ := chk_to hk
    have r2 := r.mono s2
    obtain ⟨vs, hb2, hlen, r3, k3⟩ := r2.nodeSet he hv (listAt_some hl) (hw.same s2) (hb.mono fun c hc => ⟨hc, fun o ho => ⟨o, s2 _ _ ho, fun _ _ z => z⟩⟩) hs
    exact ⟨b, vs, n, j, rfl, qk, hb2, by rw [hlen]; exact hj, hk _ _ _ r3 ((Kp.same s2).trans k3)⟩
  | _ => exact hk.elim
/-- y[k] = v, y another name of a part -/
noncomputable def astD (j : Nat) (fk fv : DEnv → Rs Dat) (ε : DEnv) : Rs Out := fv ε >>= fun x => Rs.of (alsX j ε) >>= fun q => putL q.1 q.2.2 q.2.1 fk x ε
theorem OutP.monoR {R : Rs Out} {H1 : Hp} {LL1 : Lk} {D : Ends} (k : Kp LL LL1 H H1) (h : R.to (OutP K H0 L LL H D) (XS mg W H0)) : R.to (OutP K H0 L LL1 H1 D) (XS mg W H0) := h.imp (fun o _ z => z.mono k) fun n z => z
theorem ds_ast (j : Nat) {x : Str} {px p2 : Pos} (hk : DE false X W H0 L a fk) (hv : DE true X W H0 L e fv)
    (h1 : PE X a (tE false X.K X.mg W H0 L fk) → PG X (.Subscript (.Name x px) a p2) (gSub (tVar j) (tE false X.K X.mg W H0 L fk) rSetL))
    (hs : swapsWithSole [.Subscript (.Name x px) a p2] e pos.line X.env = pure false := by rfl) (hw : swappedStores [.Subscript (.Name x px) a p2] e X.env = pure none := by rfl)
    (h2 : (assignEach [.Subscript (.Name x px) a p2] X.env).map (·.2) = [assign (.Subscript (.Name x px) a p2) X.env] := by rfl) : DS X W H0 L (.Assign [.Subscript (.Name x px) a p2] e pos) (astD j fk fv) :=
  psimp (ps_asg hv (h1 hk) hs hw h2) fun D σ H _ ⟨ε, LL, r, h⟩ => by
    unfold astD at h
    rw [Rs.to_bind] at h
    refine ⟨ε, LL, r, h.imp (fun x _ hx w H1 s1 qx => ?_) fun n z => z.w r.same⟩
    rw [Rs.to_bind] at hx
    obtain ⟨q, hq, hx⟩ := Rs.to_of hx
    obtain ⟨e1, e2⟩ := alsX_some hq
    have r1 := r.mono s1
    obtain ⟨v, b, g1, g2, g3⟩ := r1.als j q.1 q.2.1 q.2.2 e1 e2
    exact ⟨.ref b, g3, putL_use r1 e2 g1 g2 qx (OutP.monoR (Kp.same s1) hx)⟩
/-- which part x[k] is, of a list, of a dict -/
def stepL : Dat → Dat → Option Nat
  | .lst _ ds, .int n => ixN ds.length n
  | _, _ => none
def stepK (d k : Dat) : Option Nat := (keyAt d k).bind id
/-- x[k1][k] = v -/
noncomputable def pstD (st : Dat → Dat → Option Nat) (i : Nat) (f1 fk fv : DEnv → Rs Dat) (ε : DEnv) : Rs Out := fv ε >>= fun x => treeX i ε >>= fun d => f1 ε >>= fun k1 => Rs.of (st d k1) >>= fun n => putL i d [n] fk x ε
theorem pst_use {st : Dat → Dat → Option Nat} {i : Nat} {D : Ends} {B : V → V → Hp → VK → Prop} (hB : ∀ {LL H v d k1 y n b Q}, Rel K H0 L LL ε σ H → σ[i]? = some (some v) → TrN K H0 LL H d v (LL.ρ i) → DenS K H0 L LL H k1 y → st d k1 = some n → AddrIn H (LL.ρ i) v [n] b → Q (.ref b) H → B v y H Q)
    (rel : Rel K H0 L LL ε σ H) (h : (pstD st i f1 fk fv ε).to (OutP K H0 L LL H D) (XS mg W H0)) :
    tE true K mg W H0 L fv σ H (fun w H1 => tVar i σ H1 fun v H2 => tE false K mg W H0 L f1 σ H2 fun y H3 => B v y H3 fun o H4 => tE false K mg W H0 L fk σ H4 fun z H5 => rSetL o z w H5 fun H6 => D.nx σ H6) := by
  unfold pstD at h
  rw [Rs.to_bind] at h
  refine ⟨ε, LL, rel, h.imp (fun x _ hx w H1 s1 qx => ?_) fun n z => z.w rel.same⟩
  rw [Rs.to_bind] at hx
  obtain ⟨d, he, hx⟩ := treeX_to hx
  have r1 := rel.mono s1
  obtain ⟨v, hv, f2, f3, f4⟩ := r1.own i _ he
  rw [Rs.to_bind] at hx
  refine ⟨v, hv, ε, LL, r1, hx.imp (fun k1 _ hk y H2 s2 qk => ?_) fun n z => z.w r1.same⟩
  rw [Rs.to_bind] at hk
  obtain ⟨n, hn, hk⟩ := Rs.to_of hk
  have r2 := r1.mono s2
  obtain ⟨v', hv', g2, g3, g4⟩ := r2.own i _ he
  rw [hv] at hv'
  cases hv'
  have hl : ∃ l, listAt d [n] = some l := by
    cases hl : listAt d [n] with
    | none => unfold putL at hk; rw [hl] at hk; exact hk.elim
    | some l => exact ⟨l, rfl⟩
  obtain ⟨l, hl⟩ := hl
  obtain ⟨b, G1, Fe, G2, eF, adr, tn, rb⟩ := g3.focus [n] (listAt_some hl)
  exact hB r2 hv g3 qk hn adr (putL_use r2 he hv adr (qx.same s2) (OutP.monoR (Kp.same (s1.trans s2)) hk))
theorem ds_pstL (i : Nat) {x : Str} {px p1 p2 : Pos} (hx : PE X (.Name x px) (tVar i)) (h1e : DE false X W H0 L b f1) (hk : DE false X W H0 L a fk) (hv : DE true X W H0 L e fv) (hpl : PlainIx b := by intro _ _; rfl)
    (h1 : PE X (.Subscript (.Name x px) b p1) (tOp (rIx X.K) (tVar i) (tE false X.K X.mg W H0 L f1)) → PE X a (tE false X.K X.mg W H0 L fk) → PG X (.Subscript (.Subscript (.Name x px) b p1) a p2) (gSub (tOp (rIx X.K) (tVar i) (tE false X.K X.mg W H0 L f1)) (tE false X.K X.mg W H0 L fk) rSetL))
    (hs : swapsWithSole [.Subscript (.Subscript (.Name x px) b p1) a p2] e pos.line X.env = pure false := by rfl) (hw : swappedStores [.Subscript (.Subscript (.Name x px) b p1) a p2] e X.env = pure none := by rfl)
    (h2 : (assignEach [.Subscript (.Subscript (.Name x px) b p1) a p2] X.env).map (·.2) = [assign (.Subscript (.Subscript (.Name x px) b p1) a p2) X.env] := by rfl) : DS X W H0 L (.Assign [.Subscript (.Subscript (.Name x px) b p1) a p2] e pos) (pstD stepL i f1 fk fv) :=
  psimp (ps_asg hv (h1 (pe_ix ix_seq hx h1e hpl) hk) hs hw h2) fun D σ H _ ⟨ε, LL, r, h⟩ => pst_use (B := fun x y H Q => rIx X.K x y H Q) (fun {LL H v d k1 y n b Q} r2 hv g3 qk hn adr q => by
    unfold stepL at hn
    split at hn
    · rename_i t ds i0
      obtain ⟨a, vs, G, rfl, eF, _, ha, tl⟩ := g3
      obtain ⟨a', o, w, ea, _, ho, hkv, ew, _⟩ := adr
      cases ea
      rw [ha] at ho
      cases ho
      refine .inl ⟨a, vs, i0, .ref b, rfl, qk, .of ha, ?_, q⟩
      unfold atI
      rw [← tl.length, hn, Option.bind_some]
      rw [← ew]
      exact hkv
    · cases hn) r h
theorem ds_pstK (i : Nat) {jj : Nat} {x : Str} {px p1 p2 : Pos} (hr : Room jj X.A) (hx : PE X (.Name x px) (tVar i)) (h1e : DE false X W H0 L b f1) (hk : DE false X W H0 L a fk) (hv : DE true X W H0 L e fv) (hpl : NoSl b := by intro _ _; rfl)
    (h1 : PE X (.Subscript (.Name x px) b p1) (tDGet (tVar i) (tE false X.K X.mg W H0 L f1)) → PE X a (tE false X.K X.mg W H0 L fk) → PG X (.Subscript (.Subscript (.Name x px) b p1) a p2) (gSub (tDGet (tVar i) (tE false X.K X.mg W H0 L f1)) (tE false X.K X.mg W H0 L fk) rSetL))
    (hs : swapsWithSole [.Subscript (.Subscript (.Name x px) b p1) a p2] e pos.line X.env = pure false := by rfl) (hw : swappedStores [.Subscript (.Subscript (.Name x px) b p1) a p2] e X.env = pure none := by rfl)
    (h2 : (assignEach [.Subscript (.Subscript (.Name x px) b p1) a p2] X.env).map (·.2) = [assign (.Subscript (.Subscript (.Name x px) b p1) a p2) X.env] := by rfl) : DS X W H0 L (.Assign [.Subscript (.Subscript (.Name x px) b p1) a p2] e pos) (pstD stepK i f1 fk fv) :=
  psimp (ps_asg hv (h1 (pe_dget (by have := hr.units; omega) hx h1e hpl) hk) hs hw h2) fun D σ H _ ⟨ε, LL, r, h⟩ => pst_use (B := fun x y H Q => ∃ a v, x = .ref a ∧ DGet H a y (some v) ∧ Q v H) (fun {LL H v d k1 y n b Q} r2 hv g3 qk hn adr q => by
    unfold stepK at hn
    cases ho : keyAt d k1 with
    | none => rw [ho] at hn; cases hn
    | some o =>
      rw [ho] at hn
      have hn : o = some n := hn
      subst hn
      obtain ⟨ds, hds⟩ : ∃ ds, kidsD d = some ds := by
        cases d with
        | dK ks ds => exact ⟨_, rfl⟩
        | dT ks ds => exact ⟨_, rfl⟩
        | _ => cases ho
      obtain ⟨a, u, rfl, ham, isd, ha, dis⟩ := g3.dict ho hds qk
      obtain ⟨a', o, w, ea, _, ho, hkv, ew, _⟩ := adr
      cases ea
      rw [ha] at ho
      cases ho
      subst ew
      rcases dis with ⟨kvs, kk, rfl, ey, hlen, hval⟩ | ⟨kvs, kk, b', rfl, ey, hb, hlen, hval⟩
      · exact ⟨a, .ref b, rfl, .inl ⟨kvs, kk, .inl ha, ey, by rw [hval]; exact hkv.symm⟩, q⟩
      · exact ⟨a, .ref b, rfl, .inr ⟨kvs, kk, b', .inl ha, ey, hb, by rw [hval]; exact hkv.symm⟩, q⟩) r h
/-! ### a list of new lists -/
theorem Rel.rsv {H1 : Hp} {p : Addr} (r : Rel K H0 L LL ε σ H) (s : Same H H1) (hp : H p = none) (hm : ∃ o, H1 p = some o ∧ Mut (some o)) : Rel K H0 L (LL.or p) ε σ H1 := by
  have kp : Kp LL (LL.or p) H H1 := kp_or' s hp
  have r' := r.mono s
  refine ⟨r'.same, fun b z => .inl (r.sub b z), fun b z => ?_, r.len, fun i d e => ?_, fun i d e => ?_, r.uni, r'.als⟩
  · rcases z with z | z
    · exact r'.mu b z
    · rw [z]; exact hm
  · obtain ⟨v, e2, q⟩ := r.val i d e
    exact ⟨v, e2, q.kp kp fun _ z => z⟩
  · obtain ⟨v, e2, g1, g4⟩ := r.own i d e
    exact ⟨v, e2, fun a m => ⟨.inl (g1 a m).1, (g1 a m).2⟩, g4.kp kp (fun _ z => z) fun a _ o z => s _ _ z⟩
def tAF (K : PySem.W.Frag) (mg : Str → Option Value) (W : WX) (H0 : Hp) (L : Lp) (f : DEnv → Rs (List Dat)) : TA := fun σ H Q => ∃ ε LL, Rel K H0 L LL ε σ H ∧
  (f ε).to (fun ds => ∀ vs F H', Same H H' → (∀ a, a ∈ F → H a = none ∧ ∃ ws, H' a = some (.lst ws)) → F.Nodup → TrL K H0 ⟨fun b => LL b ∨ b ∈ F, LL.ρ⟩ H' ds vs F → Q vs H') (XW mg W σ H)
def DAF (X : Cx) (W : WX) (H0 : Hp) (L : Lp) (es : List Expr) (f : DEnv → Rs (List Dat)) : Prop := PA X es (tAF X.K X.mg W H0 L f)
theorem daf_nil : DAF X W H0 L [] argsN := paimp pa_nil fun σ H Q ⟨ε, LL, r, h⟩ => h [] [] H (Same.refl H) (fun a m => by cases m) List.nodup_nil ⟨rfl, rfl⟩
def celD (ff : DEnv → Rs (List Dat)) (ε : DEnv) : Rs Dat := ff ε >>= fun ds => .ok (.cel (.lst true ds))
theorem daf_cons {fa : DEnv → Rs (List Dat)} (he : DF X W H0 L e ff) (ha : DAF X W H0 L es fa) (hs : starEach (e :: es) X.env = (false, eval e X.env) :: starEach es X.env := by rfl) : DAF X W H0 L (e :: es) (argsC (celD ff) fa) :=
  paimp (pa_cons he ha hs) fun σ H Q ⟨ε, LL, r, h⟩ => by
    unfold argsC celD at h
    rw [Rs.to_bind, Rs.to_bind] at h
    refine ⟨ε, LL, r, h.imp (fun ds _ hd p us H1 s1 hp hp1 qd => ?_) fun n z => z⟩
    have hd : (fa ε >>= fun ds2 => Rs.ok (Dat.cel (.lst true ds) :: ds2)).to _ _ := hd
    rw [Rs.to_bind] at hd
    refine ⟨ε, LL.or p, r.rsv s1 hp ⟨_, hp1, trivial⟩, hd.imp (fun ds2 _ hd2 vs F H2 s2 hF nd tl => ?_) fun n z => z.mono s1⟩
    have hpF : p ∉ F := fun m => by have := (hF p m).1; rw [hp1] at this; cases this
    refine hd2 (.ref p :: vs) (p :: F) H2 (s1.trans s2) (fun a m => ?_) (List.nodup_cons.mpr ⟨hpF, nd⟩) ⟨.ref p, vs, [p], F, rfl, rfl, ⟨p, us, [], rfl, rfl, fun _ => r.same.free hp, s2 _ _ hp1, TrL.of ?_⟩, ?_⟩
    · rcases List.mem_cons.mp m with rfl | m
      · exact ⟨hp, us, s2 _ _ hp1⟩
      · exact ⟨s1.free (hF a m).1, (hF a m).2⟩
    · refine qd.kp ⟨fun b o n e => ⟨fun q => ?_, s2 _ _ e⟩, KL.same s2⟩ fun _ z => z
      rcases q with q | q
      · exact n (.inl q)
      · rcases List.mem_cons.mp q with q | q
        · exact n (.inr q)
        · rw [(hF b q).1] at e; cases e
    · refine tl.kp (H1 := H0) ⟨fun b o n e => ⟨fun q => ?_, e⟩, KL.refl⟩ (fun _ z => z) fun a _ o z => z
      rcases q with q | q
      · exact n (.inl (.inl q))
      · rcases List.mem_cons.mp q with q | q
        · exact n (.inl (.inr q))
        · exact n (.inr q)
/-- x = [list, list, ..] -/
noncomputable def ltrD (i : Nat) (fa : DEnv → Rs (List Dat)) (ε : DEnv) : Rs Out := fa ε >>= fun ds => chk (sz ds.length) (.ok (.nx ((drp i ε).set i (some (true, .cel (.lst true ds))))))
theorem ds_ltr (i : Nat) {x : Str} {pos' pl : Pos} {fa : DEnv → Rs (List Dat)} (hN : X.N.Nodup) (ha : DAF X W H0 L es fa) (hi : X.N[i]? = some x := by rfl) (hx : Loc X.env.scope x := by first | exact .inl rfl | exact .inr rfl) (hs : swapsWith (.List es pl) (some (.Name x pos')) pos.line X.env = pure false := by rfl) (hf : X.fn x = true ∨ X.env.scope.names.lookup x = some .local := by first | exact .inl rfl | exact .inr rfl | assumption) :
    DS X W H0 L (.Assign [.Name x pos'] (.List es pl) pos) (ltrD i fa) :=
  psimp (ps_set hN hi hx (pe_lst ha) hs hf) fun D σ H hl ⟨ε, LL, r, h⟩ => by
    unfold ltrD at h
    rw [Rs.to_bind] at h
    refine ⟨ε, LL, r, h.imp (fun ds _ hd vs F H1 s1 hF nd tl => ?_) fun n z => z.w r.same⟩
    obtain ⟨hz, hd⟩ := chk_to hd
    refine ⟨by rw [← tl.length]; exact sz_ok hz, fun p hp => ?_⟩
    have hpF : p ∉ F := fun m => by obtain ⟨_, ws, q⟩ := hF p m; rw [hp] at q; cases q
    have hall : ∀ a, a ∈ p :: F → H a = none := fun a m => by
      rcases List.mem_cons.mp m with rfl | m
      · exact s1.free hp
      · exact (hF a m).1
    obtain ⟨r1, k1⟩ := (r.drp i).setOwn (d := .cel (.lst true ds)) (v := .ref p) (F := p :: F) (H' := upd H1 p (.lst vs)) (i := i) (by rw [hl]; exact lt_of_get hi) (s1.trans (same_new hp)) hall (fun a m => by
        rcases List.mem_cons.mp m with rfl | m
        · exact ⟨_, upd_same, trivial⟩
        · obtain ⟨_, ws, q⟩ := hF a m
          exact ⟨_, same_new hp _ _ q, trivial⟩)
      ⟨⟨p, vs, F, rfl, rfl, fun _ => r.same.free (s1.free hp), upd_same, tl.kp (H1 := H0) ⟨fun b o n e => ⟨fun q => (by
        rcases q with q | q
        · exact n (.inl q)
        · rcases List.mem_cons.mp q with q | q
          · rw [q, hp] at e; cases e
          · exact n (.inr q)), same_new hp _ _ e⟩, KL.same (same_new hp)⟩ (fun _ z => z) fun a _ o z => same_new hp _ _ z⟩, List.nodup_cons.mpr ⟨hpF, nd⟩⟩ (fun k p z => nomatch z) fun e _ j q z => absurd z drp_no
    exact hd _ _ _ r1 k1
end
end DL

set_option maxRecDepth 100000
set_option maxHeartbeats 4000000
/-! DLw: reading what is not kept. -/
namespace DL
open PySem PySem.Spec PyProof.Rows L2

section
variable {X : Cx} {W : WX} {H0 : Hp} {L : Lp} {LL : Lk} {m : Bool} {a b e : Expr} {es : List Expr} {pos p : Pos} {f g : DEnv → Rs Dat} {fa : DEnv → Rs (List Dat)} {x : Str} {idn T : String}
variable {K : PySem.W.Frag} {mg : Str → Option Value} {σ : L2.St} {H : Hp} {ε : DEnv} {r : R2} {F : Dat → Dat → Option Dat}
theorem Good.wk (g : Good H0 L LL H) : Good H0 L (Lk.of L.f) H := ⟨fun _ z => z, fun a z => g.mu a (g.sub a z), g.fr⟩
theorem Den.ws {d : Dat} {v : V} (h : Den K H0 (Lk.of L.f) H d v) : DenS K H0 L (Lk.of L.f) H d v := h.s fun _ z => z
theorem binq_use {Q : VK} (hF : OpD K r F) (h : tQ K mg W H0 L (bop F f g) σ H Q) : tOp r (tQ K mg W H0 L f) (tQ K mg W H0 L g) σ H Q := by
  obtain ⟨ε, LL, rel, h⟩ := h
  unfold bop at h
  rw [Rs.to_bind] at h
  refine ⟨ε, LL, rel, h.imp (fun d _ hd x H1 s1 dx => ?_) fun n z => z⟩
  rw [Rs.to_bind] at hd
  refine ⟨ε, LL, rel.mono s1, hd.imp (fun e _ he y H2 s2 dy => ?_) fun n z => z.mono s1⟩
  obtain ⟨z, hz, hq⟩ := Rs.to_of he
  exact hF (rel.mono (s1.trans s2)).good.wk (Den.same s2 dx).ws dy.ws hz fun v H3 s3 q => hq v H3 (s1.trans (s2.trans s3)) q
theorem dq_cmp {op : CmpOp} (ho : OpR X (compareOp op) r) (hF : OpD X.K r F) (ha : DQ X W H0 L a f) (hb : DQ X W H0 L b g) (hm : behindInMarks op b = false) : DQ X W H0 L (.Compare a [op] [b] pos) (bop F f g) :=
  peimp (pe_cmpR ho ha hb hm) fun _ _ _ h => binq_use hF h
theorem dtq_cmp {op : CmpOp} (ho : OpR X (compareOp op) r) (hF : OpD X.K r F) (ha : DQ X W H0 L a f) (hb : DQ X W H0 L b g) (hm : behindInMarks op b = false) : DT X W H0 L (.Compare a [op] [b] pos) (tst (bop F f g)) :=
  ptimp (pt_cmpR ho ha hb hm) fun σ H Q h => by
    obtain ⟨ε, LL, rel, h⟩ := h
    unfold tst at h
    rw [Rs.to_bind] at h
    show tOp r (tQ X.K X.mg W H0 L f) (tQ X.K X.mg W H0 L g) σ H _
    refine binq_use hF ⟨ε, LL, rel, h.imp (fun d _ hd v H1 s1 q => ?_) fun n z => z⟩
    cases d with
    | bl b => exact ⟨b, q, hd H1 s1⟩
    | _ => exact hd.elim
theorem dq_ix (ha : DQ X W H0 L a f) (hb : DQ X W H0 L b g) (hs : PlainIx b := by intro _ _; rfl) : DQ X W H0 L (.Subscript a b pos) (bop dIx f g) :=
  peimp (pe_ix ix_seq ha hb hs) fun _ _ _ h => binq_use opd_ix h
theorem dqt_eq (hu : X.A.units + 64 < cLine) (ha : DQ X W H0 L a f) (hb : DQ X W H0 L b g) : DT X W H0 L (.Compare a [.Eq] [b] pos) (tst (bop dEq f g)) := dtq_cmp (op_eq.or (op_eqD hu)) opd_eq ha hb (nomark _)
theorem dqt_ne (hu : X.A.units + 64 < cLine) (ha : DQ X W H0 L a f) (hb : DQ X W H0 L b g) : DT X W H0 L (.Compare a [.NotEq] [b] pos) (tst (bop dNe f g)) := dtq_cmp (op_ne.or (op_neD hu)) opd_ne ha hb (nomark _)
theorem dq_eq (hu : X.A.units + 64 < cLine) (ha : DQ X W H0 L a f) (hb : DQ X W H0 L b g) : DQ X W H0 L (.Compare a [.Eq] [b] pos) (bop dEq f g) := dq_cmp (op_eq.or (op_eqD hu)) opd_eq ha hb (nomark _)
theorem dq_ne (hu : X.A.units + 64 < cLine) (ha : DQ X W H0 L a f) (hb : DQ X W H0 L b g) : DQ X W H0 L (.Compare a [.NotEq] [b] pos) (bop dNe f g) := dq_cmp (op_ne.or (op_neD hu)) opd_ne ha hb (nomark _)
/-- a plain value -/
def sclD (f : DEnv → Rs Dat) (ε : DEnv) : Rs Dat := f ε >>= fun d => chk (isS d) (.ok d)
theorem den_scal {K : PySem.W.Frag} {H0 H : Hp} {LL LL' : Lk} {d : Dat} {v : V} (h : Den K H0 LL H d v) (hs : isS d = true) : Den K H0 LL' H d v := by
  cases d <;> first | exact h | cases hs
theorem DQ.s (h : DQ X W H0 L e f) : DE m X W H0 L e (sclD f) :=
  peimp h fun σ H Q ⟨ε, LL, rel, h⟩ => by
    unfold sclD at h
    rw [Rs.to_bind] at h
    refine ⟨ε, LL, rel, h.imp (fun d _ hd v H1 s1 q => ?_) fun n z => z⟩
    obtain ⟨hs, hd⟩ := chk_to hd
    exact hd v H1 s1 (Den.m rel.good.sub (den_scal q hs))
theorem lq_use {r : List V → Hp → VK → Prop} {F : List Dat → Option Dat} {Q : VK} (hF : OpL K r F) (h : tQ K mg W H0 L (biD F fa) σ H Q) : tCB r (tAQ K mg W H0 L fa) σ H Q := by
  obtain ⟨ε, LL, rel, h⟩ := h
  unfold biD at h
  rw [Rs.to_bind] at h
  refine ⟨ε, LL, rel, h.imp (fun ds _ hd vs H1 s1 q => ?_) fun n z => z⟩
  obtain ⟨z, hz, hq⟩ := Rs.to_of hd
  have pr : ∀ {ds : List Dat} {vs : List V}, DenL K H0 (Lk.of L.f) H1 ds vs → Paired (DM false K H0 L (Lk.of L.f) H1) ds vs := fun {ds} => by
    induction ds with
    | nil => intro vs h; cases h; exact .nil
    | cons d ds ih => rintro vs ⟨v, r, rfl, h, t⟩; exact .cons h.ws (ih t)
  exact hF (rel.mono s1).good.wk (pr q) hz fun v H3 s3 q => hq v H3 (s1.trans s3) q
theorem dq_bi {r : List V → Hp → VK → Prop} {F : List Dat → Option Dat} (hc : CallR X (.builtin idn) r) (hF : OpL X.K r F) (hm : X.mg x = none) (hv : bootBuiltins x = some (.builtin idn)) (ha : DAQ X W H0 L (e :: es) fa) (hg : Gl X x := by rfl) (hn : x ≠ "__name__" := by decide) (hdb : (x == ("__debug__" : Str)) = false := by decide)
    (he : starEach (e :: es) X.env = (false, eval e X.env) :: starEach es X.env := by rfl) (hpl : (backTo pos (starEach es X.env)).any (·.1) = false := by rfl) : DQ X W H0 L (.Call (.Name x p) (e :: es) [] pos) (biD F fa) :=
  peimp (pe_callB hc hg hm hv ha hn hdb he hpl) fun _ _ _ h => lq_use hF h
theorem dq_len (hm : X.mg "len" = none) (ha : DAQ X W H0 L (e :: es) fa) (hg : Gl X "len" := by rfl)
    (he : starEach (e :: es) X.env = (false, eval e X.env) :: starEach es X.env := by rfl) (hpl : (backTo pos (starEach es X.env)).any (·.1) = false := by rfl) : DQ X W H0 L (.Call (.Name "len" p) (e :: es) [] pos) (biD dLen fa) :=
  dq_bi (call_len_seq.or call_len_str) opl_len hm PySem.boot_len ha hg (by decide) (by decide) he hpl
theorem dq_isi {n : Str} {p2 : Pos} (hm : X.mg "isinstance" = none) (hm2 : X.mg n = none) (hv : bootBuiltins n = some (.type T)) (ha : DQ X W H0 L a f) (hg : Gl X "isinstance" := by rfl) (hg2 : Gl X n := by rfl) (hn : n ≠ "__name__" := by decide) (hd : (n == ("__debug__" : Str)) = false := by decide)
    (he1 : starEach [a, .Name n p2] X.env = (false, eval a X.env) :: starEach [.Name n p2] X.env := by rfl) (he2 : starEach [.Name n p2] X.env = (false, eval (.Name n p2) X.env) :: starEach [] X.env := by rfl) (hpl : (backTo pos (starEach [.Name n p2] X.env)).any (·.1) = false := by rfl) :
    DE m X W H0 L (.Call (.Name "isinstance" p) [a, .Name n p2] [] pos) (isiD T f) :=
  peimp (pe_callB call_isi hg hm (by decide +kernel) (pa_cons ha (pa_cons (pe_tyn hg2 hm2 hv hn hd) pa_nil he2) he1) (by decide) (by decide) he1 hpl) fun σ H Q ⟨ε, LL, r, h⟩ => by
    unfold isiD at h
    rw [Rs.to_bind] at h
    refine ⟨ε, LL, r, h.imp (fun d _ hd v H1 s1 q => ?_) fun n z => z⟩
    obtain ⟨z, hz, hq⟩ := Rs.to_of hd
    unfold dIsi at hz
    cases ha : tyN d with
    | none => rw [ha] at hz; cases hz
    | some a =>
      rw [ha] at hz
      cases hk : kitB a T with
      | none => rw [Option.bind_some, hk] at hz; cases hz
      | some b =>
        rw [Option.bind_some, hk] at hz
        cases hz
        exact ⟨v, .ty T, _, _, b, rfl, .ty T, ty_of q.ws ha, kit_ty hk, hq _ _ s1 (Den.m (d := .bl b) r.good.sub rfl)⟩
end
end DL

set_option maxRecDepth 100000
set_option maxHeartbeats 4000000
/-! DLk: walks over dicts. -/
namespace DL
open PySem PySem.Spec PyProof.Rows L2

/-! ### walks over dicts with tuples as keys -/
section
variable {X : Cx} {pins : List (Addr × Obj)} {σ : L2.St} {H : Hp} {s : Shared} {d : Addr} {o : Obj}
theorem frzT2 {kvs : List (List Key × V)} (I : Inv X pins σ H s) (h : H d = some (.frz o (.dT kvs))) :
    (d == sysModules) = false ∧ s.heap.get? d = some o ∧ o.ExactDict ∧ ∃ (es : Array DictEntry) (ep : Nat), o.data = .dict es ep ∧ es.size = kvs.length ∧
      ∀ (i : Nat) (k : List Key) (v : V), kvs[i]? = some (k, v) → ∃ (en : DictEntry) (q : Addr), es[i]? = some en ∧ en.key = .ref q ∧ RelV v en.val ∧ H q = some (.tup (k.map kV)) := by
  obtain ⟨hd, z, hs, xs, pr, o', es, ep, ho, hx, hdt, he, _⟩ := I.hok d _ h
  rw [hd] at ho
  cases ho
  refine ⟨hs, hd, hx, es, ep, hdt, ?_, fun i k v e => ?_⟩
  · have l1 : es.size = xs.length := size_of_entries he
    have l2 : kvs.length = xs.length := Paired.length pr
    omega
  · obtain ⟨b, hb, e1, e2, e3⟩ := paired_get pr e
    have q := entry_at he i
    rw [hb] at q
    exact ⟨_, b.2.1, q, rfl, e3, e2⟩
end
def ItiT (d : Addr) (o : Obj) (kvs : List (List Key × V)) : It :=
  ⟨fun i H => H d = some (.frz o (.dT kvs)) ∧ i < kvs.length, fun i H x H' => ∃ T k v q, kvs[i]? = some (k, v) ∧ x = .ref T ∧ H q = some (.tup (k.map kV)) ∧ H T = none ∧ H' = upd H T (.tup [.ref q, v]), fun i H => H d = some (.frz o (.dT kvs)) ∧ kvs.length ≤ i⟩
theorem turn_itemsT {P : Program} {w : World} {K : PySem.W.Frag} {d : Addr} {o : Obj} {es : Array DictEntry} {ep : Nat} {elts : List Expr} {kk : Nat} {tpos : Pos} {kvs : List (List Key × V)} (it : Addr) (hod : o.data = .dict es ep) :
    Turn P w K (.Tuple elts kk tpos) (ItiT d o kvs) [it] it (fun i h => ∃ ok ov, IsItemIter h it d i kvs.length ep ok ov) where
  mem := by simp
  obj := fun i h st b hb => by
    have e : b = it := by simpa using hb
    subst e
    obtain ⟨ok, ov, e⟩ := st
    exact ⟨_, e, fun v z => nomatch z⟩
  keep := fun i h h' st k => let ⟨ok, ov, e⟩ := st; ⟨ok, ov, k it (by simp) _ e⟩
  item := by
    intro X hP hw hK hc i pins s σ H E I hf st hg
    subst hP hw hK
    obtain ⟨hd, hi⟩ := hg
    obtain ⟨hs, hgd, hx, es', ep', hdt, hsz, ent⟩ := frzT2 I hd
    obtain ⟨rfl, rfl⟩ := dict_ep hod hdt
    obtain ⟨⟨k, v⟩, hkv⟩ : ∃ p, kvs[i]? = some p := ⟨kvs[i], List.getElem?_eq_getElem hi⟩
    obtain ⟨en, q, hen, hkey, hval, hq⟩ := ent i k v hkv
    obtain ⟨ok, ov, he⟩ := st
    rw [← hsz] at he hi
    have hlt : it < s.heap.objs.size := Heap.lt_size he
    have een : es'[i] = en := by
      have := hen
      rw [Array.getElem?_eq_getElem hi] at this
      exact Option.some.inj this
    refine DT.nextI he ⟨o, hgd, hx, hdt⟩ hi fun h' ho hT hz hk => ?_
    rw [een] at ho hT
    refine ⟨_, rfl, wpAny_letOwnedTupleGo_items (s := { s with heap := h' }) ho fun h'' he' sb => ?_⟩
    have hT2 : h''.get? s.heap.objs.size = some { cls := .type "tuple", data := .seq #[en.key, en.val] } := (sb.2 _ (Nat.ne_of_gt hlt)).trans hT
    have new : ObjOk X.prog X.w (upd H s.heap.objs.size (.tup [.ref q, v])) h'' s.heap.objs.size (.tup [.ref q, v]) :=
      ⟨by show 2 ≤ sizeLine; decide, [en.key, en.val], .cons hkey (.cons hval .nil), ⟨_, hT2, rfl, _, rfl⟩⟩
    have I1 : Inv X pins σ (upd H s.heap.objs.size (.tup [.ref q, v])) { s with heap := h'' } :=
      I.turnedNew (t' := s.toks) (ch := [it]) (fun b ob hb e => (sb.2 b (by simpa using hb)).trans (hk b ob (by simpa using hb) e)) hf (Nat.le_refl _) new
    refine ⟨.ref s.heap.objs.size, _, I1, rfl, ⟨_, k, v, q, hkv, rfl, hq, I.hok.fresh (Nat.le_refl _), rfl⟩, ⟨en.key, en.val, ?_⟩, fun b hb => ?_⟩
    · rw [← hsz]; exact he'
    · have e : b = it := by simpa using hb
      rw [e, upd_ne (Nat.ne_of_lt hlt)]
      exact (hf it (by simp)).1
  done := by
    intro X hP hw hK hc i pins s σ H E I hf st hg
    subst hP hw hK
    obtain ⟨hd, hi⟩ := hg
    obtain ⟨f0, f1, f2, f3, f4, f5⟩ := hf it (by simp)
    obtain ⟨hs, hgd, hx, es', ep', hdt, hsz, ent⟩ := frzT2 I hd
    obtain ⟨rfl, rfl⟩ := dict_ep hod hdt
    obtain ⟨ok, ov, he⟩ := st
    rw [← hsz] at he
    exact DT.endI (I.ok.hd hc) he ⟨o, hgd, hx, hdt⟩ (by rw [hsz]; exact hi) fun h' eb => ⟨rfl, I.turned (t' := s.toks) (fun b ob hb e => eb b ob hb e) f0 f1 f3 f4 f5⟩
  self := fun A i s Q E st h => let ⟨_, _, e⟩ := st; PySem.W.kcp_self e h

section
variable {prog : Program} {w : World} {A : Around} {E : Value → Shared → Prop} {s : Shared} {d : Addr} {es : Array DictEntry} {ep : Nat}
theorem meets_keysR {d : Addr} {es : Array DictEntry} {ep : Nat} (hd : (d == sysModules) = false) :
    MeetsIn prog w (Builtin.«dict.keys» ⟨[.ref d], []⟩) (fun _ R s => DT.Raw s.heap d es ep ∧
      R (.ok (.ret (.ref s.heap.objs.size))) { s with heap := s.heap.push { cls := .type "dict_keys", data := .fields #[.ref d] } }) :=
  .of_wp fun A R s ⟨hm, h⟩ => by
    refine wpAny_bind ?_
    unfold Builtin.Dict.noArgs
    refine wpAny_bind (wpAny_notOrdered_dict hm.typeIs ?_)
    show wpAny _ _ (pure d) _ _ s
    refine wpAny_pure ?_
    show wpAny _ _ (Builtin.Dict.showsAll d >>= _) _ _ s
    unfold Builtin.Dict.showsAll
    rw [if_neg (by rw [hd]; exact Bool.false_ne_true)]
    refine wpAny_bind (wpAny_pure ?_)
    exact wpAny_bind (wpAny_newObj_type (wpAny_pure ⟨_, rfl, h⟩))
theorem iter_keysR {v : Addr} {Q : Value → Shared → Prop} (hv : PySem.W.KdlKeysView s.heap v d) (hm : DT.Raw s.heap d es ep)
    (hQ : Q (.ref s.heap.objs.size) { s with heap := s.heap.push { cls := .type "dict_keyiterator", data := .fields #[.ref d, .int 0 0, .int es.size 0, .int ep 0] } }) :
    wpAny (model prog w) A (pyIter (.ref v)) Q E s := by
  obtain ⟨ov, hov, hcv, hdv⟩ := id hv
  obtain ⟨o, ho, hc, hdat⟩ := id hm
  refine wpAny_pyIter_slot hv.typeIs PySem.W.kdl_slot_keys_iter (wpAny_call_entry PySem.W.kdl_slot_keys_iter hv.typeIs PySem.W.kdl_entry_keys_iter ?_ (PySem.W.kdl_args_keys_iter _))
  unfold Builtin.«dict_keys.__iter__»
  refine wpAny_bind (wpAny_pure ?_)
  refine wpAny_bind ?_
  unfold Builtin.Dict_items.dictOf
  refine wpAny_bind (wpAny_field hov hdv (x := .ref d) rfl (wpAny_pure ?_))
  refine wpAny_bind ?_
  unfold Builtin.Dict_items.newIterator
  refine wpAny_bind (wpAny_dictEntries ho hdat ?_)
  refine wpAny_bind (wpAny_dictEpoch ho hdat ?_)
  have hown : Builtin.Dict_items.ownsTuple "dict_keyiterator" = false := by decide
  simp only [hown, Bool.false_eq_true, if_false]
  refine wpAny_newObj_type (wpAny_pure ⟨_, rfl, "dict_keyiterator", _, ⟨_, Heap.get?_push_size _ rfl, rfl⟩, PySem.F.slot_dict_keyiterator_next.lookup, ?_⟩)
  simpa [rawInt] using hQ
end
def iKeysG (td : TE) : TI := fun σ H R => td σ H fun x H1 => ∃ d o, x = .ref d ∧ ((∃ kvs, H1 d = some (.frz o (.dK kvs)) ∧ R (Itk d o kvs) H1) ∨ ∃ kvs, H1 d = some (.frz o (.dT kvs)) ∧ R (Itkt d o kvs) H1)
def iItemsG (td : TE) : TI := fun σ H R => td σ H fun x H1 => ∃ d o, x = .ref d ∧ ((∃ kvs, H1 d = some (.frz o (.dK kvs)) ∧ R (Iti d o kvs) H1) ∨ ∃ kvs, H1 d = some (.frz o (.dT kvs)) ∧ R (ItiT d o kvs) H1)
theorem method_raw {prog : Program} {w : World} {A : Around} {E : Value → Shared → Prop} {s : Shared} {c : Addr} {es : Array DictEntry} {ep : Nat} (h : DT.Raw s.heap c es ep) : s.TypeIs (.ref c) "dict" ∧ ∀ b, Value.ref c = .ref b → ∃ ob, s.heap.get? b = some ob ∧ ob.dict = none := by
  obtain ⟨o, ho, hc, hd⟩ := h
  exact ⟨⟨o, ho, hc.1⟩, fun b e => by cases e; exact ⟨o, ho, hc.2.1⟩⟩
section
variable {X : Cx} {tg e : Expr} {td : TE} {apos cpos : Pos}
theorem rawK {X : Cx} {pins : List (Addr × Obj)} {σ : L2.St} {H : Hp} {s : Shared} {d : Addr} {o : Obj} {kvs : List (Key × V)} (I : Inv X pins σ H s) (h : H d = some (.frz o (.dK kvs))) : (d == sysModules) = false ∧ ∃ es ep, DT.Raw s.heap d es ep ∧ o.data = .dict es ep ∧ es.size = kvs.length := by
  obtain ⟨hs, hgd, hx, es, ep, vs, hdt, hsz, kv, hm⟩ := I.frzK h
  exact ⟨hs, es, ep, ⟨o, hgd, hx, hdt⟩, hdt, hsz⟩
theorem rawT {X : Cx} {pins : List (Addr × Obj)} {σ : L2.St} {H : Hp} {s : Shared} {d : Addr} {o : Obj} {kvs : List (List Key × V)} (I : Inv X pins σ H s) (h : H d = some (.frz o (.dT kvs))) : (d == sysModules) = false ∧ ∃ es ep, DT.Raw s.heap d es ep ∧ o.data = .dict es ep ∧ es.size = kvs.length := by
  obtain ⟨hs, hgd, hx, es, ep, hdt, hsz, ent⟩ := frzT2 I h
  exact ⟨hs, es, ep, ⟨o, hgd, hx, hdt⟩, hdt, hsz⟩
theorem pi_keysG (he : PE X e td) (hbase : attributeBase e "keys" X.env (eval e X.env) = eval e X.env := by rfl) (hline : (apos.endLine == cpos.line) = true := by rfl) : PI X tg (.Call (.Attribute e "keys" apos) [] [] cpos) (iKeysG td) := by
  refine ⟨fun pins s σ H R I h => ?_⟩
  refine wpAny_Call_method (T := "dict") (id := "dict.keys") hbase rfl hline PySem.F.plainAttrs_dict PySem.F.slot_dict_keys PySem.F.type_dict_keys (thn (he.run pins s σ H _ I h) fun u s1 ⟨x, H1, I1, rx, d, o, ex, q⟩ => ?_)
  subst ex
  obtain rfl : u = Value.ref d := rx
  have main : ∀ {J : It} {n : Nat}, (∃ es ep, DT.Raw s1.heap d es ep ∧ o.data = .dict es ep ∧ es.size = n) → (d == sysModules) = false → (∀ {es ep}, o.data = .dict es ep → es.size = n → Turn X.prog X.w X.K tg J [s1.heap.objs.size + 1] (s1.heap.objs.size + 1) (fun i h => h.IsKeyIter (s1.heap.objs.size + 1) d i n ep)) → R J H1 →
      s1.TypeIs (.ref d) "dict" ∧ (∀ b, Value.ref d = .ref b → ∃ ob, s1.heap.get? b = some ob ∧ ob.dict = none) ∧ wpAny (model X.prog X.w) X.A (callWith cpos (.builtin "dict.keys") [.ref d] [] []) (fun v s => wpAny (model X.prog X.w) X.A (pyIter v) (PIE X pins σ tg R) X.xe s) X.xe s1 := by
    rintro J n ⟨es, ep, hm, hdt, hsz⟩ hs ht q
    obtain ⟨t1, t2⟩ := method_raw (prog := X.prog) (w := X.w) (A := X.A) (E := X.xe) hm
    refine ⟨t1, t2, ?_⟩
    have I2 : Inv X pins σ H1 { s1 with heap := s1.heap.push { cls := .type "dict_keys", data := .fields #[.ref d] } } := I1.kept (t' := s1.toks) fun b ob q => Heap.get?_push_of_some _ q
    have esz : (s1.heap.push { cls := .type "dict_keys", data := .fields #[.ref d] } : Heap).objs.size = s1.heap.objs.size + 1 := Heap.size_push ..
    have fin : wpAny (model X.prog X.w) X.A (pyIter (.ref s1.heap.objs.size)) (PIE X pins σ tg R) X.xe { s1 with heap := s1.heap.push { cls := .type "dict_keys", data := .fields #[.ref d] } } := by
      have st : Heap.IsKeyIter ((s1.heap.push { cls := .type "dict_keys", data := .fields #[.ref d] }).push { cls := .type "dict_keyiterator", data := .fields #[.ref d, .int 0 0, .int es.size 0, .int ep 0] }) (s1.heap.objs.size + 1) d 0 n ep := by
        have h := Heap.get?_push_size (s1.heap.push { cls := .type "dict_keys", data := .fields #[.ref d] } : Heap) (o := ({ cls := .type "dict_keyiterator", data := .fields #[.ref d, .int 0 0, .int es.size 0, .int ep 0] } : Obj)) rfl
        rw [esz] at h
        exact ⟨_, h, rfl, by rw [hsz] <;> rfl⟩
      exact iter_keysR (d := d) ⟨_, Heap.get?_push_size _ rfl, rfl, rfl⟩ (hm.push _) (pi_one (tk := s1.toks) I2 _ (tn := fun i h => h.IsKeyIter (s1.heap.objs.size + 1) d i n ep) (by rw [esz]; exact ht hdt hsz) st q)
    exact method_meetsIn PySem.F.slot_dict_keys PySem.F.entry_dict_keys rfl (PySem.evalArgs_none ⟨rfl, t1, PySem.F.args_dict_keys_1 _, _, meets_keysR (es := es) (ep := ep) hs, hm, fin⟩)
  rcases q with ⟨kvs, hd, q⟩ | ⟨kvs, hd, q⟩
  · obtain ⟨hs, z⟩ := rawK I1 hd
    exact main z hs (fun hdt hsz => turn_keys _ hdt) q
  · obtain ⟨hs, z⟩ := rawT I1 hd
    exact main z hs (fun hdt hsz => turn_keysT _ hdt) q
theorem pi_itemsG {elts : List Expr} {kk : Nat} {tpos : Pos} (he : PE X e td) (hbase : attributeBase e "items" X.env (eval e X.env) = eval e X.env := by rfl) (hline : (apos.endLine == cpos.line) = true := by rfl) : PI X (.Tuple elts kk tpos) (.Call (.Attribute e "items" apos) [] [] cpos) (iItemsG td) := by
  refine ⟨fun pins s σ H R I h => ?_⟩
  refine wpAny_Call_method (T := "dict") (id := "dict.items") hbase rfl hline PySem.F.plainAttrs_dict PySem.F.slot_dict_items PySem.F.type_dict_items (thn (he.run pins s σ H _ I h) fun u s1 ⟨x, H1, I1, rx, d, o, ex, q⟩ => ?_)
  subst ex
  obtain rfl : u = Value.ref d := rx
  have main : ∀ {J : It} {n : Nat}, (∃ es ep, DT.Raw s1.heap d es ep ∧ o.data = .dict es ep ∧ es.size = n) → (d == sysModules) = false → (∀ {es ep}, o.data = .dict es ep → es.size = n → Turn X.prog X.w X.K (.Tuple elts kk tpos) J [s1.heap.objs.size + 1] (s1.heap.objs.size + 1) (fun i h => ∃ ok ov, IsItemIter h (s1.heap.objs.size + 1) d i n ep ok ov)) → R J H1 →
      s1.TypeIs (.ref d) "dict" ∧ (∀ b, Value.ref d = .ref b → ∃ ob, s1.heap.get? b = some ob ∧ ob.dict = none) ∧ wpAny (model X.prog X.w) X.A (callWith cpos (.builtin "dict.items") [.ref d] [] []) (fun v s => wpAny (model X.prog X.w) X.A (pyIter v) (PIE X pins σ (.Tuple elts kk tpos) R) X.xe s) X.xe s1 := by
    rintro J n ⟨es, ep, hm, hdt, hsz⟩ hs ht q
    obtain ⟨t1, t2⟩ := method_raw (prog := X.prog) (w := X.w) (A := X.A) (E := X.xe) hm
    refine ⟨t1, t2, ?_⟩
    have I2 : Inv X pins σ H1 { s1 with heap := s1.heap.push { cls := .type "dict_items", data := .fields #[.ref d] } } := I1.kept (t' := s1.toks) fun b ob q => Heap.get?_push_of_some _ q
    have esz : (s1.heap.push { cls := .type "dict_items", data := .fields #[.ref d] } : Heap).objs.size = s1.heap.objs.size + 1 := Heap.size_push ..
    have fin : wpAny (model X.prog X.w) X.A (pyIter (.ref s1.heap.objs.size)) (PIE X pins σ (.Tuple elts kk tpos) R) X.xe { s1 with heap := s1.heap.push { cls := .type "dict_items", data := .fields #[.ref d] } } := by
      have st : IsItemIter ((s1.heap.push { cls := .type "dict_items", data := .fields #[.ref d] }).push { cls := .type "dict_itemiterator", data := .fields #[.none, .bool false, .ref d, .int 0 0, .int es.size 0, .int ep 0, .none, .none] }) (s1.heap.objs.size + 1) d 0 n ep .none .none := by
        have h := Heap.get?_push_size (s1.heap.push { cls := .type "dict_items", data := .fields #[.ref d] } : Heap) (o := ({ cls := .type "dict_itemiterator", data := .fields #[.none, .bool false, .ref d, .int 0 0, .int es.size 0, .int ep 0, .none, .none] } : Obj)) rfl
        rw [esz] at h
        rw [hsz] at h ⊢
        exact h
      exact DT.iterI (d := d) ⟨_, Heap.get?_push_size _ rfl, rfl, rfl⟩ (hm.push _) (pi_one (tk := s1.toks) I2 _ (tn := fun i h => ∃ ok ov, IsItemIter h (s1.heap.objs.size + 1) d i n ep ok ov) (by rw [esz]; exact ht hdt hsz) ⟨.none, .none, st⟩ q)
    exact method_meetsIn PySem.F.slot_dict_items PySem.F.entry_dict_items rfl (PySem.evalArgs_none ⟨rfl, t1, PySem.F.args_dict_items_1 _, _, DT.meetsItems (es := es) (ep := ep) hs, hm, fin⟩)
  rcases q with ⟨kvs, hd, q⟩ | ⟨kvs, hd, q⟩
  · obtain ⟨hs, z⟩ := rawK I1 hd
    exact main z hs (fun hdt hsz => turn_items _ hdt) q
  · obtain ⟨hs, z⟩ := rawT I1 hd
    exact main z hs (fun hdt hsz => turn_itemsT _ hdt) q
end

/-! ### the walks, over data -/
def kD : Key → Dat
  | .inl i => .int i
  | .inr s => .str s
def kDs (k : List Key) : Dat := .tup (k.map kD)
def asKeys : Dat → Rs (List Dat)
  | .dK ks _ => .ok (ks.map kD)
  | .dT ks _ => .ok (ks.map kDs)
  | _ => .no
def asItems : Dat → Rs (List Dat)
  | .dK ks ds => .ok (zipD (ks.map kD) ds)
  | .dT ks ds => .ok (zipD (ks.map kDs) ds)
  | _ => .no
section
variable {K : PySem.W.Frag} {H0 H : Hp} {L : Lp} {LL : Lk} {m : Bool}
theorem kD_den {k : Key} : Den K H0 LL H (kD k) (kV k) := by cases k <;> rfl
theorem kDs_denL : ∀ {k : List Key}, DenL K H0 LL H (k.map kD) (k.map kV)
  | [] => rfl
  | k :: r => ⟨_, _, rfl, kD_den, kDs_denL⟩
theorem kDs_den {k : List Key} {q : Addr} (hq : H q = some (.tup (k.map kV))) (hm : ∀ a, LL a → ∃ o, H a = some o ∧ Mut (some o)) : Den K H0 LL H (kDs k) (.ref q) :=
  ⟨q, _, rfl, ⟨fun z => by obtain ⟨o, e, mu⟩ := hm q z; rw [hq] at e; cases e; exact mu, hq⟩, kDs_denL⟩
theorem wlk_keysK {d : Addr} {o : Obj} {ks : List Key} {vs : List V} (hd : H d = some (.frz o (.dK (ks.zip vs)))) (hl : ¬ LL d) (hz : ks.length = vs.length) : Wlk m K H0 LL H (Itk d o (ks.zip vs)) (ks.map kD) := ⟨fun L2 LL2 H2 g k s i => by
  have hd2 := (k.k d _ hl hd).2
  have hlen : (ks.zip vs).length = ks.length := by rw [List.length_zip, ← hz, Nat.min_self]
  refine ⟨fun z hz' => ?_, fun hi => ⟨hd2, by rw [hlen]; simpa using hi⟩⟩
  have hi : i < ks.length := by have := lt_of_get hz'; simpa using this
  refine ⟨⟨hd2, by rw [hlen]; exact hi⟩, fun x H3 ⟨eH, kk, v, hk, ex⟩ => ?_⟩
  subst eH ex
  rw [List.getElem?_map, List.getElem?_eq_getElem hi] at hz'
  cases hz'
  rw [List.getElem?_zip_eq_some] at hk
  have : kk = ks[i] := by rw [List.getElem?_eq_getElem hi] at hk; exact (Option.some.inj hk.1).symm
  subst this
  exact ⟨Same.refl _, kD_den⟩⟩
theorem wlk_keysT {d : Addr} {o : Obj} {ks : List (List Key)} {vs : List V} (hd : H d = some (.frz o (.dT (ks.zip vs)))) (hl : ¬ LL d) (hz : ks.length = vs.length) : Wlk m K H0 LL H (Itkt d o (ks.zip vs)) (ks.map kDs) := ⟨fun L2 LL2 H2 g k s i => by
  have hd2 := (k.k d _ hl hd).2
  have hlen : (ks.zip vs).length = ks.length := by rw [List.length_zip, ← hz, Nat.min_self]
  refine ⟨fun z hz' => ?_, fun hi => ⟨hd2, by rw [hlen]; simpa using hi⟩⟩
  have hi : i < ks.length := by have := lt_of_get hz'; simpa using this
  refine ⟨⟨hd2, by rw [hlen]; exact hi⟩, fun x H3 ⟨eH, kk, v, q, hk, ex, hq⟩ => ?_⟩
  subst eH ex
  rw [List.getElem?_map, List.getElem?_eq_getElem hi] at hz'
  cases hz'
  rw [List.getElem?_zip_eq_some] at hk
  have : kk = ks[i] := by rw [List.getElem?_eq_getElem hi] at hk; exact (Option.some.inj hk.1).symm
  subst this
  exact ⟨Same.refl _, kDs_den hq g.mu⟩⟩
theorem wlk_itemsK {d : Addr} {o : Obj} {ks : List Key} {vs : List V} {ds : List Dat} (hd : H d = some (.frz o (.dK (ks.zip vs)))) (hl : ¬ LL d) (hz : ks.length = vs.length) (q : DenL K H0 LL H ds vs) : Wlk m K H0 LL H (Iti d o (ks.zip vs)) (zipD (ks.map kD) ds) := ⟨fun L2 LL2 H2 g k s i => by
  have hd2 := (k.k d _ hl hd).2
  have hlen : (ks.zip vs).length = ks.length := by rw [List.length_zip, ← hz, Nat.min_self]
  have hdl := q.length
  refine ⟨fun z hz' => ?_, fun hi => ⟨hd2, by rw [hlen]; rw [zipD_length, List.length_map] at hi; omega⟩⟩
  obtain ⟨x, y, e1, e2, rfl⟩ := zipD_get hz'
  have hi : i < ks.length := by have := lt_of_get e1; simpa using this
  obtain ⟨v, hv, qd⟩ := q.get e2
  refine ⟨⟨hd2, by rw [hlen]; exact hi⟩, fun x' H3 ⟨T, kk, v', hk, ex, hT, eH⟩ => ?_⟩
  subst eH ex
  rw [List.getElem?_map, List.getElem?_eq_getElem hi] at e1
  cases e1
  rw [List.getElem?_zip_eq_some] at hk
  have e3 : kk = ks[i] := by rw [List.getElem?_eq_getElem hi] at hk; exact (Option.some.inj hk.1).symm
  have e4 : v' = v := Option.some.inj (hk.2.symm.trans hv)
  subst e3 e4
  exact ⟨same_new hT, g.tup hT ⟨_, _, rfl, kD_den, v', _, rfl, qd.kp k fun _ z => z, rfl⟩⟩⟩
theorem wlk_itemsT {d : Addr} {o : Obj} {ks : List (List Key)} {vs : List V} {ds : List Dat} (hd : H d = some (.frz o (.dT (ks.zip vs)))) (hl : ¬ LL d) (hz : ks.length = vs.length) (q : DenL K H0 LL H ds vs) : Wlk m K H0 LL H (ItiT d o (ks.zip vs)) (zipD (ks.map kDs) ds) := ⟨fun L2 LL2 H2 g k s i => by
  have hd2 := (k.k d _ hl hd).2
  have hlen : (ks.zip vs).length = ks.length := by rw [List.length_zip, ← hz, Nat.min_self]
  have hdl := q.length
  refine ⟨fun z hz' => ?_, fun hi => ⟨hd2, by rw [hlen]; rw [zipD_length, List.length_map] at hi; omega⟩⟩
  obtain ⟨x, y, e1, e2, rfl⟩ := zipD_get hz'
  have hi : i < ks.length := by have := lt_of_get e1; simpa using this
  obtain ⟨v, hv, qd⟩ := q.get e2
  refine ⟨⟨hd2, by rw [hlen]; exact hi⟩, fun x' H3 ⟨T, kk, v', qq, hk, ex, hq, hT, eH⟩ => ?_⟩
  subst eH ex
  rw [List.getElem?_map, List.getElem?_eq_getElem hi] at e1
  cases e1
  rw [List.getElem?_zip_eq_some] at hk
  have e3 : kk = ks[i] := by rw [List.getElem?_eq_getElem hi] at hk; exact (Option.some.inj hk.1).symm
  have e4 : v' = v := Option.some.inj (hk.2.symm.trans hv)
  subst e3 e4
  exact ⟨same_new hT, g.tup hT ⟨_, _, rfl, kDs_den hq g.mu, v', _, rfl, qd.kp k fun _ z => z, rfl⟩⟩⟩
end
section
variable {X : Cx} {W : WX} {H0 : Hp} {L : Lp} {m : Bool} {a e : Expr} {apos cpos : Pos} {f : DEnv → Rs Dat} {tg : Expr}
def walkK (f : DEnv → Rs Dat) (ε : DEnv) : Rs (List Dat) := f ε >>= asKeys
def walkI (f : DEnv → Rs Dat) (ε : DEnv) : Rs (List Dat) := f ε >>= asItems
theorem di_keys (he : DE true X W H0 L e f) (hbase : attributeBase e "keys" X.env (eval e X.env) = eval e X.env := by rfl) (hline : (apos.endLine == cpos.line) = true := by rfl) : DI m X W H0 L tg (.Call (.Attribute e "keys" apos) [] [] cpos) (walkK f) :=
  piimp (pi_keysG he hbase hline) fun σ H R ⟨ε, LL, r, h⟩ => by
    unfold walkK at h
    rw [Rs.to_bind] at h
    refine ⟨ε, LL, r, h.imp (fun d _ hd v H1 s1 q => ?_) fun n z => z⟩
    cases d with
    | dK ks ds =>
      obtain ⟨p, vs, o, rfl, hl, hp, hz, q⟩ := q
      exact ⟨p, o, rfl, .inl ⟨_, hp, hd _ _ s1 (wlk_keysK hp hl hz)⟩⟩
    | dT ks ds =>
      obtain ⟨p, vs, o, rfl, hl, hp, hz, q⟩ := q
      exact ⟨p, o, rfl, .inr ⟨_, hp, hd _ _ s1 (wlk_keysT hp hl hz)⟩⟩
    | _ => exact hd.elim
theorem di_items {elts : List Expr} {kk : Nat} {tpos : Pos} (he : DE true X W H0 L e f) (hbase : attributeBase e "items" X.env (eval e X.env) = eval e X.env := by rfl) (hline : (apos.endLine == cpos.line) = true := by rfl) : DI m X W H0 L (.Tuple elts kk tpos) (.Call (.Attribute e "items" apos) [] [] cpos) (walkI f) :=
  piimp (pi_itemsG he hbase hline) fun σ H R ⟨ε, LL, r, h⟩ => by
    unfold walkI at h
    rw [Rs.to_bind] at h
    refine ⟨ε, LL, r, h.imp (fun d _ hd v H1 s1 q => ?_) fun n z => z⟩
    cases d with
    | dK ks ds =>
      obtain ⟨p, vs, o, rfl, hl, hp, hz, q⟩ := q
      exact ⟨p, o, rfl, .inl ⟨_, hp, hd _ _ s1 (wlk_itemsK hp hl hz q)⟩⟩
    | dT ks ds =>
      obtain ⟨p, vs, o, rfl, hl, hp, hz, q⟩ := q
      exact ⟨p, o, rfl, .inr ⟨_, hp, hd _ _ s1 (wlk_itemsT hp hl hz q)⟩⟩
    | _ => exact hd.elim
end
end DL

set_option maxRecDepth 100000
set_option maxHeartbeats 4000000
/-! DLks: sorted(d.keys()). -/
namespace DL
open PySem PySem.Spec PyProof.Rows L2

/-- the view d.keys() at p -/
def keysO (p d : Addr) : HO := .ext fun h => PySem.W.KdlKeysView h p d
theorem keysO_ok {P : Program} {w : World} {H : Hp} {h : Heap} {p d : Addr} (e : h.get? p = some { cls := .type "dict_keys", data := .fields #[.ref d] }) : ObjOk P w H h p (keysO p d) :=
  ⟨⟨_, e, rfl, rfl⟩, ⟨_, e⟩, fun h1 h2 x k => let ⟨o, ho, r⟩ := x; ⟨o, k o ho, r⟩⟩
/-- the dict's own entries -/
theorem raw_rd {X : Cx} {pins : List (Addr × Obj)} {σ : L2.St} {H : Hp} {s : Shared} {d : Addr} (I : Inv X pins σ H s) (h : IsD H d) : (d == sysModules) = false ∧ ∃ es ep, DT.Raw s.heap d es ep := by
  rcases h with ⟨kvs, e⟩ | ⟨kvs, e⟩
  · obtain ⟨_, hd, vs, _, o, es, ep, h1, h2, h3, _⟩ := dk_rd I.hok e
    exact ⟨hd, es, ep, o, h1, h2, h3⟩
  · obtain ⟨_, hd, xs, r, o, es, ep, h1, h2, h3, _⟩ := (show ObjOk X.prog X.w H s.heap d (.dT kvs) from e.ok I.hok)
    exact ⟨hd, es, ep, o, h1, h2, h3⟩
theorem pe_keysV {X : Cx} {e : Expr} {td : TE} {apos cpos : Pos} (he : PE X e td) (hbase : attributeBase e "keys" X.env (eval e X.env) = eval e X.env := by rfl) (hline : (apos.endLine == cpos.line) = true := by rfl) :
    PE X (.Call (.Attribute e "keys" apos) [] [] cpos) (fun σ H Q => td σ H fun x H1 => ∃ a, x = .ref a ∧ IsD H1 a ∧ ∀ p, H1 p = none → Q (.ref p) (upd H1 p (keysO p a))) := by
  refine ⟨fun pins s σ H Q I h => ?_⟩
  refine wpAny_Call_method (T := "dict") (id := "dict.keys") hbase rfl hline PySem.F.plainAttrs_dict PySem.F.slot_dict_keys PySem.F.type_dict_keys (thn (he.run pins s σ H _ I h) fun u s1 ⟨x, H1, I1, rx, d, ex, isd, q⟩ => ?_)
  subst ex
  obtain rfl : u = Value.ref d := rx
  obtain ⟨hs, es, ep, hm⟩ := raw_rd I1 isd
  obtain ⟨t1, t2⟩ := method_raw (prog := X.prog) (w := X.w) (A := X.A) (E := X.xe) hm
  refine ⟨t1, t2, ?_⟩
  have hf : H1 s1.heap.objs.size = none := I1.hok.fresh (Nat.le_refl _)
  have fin : EP X pins σ Q (.ref s1.heap.objs.size) { s1 with heap := s1.heap.push { cls := .type "dict_keys", data := .fields #[.ref d] } } :=
    ⟨.ref s1.heap.objs.size, upd H1 s1.heap.objs.size (keysO s1.heap.objs.size d), I1.laid (t' := s1.toks) (fun b u e => Heap.get?_push_of_some _ e) (Nat.le_refl _) (keysO_ok (Heap.get?_push_size _ rfl)), rfl, q _ hf⟩
  exact method_meetsIn PySem.F.slot_dict_keys PySem.F.entry_dict_keys rfl (PySem.evalArgs_none ⟨rfl, t1, PySem.F.args_dict_keys_1 _, _, meets_keysR (es := es) (ep := ep) hs, hm, fin⟩)

/-! ### the view as a source of items -/
section
variable {prog : Program} {w : World} {A : Around} {r d : Addr} {es : Array DictEntry} {ep : Nat}
theorem walks_keysR (hh : A.handled = none) (I d : Addr) (hne : d ≠ I) : Walks prog w A I [I, d] [I] es.size (fun i v => ∃ en, es[i]? = some en ∧ en.key = v) (fun i h => h.IsKeyIter I d i es.size ep ∧ DT.Raw h d es ep) where
  sub := fun b hb => by simp at hb; simp [hb]
  frame := fun _ _ _ st hk => ⟨st.1.at fun o e => hk I (by simp) o e, st.2.at' fun o e => hk d (by simp) o e⟩
  item := fun i s Q E hi st hQ => by
    obtain ⟨o, ho, hc, hdt⟩ := id st.2
    refine next_key_item st.1 ho hdt rfl (en := es[i]) (Array.getElem?_eq_getElem hi) fun h' st' sb => ?_
    exact hQ _ h' s.toks ⟨_, Array.getElem?_eq_getElem hi, rfl⟩ ⟨st', st.2.at' fun o e => (sb.2 d hne).trans e⟩ fun b o hb e => (sb.2 b (fun h => hb (by simp [h]))).trans e
  done := fun s Q E st hQ => by
    obtain ⟨o, ho, hc, hdt⟩ := id st.2
    exact next_key_end hh st.1 ho hdt rfl (Nat.le_refl _) fun h' he' => hQ h' s.toks fun b o hb e => he' b o (fun h => hb (by simp [h])) e
  self := fun _ _ _ _ st hQ => wpAny_pyIter_keyiter st.1 hQ
theorem src_keysR : PySem.W.KdlSrc prog w "dict_keys" r d es.size (fun i v => ∃ en, es[i]? = some en ∧ en.key = v) (fun h => PySem.W.KdlKeysView h r d ∧ DT.Raw h d es ep) where
  type := fun _ hm => hm.1.typeIs
  there := fun _ hm => ⟨let ⟨_, ho, _⟩ := hm.1; Heap.lt_size ho, hm.2.lt⟩
  keep := fun _ _ hm hk => ⟨let ⟨o, ho, x⟩ := hm.1; ⟨o, hk r (.inl rfl) o ho, x⟩, hm.2.at' fun o e => hk d (.inr rfl) o e⟩
  notList := by decide
  notTuple := by decide
  hint := fun _ _ _ _ hm hq => PySem.W.kdl_hint_keys hm.1.typeIs hq
  iter := fun _ _ hh hm => ⟨_, _, (fun _ _ hq => iter_keysR hm.1 hm.2 hq), walks_keysR hh _ d (Nat.ne_of_lt hm.2.lt), ⟨⟨_, Heap.get?_push_size _ rfl, rfl, rfl⟩, hm.2.push _⟩⟩
end
mutual
theorem reads_there {h : Heap} : ∀ (d : PyData) (v : Value) (as : List Addr), PySem.W.alike d d = true → Reads h v d as → ∀ a, a ∈ as → ∃ o, h.get? a = some o
  | .none, _, _, _, r, a, m => by cases r; cases m
  | .bool _, _, _, _, r, a, m => by cases r; cases m
  | .int _, _, _, _, r, a, m => by cases r; cases m
  | .str _, _, _, _, r, a, m => by cases r; cases m
  | .list xs, _, _, hal, r, a, m => by
    cases r with
    | list h1 h2 h3 h4 =>
      rcases List.mem_cons.mp m with e | m
      · rw [e]; exact ⟨_, h1⟩
      · exact readsAll_there xs _ _ (by simpa [PySem.W.alike] using hal) h4 a m
  | .tuple xs, _, _, hal, r, a, m => by
    cases r with
    | tuple h1 h2 h3 h4 => exact readsAll_there xs _ _ (by simpa [PySem.W.alike] using hal) h4 a m
  | .dict _, _, _, hal, _, _, _ => absurd hal (by simp [PySem.W.alike])
theorem readsAll_there {h : Heap} : ∀ (ds : List PyData) (vs : List Value) (as : List Addr), PySem.W.alikeAll ds ds = true → ReadsAll h vs ds as → ∀ a, a ∈ as → ∃ o, h.get? a = some o
  | [], _, _, _, r, a, m => by cases r; cases m
  | d :: ds, _, _, hal, r, a, m => by
    cases r with
    | cons h1 h2 =>
      have hal : PySem.W.alike d d = true ∧ PySem.W.alikeAll ds ds = true := by simpa [PySem.W.alikeAll] using hal
      rcases List.mem_append.mp m with m | m
      · exact reads_there d _ _ hal.1 h1 a m
      · exact readsAll_there ds _ _ hal.2 h2 a m
end
/-- the keys of the dict, as data; where they stand -/
theorem keys_at {X : Cx} {pins : List (Addr × Obj)} {σ : L2.St} {H H0 : Hp} {LL : Lk} {s : Shared} {d : Addr} (I : Inv X pins σ H s) (hm : ∀ a, LL a → ∃ o, H a = some o ∧ Mut (some o)) {ds : List Dat}
    (h : (∃ kvs : List (Key × V), Rd H d (.dK kvs) ∧ ds = kvs.map fun p => kD p.1) ∨ (∃ kvs : List (List Key × V), Rd H d (.dT kvs) ∧ ds = kvs.map fun p => kDs p.1)) :
    (d == sysModules) = false ∧ ds.length ≤ sizeLine ∧ ∃ es ep, DT.Raw s.heap d es ep ∧ es.size = ds.length ∧ ∀ (i : Nat) (z : Dat), ds[i]? = some z → ∃ en v, es[i]? = some en ∧ RelV v en.key ∧ Den X.K H0 LL H z v := by
  rcases h with ⟨kvs, e, rfl⟩ | ⟨kvs, e, rfl⟩
  · obtain ⟨z, hd, vs, kv, o, es, ep, h1, h2, h3, r⟩ := dk_rd I.hok e
    have l1 := r.2.1.length
    have l2 : kvs.length = vs.length := Paired.length kv
    rw [Array.length_toList] at l1
    refine ⟨hd, by rw [List.length_map]; exact z, es, ep, ⟨o, h1, h2, h3⟩, by rw [List.length_map]; omega, fun i zz hz => ?_⟩
    rw [List.getElem?_map] at hz
    cases hk : kvs[i]? with
    | none => rw [hk] at hz; cases hz
    | some p =>
      rw [hk] at hz
      cases hz
      obtain ⟨q, hq, e1, e2⟩ := paired_get kv hk
      have hi : i < es.size := by have := lt_of_get hk; omega
      obtain ⟨hkey, hval⟩ := r.2.1.get? (e := es[i]) (by simp [hi]) hq
      refine ⟨es[i], kV p.1, Array.getElem?_eq_getElem hi, relV_key (show keyIs p.1 _ = true from by rw [e1]; exact hkey), kD_den⟩
  · obtain ⟨z, hd, xs, pr, o, es, ep, h1, h2, h3, he, _⟩ := (show ObjOk X.prog X.w H s.heap d (.dT kvs) from e.ok I.hok)
    have l1 : es.size = xs.length := size_of_entries he
    have l2 : kvs.length = xs.length := Paired.length pr
    refine ⟨hd, by rw [List.length_map]; exact z, es, ep, ⟨o, h1, h2, h3⟩, by rw [List.length_map]; omega, fun i zz hz => ?_⟩
    rw [List.getElem?_map] at hz
    cases hk : kvs[i]? with
    | none => rw [hk] at hz; cases hz
    | some p =>
      rw [hk] at hz
      cases hz
      obtain ⟨b, hb, e1, e2, e3⟩ := paired_get pr hk
      have q := entry_at he i
      rw [hb] at q
      exact ⟨_, .ref b.2.1, q, rfl, kDs_den e2 hm⟩
def rSKV (K : PySem.W.Frag) : List V → Hp → VK → Prop := fun vs H Q => ∃ (p a : Addr) (ds : List Dat) (H0 : Hp) (LL : Lk), vs = [.ref p] ∧ H p = some (keysO p a) ∧ (∀ a, LL a → ∃ o, H a = some o ∧ Mut (some o)) ∧
  ((∃ kvs : List (Key × V), Rd H a (.dK kvs) ∧ ds = kvs.map fun p => kD p.1) ∨ (∃ kvs : List (List Key × V), Rd H a (.dT kvs) ∧ ds = kvs.map fun p => kDs p.1)) ∧ SoOk ds ∧
  ∀ l us, H l = none → DenL K H0 LL H (ordP ds) us → Q (.ref l) (upd H l (.lst us))
theorem cr_sortKV {X : Cx} {j : Nat} (hr : Room j X.A) (hcalm : X.calm = true) : CallR X (.builtin "sorted") (rSKV X.K) := by
  intro pins s σ H xs us Q I r h
  obtain ⟨p, a, ds, H0, LL, rfl, hp, hm, hk, ok, q⟩ := h
  obtain ⟨u, eu, rx⟩ := vals1 r
  subst eu
  cases rx
  obtain ⟨hd, hz, es, ep, raw, hsz, hkeys⟩ := keys_at (H0 := H0) I hm hk
  have view : PySem.W.KdlKeysView s.heap p a := (show ObjOk X.prog X.w H s.heap p (keysO p a) from I.hok p _ hp).1
  have h16 : es.size ≤ sizeLine := by rw [hsz]; exact hz
  refine Calls.call_function_entry PyProof.Rows.kind_sorted PyProof.Rows.plain_sorted PyProof.Rows.entry_sorted (PyProof.Rows.args_sorted1 _) ?_
  unfold Builtin.«sorted»
  refine wpAny_bind (m := checkCount "sorted" 1 1 _) (wpAny_pure ?_)
  refine wpAny_bind (PySem.W.kdu_collect (A := X.A.in1) (src_keysR (es := es) (ep := ep)) (I.ok.hd hcalm) ⟨view, raw⟩ h16 fun h' tk acc hk hacc => ?_)
  have hal : acc.toList.length = ds.length := by rw [Array.length_toList, hacc.1, hsz]
  have I1 : Inv X pins σ H { s with heap := h', toks := tk } := I.kept hk
  have ee : ∀ (n : Nat) (v : Value), acc.toList[n]? = some v → ∃ z x, ds[n]? = some z ∧ RelV x v ∧ Den X.K H0 LL H z x := fun n v e => by
    obtain ⟨en, e1, e2⟩ := hacc.2 n v (by rw [← Array.getElem?_toList]; exact e)
    have hn : n < ds.length := by rw [← hal]; exact lt_of_get e
    obtain ⟨en', x, f1, f2, f3⟩ := hkeys n ds[n] (List.getElem?_eq_getElem hn)
    rw [e1] at f1
    cases f1
    subst e2
    exact ⟨_, x, List.getElem?_eq_getElem hn, f2, f3⟩
  have each : PySem.W.EachIs (fun u d => ∃ v, RelV v u ∧ Den X.K H0 LL H d v) acc.toList ds := by
    have go : ∀ (us : List Value) (zs : List Dat), us.length = zs.length → (∀ (n : Nat) (v : Value), us[n]? = some v → ∃ z x, zs[n]? = some z ∧ RelV x v ∧ Den X.K H0 LL H z x) → PySem.W.EachIs (fun u d => ∃ v, RelV v u ∧ Den X.K H0 LL H d v) us zs := by
      intro us
      induction us with
      | nil => intro zs hl _; cases zs with
        | nil => exact .nil
        | cons _ _ => cases hl
      | cons u us ih => intro zs hl hh; cases zs with
        | nil => cases hl
        | cons z zs =>
          obtain ⟨z', x, e1, e2, e3⟩ := hh 0 u rfl
          cases e1
          exact .cons ⟨x, e2, e3⟩ (ih zs (Nat.succ.inj hl) fun n v e => by simpa using hh (n + 1) v (by simpa using e))
    exact go _ _ hal ee
  refine wpAny_bind (wpAny_newList ?_ (by rw [hal]; exact hz))
  have hoL : (h'.push (seqObj "list" acc.toList.toArray 0)).get? h'.objs.size = some (seqObj "list" acc.toList.toArray 0) := Heap.get?_push_size _ rfl
  show wpAny _ _ _ _ _ { s with heap := h'.push (seqObj "list" acc.toList.toArray 0), toks := tk }
  have hu := hr.units
  have er : PySem.W.EachIs (fun v d => ∃ as, Reads (h'.push (seqObj "list" acc.toList.toArray 0)) v (toP d) as ∧ h'.objs.size ∉ as) acc.toList ds := (PySem.W.each_mem each).mono fun u d ⟨⟨v, h1, h2⟩, hd⟩ => by
    obtain ⟨as, ra⟩ := Dp.reads I1 (toP d) v u (dp_of h2 (ok.lay d hd).1) h1
    refine ⟨as, PyProof.Rows.Reads.keeps (fun _ _ => Heap.get?_push_of_some _) ra, fun hm => ?_⟩
    have hal : PySem.W.alike (toP d) (toP d) = true := ok.al _ (List.mem_map.mpr ⟨d, hd, rfl⟩) _ (List.mem_map.mpr ⟨d, hd, rfl⟩)
    obtain ⟨o, ho⟩ := reads_there _ _ _ hal ra _ hm
    exact absurd (Heap.lt_size ho) (Nat.lt_irrefl _)
  have hlen : ds.length ≤ sizeLine := hz
  refine wpAny_bind (wpAny_holding (wpAny_mono (PySem.W.list_sort_data (A := X.A.in1) (E := X.xe) (Q := fun _ s' => EP X pins σ Q (.ref h'.objs.size) s') hoL each er ok.al ok.so hlen (fun d hd => by have := (ok.lay d hd).2; show X.A.units + 1 + 1 + _ < cLine; omega) fun out ho hE => ?_) (fun _ s' x => wpAny_pure ⟨_, rfl, x⟩) fun _ _ e => e))
  obtain ⟨ys, ry, dy⟩ := den_each hE
  obtain ⟨e', he'⟩ := PyProof.Rows.sortedHeap_at (vs := acc.toList) (out := List.toArray out) hoL
  have hyl : ys.length ≤ sizeLine := by rw [ry.length, ho]; exact hz
  refine ⟨.ref h'.objs.size, upd H h'.objs.size (.lst ys), I1.laid (t' := tk) (fun b u e => ?_) (Nat.le_refl _) (show ObjOk X.prog X.w _ _ _ (.lst ys) from ⟨hyl, out, e', ry, he'⟩), rfl, q _ ys (I1.hok.fresh (Nat.le_refl _)) dy⟩
  have hb : b < h'.objs.size := Heap.lt_size e
  rw [PyProof.Rows.sortedHeap_old (Nat.ne_of_lt hb) (by rw [size_push']; exact Nat.lt_succ_of_lt hb)]
  exact Heap.get?_push_of_some _ e
section
variable {X : Cx} {W : WX} {H0 : Hp} {L : Lp} {m : Bool} {e : Expr} {apos cpos p pos : Pos} {f : DEnv → Rs Dat}
theorem map_fst {κ : Type} (g : κ → Dat) : ∀ (ks : List κ) (vs : List V), ks.length = vs.length → ((ks.zip vs).map fun p => g p.1) = ks.map g
  | [], _, _ => rfl
  | k :: ks, [], h => by cases h
  | k :: ks, v :: vs, h => congrArg (g k :: ·) (map_fst g ks vs (Nat.succ.inj h))
noncomputable def srtK (d : Dat) : Rs (List Dat) := asKeys d >>= fun ks => chk (cls (SoOk ks)) (.ok (ordP ks))
noncomputable def sortKeysD (f : DEnv → Rs Dat) (ε : DEnv) : Rs (List Dat) := f ε >>= srtK
theorem sortKeys_use {K : PySem.W.Frag} {mg : Str → Option Value} {σ : L2.St} {H : Hp} {Q : VK} {f : DEnv → Rs Dat} (h : tF K mg W H0 L (sortKeysD f) σ H Q) :
    tE false K mg W H0 L f σ H (fun x H1 => ∃ a, x = .ref a ∧ IsD H1 a ∧ ∀ p, H1 p = none → rSKV K [.ref p] (upd H1 p (keysO p a)) Q) := by
  obtain ⟨ε, LL, r, h⟩ := h
  unfold sortKeysD at h
  rw [Rs.to_bind] at h
  refine ⟨ε, LL, r, h.imp (fun d _ hd x H1 s1 qx => ?_) fun n z => z⟩
  unfold srtK at hd
  rw [Rs.to_bind] at hd
  have fin : ∀ (a : Addr) (ks : List Dat) (ok : SoOk ks), (∀ l us H', Same H H' → H l = none → H' l = some (.lst us) → DenL K H0 (LL.or l) H' (ordP ks) us → Q (.ref l) H') → IsD H1 a → ((∃ kvs : List (Key × V), Rd H1 a (.dK kvs) ∧ ks = kvs.map fun p => kD p.1) ∨ (∃ kvs : List (List Key × V), Rd H1 a (.dT kvs) ∧ ks = kvs.map fun p => kDs p.1)) →
      ∀ p, H1 p = none → rSKV K [.ref p] (upd H1 p (keysO p a)) Q := fun a ks ok hq isd hk p hp => by
    have s2 := same_new (o := keysO p a) hp
    have r2 := r.mono (s1.trans s2)
    have rd : ∀ {u : HO}, Rd H1 a u → Rd (upd H1 p (keysO p a)) a u := fun {u} z => z.elim (fun z => .inl (s2 _ _ z)) fun ⟨o, z⟩ => .inr ⟨o, s2 _ _ z⟩
    refine ⟨p, a, ks, H0, LL, rfl, upd_same, r2.mu, hk.imp (fun ⟨kvs, z, e⟩ => ⟨kvs, rd z, e⟩) fun ⟨kvs, z, e⟩ => ⟨kvs, rd z, e⟩, ok, fun l us hl dl => ?_⟩
    exact hq l us _ (s1.trans (s2.trans (same_new hl))) (s1.free (s2.free hl)) upd_same (dl.kp (kp_or' (same_new hl) hl) fun _ z => z)
  cases d with
  | dK ks ds =>
    obtain ⟨a, vs, rfl, _, ha, hl, q⟩ := qx
    have hd : (chk (cls (SoOk (ks.map kD))) (Rs.ok (ordP (ks.map kD)))).to _ _ := hd
    obtain ⟨hok, hd⟩ := chk_to hd
    refine ⟨a, rfl, .inl ⟨_, ha⟩, fin a _ (cls_ok hok) (fun l us H' s hn hl' dl => hd l us H' s hn hl' dl) (.inl ⟨_, ha⟩) (.inl ⟨_, ha, ?_⟩)⟩
    exact (map_fst kD ks vs hl).symm
  | dT ks ds =>
    obtain ⟨a, vs, rfl, _, ha, hl, q⟩ := qx
    have hd : (chk (cls (SoOk (ks.map kDs))) (Rs.ok (ordP (ks.map kDs)))).to _ _ := hd
    obtain ⟨hok, hd⟩ := chk_to hd
    refine ⟨a, rfl, .inr ⟨_, ha⟩, fin a _ (cls_ok hok) (fun l us H' s hn hl' dl => hd l us H' s hn hl' dl) (.inr ⟨_, ha⟩) (.inr ⟨_, ha, ?_⟩)⟩
    exact (map_fst kDs ks vs hl).symm
  | _ => exact hd.elim
theorem df_sortKeys {j : Nat} (hr : Room j X.A) (hc : X.calm = true) (hm : X.mg "sorted" = none) (he : DE false X W H0 L e f) (hg : Gl X "sorted" := by rfl) (hbase : attributeBase e "keys" X.env (eval e X.env) = eval e X.env := by rfl) (hline : (apos.endLine == cpos.line) = true := by rfl)
    (hs : starEach [.Call (.Attribute e "keys" apos) [] [] cpos] X.env = (false, eval (.Call (.Attribute e "keys" apos) [] [] cpos) X.env) :: starEach [] X.env := by rfl) (hpl : (backTo pos (starEach [] X.env)).any (·.1) = false := by rfl) :
    DF X W H0 L (.Call (.Name "sorted" p) [.Call (.Attribute e "keys" apos) [] [] cpos] [] pos) (sortKeysD f) :=
  peimp (pe_callB (cr_sortKV hr hc) hg hm PyProof.Rows.boot_sorted (pa_cons (pe_keysV he hbase hline) pa_nil hs) (by decide) (by decide) hs hpl) fun σ H Q h => sortKeys_use h
end
end DL
namespace DL
open PySem PySem.Spec PyProof.Rows L2
/-! ### reckoning -/
variable {ε : DEnv} {f g h : DEnv → Rs Dat} {fk fv f1 : DEnv → Rs Dat} {ff fa : DEnv → Rs (List Dat)} {i j : Nat}
@[simp] theorem treeX_zero {d : Dat} {r : DEnv} : treeX 0 (some (true, .cel d) :: r) = .ok d := rfl
@[simp] theorem treeX_succ {s : Option (Bool × Dat)} {r : DEnv} : treeX (i + 1) (s :: r) = treeX i r := by
  unfold treeX
  rw [List.getElem?_cons_succ]
@[simp] theorem ownX_dK {ks : List Key} {ds : List Dat} {r : DEnv} : ownX 0 (some (true, .dK ks ds) :: r) = .ok (.dK ks ds) := rfl
@[simp] theorem ownX_dT {ks : List (List Key)} {ds : List Dat} {r : DEnv} : ownX 0 (some (true, .dT ks ds) :: r) = .ok (.dT ks ds) := rfl
@[simp] theorem ownX_succ {s : Option (Bool × Dat)} {r : DEnv} : ownX (i + 1) (s :: r) = ownX i r := by
  unfold ownX
  rw [List.getElem?_cons_succ]
@[simp] theorem tnewD_eq {d : Dat} : tnewD i d ε = .ok (.nx ((drp i ε).set i (some (true, .cel d)))) := rfl
@[simp] theorem dnewD_eq {d : Dat} : dnewD i d ε = .ok (.nx (ε.set i (some (true, d)))) := rfl
@[simp] theorem dputD_eq : dputD i fk fv ε = (fv ε >>= fun v => ownX i ε >>= fun d => fk ε >>= fun k => Rs.of (dPut d k v) >>= fun d' => .ok (.nx (ε.set i (some (true, d'))))) := rfl
@[simp] theorem setdD_eq : setdD i j fk ff ε = (treeX i ε >>= fun d => fk ε >>= fun k => ff ε >>= fun es => Rs.of (setdT d k (.cel (.lst true es))) >>= fun q =>
  .ok (.nx ((ε.set i (some (true, .cel q.1))).set j (some (true, .als i [q.2]))))) := rfl
@[simp] theorem sapD_eq : sapD i fk fv ε = (treeX i ε >>= fun d => chk (isDic d) (fk ε >>= fun k => Rs.of (setdT d k (.cel (.lst true []))) >>= fun q => Rs.of (listAt q.1 [q.2]) >>= fun l => fv (ε.set i (some (true, .cel q.1))) >>= fun x =>
  chk (sz (l.2.length + 1)) (.ok (.nx (ε.set i (some (true, .cel (setAt q.1 [q.2] (.lst l.1 (l.2 ++ [x]))))))))) ) := rfl
@[simp] theorem astD_eq : astD j fk fv ε = (fv ε >>= fun x => Rs.of (alsX j ε) >>= fun q => putL q.1 q.2.2 q.2.1 fk x ε) := rfl
@[simp] theorem pstD_eq {st : Dat → Dat → Option Nat} : pstD st i f1 fk fv ε = (fv ε >>= fun x => treeX i ε >>= fun d => f1 ε >>= fun k1 => Rs.of (st d k1) >>= fun n => putL i d [n] fk x ε) := rfl
@[simp] theorem ltrD_eq : ltrD i fa ε = (fa ε >>= fun ds => chk (sz ds.length) (.ok (.nx ((drp i ε).set i (some (true, .cel (.lst true ds))))))) := rfl
@[simp] theorem celD_eq : celD ff ε = (ff ε >>= fun ds => .ok (.cel (.lst true ds))) := rfl
@[simp] theorem sclD_eq : sclD f ε = (f ε >>= fun d => chk (isS d) (.ok d)) := rfl
@[simp] theorem isS_int {k : Int} : isS (.int k) = true := rfl
@[simp] theorem isS_bl {k : Bool} : isS (.bl k) = true := rfl
@[simp] theorem isS_str {k : Str} : isS (.str k) = true := rfl
@[simp] theorem isS_non : isS .non = true := rfl
@[simp] theorem isDic_dT {ks : List (List Key)} {ds : List Dat} : isDic (.dT ks ds) = true := rfl
@[simp] theorem isDic_dK {ks : List Key} {ds : List Dat} : isDic (.dK ks ds) = true := rfl
@[simp] theorem isDi_dT {ks : List (List Key)} {ds : List Dat} : isDi (.dT ks ds) = true := rfl
@[simp] theorem isDi_dK {ks : List Key} {ds : List Dat} : isDi (.dK ks ds) = true := rfl
@[simp] theorem walkK_eq : walkK f ε = (f ε >>= asKeys) := rfl
@[simp] theorem walkI_eq : walkI f ε = (f ε >>= asItems) := rfl
@[simp] theorem asKeys_dK {ks : List Key} {ds : List Dat} : asKeys (.dK ks ds) = .ok (ks.map kD) := rfl
@[simp] theorem asKeys_dT {ks : List (List Key)} {ds : List Dat} : asKeys (.dT ks ds) = .ok (ks.map kDs) := rfl
@[simp] theorem asItems_dK {ks : List Key} {ds : List Dat} : asItems (.dK ks ds) = .ok (zipD (ks.map kD) ds) := rfl
@[simp] theorem asItems_dT {ks : List (List Key)} {ds : List Dat} : asItems (.dT ks ds) = .ok (zipD (ks.map kDs) ds) := rfl
@[simp] theorem sortKeysD_eq : sortKeysD f ε = (f ε >>= srtK) := rfl
@[simp] theorem get2D_eq : get2D f g h ε = (f ε >>= fun d => chk (isDi d) (g ε >>= fun k => h ε >>= fun x => Rs.of ((dLook d k).map fun o => o.getD x))) := rfl
end DL

set_option maxRecDepth 100000
set_option maxHeartbeats 4000000
/-! DLl: loops of tests and one append. -/
namespace DL
open PySem PySem.Spec PyProof.Rows L2

section
variable {X : Cx} {W : WX} {H0 : Hp} {L : Lp} {LL : Lk} {m : Bool} {a b c e : Expr} {es : List Expr} {pos p p2 : Pos} {f g : DEnv → Rs Dat} {fa : DEnv → Rs (List Dat)} {fc : DEnv → Rs Bool} {rest body : List Stmt} {gs : DEnv → Rs (Option Dat)} {t : TS}
variable {K : PySem.W.Frag} {mg : Str → Option Value} {σ : L2.St} {H : Hp} {ε : DEnv}
/-! ### tests with a way out; the slots stay -/
def gdN (_ : DEnv) : Rs (Option Dat) := .ok none
def gdC (c : DEnv → Rs Bool) (f : DEnv → Rs Dat) (g : DEnv → Rs (Option Dat)) (ε : DEnv) : Rs (Option Dat) := c ε >>= fun b => if b = true then f ε >>= fun d => .ok (some d) else g ε
def GdP (K : PySem.W.Frag) (H0 : Hp) (L : Lp) (H : Hp) (D : Ends) (Q : Hp → Prop) : Option Dat → Prop
  | none => ∀ H', Same H H' → Q H'
  | some d => ∀ v H', Same H0 H' → Den K H0 (Lk.of L.f) H' d v → D.rt v H'
def tGT (K : PySem.W.Frag) (mg : Str → Option Value) (W : WX) (H0 : Hp) (L : Lp) (g : DEnv → Rs (Option Dat)) (t : TS) : TS := fun D σ H => ∃ ε LL, Rel K H0 L LL ε σ H ∧ (g ε).to (GdP K H0 L H D (t D σ)) (XS mg W H0)
theorem GdP.mono {H1 : Hp} {D : Ends} {Q : Hp → Prop} {o : Option Dat} (s : Same H H1) (h : GdP K H0 L H D Q o) : GdP K H0 L H1 D Q o := by
  cases o with
  | none => exact fun H' s' => h H' (s.trans s')
  | some d => exact h
theorem gd_nil (h : PSs X rest t) : PSs X rest (tGT X.K X.mg W H0 L gdN t) := pssimp h fun D σ H ⟨ε, LL, r, h⟩ => h H (Same.refl H)
theorem gd_cons (hc : DT X W H0 L c fc) (he : DE true X W H0 L e f) (h : PSs X rest (tGT X.K X.mg W H0 L gs t)) : PSs X (.If c [.Return (some e) p] [] p2 :: rest) (tGT X.K X.mg W H0 L (gdC fc f gs) t) :=
  pssimp (pss_cons (ps_if hc (pss_one (ps_ret he)) pss_nil) h) fun D σ H ⟨ε, LL, r, h⟩ => by
    unfold gdC at h
    rw [Rs.to_bind] at h
    refine ⟨ε, LL, r, h.imp (fun b _ hb H' s => ?_) fun n z => z.w r.same⟩
    cases b with
    | true =>
      have hb : (f ε >>= fun d => .ok (some d) : Rs (Option Dat)).to (GdP X.K H0 L H D (t D σ)) (XS X.mg W H0) := hb
      rw [Rs.to_bind] at hb
      exact ⟨ε, LL, r.mono s, hb.imp (fun d _ hd v H2 s2 q => (show GdP X.K H0 L H D (t D σ) (some d) from hd) v H2 ((r.mono s).same.trans s2) (Den.kp (L := ⟨L.f, LL.ρ⟩) (L' := Lk.of L.f) ⟨fun b o n e => ⟨n, e⟩, KL.refl⟩ (fun _ z => z) (Den.sub r.good.sub q))) fun n z => z.w (r.mono s).same⟩
    | false => exact ⟨ε, LL, r.mono s, (show (gs ε).to _ _ from hb).imp (fun o _ z => z.mono s) fun n z => z⟩

/-! ### for y, z in zip(x, [..]): tests; y.append(e) : y names the parts of a tree, one after the other -/
noncomputable def zalD (i jy jz : Nat) (g : DEnv → Rs (Option Dat)) (f : DEnv → Rs Dat) : List Dat → Nat → DEnv → Rs Out
  | [], _, ε => .ok (.nx ((ε.set jy none).set jz none))
  | z :: zs, k, ε => treeX i ε >>= fun d => Rs.of (listAt d [k]) >>= fun l =>
    g ((ε.set jy (some (true, .als i [k]))).set jz (some (false, z))) >>= fun o => match o with
      | some d => .ok (.rt d)
      | none => f ((ε.set jy (some (true, .als i [k]))).set jz (some (false, z))) >>= fun x => chk (sz (l.2.length + 1))
        (zalD i jy jz g f zs (k + 1) (((ε.set jy (some (true, .als i [k]))).set jz (some (false, z))).set i (some (true, .cel (setAt d [k] (.lst l.1 (l.2 ++ [x])))))))
def isLst : Dat → Bool
  | .lst _ _ => true
  | _ => false
noncomputable def zlD (i jy jz : Nat) (fz : DEnv → Rs (List Dat)) (g : DEnv → Rs (Option Dat)) (f : DEnv → Rs Dat) (ε : DEnv) : Rs Out :=
  treeX i ε >>= fun d => chk (isLst d) (fz ε >>= fun zs => zalD i jy jz g f zs 0 ε)
theorem rel_len (r : Rel K H0 L LL ε σ H) {i : Nat} {x : V} (h : σ[i]? = some (some x)) : i < σ.length := lt_of_get h
theorem ds_zal (i jy jz : Nat) {x y z : Str} {px py pyy pz pt pl pa pc pe pq : Pos} {kk : Nat} (hN : X.N.Nodup) (hp : PassesOwn (model X.prog X.w) X.A X.env X.xe) (hc : X.calm = true) (hm : X.mg "zip" = none) (hx : PE X (.Name x px) (tVar i)) (hf : DF X W H0 L (.List es pl) fa)
    (h1 : jy ≠ i) (h2 : jz ≠ i) (h3 : jz ≠ jy)
    (hb : ∀ {t : TS}, PSs X [.Expr (.Call (.Attribute (.Name y pyy) "append" pa) [e] [] pc) pe] t → PSs X body (tGT X.K X.mg W H0 L gs t))
    (he : DE true X W H0 L e f)
    (ha : PA X [e] (tCons (tE true X.K X.mg W H0 L f) tNil) → PE X (.Call (.Attribute (.Name y pyy) "append" pa) [e] [] pc) (tBM X.K "list" rAppend (tVar jy) (tCons (tE true X.K X.mg W H0 L f) tNil)))
    (hiy : X.N[jy]? = some y := by rfl) (hiz : X.N[jz]? = some z := by rfl)
    (hxy : Loc X.env.scope y := by first | exact .inl rfl | exact .inr rfl) (hxz : Loc X.env.scope z := by first | exact .inl rfl | exact .inr rfl)
    (hfy : X.fn y = true ∨ X.env.scope.names.lookup y = some .local := by first | exact .inl rfl | exact .inr rfl | assumption) (hfz : X.fn z = true ∨ X.env.scope.names.lookup z = some .local := by first | exact .inl rfl | exact .inr rfl | assumption)
    (he1 : starEach [e] X.env = (false, eval e X.env) :: starEach [] X.env := by rfl)
    (hsw : swapsWith (.Call (.Attribute (.Name y pyy) "append" pa) [e] [] pc) none pe.line X.env = pure false := by rfl)
    (hg : Gl X "zip" := by rfl) (hs : starEach [.Name x px, .List es pl] X.env = (false, eval (.Name x px) X.env) :: starEach [.List es pl] X.env := by rfl) (hs1 : starEach [.List es pl] X.env = (false, eval (.List es pl) X.env) :: starEach [] X.env := by rfl) (hpl : (backTo pq (starEach [.List es pl] X.env)).any (·.1) = false := by rfl)
    (hn : (assignEach [.Name y py, .Name z pz] X.env).length = 2 := by rfl) (hst : (assignEach [.Name y py, .Name z pz] X.env).findIdx? (·.1) = none := by rfl)
    (hs2 : (assignEach [.Name y py, .Name z pz] X.env).map (·.2) = assign (.Name y py) X.env :: (assignEach [.Name z pz] X.env).map (·.2) := by rfl) (hs3 : (assignEach [.Name z pz] X.env).map (·.2) = assign (.Name z pz) X.env :: (assignEach [] X.env).map (·.2) := by rfl)
    (hfs : ∀ u, foldedSetIterable (.Call (.Name "zip" p) [.Name x px, .List es pl] [] pq) X.env u = pure u := by intro _; rfl) :
    DS X W H0 L (.For (.Tuple [.Name y py, .Name z pz] kk pt) (.Call (.Name "zip" p) [.Name x px, .List es pl] [] pq) body [] pos) (zlD i jy jz fa gs f) :=
  psimp (ps_for hp hc (pi_zip hg hm (pa_cons hx (pa_cons hf pa_nil hs1) hs) hs hpl) (pg_tup hc (pgs_cons (pg_name hN hiy hxy hfy) (pgs_cons (pg_name hN hiz hxz hfz) pgs_nil hs3) hs2) hn hst) (hb (pss_one (ps_expr (ha (pa_cons he pa_nil he1)) hsw))) hfs) fun D σ H hlen ⟨ε, LL, r, h⟩ => by
    unfold zlD at h
    rw [Rs.to_bind] at h
    obtain ⟨d0, he0, h⟩ := treeX_to h
    obtain ⟨hil, hz0⟩ := chk_to h
    clear h
    obtain ⟨v0, hv0, hF0, q0⟩ := r.own i _ he0
    obtain ⟨t0, ds0, rfl⟩ : ∃ t ds, d0 = .lst t ds := by
      cases d0 with
      | lst t ds => exact ⟨t, ds, rfl⟩
      | _ => cases hil
    obtain ⟨a0, vs0, G0, rfl, _, _, hH0, _⟩ := q0.1
    rw [Rs.to_bind] at hz0
    refine ⟨.ref a0, hv0, ε, LL, r, hz0.imp (fun zs _ hz q ws H1 s1 hq hq1 qd => ?_) fun n z => z.w r.same⟩
    have hr1 : Kp LL LL H H1 := Kp.same s1
    have qd : DenL X.K H0 LL H1 zs ws := DenL.kp (L := LL.or q) (L' := LL) ⟨fun b o n e => ⟨fun z => n (.inl z), e⟩, KL.refl⟩ (fun _ z => z) qd
    have nq : ¬ LL q := fun z => r.trk q z hq
    refine ⟨a0, q, vs0, ws, rfl, .of (s1 _ _ hH0), .of hq1, ?_⟩
    refine ⟨fun k mm σ2 H2 => mm = zs.length - k ∧ k ≤ zs.length ∧ ∃ ε2 L2, Rel X.K H0 L L2 ε2 σ2 H2 ∧ Kp LL L2 H1 H2 ∧ σ2[i]? = some (some (V.ref a0)) ∧ σ2.length = σ.length ∧ (zalD i jy jz gs f (zs.drop k) k ε2).to (OutP X.K H0 L L2 H2 D) (XS X.mg W H0),
      ⟨zs.length, by simp, Nat.zero_le _, ε, LL, r.mono s1, .refl, hv0, rfl, hz.imp (fun o _ z => z.mono hr1) fun n z => z⟩, ?_⟩
    rintro k mm σ2 H2 ⟨rfl, hk, ε2, L2, r2, k2, hv2, hlen2, hh⟩
    obtain ⟨ws2, hl2⟩ := k2.t _ _ (s1 _ _ hH0)
    have hq2 : H2 q = some (.lst ws) := (k2.k q _ nq hq1).2
    by_cases hlt : k < zs.length
    · have hdk : zs[k]? = some zs[k] := List.getElem?_eq_getElem hlt
      rw [List.drop_eq_getElem_cons hlt] at hh
      unfold zalD at hh
      rw [Rs.to_bind] at hh
      obtain ⟨d, hed, hh⟩ := treeX_to hh
      rw [Rs.to_bind] at hh
      obtain ⟨l, hl, hh⟩ := Rs.to_of hh
      obtain ⟨b, vs, G, hb2, tl, hbG, hLb, adr, _⟩ := r2.node hed hv2 (listAt_some hl)
      obtain ⟨a', o', w', ea, ham, ho', hkv, ew⟩ := adr
      cases ea
      rw [hl2] at ho'
      cases ho'
      obtain ⟨rfl, hbm⟩ := ew
      have hkv : ws2[k]? = some (V.ref b) := hkv
      obtain ⟨w, hw, qz⟩ := qd.get hdk
      refine .inr ⟨⟨ws2, ws, _, _, .of hl2, .of hq2, hkv, hw⟩, fun σ' H' => ∃ ε2 L2, Rel X.K H0 L L2 ε2 σ' H' ∧ Kp LL L2 H1 H' ∧ σ'[i]? = some (some (V.ref a0)) ∧ σ'.length = σ.length ∧ (zalD i jy jz gs f (zs.drop (k + 1)) (k + 1) ε2).to (OutP X.K H0 L L2 H' D) (XS X.mg W H0),
        fun σ' H' z => ⟨zs.length - (k + 1), by omega, rfl, hlt, z⟩, fun x H3 ⟨T, x1, y1, ex, hT, eH, y2, y3⟩ => ?_⟩
      have e1 := y2 _ (.of hl2)
      have e2 := y3 _ (.of hq2)
      rw [hkv] at e1
      cases e1
      rw [hw] at e2
      cases e2
      subst ex eH
      have s3 : Same H2 (upd H2 T (.tup [V.ref b, w])) := same_new hT
      have r3 := r2.mono s3
      refine ⟨T, _, rfl, .of upd_same, rfl, V.ref b, [w], rfl, w, [], rfl, rfl, ?_⟩
      have ly : jy < σ2.length := by rw [hlen2, hlen]; exact lt_of_get hiy
      have lz : jz < σ2.length := by rw [hlen2, hlen]; exact lt_of_get hiz
      obtain ⟨r4, k4⟩ := r3.setals (j := jy) ly hed hv2 (Ne.symm h1) (p := [k]) (a := b) ⟨a0, _, _, rfl, ham, s3 _ _ hl2, hkv, rfl, hbm⟩
      have qz3 : Den X.K H0 (L2.put jy []) (upd H2 T (.tup [V.ref b, w])) zs[k] w := qz.kp (k2.trans ((Kp.same s3).trans k4)) fun _ z => z
      have r5 := r4.setv (i := jz) (by rw [List.length_set]; exact lz) qz3
      have hv5 : ((σ2.set jy (some (.ref b))).set jz (some w))[i]? = some (some (V.ref a0)) := by rw [set_get_ne (Ne.symm h2), set_get_ne (Ne.symm h1)]; exact hv2
      have he5 : ((ε2.set jy (some (true, .als i [k]))).set jz (some (false, zs[k])))[i]? = some (some (true, .cel d)) := by rw [set_get_ne (Ne.symm h2), set_get_ne (Ne.symm h1)]; exact hed
      rw [Rs.to_bind] at hh
      refine ⟨_, _, r5, hh.imp (fun o _ ho => ?_) fun n z => z⟩
      cases o with
      | some d => exact ho
      | none =>
        intro H6 s6
        have ho : (f ((ε2.set jy (some (true, .als i [k]))).set jz (some (false, zs[k]))) >>= fun x => chk (sz (l.2.length + 1)) (zalD i jy jz gs f (zs.drop (k + 1)) (k + 1) (((ε2.set jy (some (true, .als i [k]))).set jz (some (false, zs[k]))).set i (some (true, .cel (setAt d [k] (.lst l.1 (l.2 ++ [x])))))))).to _ _ := ho
        rw [Rs.to_bind] at ho
        have hvy : ((σ2.set jy (some (V.ref b))).set jz (some w))[jy]? = some (some (V.ref b)) := by rw [set_get_ne (Ne.symm h3)]; exact set_get ly
        have r6 := r5.mono s6
        have hb6 : H6 b = some (.lst vs) := s6 _ _ (s3 _ _ hb2)
        have adr6 : AddrIn H6 ((L2.put jy []).ρ i) (V.ref a0) [k] b := by
          rw [put_ne (Ne.symm h1)]
          exact ⟨a0, _, _, rfl, ham, s6 _ _ (s3 _ _ hl2), hkv, rfl, hbm⟩
        refine ⟨V.ref b, hvy, .inl ⟨rfl, vs, .of hb6⟩, _, _, r6, ho.imp (fun x _ hx u H7 s7 qx => ?_) fun n z => z.w r6.same⟩
        obtain ⟨hsz, hx⟩ := chk_to hx
        have hsz := sz_ok hsz
        have r7 := r6.mono s7
        obtain ⟨vs7, hb7, hlen7, r8, k8⟩ := r7.nodeApp he5 hv5 (listAt_some hl) qx (adr6.mono fun c hc => ⟨hc, fun o ho => ⟨o, s7 _ _ ho, fun _ _ z => z⟩⟩)
        refine ⟨b, vs7, u, rfl, rfl, hb7, by rw [hlen7]; omega, ?_⟩
        have kk := (Kp.same s3).trans (k4.trans ((Kp.same (s6.trans s7)).trans k8))
        exact ⟨_, _, r8, k2.trans kk, hv5, by rw [List.length_set, List.length_set]; exact hlen2, hx.imp (fun o _ z => z.mono kk) fun n z => z⟩
    · have e : k = zs.length := by omega
      subst e
      rw [List.drop_length] at hh
      refine .inl ⟨⟨ws2, ws, .of hl2, .of hq2, .inr (by rw [← qd.length]; exact Nat.le_refl _)⟩, ?_⟩
      exact hh L2 σ2 H2 ((r2.fgt jy).fgt jz) .refl
end
end DL

set_option maxRecDepth 100000
set_option maxHeartbeats 4000000
/-! DLx: own exceptions raised. -/
namespace DL
open PySem PySem.Spec PyProof.Rows L2
/-- the module's name x holds a class of exceptions below ValueError -/
structure ExC (K : PySem.W.Frag) (mg : Str → Option Value) (x : Str) (C : Addr) : Prop where
  g : mg x = some (.ref C)
  q : PySem.W.excIn K C [.type "ValueError", .type "Exception", .type "BaseException", .type "object"] "ValueError.__new__" = true
  k : PySem.W.keepIn K (.ref C) = true
  b : PySem.W.subIn K (.ref C) (.type "BaseException") = some true
  t : PySem.W.typeIn K (.ref C) = some (.type "type")
section
variable {X : Cx} {W : WX} {H0 : Hp} {L : Lp} {x m : Str} {C : Addr} {j : Nat} {p p2 pos' pos : Pos}
theorem ds_raise (hc : X.calm = true) (T : ExC X.K X.mg x C) (tk : Takes X W) (hg : Gl X x := by rfl) (hdb : (x == ("__debug__" : Str)) = false := by decide) :
    DS X W H0 L (.Raise (some (.Call (.Name x p) [.Constant (.str m) j p2] [] pos')) none pos) (fun _ => .ex x) :=
  psimp (ps_raise hc tk (pmk_own F.excBase_ValueError T.q T.g T.k (raises_own T.b T.t) hg hdb)) fun D σ H _ ⟨ε, LL, r, h⟩ => h C σ H T.g r.same
end
end DL

set_option maxRecDepth 100000
set_option maxHeartbeats 4000000
/-! DLy: a caught exception kept as a value. -/
namespace DL
open PySem PySem.Spec PyProof.Rows L2
theorem ev_ok {P : Program} {w : World} {H : Hp} {h : Heap} {a : Addr} {cls : Value} {d : Option Addr} {oe : Obj} {vs : Array Value} (e : h.get? a = some oe) (z : Zc cls d oe) (hd : oe.data = .fields vs) : ObjOk P w H h a (EV cls d a) :=
  ⟨⟨oe, vs, e, z, hd⟩, ⟨oe, e⟩, fun _ _ ⟨o, us, v, q⟩ k => ⟨o, us, k o v, q⟩⟩
/-- what the clause wishes: the exception is tracked behind it -/
def vAs (K : PySem.W.Frag) (c : Value) (i : Nat) (ts : Addr → Value → Option Addr → TS) (Wo : WX) (D : Ends) : WX := fun cls d σ H => ∃ b, PySem.W.exmOne K cls c = some b ∧
  (b = true → ∀ a, H a = none → ts a cls d ⟨fun σ' H' => H' a = none → D.nx (σ'.set i none) (upd H' a (EV cls d a)), fun _ _ => False, fun _ _ => False, fun _ _ => False⟩ (σ.set i (some (.ref a))) H) ∧ (b = false → Wo cls d σ H)
section
variable {X : Cx} {pins : List (Addr × Obj)} {σ : L2.St} {H : Hp} {s : Shared}
/-- an untracked record of ours, not there at the entry, is tracked -/
theorem inv_keep {a : Addr} {oe : Obj} {vs : Array Value} {cls : Value} {d : Option Addr} (I : Inv X pins σ H s) (he : s.heap.get? a = some oe) (hc : Zc cls d oe) (hd : oe.data = .fields vs) (na : H a = none) (h0 : X.s_0.heap.get? a = none) (hp : ∀ p ∈ X.pn ++ pins, p.1 ≠ a) :
    Inv X pins σ (upd H a (EV cls d a)) s := by
  obtain ⟨G, g1, g2⟩ := restrict s.heap fun b => decide (b ≠ a)
  have gk : ∀ b o, b ≠ a → b ≠ a → s.heap.get? b = some o → G.get? b = some o := fun b o hb _ e => (g1 b (decide_eq_true hb)).trans e
  have gn : G.get? a = none := g2 a (by simp)
  have gs : ∀ b o, G.get? b = some o → s.heap.get? b = some o := fun b o e => by
    by_cases hb : b = a
    · rw [hb, gn] at e; cases e
    · rw [← g1 b (decide_eq_true hb)]; exact e
  have J : Inv X pins σ H { s with heap := G } := I.less gs gk ⟨oe, vs, he, hd⟩ ⟨oe, vs, he, hd⟩ na na (fun b o e => by
    have : b ≠ a := fun z => by rw [z, h0] at e; cases e
    exact ⟨this, this⟩) (fun p hq => ⟨hp p hq, hp p hq⟩)
  exact Inv.laidN (s := { s with heap := G }) (h' := s.heap) (t' := s.toks) J gs gn na (ev_ok he hc hd)
end
section
variable {X : Cx} {x n : Str} {c : Value} {i : Nat} {body ste : List Stmt} {b0 : Stmt} {np p1 p2 : Pos} {tb : WX → TS} {ts : Addr → Value → Option Addr → TS} {Wo : WX}
/-- try: body / except x as n: suite; the suite runs to its end; the exception is kept as a value -/
theorem ps_tryV (hs : X.stack = X.env :: X.outer) (hf : X.env.frame = some X.env.locals) (hN : X.N.Nodup) (hi : X.N[i]? = some n) (hln : X.env.kindOf n = some .local) (hc : Names X x c) (tk : Takes X Wo) (hex : X.ex = [])
    (hb : ∀ (V : WX) (q : List (Addr × Obj)) (z : Value → Shared → Prop), Takes (X.tr q z) V → PassesOwn (model X.prog X.w) X.A X.env z → PSs (X.tr q z) body (tb V))
    (hu : ∀ (a : Addr) (oe : Obj) (cls : Value) (d : Option Addr) (q : List (Addr × Obj)), PSs (X.suite a ((a, oe) :: q)) (b0 :: ste) (ts a cls d)) :
    PS X (.Try body [.ExceptHandler (some (.Name x np)) (some n) (b0 :: ste) p2] [] [] p1) (fun D σ H => tb (vAs X.K c i ts Wo D) D σ H) := by
  refine ⟨fun pins s σ H D I h => ?_⟩
  have ok := I.ok; have hfr : X.A.frames = some (X.env :: X.outer) := by rw [ok.frames, hs]
  have lo : Loc X.env.scope n := .inl hln
  refine wpAny_Try_except ?_
  refine wpAny_mono ((hb (vAs X.K c i ts Wo D) (X.pn ++ pins) (fun e s1 => wpAny (model X.prog X.w) X.A (noteFrame e X.env) (fun _ s2 => wpAny (model X.prog X.w) X.A (setFlight e none) (fun _ s3 =>
    wpAny (model X.prog X.w) X.A (handleBy e X.env [.ExceptHandler (some (.Name x np)) (some n) (b0 :: ste) p2]) (SP X pins D) X.xe s3) X.xe s2) X.xe s1) (fun u s' xx => ?_) PassesOwn.looking).run [] s σ H D (I.toTry _) h) (fun f s1 hsp => ?_) (fun e s1 he => he)
  · obtain ⟨a, B, sI, pins', σ', H', cls, d, rfl, J', nb, up, sky, na, os, ag, b, hb1, hyes, hno⟩ := xx
    have J : Inv X pins σ' H' sI := J'.ofTry ok; have sky2 : Sky B (X.env :: X.outer) a (Zc cls d) X.env.locals s'.heap := by rw [← hs]; exact sky
    show wpAny (model X.prog X.w) X.A (noteFrame (.ref a) X.env) _ _ _; refine Sky.land Zc.steady hfr hf sky2 fun h3 fl3 up3 => ?_
    have J3 : Inv X pins σ' H' { s' with heap := h3 } := J.landed nb fl3.1 (up.trans up3) os ag; obtain ⟨oe3, vs3, he3, hz3, hd3⟩ := fl3.there
    have nfr : a ∉ frs (X.env :: X.outer) := fun hm => by
      obtain ⟨_, o', e', hnf⟩ := fl3.2.2.1.mem hm; rw [he3] at e'; cases e'
      exact hnf _ hd3
    have nL : a ≠ X.env.locals := fun z => nfr (List.mem_filterMap.mpr ⟨X.env, List.mem_cons_self, by rw [hf, z]⟩); have nF : a ∉ X.fs := fun hm => by
      obtain ⟨e, he, q⟩ := List.mem_filterMap.mp hm; exact nfr (List.mem_filterMap.mpr ⟨e, List.mem_cons_of_mem _ he, q⟩)
    have nB : B.get? a = none := fl3.2.1
    have nI : sI.heap.get? a = none := by
      cases q : sI.heap.get? a with
      | none => rfl
      | some o => have := nb a o q (by rw [hs]; exact nfr); rw [nB] at this; cases this
    have n0 : X.s_0.heap.get? a = none := by
      cases q : X.s_0.heap.get? a with
      | none => rfl
      | some o =>
        obtain ⟨o', q'⟩ := J.base.there a o q (by rw [hex]; simp)
        rw [nI] at q'; cases q'
    have nP : ∀ p ∈ X.pn ++ pins, p.1 ≠ a := fun p hp z => by
      have := (J.pin p hp).1
      rw [z, nI] at this; cases this
    have S3 := J3.suite he3 hd3 na nL nF
    refine wpAny_handleBy_cons (codeAny_handlers_test ?_) (by intro q; cases q)
    have LT : PySem.W.Looks (model X.prog X.w) h3 (typeOf (.ref a)) cls := fun A Q E s k q => wpAny_typeOf_ref (k _ _ he3) (by rw [hz3.1]; exact q)
    have LM := PySem.W.exm_one (M := model X.prog X.w) (J3.kIn) LT hb1; have test : ∀ {Q : Value → Shared → Prop} {E : Value → Shared → Prop}, Q c { s' with heap := h3 } → wpAny (model X.prog X.w) (X.A.mark (some (.ref a))) (eval (.Name x np) X.env) Q E { s' with heap := h3 } := fun {Q E} q => by
      obtain ⟨g1, g2, gm | ⟨gm, gv, gn⟩⟩ := hc
      · exact ld_glob (X := X.suite a ((a, oe3) :: (X.pn ++ pins))) S3 g1 gm q g2
      · exact ld_blt (X := X.suite a ((a, oe3) :: (X.pn ++ pins))) S3 g1 gm gv q gn g2
    refine test (LM.here ?_)
    cases b with
    | true =>
      refine codeAny_handlers_suite_as ?_; refine HandSPX.lands_againZ fl3 fun h4 fl4 up4 => ?_
      have J4 : Inv X pins σ' H' { s' with heap := h4 } := J.landed nb fl4.1 ((up.trans up3).trans up4) os ag; obtain ⟨oe4, vs4, he4, hz4, hd4⟩ := fl4.there
      have S4 := J4.suite he4 hd4 na nL nF; refine store_ok (X := X.suite a ((a, oe4) :: (X.pn ++ pins))) (v := .ref a) S4 hN hi lo rfl (fun s5 S5 => ?_) (.inr hln)
      refine wpAny_mono ((hu a oe4 cls d (X.pn ++ pins)).run [] s5 _ H' _ S5 (hyes rfl a na)) (fun f s6 hsp => ?_) (fun _ _ z => False.elim z)
      cases f with
      | next =>
        obtain ⟨σ6, H6, S6, q6⟩ := hsp
        refine gone_ok (X := X.suite a ((a, oe4) :: (X.pn ++ pins))) S6 hN hi hln fun s7 S7 => ?_
        have p7 := S7.pin (a, oe4) (by simp)
        have J7 : Inv X pins (σ6.set i none) H6 s7 := S7.unsuite ok
        exact ⟨_, _, inv_keep J7 p7.1 hz4 hd4 p7.2.1 n0 nP, q6 p7.2.1⟩
      | brk => obtain ⟨σ6, H6, S6, q6⟩ := hsp; exact q6.elim
      | cont => obtain ⟨σ6, H6, S6, q6⟩ := hsp; exact q6.elim
      | ret u => obtain ⟨v6, σ6, H6, S6, r6, q6⟩ := hsp; exact q6.elim
    | false =>
      show wpAny _ X.A (handleBy (.ref a) X.env []) _ _ _; refine wpAny_handleBy_nil ?_
      obtain ⟨k1, k2, k3, oe, vs, T, oT, ts', he, hz, hd, h1, hr⟩ := id fl3; unfold PySem.passOn
      refine wpAny_bind (wpAny_field he hd h1 ?_); rw [if_neg (show ¬ ((Value.ref T == Value.none) = true) from by simp)]
      have fin : wpAny (model X.prog X.w) X.A (setFlight (.ref a) X.env.frame) (fun _ s4 => wpAny (model X.prog X.w) X.A (throw (.ref a) : Sem Flow) (SP X pins D) X.xe s4) X.xe { s' with heap := h3 } := by
        rw [hf]; refine HandSPX.setFlight_upZ fl3 fun h4 hh4 up4 => wpAny_throw (tk _ _ ?_)
        exact ⟨a, B, sI, pins, σ', H', cls, d, rfl, J, nb, (up.trans up3).trans up4, .inr (.inr (by rw [hs]; exact hh4)), na, os, ag, hno rfl⟩
      first | exact wpAny_bind (wpAny_pure (wpAny_bind fin)) | exact wpAny_bind fin
  · cases f with
    | next => obtain ⟨σ', H', J', q⟩ := hsp; exact wpAny_execs_nil ⟨σ', H', J'.ofTry ok, q⟩
    | brk => obtain ⟨σ', H', J', q⟩ := hsp; exact ⟨σ', H', J'.ofTry ok, q⟩
    | cont => obtain ⟨σ', H', J', q⟩ := hsp; exact ⟨σ', H', J'.ofTry ok, q⟩
    | ret u => obtain ⟨v, σ', H', J', r, q⟩ := hsp; exact ⟨v, σ', H', J'.ofTry ok, r, q⟩
end
section
variable {K : PySem.W.Frag} {mg : Str → Option Value} {H0 H : Hp} {L : Lp} {LL : Lk} {ε : DEnv} {σ : L2.St}
/-- a slot that nothing is told of is emptied -/
theorem Rel.unset (r : Rel K H0 L LL ε σ H) {i : Nat} : Rel K H0 L LL (ε.set i none) (σ.set i none) H := by
  have r := r.fgt i
  refine ⟨r.same, r.sub, r.mu, by rw [List.length_set]; exact r.len, fun j d e => ?_, fun j d e => ?_, fun j k d e a e1 e2 e3 e4 => r.uni j k d e a e1 e2 e3 e4, fun j k p d e1 e2 => ?_⟩
  · rcases get_set _ _ _ _ _ e with ⟨_, _, z⟩ | ⟨hj, _⟩
    · cases z
    · obtain ⟨v, e1, q⟩ := r.val j d e
      exact ⟨v, by rw [set_get_ne hj]; exact e1, q⟩
  · rcases get_set _ _ _ _ _ e with ⟨_, _, z⟩ | ⟨hj, _⟩
    · cases z
    · obtain ⟨b, e1, q⟩ := r.own j d e
      exact ⟨b, by rw [set_get_ne hj]; exact e1, q⟩
  · rcases get_set _ _ _ _ _ e1 with ⟨_, _, z⟩ | ⟨hj, _⟩
    · cases z
    rcases get_set _ _ _ _ _ e2 with ⟨_, _, z⟩ | ⟨hk, _⟩
    · cases z
    obtain ⟨w, a, h1, h2, h3⟩ := r.als j k p d e1 e2
    exact ⟨w, a, by rw [set_get_ne hk]; exact h1, h2, by rw [set_get_ne hj]; exact h3⟩
/-- the classes ns, all caught by c -/
def Caught (K : PySem.W.Frag) (mg : Str → Option Value) (c : Value) (ns : List Str) : Prop := ∀ n ∈ ns, ∃ C, mg n = some (.ref C) ∧ PySem.W.nsIn K mainGlobals n = some (some (.ref C)) ∧ PySem.W.exmOne K (.ref C) c = some true
def sto (y : Option Nat) (d : Dat) (ε : DEnv) : DEnv := match y with
  | some y => ε.set y (some (false, d))
  | none => ε
/-- y = e, or the exception into g; i: the clause's name -/
def tryD (y : Option Nat) (g i : Nat) (ns : List Str) (f : DEnv → Rs Dat) (ε : DEnv) : Rs Out := match f ε with
  | .ok d => .ok (.nx (sto y d ε))
  | .ex n => if ns.contains n = true then .ok (.nx ((ε.set g (some (false, .exn n))).set i none)) else .no
  | .no => .no
end
section
variable {X : Cx} {W : WX} {H0 : Hp} {L : Lp} {e : Expr} {f : DEnv → Rs Dat} {x n got yn : Str} {c : Value} {i g y : Nat} {np p1 p2 p3 p4 p5 p6 p7 : Pos}
theorem try_use {D : Ends} {σ : L2.St} {H : Hp} {ns : List Str} {yo : Option Nat} {R : VK} {Wo : WX} (hl : σ.length = X.N.length) (hi : i < X.N.length) (hg : g < X.N.length) (hig : i ≠ g) (hC : Caught X.K X.mg c ns) (h : tD X.K X.mg W H0 L (tryD yo g i ns f) D σ H)
    (hR : ∀ ε LL d v H', Rel X.K H0 L LL ε σ H' → Den X.K H0 LL H' d v → (OutP X.K H0 L LL H' D (.nx (sto yo d ε))) → R v H') :
    tE true X.K X.mg (vAs X.K c i (fun a cls d D σ H => ∃ v, σ[i]? = some (some v) ∧ D.nx (σ.set g (some v)) H) Wo D) H0 L f σ H R := by
  obtain ⟨ε, LL, r, h⟩ := h
  refine ⟨ε, LL, r, ?_⟩
  unfold tryD at h
  cases hf : f ε with
  | no => rw [hf] at h; exact h.elim
  | ok d =>
    rw [hf] at h
    have h : OutP X.K H0 L LL H D (.nx (sto yo d ε)) := h
    exact fun v H' s q => hR ε LL d v H' (r.mono s) q (OutP.mono (Kp.same s) h)
  | ex m =>
    rw [hf] at h
    have h : (if ns.contains m = true then Rs.ok (Out.nx ((ε.set g (some (false, .exn m))).set i none)) else Rs.no).to (OutP X.K H0 L LL H D) (XS X.mg W H0) := h
    split at h
    · rename_i hm
      obtain ⟨C, h1, h2, h3⟩ := hC m (by simpa using hm)
      intro C' H' hm' s
      have e : Value.ref C = Value.ref C' := Option.some.inj (h1.symm.trans hm')
      cases e
      refine ⟨true, h3, fun _ a na => ⟨.ref a, set_get (by rw [hl]; exact hi), fun na2 => ?_⟩, fun z => nomatch z⟩
      have s2 : Same H' (upd H' a (EV (.ref C) none a)) := same_new na
      have r1 := (r.mono s).mono s2
      have hd : Den X.K H0 LL (upd H' a (EV (.ref C) none a)) (.exn m) (.ref a) := ⟨a, C, rfl, fun z => (r.mono s).trk a z na, h2, upd_same⟩
      have r2 := r1.setv (i := i) (by rw [hl]; exact hi) hd
      have r3 := r2.setv (i := g) (by rw [List.length_set, hl]; exact hg) hd
      have r4 := r3.unset (i := i)
      have ee : ((ε.set i (some (false, Dat.exn m))).set g (some (false, .exn m))).set i none = (ε.set g (some (false, .exn m))).set i none := by
        rw [List.set_comm _ _ hig, List.set_set]
      rw [ee] at r4
      exact h LL _ _ r4 ((Kp.same s).trans (Kp.same s2))
    · exact h.elim
/-- try: y = e / except x as n: got = n -/
theorem ds_tryA {ns : List Str} (hs : X.stack = X.env :: X.outer) (hf : X.env.frame = some X.env.locals) (hex : X.ex = []) (hN : X.N.Nodup) (y g i : Nat) (tk : Takes X W) (hC : Caught X.K X.mg c ns) (hc : Names X x c)
    (he : ∀ (V : WX) (q : List (Addr × Obj)) (z : Value → Shared → Prop), Takes (X.tr q z) V → DE true (X.tr q z) V H0 L e f)
    (hy : X.N[y]? = some yn := by rfl) (hg : X.N[g]? = some got := by rfl) (hi : X.N[i]? = some n := by rfl) (hln : X.env.kindOf n = some .local := by rfl) (hig : i ≠ g := by decide)
    (hyl : Loc X.env.scope yn := by first | exact .inl rfl | exact .inr rfl) (hgl : Loc X.env.scope got := by first | exact .inl rfl | exact .inr rfl) (hnv : Vis X.env.scope n := by first | exact Or.inl rfl | exact Or.inr (Or.inl rfl) | exact Or.inr (Or.inr rfl))
    (hys : swapsWith e (some (.Name yn p3)) p4.line X.env = pure false := by rfl) (hgs : swapsWith (.Name n p5) (some (.Name got p6)) p7.line X.env = pure false := by rfl)
    (hyf : X.fn yn = true ∨ X.env.scope.names.lookup yn = some .local := by first | exact .inl rfl | exact .inr rfl | assumption) (hgf : X.fn got = true ∨ X.env.scope.names.lookup got = some .local := by first | exact .inl rfl | exact .inr rfl | assumption)
    (hnd : (n == ("__debug__" : Str)) = false := by decide) (hncd : (n == ("__classdict__" : Str)) = false := by decide) :
    DS X W H0 L (.Try [.Assign [.Name yn p3] e p4] [.ExceptHandler (some (.Name x np)) (some n) [.Assign [.Name got p6] (.Name n p5) p7] p2] [] [] p1) (tryD (some y) g i ns f) := by
  refine psimp (ps_tryV (b0 := .Assign [.Name got p6] (.Name n p5) p7) (ste := []) (tb := fun V D σ H => tE true X.K X.mg V H0 L f σ H (fun v H' => D.nx (σ.set y (some v)) H')) (ts := fun a cls d D σ H => ∃ v, σ[i]? = some (some v) ∧ D.nx (σ.set g (some v)) H) (Wo := W) hs hf hN hi hln hc tk hex
    (fun V q z tkV pz => pss_one (ps_set (X := X.tr q z) hN hy hyl (he V q z tkV) hys hyf)) (fun a oe cls d q => pss_one (ps_set (X := X.suite a ((a, oe) :: q)) hN hg hgl (pe_var (X := X.suite a ((a, oe) :: q)) hi hnv hnd hncd) hgs hgf))) fun D σ H hl h => ?_
  exact try_use hl (lt_of_get hi) (lt_of_get hg) hig hC h fun ε LL d v H' r q o => o LL _ _ (r.setv (by rw [hl]; exact lt_of_get hy) q) .refl
/-- try: e / except x as n: got = n -/
theorem ds_tryE {ns : List Str} (hs : X.stack = X.env :: X.outer) (hf : X.env.frame = some X.env.locals) (hex : X.ex = []) (hN : X.N.Nodup) (g i : Nat) (tk : Takes X W) (hC : Caught X.K X.mg c ns) (hc : Names X x c)
    (he : ∀ (V : WX) (q : List (Addr × Obj)) (z : Value → Shared → Prop), Takes (X.tr q z) V → DE true (X.tr q z) V H0 L e f)
    (hg : X.N[g]? = some got := by rfl) (hi : X.N[i]? = some n := by rfl) (hln : X.env.kindOf n = some .local := by rfl) (hig : i ≠ g := by decide)
    (hgl : Loc X.env.scope got := by first | exact .inl rfl | exact .inr rfl) (hnv : Vis X.env.scope n := by first | exact Or.inl rfl | exact Or.inr (Or.inl rfl) | exact Or.inr (Or.inr rfl))
    (hys : swapsWith e none p4.line X.env = pure false := by rfl) (hgs : swapsWith (.Name n p5) (some (.Name got p6)) p7.line X.env = pure false := by rfl)
    (hgf : X.fn got = true ∨ X.env.scope.names.lookup got = some .local := by first | exact .inl rfl | exact .inr rfl | assumption)
    (hnd : (n == ("__debug__" : Str)) = false := by decide) (hncd : (n == ("__classdict__" : Str)) = false := by decide) :
    DS X W H0 L (.Try [.Expr e p4] [.ExceptHandler (some (.Name x np)) (some n) [.Assign [.Name got p6] (.Name n p5) p7] p2] [] [] p1) (tryD none g i ns f) := by
  refine psimp (ps_tryV (b0 := .Assign [.Name got p6] (.Name n p5) p7) (ste := []) (tb := fun V D σ H => tE true X.K X.mg V H0 L f σ H (fun v H' => D.nx σ H')) (ts := fun a cls d D σ H => ∃ v, σ[i]? = some (some v) ∧ D.nx (σ.set g (some v)) H) (Wo := W) hs hf hN hi hln hc tk hex
    (fun V q z tkV pz => pss_one (ps_expr (X := X.tr q z) (he V q z tkV) hys)) (fun a oe cls d q => pss_one (ps_set (X := X.suite a ((a, oe) :: q)) hN hg hgl (pe_var (X := X.suite a ((a, oe) :: q)) hi hnv hnd hncd) hgs hgf))) fun D σ H hl h => ?_
  exact try_use hl (lt_of_get hi) (lt_of_get hg) hig hC h fun ε LL d v H' r q o => o LL _ _ r .refl
end
end DL

set_option maxRecDepth 100000
set_option maxHeartbeats 4000000
/-! DLz: isinstance of a kept exception. -/
namespace DL
open PySem PySem.Spec PyProof.Rows L2
section
variable {X : Cx}
theorem ev_at {pins : List (Addr × Obj)} {s : Shared} {σ : L2.St} {H : Hp} {a D : Addr} (I : Inv X pins σ H s) (h : H a = some (EV (.ref D) none a)) : ∃ oe, PySem.W.InstAt s.heap a oe D none := by
  obtain ⟨⟨oe, vs, e, z, hv⟩, _⟩ := (show ObjOk X.prog X.w H s.heap a (EV (.ref D) none a) from I.hok a _ h)
  obtain ⟨oc, od, oda, osl⟩ := oe
  obtain ⟨h1, h2⟩ := z
  dsimp only at h1 h2 hv
  subst h1 h2 hv
  exact ⟨_, e, rfl, rfl, trivial⟩
def rIsX (K : PySem.W.Frag) : List V → Hp → VK → Prop := fun xs H Q => ∃ (a D : Addr) (c : V) (cv : Value) (b : Bool), xs = [.ref a, c] ∧ ExcC K D ∧ H a = some (EV (.ref D) none a) ∧ ClsV c cv ∧ PySem.W.kitOne K (.ref D) cv = some b ∧ Q (.bl b) H
theorem call_isX : CallR X (.builtin "isinstance") (rIsX X.K) := by
  intro pins s σ H xs us Q I r h
  obtain ⟨a, D, c, cv, b, rfl, C, ha, hc, e, q⟩ := h
  obtain ⟨u1, u2, rfl, r1, r2⟩ := vals2 r
  cases (show u1 = Value.ref a from r1)
  have := hc.eq r2
  subst this
  obtain ⟨oe, J⟩ := ev_at I ha
  exact PySem.W.kia_one (PySem.W.handS_kitx_exc C.hg C.hk C.hs C.hd C.ha C.hn C.ht C.hm) I.kIn J e (fun z => nomatch z) fun tk => ⟨.bl b, H, I.kept (t' := tk) fun _ _ z => z, rfl, q⟩
/-- with a tuple of classes -/
def rIsXT (K : PySem.W.Frag) : List V → Hp → VK → Prop := fun xs H Q => ∃ (a D tp : Addr) (cs : List V) (ws : List Value) (b : Bool), xs = [.ref a, .ref tp] ∧ ExcC K D ∧ H a = some (EV (.ref D) none a) ∧ H tp = some (.tup cs) ∧ Paired ClsV cs ws ∧ PySem.W.kitAny K (.ref D) ws = some b ∧ Q (.bl b) H
theorem call_isXT : CallR X (.builtin "isinstance") (rIsXT X.K) := by
  intro pins s σ H xs us Q I r h
  obtain ⟨a, D, tp, cs, ws, b, rfl, C, ha, ht, hc, e, q⟩ := h
  obtain ⟨u1, u2, rfl, r1, r2⟩ := vals2 r
  cases (show u1 = Value.ref a from r1)
  cases (show u2 = Value.ref tp from r2)
  obtain ⟨_, its, rv, o, h1, h2, n, h3⟩ := (show ObjOk X.prog X.w H s.heap tp (.tup cs) from I.hok tp _ ht)
  have := ClsV.all hc rv
  subst this
  obtain ⟨oe, J⟩ := ev_at I ha
  obtain ⟨oc, od, oda, osl⟩ := o
  dsimp only at h2 h3
  subst h2 h3
  exact PySem.W.kia_tup (PySem.W.handS_kitx_exc C.hg C.hk C.hs C.hd C.ha C.hn C.ht C.hm) I.kIn J h1 e (fun z => nomatch z) fun tk => ⟨.bl b, H, I.kept (t' := tk) fun _ _ z => z, rfl, q⟩
/-- an expression that is a class -/
def ClsE (X : Cx) (e : Expr) (v : V) (cv : Value) : Prop := PE X e (tC v) ∧ ClsV v cv
/-- what isinstance says of an exception of the class n -/
def isxD (ans : List (Str × Bool)) (f : DEnv → Rs Dat) (ε : DEnv) : Rs Dat := f ε >>= fun d => match d with
  | .exn n => Rs.of ((ans.lookup n).map .bl)
  | _ => .no
/-- the answers are right -/
def Isa (K : PySem.W.Frag) (cv : Value) (ans : List (Str × Bool)) : Prop := ∀ n b, ans.lookup n = some b → ∃ D, PySem.W.nsIn K mainGlobals n = some (some (.ref D)) ∧ ExcC K D ∧ PySem.W.kitOne K (.ref D) cv = some b
variable {W : WX} {H0 : Hp} {L : Lp} {m : Bool} {a c : Expr} {p pos : Pos} {f : DEnv → Rs Dat}
theorem de_isx {ans : List (Str × Bool)} {v : V} {cv : Value} (hm : X.mg "isinstance" = none) (hc : ClsE X c v cv) (hA : Isa X.K cv ans) (ha : DE false X W H0 L a f) (hg : Gl X "isinstance" := by rfl)
    (he1 : starEach [a, c] X.env = (false, eval a X.env) :: starEach [c] X.env := by rfl) (he2 : starEach [c] X.env = (false, eval c X.env) :: starEach [] X.env := by rfl) (hpl : (backTo pos (starEach [c] X.env)).any (·.1) = false := by rfl) :
    DE m X W H0 L (.Call (.Name "isinstance" p) [a, c] [] pos) (isxD ans f) :=
  peimp (pe_callB call_isX hg hm (by decide +kernel) (pa_cons ha (pa_cons hc.1 pa_nil he2) he1) (by decide) (by decide) he1 hpl) fun σ H Q ⟨ε, LL, r, h⟩ => by
    unfold isxD at h
    rw [Rs.to_bind] at h
    refine ⟨ε, LL, r, h.imp (fun d _ hd w H1 s1 q => ?_) fun n z => z⟩
    cases d with
    | exn n =>
      have hd : (Rs.of ((ans.lookup n).map Dat.bl)).to _ _ := hd
      obtain ⟨z, hz, hq⟩ := Rs.to_of hd
      cases hl : ans.lookup n with
      | none => rw [hl] at hz; cases hz
      | some b =>
        rw [hl] at hz
        cases hz
        obtain ⟨D, h1, h2, h3⟩ := hA n b hl
        obtain ⟨a', C, rfl, _, hn, hE⟩ := q
        rw [h1] at hn
        cases hn
        exact ⟨a', D, v, cv, b, rfl, h2, hE, hc.2, h3, hq _ _ s1 (Den.m (d := .bl b) r.good.sub rfl)⟩
    | _ => exact hd.elim
/-- several classes -/
def ClsA (X : Cx) (es : List Expr) (vs : List V) (cvs : List Value) : Prop := PA X es (fun _ H Q => Q vs H) ∧ Paired ClsV vs cvs
theorem clsa_nil : ClsA X [] [] [] := ⟨paimp pa_nil fun σ H Q h => h, .nil⟩
theorem clsa_cons {e : Expr} {es : List Expr} {v : V} {cv : Value} {vs : List V} {cvs : List Value} (h : ClsE X e v cv) (t : ClsA X es vs cvs) (hs : starEach (e :: es) X.env = (false, eval e X.env) :: starEach es X.env := by rfl) : ClsA X (e :: es) (v :: vs) (cv :: cvs) :=
  ⟨paimp (pa_cons h.1 t.1 hs) fun σ H Q q => q, .cons h.2 t.2⟩
def IsaT (K : PySem.W.Frag) (cvs : List Value) (ans : List (Str × Bool)) : Prop := ∀ n b, ans.lookup n = some b → ∃ D, PySem.W.nsIn K mainGlobals n = some (some (.ref D)) ∧ ExcC K D ∧ PySem.W.kitAny K (.ref D) cvs = some b
theorem de_isxT {ans : List (Str × Bool)} {es : List Expr} {vs : List V} {cvs : List Value} {x1} {tp : Pos} (hm : X.mg "isinstance" = none) (hc : ClsA X es vs cvs) (hz : vs.length ≤ sizeLine) (hA : IsaT X.K cvs ans) (ha : DE false X W H0 L a f) (hg : Gl X "isinstance" := by rfl)
    (he1 : starEach [a, .Tuple es x1 tp] X.env = (false, eval a X.env) :: starEach [.Tuple es x1 tp] X.env := by rfl) (he2 : starEach [.Tuple es x1 tp] X.env = (false, eval (.Tuple es x1 tp) X.env) :: starEach [] X.env := by rfl) (hpl : (backTo pos (starEach [.Tuple es x1 tp] X.env)).any (·.1) = false := by rfl) :
    DE m X W H0 L (.Call (.Name "isinstance" p) [a, .Tuple es x1 tp] [] pos) (isxD ans f) :=
  peimp (pe_callB call_isXT hg hm (by decide +kernel) (pa_cons ha (pa_cons (pe_tup hc.1) pa_nil he2) he1) (by decide) (by decide) he1 hpl) fun σ H Q ⟨ε, LL, r, h⟩ => by
    unfold isxD at h
    rw [Rs.to_bind] at h
    refine ⟨ε, LL, r, h.imp (fun d _ hd w H1 s1 q => ⟨hz, fun q2 hq2 => ?_⟩) fun n z => z⟩
    cases d with
    | exn n =>
      have hd : (Rs.of ((ans.lookup n).map Dat.bl)).to _ _ := hd
      obtain ⟨z, hz, hq⟩ := Rs.to_of hd
      cases hl : ans.lookup n with
      | none => rw [hl] at hz; cases hz
      | some b =>
        rw [hl] at hz
        cases hz
        obtain ⟨D, h1, h2, h3⟩ := hA n b hl
        obtain ⟨a', C, rfl, _, hn, hE⟩ := q
        rw [h1] at hn
        cases hn
        exact ⟨a', D, q2, vs, cvs, b, rfl, h2, same_new hq2 _ _ hE, upd_same, hc.2, h3, hq _ _ (s1.trans (same_new hq2)) (Den.m (d := .bl b) r.good.sub rfl)⟩
    | _ => exact hd.elim
end
end DL

set_option maxRecDepth 100000
set_option maxHeartbeats 4000000
/-! DLv: exceptions of the module, by their names. -/
namespace DL
open PySem PySem.Spec PyProof.Rows L2
/-- what is asked of an exception's class in the fragment -/
structure XF (K : PySem.W.Frag) (C : Addr) : Prop where
  q : PySem.W.excIn K C [.type "ValueError", .type "Exception", .type "BaseException", .type "object"] "ValueError.__new__" = true
  k : PySem.W.keepIn K (.ref C) = true
  b : PySem.W.subIn K (.ref C) (.type "BaseException") = some true
  t : PySem.W.typeIn K (.ref C) = some (.type "type")
  hg : PySem.W.findIn K (.ref C) "__getattribute__" = some (some (.builtin "BaseException.__getattribute__"))
  hk : PySem.W.findIn K (.ref C) "__getattr__" = some none
  hd : PySem.W.hasDictIn K C = true
  ha : PySem.W.findIn K (.ref C) "__class__" = some (some (.builtin "object.__class__"))
  hn : PySem.W.specialIn K (.builtin "object.__class__") "__get__" = some (some (.builtin "getset_descriptor.__get__"))
  ht : PySem.W.takesIn K (.builtin "object.__class__") = some true
  hm : PySem.W.mroIn K C (.type "object") = some true
theorem XF.c {K : PySem.W.Frag} {C : Addr} (x : XF K C) : ExcC K C := ⟨x.hg, x.hk, x.b, x.hd, x.ha, x.hn, x.ht, x.hm⟩
/-- raised -/
def Rz (K : PySem.W.Frag) (mg : Str → Option Value) (x : Str) : Prop := ∃ C, ExC K mg x C
/-- caught by the class of that name -/
def Cg (K : PySem.W.Frag) (mg : Str → Option Value) (x : Str) (ns : List Str) : Prop := ∃ c, mg x = some (.ref c) ∧ Caught K mg (.ref c) ns
/-- what isinstance says, of a class of the module -/
def Ia (K : PySem.W.Frag) (mg : Str → Option Value) (x : Str) (ans : List (Str × Bool)) : Prop := ∃ c, mg x = some (.ref c) ∧ Isa K (.ref c) ans
/-- of a class of Python's -/
def Ib (K : PySem.W.Frag) (mg : Str → Option Value) (x : String) (ans : List (Str × Bool)) : Prop := mg x = none ∧ Isa K (.type x) ans
section
variable {X : Cx} {W : WX} {H0 : Hp} {L : Lp} {m : Bool} {a e : Expr} {f : DEnv → Rs Dat} {x n got yn : Str} {i g y j : Nat} {p np p1 p2 p3 p4 p5 p6 p7 pos pos' : Pos} {s : Str}
theorem ds_raise1 (T : Rz X.K X.mg x) (hc : X.calm = true) (tk : Takes X W) (hg : Gl X x := by rfl) (hdb : (x == ("__debug__" : Str)) = false := by decide) :
    DS X W H0 L (.Raise (some (.Call (.Name x p) [.Constant (.str s) j p2] [] pos')) none pos) (fun _ => .ex x) := by
  obtain ⟨C, T⟩ := T
  exact ds_raise hc T tk hg hdb
theorem ds_tryA1 {ns : List Str} (hC : Cg X.K X.mg x ns) (hN : X.N.Nodup) (y g i : Nat) (tk : Takes X W)
    (he : ∀ (V : WX) (q : List (Addr × Obj)) (z : Value → Shared → Prop), Takes (X.tr q z) V → DE true (X.tr q z) V H0 L e f)
    (hs : X.stack = X.env :: X.outer := by rfl) (hf : X.env.frame = some X.env.locals := by rfl) (hex : X.ex = [] := by rfl) (hgx : Gl X x := by rfl) (hdx : (x == ("__debug__" : Str)) = false := by decide)
    (hy : X.N[y]? = some yn := by rfl) (hg : X.N[g]? = some got := by rfl) (hi : X.N[i]? = some n := by rfl) (hln : X.env.kindOf n = some .local := by rfl) (hig : i ≠ g := by decide)
    (hyl : Loc X.env.scope yn := by first | exact .inl rfl | exact .inr rfl) (hgl : Loc X.env.scope got := by first | exact .inl rfl | exact .inr rfl) (hnv : Vis X.env.scope n := by first | exact Or.inl rfl | exact Or.inr (Or.inl rfl) | exact Or.inr (Or.inr rfl))
    (hys : swapsWith e (some (.Name yn p3)) p4.line X.env = pure false := by rfl) (hgs : swapsWith (.Name n p5) (some (.Name got p6)) p7.line X.env = pure false := by rfl)
    (hyf : X.fn yn = true ∨ X.env.scope.names.lookup yn = some .local := by first | exact .inl rfl | exact .inr rfl | assumption) (hgf : X.fn got = true ∨ X.env.scope.names.lookup got = some .local := by first | exact .inl rfl | exact .inr rfl | assumption)
    (hnd : (n == ("__debug__" : Str)) = false := by decide) (hncd : (n == ("__classdict__" : Str)) = false := by decide) :
    DS X W H0 L (.Try [.Assign [.Name yn p3] e p4] [.ExceptHandler (some (.Name x np)) (some n) [.Assign [.Name got p6] (.Name n p5) p7] p2] [] [] p1) (tryD (some y) g i ns f) := by
  obtain ⟨c, h1, h2⟩ := hC
  exact ds_tryA hs hf hex hN y g i tk h2 ⟨hgx, hdx, .inl h1⟩ he hy hg hi hln hig hyl hgl hnv hys hgs hyf hgf hnd hncd
theorem ds_tryE1 {ns : List Str} (hC : Cg X.K X.mg x ns) (hN : X.N.Nodup) (g i : Nat) (tk : Takes X W)
    (he : ∀ (V : WX) (q : List (Addr × Obj)) (z : Value → Shared → Prop), Takes (X.tr q z) V → DE true (X.tr q z) V H0 L e f)
    (hs : X.stack = X.env :: X.outer := by rfl) (hf : X.env.frame = some X.env.locals := by rfl) (hex : X.ex = [] := by rfl) (hgx : Gl X x := by rfl) (hdx : (x == ("__debug__" : Str)) = false := by decide)
    (hg : X.N[g]? = some got := by rfl) (hi : X.N[i]? = some n := by rfl) (hln : X.env.kindOf n = some .local := by rfl) (hig : i ≠ g := by decide)
    (hgl : Loc X.env.scope got := by first | exact .inl rfl | exact .inr rfl) (hnv : Vis X.env.scope n := by first | exact Or.inl rfl | exact Or.inr (Or.inl rfl) | exact Or.inr (Or.inr rfl))
    (hys : swapsWith e none p4.line X.env = pure false := by rfl) (hgs : swapsWith (.Name n p5) (some (.Name got p6)) p7.line X.env = pure false := by rfl)
    (hgf : X.fn got = true ∨ X.env.scope.names.lookup got = some .local := by first | exact .inl rfl | exact .inr rfl | assumption)
    (hnd : (n == ("__debug__" : Str)) = false := by decide) (hncd : (n == ("__classdict__" : Str)) = false := by decide) :
    DS X W H0 L (.Try [.Expr e p4] [.ExceptHandler (some (.Name x np)) (some n) [.Assign [.Name got p6] (.Name n p5) p7] p2] [] [] p1) (tryD none g i ns f) := by
  obtain ⟨c, h1, h2⟩ := hC
  exact ds_tryE hs hf hex hN g i tk h2 ⟨hgx, hdx, .inl h1⟩ he hg hi hln hig hgl hnv hys hgs hgf hnd hncd
theorem cls_own {c : Addr} (h : X.mg x = some (.ref c)) (hg : Gl X x := by rfl) (hd : (x == ("__debug__" : Str)) = false := by decide) : ClsE X (.Name x p) (.ref c) (.ref c) := ⟨pe_glob (v := .ref c) hg h rfl hd, .own c⟩
theorem de_isx1 {ans : List (Str × Bool)} (hm : X.mg "isinstance" = none) (h : Ia X.K X.mg x ans) (ha : DE false X W H0 L a f) (hg : Gl X "isinstance" := by rfl) (hgx : Gl X x := by rfl) (hdx : (x == ("__debug__" : Str)) = false := by decide)
    (he1 : starEach [a, .Name x p2] X.env = (false, eval a X.env) :: starEach [.Name x p2] X.env := by rfl) (he2 : starEach [.Name x p2] X.env = (false, eval (.Name x p2) X.env) :: starEach [] X.env := by rfl) (hpl : (backTo pos (starEach [.Name x p2] X.env)).any (·.1) = false := by rfl) :
    DE m X W H0 L (.Call (.Name "isinstance" p) [a, .Name x p2] [] pos) (isxD ans f) := by
  obtain ⟨c, h1, h2⟩ := h
  exact de_isx hm (cls_own h1 hgx hdx) h2 ha hg he1 he2 hpl
theorem de_isx2 {T : String} {ans : List (Str × Bool)} (hm : X.mg "isinstance" = none) (h : Ib X.K X.mg T ans) (hv : bootBuiltins T = some (.type T)) (ha : DE false X W H0 L a f) (hg : Gl X "isinstance" := by rfl) (hgx : Gl X T := by rfl) (hn : (T : Str) ≠ "__name__" := by decide) (hdx : ((T : Str) == ("__debug__" : Str)) = false := by decide)
    (he1 : starEach [a, .Name T p2] X.env = (false, eval a X.env) :: starEach [.Name T p2] X.env := by rfl) (he2 : starEach [.Name T p2] X.env = (false, eval (.Name T p2) X.env) :: starEach [] X.env := by rfl) (hpl : (backTo pos (starEach [.Name T p2] X.env)).any (·.1) = false := by rfl) :
    DE m X W H0 L (.Call (.Name "isinstance" p) [a, .Name T p2] [] pos) (isxD ans f) :=
  de_isx hm ⟨pe_tyn hgx h.1 hv hn hdx, .ty T⟩ h.2 ha hg he1 he2 hpl
/-- names of classes -/
inductive NmL (X : Cx) : List Expr → List Str → Prop where
  | nil : NmL X [] []
  | cons {x : Str} {p : Pos} {es : List Expr} {xs : List Str} : Gl X x → (x == ("__debug__" : Str)) = false → starEach (.Name x p :: es) X.env = (false, eval (.Name x p) X.env) :: starEach es X.env → NmL X es xs → NmL X (.Name x p :: es) (x :: xs)
theorem nm_nil : NmL X [] [] := .nil
theorem nm_cons {es : List Expr} {xs : List Str} (t : NmL X es xs) (hg : Gl X x := by rfl) (hd : (x == ("__debug__" : Str)) = false := by decide) (hs : starEach (.Name x p :: es) X.env = (false, eval (.Name x p) X.env) :: starEach es X.env := by rfl) : NmL X (.Name x p :: es) (x :: xs) := .cons hg hd hs t
inductive Mgs (mg : Str → Option Value) : List Str → List Addr → Prop where
  | nil : Mgs mg [] []
  | cons {x : Str} {c : Addr} {xs : List Str} {cs : List Addr} : mg x = some (.ref c) → Mgs mg xs cs → Mgs mg (x :: xs) (c :: cs)
theorem mgs_nil {mg : Str → Option Value} : Mgs mg [] [] := .nil
theorem mgs_cons {mg : Str → Option Value} {x : Str} {c : Addr} {xs : List Str} {cs : List Addr} (h : mg x = some (.ref c)) (t : Mgs mg xs cs) : Mgs mg (x :: xs) (c :: cs) := .cons h t
def It (K : PySem.W.Frag) (mg : Str → Option Value) (xs : List Str) (ans : List (Str × Bool)) : Prop := ∃ cs : List Addr, Mgs mg xs cs ∧ IsaT K (cs.map Value.ref) ans
theorem clsa_of : ∀ {es : List Expr} {xs : List Str} {cs : List Addr}, NmL X es xs → Mgs X.mg xs cs → ClsA X es (cs.map V.ref) (cs.map Value.ref)
  | _, _, _, .nil, .nil => clsa_nil
  | _, _, _, .cons hg hd hs t, .cons h t2 => clsa_cons (cls_own h hg hd) (clsa_of t t2) hs
theorem mgs_len {mg : Str → Option Value} : ∀ {xs : List Str} {cs : List Addr}, Mgs mg xs cs → cs.length = xs.length
  | _, _, .nil => rfl
  | _, _, .cons _ t => by simp [mgs_len t]
theorem de_isxT1 {ans : List (Str × Bool)} {es : List Expr} {xs : List Str} {x1} {tp : Pos} (hm : X.mg "isinstance" = none) (h : It X.K X.mg xs ans) (hn : NmL X es xs) (ha : DE false X W H0 L a f) (hz : xs.length ≤ 100 := by decide) (hg : Gl X "isinstance" := by rfl)
    (he1 : starEach [a, .Tuple es x1 tp] X.env = (false, eval a X.env) :: starEach [.Tuple es x1 tp] X.env := by rfl) (he2 : starEach [.Tuple es x1 tp] X.env = (false, eval (.Tuple es x1 tp) X.env) :: starEach [] X.env := by rfl) (hpl : (backTo pos (starEach [.Tuple es x1 tp] X.env)).any (·.1) = false := by rfl) :
    DE m X W H0 L (.Call (.Name "isinstance" p) [a, .Tuple es x1 tp] [] pos) (isxD ans f) := by
  obtain ⟨cs, h1, h2⟩ := h
  exact de_isxT hm (clsa_of hn h1) (by rw [List.length_map, mgs_len h1, sizeLine_eq]; omega) h2 ha hg he1 he2 hpl
end
section
variable {K : PySem.W.Frag} {mg : Str → Option Value} {n : Str} {C : Addr} {c cv : Value} {cvs : List Value} {ns : List Str} {b : Bool} {ans : List (Str × Bool)}
theorem rz_of (h : mg n = some (.ref C)) (x : XF K C) : Rz K mg n := ⟨C, h, x.q, x.k, x.b, x.t⟩
theorem caught_nil : Caught K mg c [] := fun n hn => by cases hn
theorem caught_cons (h : mg n = some (.ref C)) (h2 : PySem.W.nsIn K mainGlobals n = some (some (.ref C))) (h3 : PySem.W.exmOne K (.ref C) c = some true) (t : Caught K mg c ns) : Caught K mg c (n :: ns) := fun m hm => by
  rcases List.mem_cons.mp hm with rfl | hm
  · exact ⟨C, h, h2, h3⟩
  · exact t m hm
theorem isa_nil : Isa K cv [] := fun n b h => by cases h
theorem isa_cons (h2 : PySem.W.nsIn K mainGlobals n = some (some (.ref C))) (x : XF K C) (h3 : PySem.W.kitOne K (.ref C) cv = some b) (t : Isa K cv ans) : Isa K cv ((n, b) :: ans) := fun m d h => by
  rw [List.lookup_cons] at h
  split at h
  · rename_i e
    have : m = n := by simpa using e
    subst this
    cases h
    exact ⟨C, h2, x.c, h3⟩
  · exact t m d h
theorem isat_nil : IsaT K cvs [] := fun n b h => by cases h
theorem isat_cons (h2 : PySem.W.nsIn K mainGlobals n = some (some (.ref C))) (x : XF K C) (h3 : PySem.W.kitAny K (.ref C) cvs = some b) (t : IsaT K cvs ans) : IsaT K cvs ((n, b) :: ans) := fun m d h => by
  rw [List.lookup_cons] at h
  split at h
  · rename_i e
    have : m = n := by simpa using e
    subst this
    cases h
    exact ⟨C, h2, x.c, h3⟩
  · exact t m d h
end
end DL

set_option maxRecDepth 100000
set_option maxHeartbeats 4000000
/-! DLn: what a call gives back, kept as a region; its lists changed in a loop. -/
namespace DL
open PySem PySem.Spec PyProof.Rows L2

section
variable {K : PySem.W.Frag} {mg : Str → Option Value} {H0 Hc H H' : Hp} {L : Lp} {LL LL' : Lk} {ε : DEnv} {σ : L2.St}
theorem reg_mono {F G : List Addr} (h : ∀ a, a ∈ F → a ∈ G) : Kp (LL.reg H F) (LL.reg H G) H H := ⟨fun b o n e => ⟨fun z => n ⟨fun m => z.1 (h b m), z.2⟩, e⟩, KL.refl⟩
mutual
/-- the lists that a fresh thing is made of -/
theorem Den.region (hf : ∀ a, Hc a = none → H0 a = none) : ∀ {d : Dat} {v : V}, Den K Hc LL H d v → fresh d = true → ∃ F : List Addr, (∀ a, a ∈ F → Hc a = none ∧ ∃ vs, H a = some (.lst vs)) ∧ Den K H0 (LL.reg H F) H d v
  | .non, _, h, _ => ⟨[], fun a m => (nomatch m), h⟩
  | .bl _, _, h, _ => ⟨[], fun a m => (nomatch m), h⟩
  | .int _, _, h, _ => ⟨[], fun a m => (nomatch m), h⟩
  | .str _, _, h, _ => ⟨[], fun a m => (nomatch m), h⟩
  | .tup ds, _, ⟨a, vs, e, t, h⟩, c => by
    obtain ⟨F, hF, q⟩ := DenL.region hf h c
    refine ⟨F, hF, a, vs, e, ⟨fun z => z.2.elim (fun z => t.1 z) fun ⟨ws, z⟩ => ?_, t.2⟩, q⟩
    rw [t.2] at z; cases z
  | .lst t ds, _, ⟨a, vs, e, hl, tt, ha, h⟩, c => by
    have c' : (t && freshs ds) = true := c
    rw [Bool.and_eq_true] at c'
    obtain ⟨F, hF, q⟩ := DenL.region hf h c'.2
    refine ⟨a :: F, fun b m => ?_, a, vs, e, fun z => z.1 List.mem_cons_self, fun z => hf a (tt z), ha, q.kp (reg_mono fun b m => List.mem_cons_of_mem _ m) fun _ z => z⟩
    rcases List.mem_cons.mp m with rfl | m
    · exact ⟨tt c'.1, vs, ha⟩
    · exact hF b m
  | .dK ks ds, _, _, c => nomatch c
  | .dT ks ds, _, _, c => nomatch c
  | .scr ns, _, _, c => nomatch c
  | .cst ss, _, _, c => nomatch c
  | .hvl, _, _, c => nomatch c
  | .cel d, _, _, c => nomatch c
  | .als _ _, _, _, c => nomatch c
  | .dN _, _, _, c => nomatch c
  | .reg _, _, _, c => nomatch c
  | .exn x, _, _, c => nomatch c
theorem DenL.region (hf : ∀ a, Hc a = none → H0 a = none) : ∀ {ds : List Dat} {vs : List V}, DenL K Hc LL H ds vs → freshs ds = true → ∃ F : List Addr, (∀ a, a ∈ F → Hc a = none ∧ ∃ vs, H a = some (.lst vs)) ∧ DenL K H0 (LL.reg H F) H ds vs
  | [], _, h, _ => ⟨[], fun a m => (nomatch m), h⟩
  | d :: ds, _, ⟨v, r, e, h, t⟩, c => by
    have c' : (fresh d && freshs ds) = true := c
    rw [Bool.and_eq_true] at c'
    obtain ⟨F, hF, q⟩ := Den.region hf h c'.1
    obtain ⟨G, hG, p⟩ := DenL.region hf t c'.2
    refine ⟨F ++ G, fun a m => (List.mem_append.mp m).elim (hF a) (hG a), v, r, e, q.kp (reg_mono fun b m => List.mem_append_left _ m) fun _ z => z, p.kp (reg_mono fun b m => List.mem_append_right _ m) fun _ z => z⟩
end
mutual
/-- its lists may have changed -/
def hv : Dat → Option Dat
  | .non => some .non
  | .bl b => some (.bl b)
  | .int i => some (.int i)
  | .str s => some (.str s)
  | .tup ds => (hvs ds).map .tup
  | .lst _ _ => some .hvl
  | _ => none
def hvs : List Dat → Option (List Dat)
  | [] => some []
  | d :: ds => (hv d).bind fun e => (hvs ds).map (e :: ·)
end
mutual
theorem Den.hv (hk : ∀ p xs, ¬ LL p → H p = some (.tup xs) → ¬ LL' p) : ∀ {d e : Dat} {v : V}, Den K H0 LL H d v → DL.hv d = some e → Den K H0 LL' H e v
  | .non, _, _, h, c => by cases c; exact h
  | .bl _, _, _, h, c => by cases c; exact h
  | .int _, _, _, h, c => by cases c; exact h
  | .str _, _, _, h, c => by cases c; exact h
  | .tup ds, _, _, ⟨a, vs, e, t, h⟩, c => by
    have c : (hvs ds).map Dat.tup = some _ := c
    cases q : hvs ds with
    | none => rw [q] at c; cases c
    | some es => rw [q] at c; cases c; exact ⟨a, vs, e, ⟨hk _ _ t.1 t.2, t.2⟩, DenL.hvs hk h q⟩
  | .lst t ds, _, _, ⟨a, vs, e, hl, tt, ha, h⟩, c => by cases c; exact ⟨a, vs, e, ha⟩
  | .dK ks ds, _, _, _, c => nomatch c
  | .dT ks ds, _, _, _, c => nomatch c
  | .scr ns, _, _, _, c => nomatch c
  | .cst ss, _, _, _, c => nomatch c
  | .hvl, _, _, _, c => nomatch c
  | .cel d, _, _, _, c => nomatch c
  | .als _ _, _, _, _, c => nomatch c
  | .dN _, _, _, _, c => nomatch c
  | .reg _, _, _, _, c => nomatch c
  | .exn x, _, _, _, c => nomatch c
theorem DenL.hvs (hk : ∀ p xs, ¬ LL p → H p = some (.tup xs) → ¬ LL' p) : ∀ {ds es : List Dat} {vs : List V}, DenL K H0 LL H ds vs → DL.hvs ds = some es → DenL K H0 LL' H es vs
  | [], _, _, h, c => by cases c; exact h
  | d :: ds, _, _, ⟨v, r, e, h, t⟩, c => by
    have c : (DL.hv d).bind (fun e => (DL.hvs ds).map (e :: ·)) = some _ := c
    cases q : DL.hv d with
    | none => rw [q] at c; cases c
    | some e1 =>
      rw [q] at c
      have c : (DL.hvs ds).map (e1 :: ·) = some _ := c
      cases q2 : DL.hvs ds with
      | none => rw [q2] at c; cases c
      | some es => rw [q2] at c; cases c; exact ⟨v, r, e, Den.hv hk h q, DenL.hvs hk t q2⟩
end
/-- a list that nothing is told of changes -/
theorem Rel.havoc (r : Rel K H0 L LL ε σ H) {c : Addr} {ws ws' : List V} (hc : LL c) (h0 : H0 c = none) (hH : H c = some (.lst ws)) (hn : ∀ (j : Nat) (e : Dat), ε[j]? = some (some (true, e)) → c ∉ LL.ρ j) :
    Rel K H0 L LL ε σ (upd H c (.lst ws')) ∧ Kp LL LL H (upd H c (.lst ws')) := by
  have kp : Kp LL LL H (upd H c (.lst ws')) := ⟨fun b o n e => ⟨n, by rw [upd_ne (fun z => n (by rw [z]; exact hc))]; exact e⟩, KL.lst⟩
  refine ⟨⟨fun b o e => by rw [upd_ne (fun z => by rw [z, h0] at e; cases e)]; exact r.same b o e, r.sub, fun b z => ?_, r.len, fun j d e => ?_, fun j d e => ?_, r.uni, fun j i p d e1 e2 => ?_⟩, kp⟩
  · by_cases hb : b = c
    · rw [hb]; exact ⟨_, upd_same, trivial⟩
    · rw [upd_ne hb]; exact r.mu b z
  · obtain ⟨v, e1, q⟩ := r.val j d e
    exact ⟨v, e1, q.kp kp fun _ z => z⟩
  · obtain ⟨v, e1, g1, g2⟩ := r.own j d e
    exact ⟨v, e1, g1, g2.kp kp (fun _ z => z) fun a m o z => by rw [upd_ne (fun q => hn j d e (by rw [← q]; exact m))]; exact z⟩
  · obtain ⟨v, a, h1, h2, h3⟩ := r.als j i p d e1 e2
    exact ⟨v, a, h1, h2.mono fun b hb => ⟨hb, fun o ho => ⟨o, by rw [upd_ne (fun q => hn i _ e2 (by rw [← q]; exact hb))]; exact ho, fun _ _ z => z⟩⟩, h3⟩
end

/-! ### x = call, kept as a region -/
def tR (K : PySem.W.Frag) (mg : Str → Option Value) (W : WX) (H0 : Hp) (L : Lp) (f : DEnv → Rs Dat) : TE := fun σ H Q => ∃ ε LL, Rel K H0 L LL ε σ H ∧
  (f ε).to (fun d => ∀ v F H', Same H H' → (∀ a, a ∈ F → H a = none ∧ ∃ vs, H' a = some (.lst vs)) → Den K H0 (LL.reg H' F) H' d v → Q v H') (XW mg W σ H)
def DR (X : Cx) (W : WX) (H0 : Hp) (L : Lp) (e : Expr) (f : DEnv → Rs Dat) : Prop := PE X e (tR X.K X.mg W H0 L f)
def regC (f : DEnv → Rs Dat) (ε : DEnv) : Rs Dat := f ε >>= fun d => chk (fresh d) (.ok d)
def regD (i : Nat) (f : DEnv → Rs Dat) (ε : DEnv) : Rs Out := f ε >>= fun d => .ok (.nx ((drp i ε).set i (some (true, .reg d))))
section
variable {X : Cx} {W : WX} {H0 : Hp} {L : Lp} {LL : Lk} {m : Bool} {a b e : Expr} {es : List Expr} {pos p : Pos} {f g : DEnv → Rs Dat} {fa : DEnv → Rs (List Dat)} {x : Str} {n k j : Nat} {F : List Dat → Rs Dat}
theorem dcallR (G : DefOk X.prog X.w X.K X.mg X.base x n k F) (hr : Room j X.A) (hkj : k ≤ j) (tk : Takes X W) (ha : DA true X W H0 L (e :: es) fa) (hg : Gl X x := by rfl) (hdb : (x == ("__debug__" : Str)) = false := by decide) (he : starEach (e :: es) X.env = (false, eval e X.env) :: starEach es X.env := by rfl) (hpl : (backTo pos (starEach es X.env)).any (·.1) = false := by rfl) :
    DR X W H0 L (.Call (.Name x p) (e :: es) [] pos) (regC (callD n F fa)) := by
  obtain ⟨f, fd, ps, a, hm, c, d⟩ := G.ex
  exact peimp (pe_callSD a (hr.mono hkj) hg hm c d .nil (fun σ => passAt tk σ) ha hdb he hpl) fun σ H Q ⟨ε, LL, r, h⟩ => by
    unfold regC callD at h
    rw [Rs.to_bind, Rs.to_bind] at h
    refine ⟨ε, LL, r, h.imp (fun ds _ hd vs H1 s1 q => ?_) fun n z => z⟩
    obtain ⟨hl, hd⟩ := chk_to hd
    have r1 := r.mono s1
    rw [List.append_nil]
    have q1 := den_pair q
    have hlen : ds.length = n := by simpa using hl
    refine ⟨by rw [← q1.length]; exact hlen, _, olds ds, r1.mu, q1.of.olds, hd.imp (fun d _ z v H2 s2 dd => ?_) fun c z C H2 hm s2 => z C H2 hm (s1.trans s2)⟩
    obtain ⟨hfr, z⟩ := chk_to z
    obtain ⟨F, hF, q2⟩ := Den.region (H0 := H0) (fun a z => r1.good.fr a z) dd.fo hfr
    exact z v F H2 (s1.trans s2) (fun a m => ⟨s1.free (hF a m).1, (hF a m).2⟩) q2
theorem ds_reg (i : Nat) {pos' : Pos} (hN : X.N.Nodup) (he : DR X W H0 L e f) (hi : X.N[i]? = some x := by rfl) (hx : Loc X.env.scope x := by first | exact .inl rfl | exact .inr rfl) (hs : swapsWith e (some (.Name x pos')) pos.line X.env = pure false := by rfl) (hf : X.fn x = true ∨ X.env.scope.names.lookup x = some .local := by first | exact .inl rfl | exact .inr rfl | assumption) :
    DS X W H0 L (.Assign [.Name x pos'] e pos) (regD i f) :=
  psimp (ps_set hN hi hx he hs hf) fun D σ H hl ⟨ε, LL, r, h⟩ => by
    unfold regD at h
    rw [Rs.to_bind] at h
    refine ⟨ε, LL, r, h.imp (fun d _ hd v F H' s hF q => ?_) fun n z => z.w r.same⟩
    have hd : OutP X.K H0 L LL H D (.nx ((drp i ε).set i (some (true, .reg d)))) := hd
    obtain ⟨r1, k1⟩ := (r.drp i).setOwn (d := .reg d) (v := v) (F := F) (H' := H') (i := i) (by rw [hl]; exact lt_of_get hi) s (fun a m => (hF a m).1) (fun a m => ⟨_, (hF a m).2.choose_spec, trivial⟩)
      ⟨Den.kp (H1 := H0) (L := LL.reg H' F) (L' := (LL.put i F).reg H' F) (H := H') (H' := H') ⟨fun b o n e => ⟨fun z => n ⟨z.1, z.2.elim (fun y => y.elim .inl fun m => absurd m z.1) .inr⟩, e⟩, KL.refl⟩ (fun _ z => z) q, fun a m => (hF a m).2⟩ (fun k p z => nomatch z) fun e z => nomatch z
    exact hd _ _ _ r1 k1
end

/-! ### for part in found: tests; part[n].append(e) -/
def regX (i : Nat) (ε : DEnv) : Rs (List Dat) := match ε[i]? with
  | some (some (true, .reg (.lst true ds))) => .ok ds
  | _ => .no
def innr (n : Int) (N : Nat) : Dat → Bool
  | .tup es => (match atI es n with
    | some (.lst _ xs) => decide (xs.length ≤ N)
    | _ => false)
  | _ => false
def rgL (jy : Nat) (g : DEnv → Rs (Option Dat)) (fe : DEnv → Rs Dat) : List Dat → DEnv → Rs Out
  | [], ε => .ok (.nx (ε.set jy none))
  | h :: hs, ε => g (ε.set jy (some (false, h))) >>= fun o => match o with
    | some d => .ok (.rt d)
    | none => fe (ε.set jy (some (false, h))) >>= fun _ => rgL jy g fe hs (ε.set jy (some (false, h)))
noncomputable def rglD (i jy : Nat) (n : Int) (N : Nat) (g : DEnv → Rs (Option Dat)) (fe : DEnv → Rs Dat) (ε : DEnv) : Rs Out :=
  regX i ε >>= fun ds => chk (freshs ds && ds.all (innr n N) && sz (N + ds.length + 1)) (Rs.of (hvs ds) >>= fun hs => rgL jy g fe hs (ε.set i (some (true, .lst true hs))))
theorem hvs_len : ∀ {ds hs : List Dat}, hvs ds = some hs → hs.length = ds.length
  | [], _, h => by cases h; rfl
  | d :: ds, _, h => by
    have h : (hv d).bind (fun e => (hvs ds).map (e :: ·)) = some _ := h
    cases q : hv d with
    | none => rw [q] at h; cases h
    | some e =>
      rw [q] at h
      have h : (hvs ds).map (e :: ·) = some _ := h
      cases q2 : hvs ds with
      | none => rw [q2] at h; cases h
      | some es => rw [q2] at h; cases h; simp [hvs_len q2]
section
variable {X : Cx} {W : WX} {H0 : Hp} {L : Lp} {LL : Lk} {m : Bool} {a b c e : Expr} {es : List Expr} {body : List Stmt} {pos p : Pos} {f g : DEnv → Rs Dat} {gs : DEnv → Rs (Option Dat)} {x n k j : Nat}
theorem ds_rgl (i jy : Nat) (n : Int) (N : Nat) {x y : Str} {px py pyy pi pa pc pe : Pos} (hN : X.N.Nodup) (hp : PassesOwn (model X.prog X.w) X.A X.env X.xe) (hc : X.calm = true) (hx : PE X (.Name x px) (tVar i)) (hyv : PE X (.Name y pyy) (tVar jy)) (h1 : jy ≠ i)
    (hn : DE false X W H0 L c (kst (.int n)))
    (hb : ∀ {t : TS}, PSs X [.Expr (.Call (.Attribute (.Subscript (.Name y pyy) c pi) "append" pa) [e] [] pc) pe] t → PSs X body (tGT X.K X.mg W H0 L gs t))
    (he : DE true X W H0 L e f)
    (ha : PE X (.Subscript (.Name y pyy) c pi) (tOp (rIx X.K) (tVar jy) (tE false X.K X.mg W H0 L (kst (.int n)))) → PA X [e] (tCons (tE true X.K X.mg W H0 L f) tNil) → PE X (.Call (.Attribute (.Subscript (.Name y pyy) c pi) "append" pa) [e] [] pc) (tBM X.K "list" rAppend (tOp (rIx X.K) (tVar jy) (tE false X.K X.mg W H0 L (kst (.int n)))) (tCons (tE true X.K X.mg W H0 L f) tNil)))
    (hpl : PlainIx c := by intro _ _; rfl)
    (hiy : X.N[jy]? = some y := by rfl) (hxy : Loc X.env.scope y := by first | exact .inl rfl | exact .inr rfl)
    (hfy : X.fn y = true ∨ X.env.scope.names.lookup y = some .local := by first | exact .inl rfl | exact .inr rfl | assumption)
    (he1 : starEach [e] X.env = (false, eval e X.env) :: starEach [] X.env := by rfl)
    (hsw : swapsWith (.Call (.Attribute (.Subscript (.Name y pyy) c pi) "append" pa) [e] [] pc) none pe.line X.env = pure false := by rfl)
    (hfs : ∀ u, foldedSetIterable (.Name x px) X.env u = pure u := by intro _; rfl) :
    DS X W H0 L (.For (.Name y py) (.Name x px) body [] pos) (rglD i jy n N gs f) :=
  psimp (ps_for hp hc (pi_list hx) (pg_name hN hiy hxy hfy) (hb (pss_one (ps_expr (ha (pe_ix ix_seq hyv hn hpl) (pa_cons he pa_nil he1)) hsw))) hfs) fun D σ H hlen ⟨ε, LL, r, h⟩ => by
    unfold rglD at h
    rw [Rs.to_bind] at h
    obtain ⟨ds, hei, h⟩ : ∃ ds, ε[i]? = some (some (true, .reg (.lst true ds))) ∧ (chk (freshs ds && ds.all (innr n N) && sz (N + ds.length + 1)) (Rs.of (hvs ds) >>= fun hs => rgL jy gs f hs (ε.set i (some (true, .lst true hs))))).to (OutP X.K H0 L LL H D) (XS X.mg W H0) := by
      unfold regX at h
      split at h
      · rename_i ds he; exact ⟨ds, he, h⟩
      · exact h.elim
    obtain ⟨hchk, hh⟩ := chk_to h
    clear h
    rw [Bool.and_eq_true, Bool.and_eq_true] at hchk
    obtain ⟨⟨hfr, hin⟩, hsz⟩ := hchk
    have hsz := sz_ok hsz
    rw [Rs.to_bind] at hh
    obtain ⟨hs, hhs, hh⟩ := Rs.to_of hh
    obtain ⟨v, hv, hF, hD, hlst⟩ := r.own i _ hei
    obtain ⟨a, vs0, rfl, hna, _, _, _⟩ := id hD
    obtain ⟨vs, hHa, h0a, q2⟩ := Den.alone hD hfr
    have haF : a ∈ LL.ρ i := Classical.byContradiction fun z => hna ⟨z, .inr ⟨_, hHa⟩⟩
    have tupk : ∀ (p : Addr) (xs : List V), ¬ (((LL.reg H (LL.ρ i)).or a) : Lk) p → H p = some (.tup xs) → ¬ (LL.put i [a]) p := fun p xs hn1 hp1 z => by
      have hpF : p ∉ LL.ρ i := fun m => by obtain ⟨ws, g⟩ := hlst p m; rw [hp1] at g; cases g
      rcases z with z | z
      · exact hn1 (.inl ⟨hpF, .inl z⟩)
      · exact hn1 (.inr (by simpa using z))
    have qh : DenL X.K H0 (LL.put i [a]) H hs vs := DenL.hvs tupk q2 hhs
    have m1 : ∀ b, b ∈ [a] → b ∈ LL.ρ i := fun b m => by
      have : b = a := by simpa using m
      rw [this]; exact haF
    obtain ⟨r1, k1⟩ := r.chg (d := .lst true hs) (F' := [a]) hei hv (H' := H) (fun b o _ e => e) KL.refl (fun b m => .inl (m1 b m)) (fun b m => r.mu b (m.elim (fun m => (hF b m).1) fun m => (hF b (m1 b m)).1))
      ⟨a, rfl, rfl, vs, hHa, qh⟩ (fun k p z => nomatch z) (fun x z => nomatch z)
    -- the lists of the rows
    have rows : ∀ (k : Nat) (v' : V), vs[k]? = some v' → ∃ p us c, v' = .ref p ∧ H p = some (.tup us) ∧ ¬ (LL.put i [a]) p ∧ atI us n = some (.ref c) ∧ c ∈ LL.ρ i ∧ c ≠ a ∧ ∃ ws, H c = some (.lst ws) ∧ ws.length ≤ N := fun k v' hk => by
      have hkl : k < ds.length := by rw [q2.length]; exact lt_of_get hk
      obtain ⟨w, hw, qd⟩ := q2.get (List.getElem?_eq_getElem hkl)
      rw [hk] at hw
      cases hw
      have hi := List.all_eq_true.mp hin _ (List.getElem_mem hkl)
      generalize ds[k] = d at *
      cases d with
      | tup es =>
        obtain ⟨p, us, rfl, tp, qs⟩ := qd
        have hi : (match atI es n with
          | some (.lst _ xs) => decide (xs.length ≤ N)
          | _ => false) = true := hi
        split at hi
        · rename_i t xs hat
          obtain ⟨u, hu, qu⟩ := atI_den qs hat
          obtain ⟨c, ws, rfl, hcl, _, hHc, qc⟩ := qu
          refine ⟨p, us, c, rfl, tp.2, tupk _ _ tp.1 tp.2, hu, Classical.byContradiction fun z => hcl (.inl ⟨z, .inr ⟨_, hHc⟩⟩), fun z => hcl (.inr z), ws, hHc, ?_⟩
          rw [← qc.length]
          simpa using hi
        · cases hi
      | _ => cases hi
    have hlen2 : hs.length = vs.length := qh.length
    have out : ∀ (c : Addr), c ∈ LL.ρ i → c ≠ a → ∀ (j : Nat) (e : Dat), (ε.set i (some (true, .lst true hs)))[j]? = some (some (true, e)) → c ∉ (LL.put i [a]).ρ j := fun c hc hca j e hj m => by
      rcases get_set _ _ _ _ _ hj with ⟨rfl, _, _⟩ | ⟨hji, hj⟩
      · rw [put_self] at m; exact hca (by simpa using m)
      · rw [put_ne hji] at m
        exact hji (r.uni j i e _ c hj hei m hc)
    refine ⟨.ref a, hv, a, rfl, ⟨vs, .of hHa⟩, ?_⟩
    refine ⟨fun k mm σ2 H2 => mm = hs.length - k ∧ k ≤ hs.length ∧ ∃ ε2, Rel X.K H0 L (LL.put i [a]) ε2 σ2 H2 ∧ Kp (LL.put i [a]) (LL.put i [a]) H H2 ∧ (∀ (j : Nat) (e : Dat), ε2[j]? = some (some (true, e)) → (ε.set i (some (true, .lst true hs)))[j]? = some (some (true, e))) ∧
        (∀ c, c ∈ LL.ρ i → c ≠ a → ∀ ws, H c = some (.lst ws) → ws.length ≤ N → ∃ ws', H2 c = some (.lst ws') ∧ ws'.length ≤ N + k) ∧ H2 a = some (.lst vs) ∧ σ2.length = σ.length ∧ (rgL jy gs f (hs.drop k) ε2).to (OutP X.K H0 L (LL.put i [a]) H2 D) (XS X.mg W H0),
      ⟨hs.length, by simp, Nat.zero_le _, _, r1, .refl, fun j e z => z, fun c _ _ ws g1 g2 => ⟨ws, g1, by omega⟩, hHa, rfl, hh.imp (fun o _ z => z.mono k1) fun n z => z⟩, ?_⟩
    rintro k mm σ2 H2 ⟨rfl, hk, ε2, r2, k2, he2, hC, ha2, hl2, hz⟩
    by_cases hlt : k < hs.length
    · rw [List.drop_eq_getElem_cons hlt] at hz
      have hz : (gs (ε2.set jy (some (false, hs[k]))) >>= fun o => match o with
        | some d => Rs.ok (.rt d)
        | none => f (ε2.set jy (some (false, hs[k]))) >>= fun _ => rgL jy gs f (hs.drop (k + 1)) (ε2.set jy (some (false, hs[k])))).to (OutP X.K H0 L (LL.put i [a]) H2 D) (XS X.mg W H0) := hz
      rw [Rs.to_bind] at hz
      obtain ⟨v', hv', qk⟩ := qh.get (List.getElem?_eq_getElem hlt)
      obtain ⟨p, us, c, rfl, hpt, hpl2, hat, hcF, hca, ws0, hws0, hws1⟩ := rows k v' hv'
      refine .inr ⟨⟨vs, _, .of ha2, hv'⟩, fun σ' H' => ∃ ε2, Rel X.K H0 L (LL.put i [a]) ε2 σ' H' ∧ Kp (LL.put i [a]) (LL.put i [a]) H H' ∧ (∀ (j : Nat) (e : Dat), ε2[j]? = some (some (true, e)) → (ε.set i (some (true, .lst true hs)))[j]? = some (some (true, e))) ∧
        (∀ c, c ∈ LL.ρ i → c ≠ a → ∀ ws, H c = some (.lst ws) → ws.length ≤ N → ∃ ws', H' c = some (.lst ws') ∧ ws'.length ≤ N + (k + 1)) ∧ H' a = some (.lst vs) ∧ σ'.length = σ.length ∧ (rgL jy gs f (hs.drop (k + 1)) ε2).to (OutP X.K H0 L (LL.put i [a]) H' D) (XS X.mg W H0),
        fun σ' H' z => ⟨hs.length - (k + 1), by omega, rfl, hlt, z⟩, fun x H3 ⟨eH, y2⟩ => ?_⟩
      have e1 := y2 _ (.of ha2)
      rw [hv'] at e1
      cases e1
      subst eH
      have ly : jy < σ2.length := by rw [hl2, hlen]; exact lt_of_get hiy
      have r3 := r2.setv (i := jy) ly (qk.kp k2 fun _ z => z)
      have he3 : ∀ (j : Nat) (e : Dat), (ε2.set jy (some (false, hs[k])))[j]? = some (some (true, e)) → (ε.set i (some (true, .lst true hs)))[j]? = some (some (true, e)) := fun j e z => by
        rcases get_set _ _ _ _ _ z with ⟨_, _, z⟩ | ⟨_, z⟩
        · cases z
        · exact he2 j e z
      refine ⟨_, _, r3, hz.imp (fun o _ ho => ?_) fun n z => z⟩
      cases o with
      | some d => exact ho
      | none =>
        intro H6 s6
        have ho : (f (ε2.set jy (some (false, hs[k]))) >>= fun _ => rgL jy gs f (hs.drop (k + 1)) (ε2.set jy (some (false, hs[k])))).to (OutP X.K H0 L (LL.put i [a]) H3 D) (XS X.mg W H0) := ho
        rw [Rs.to_bind] at ho
        have r6 := r3.mono s6
        refine ⟨.ref p, set_get ly, _, _, r6, fun w H7 s7 q7 => ?_⟩
        have q7 : w = .int n := q7
        subst q7
        have r7 := r6.mono s7
        have hp7 : H7 p = some (.tup us) := s7 _ _ (s6 _ _ (k2.k p _ hpl2 hpt).2)
        obtain ⟨ws2, hc2, hl3⟩ := hC c hcF hca ws0 hws0 hws1
        have hc7 : H7 c = some (.lst ws2) := s7 _ _ (s6 _ _ hc2)
        refine .inr (.inl ⟨p, us, n, .ref c, rfl, rfl, .of hp7, hat, .inl ⟨rfl, ws2, .of hc7⟩, _, _, r7, ho.imp (fun x _ hx u H8 s8 qx => ?_) fun n z => z.w r7.same⟩)
        have r8 := r7.mono s8
        have hc8 : H8 c = some (.lst ws2) := s8 _ _ hc7
        have ss : Same H3 H8 := s6.trans (s7.trans s8)
        obtain ⟨r9, k9⟩ := r8.havoc (c := c) (ws' := ws2 ++ [u]) (.inl (hF c hcF).1) (hF c hcF).2.2 hc8 fun j e z => out c hcF hca j e (he3 j e z)
        have kk := (Kp.same ss).trans k9
        have hdl : hs.length = ds.length := hvs_len hhs
        refine ⟨c, ws2, u, rfl, rfl, hc8, by omega, _, r9, k2.trans kk, he3, fun c' g1 g2 ws g3 g4 => ?_, ?_, by rw [List.length_set]; exact hl2, hx.imp (fun o _ z => z.mono kk) fun n z => z⟩
        · obtain ⟨ws', g5, g6⟩ := hC c' g1 g2 ws g3 g4
          by_cases hcc : c' = c
          · subst hcc
            rw [hc2] at g5
            cases g5
            exact ⟨_, upd_same, by simp; omega⟩
          · exact ⟨ws', by rw [upd_ne hcc]; exact ss _ _ g5, by omega⟩
        · rw [upd_ne (Ne.symm hca)]; exact ss _ _ ha2
    · have e : k = hs.length := by omega
      subst e
      rw [List.drop_length] at hz
      exact .inl ⟨⟨vs, .of ha2, by omega⟩, hz _ _ _ (r2.fgt jy) .refl⟩
end
end DL

set_option maxRecDepth 100000
set_option maxHeartbeats 4000000
/-! DLu: a call that a dict of one's own is lent to. -/
namespace DL
open PySem PySem.Spec PyProof.Rows L2
/-- slot i's dict is locked while the def runs -/
noncomputable def callL (i n : Nat) (F : List Dat → Rs Dat) (fa : DEnv → Rs (List Dat)) (ε : DEnv) : Rs Dat := chk (fzK i ε) (fa (fz i ε) >>= fun ds => chk (ds.length == n) (F (olds ds) >>= fun d => chk (fresh d) (.ok d))).nox
section
variable {X : Cx} {W : WX} {H0 : Hp} {L : Lp} {LL : Lk} {m : Bool} {e : Expr} {es : List Expr} {pos p : Pos} {fa : DEnv → Rs (List Dat)} {x : Str} {n k j : Nat} {F : List Dat → Rs Dat}
theorem mut_tup {u : HO} {xs : List V} (h : Mut (some u)) : u ≠ .tup xs := fun z => by rw [z] at h; exact h
theorem dcallL (i : Nat) (G : DefOk X.prog X.w X.K X.mg X.base x n k F) (hr : Room j X.A) (hkj : k ≤ j) (tk : Takes X W) (ha : DA true X W H0 L (e :: es) fa) (hg : Gl X x := by rfl) (hdb : (x == ("__debug__" : Str)) = false := by decide) (he : starEach (e :: es) X.env = (false, eval e X.env) :: starEach es X.env := by rfl) (hpl : (backTo pos (starEach es X.env)).any (·.1) = false := by rfl) :
    DE m X W H0 L (.Call (.Name x p) (e :: es) [] pos) (callL i n F fa) := by
  obtain ⟨f, fd, ps, a, hm, c, d⟩ := G.ex
  exact peimp (pe_lock (pe_callSD a (hr.mono hkj) hg hm c d .nil (fun σ => passAt tk σ) ha hdb he hpl)) fun σ H Q ⟨ε, LL, r, h⟩ => by
    unfold callL at h
    obtain ⟨ho, h⟩ := chk_to h
    have h := nox_to (E' := fun _ => False) h
    obtain ⟨a, u, L2, hu, mu, hq⟩ := r.frzL i ho
    refine ⟨a, u, hu, mu, fun od => ?_⟩
    obtain ⟨r2, k2⟩ := hq od
    have hLa : LL a := Classical.byContradiction fun n => by
      have := (k2.k a u n hu).2
      rw [upd_same] at this
      have e := Option.some.inj this
      rw [← e] at mu
      exact mu
    rw [Rs.to_bind] at h
    refine ⟨fz i ε, L2, r2, h.imp (fun ds _ hd vs H1 s1 q => ?_) fun n z => z.elim⟩
    obtain ⟨hl, hd⟩ := chk_to hd
    rw [Rs.to_bind] at hd
    have r3 := r2.mono s1
    rw [List.append_nil]
    have q1 := den_pair q
    have hlen : ds.length = n := by simpa using hl
    refine ⟨by rw [← q1.length]; exact hlen, _, olds ds, r3.mu, q1.of.olds, hd.imp (fun d _ z v H2 s2 dd => ?_) fun c z => z.elim⟩
    obtain ⟨hfr, z⟩ := chk_to z
    have ha1 : H1 a = some (.frz od u) := s1 _ _ upd_same
    have ha2 : H2 a = some (.frz od u) := s2 _ _ ha1
    have hb1 : ∀ b o, b ≠ a → H b = some o → H1 b = some o := fun b o hb e => s1 _ _ (by rw [upd_ne hb]; exact e)
    have S : Same H (upd H2 a u) := fun b o e => by
      by_cases hb : b = a
      · rw [hb] at e ⊢; rw [upd_same, ← e, hu]
      · rw [upd_ne hb]; exact s2 _ _ (hb1 b o hb e)
    have dd1 : Den X.K H1 LL H2 d v := Den.fresh (LL := Lk.of L2.f) (L' := LL) (fun b hn hz => by
      obtain ⟨o, e, _⟩ := r.mu b hz
      by_cases hb : b = a
      · rw [hb, ha1] at hn; cases hn
      · rw [hb1 b o hb e] at hn; cases hn) (fun b xs _ ht hz => by
      obtain ⟨o, e, m⟩ := r.mu b hz
      by_cases hb : b = a
      · rw [hb, ha2] at ht; cases ht
      · rw [s2 _ _ (hb1 b o hb e)] at ht
        cases ht
        exact m) dd hfr
    have kp : Kp LL LL H2 (upd H2 a u) := ⟨fun b o n e => ⟨n, by rw [upd_ne (fun z => n (by rw [z]; exact hLa))]; exact e⟩, fun b ws e => ⟨ws, by rw [upd_ne (fun z => by rw [z, ha2] at e; cases e)]; exact e⟩⟩
    have dd2 : Den X.K H0 LL (upd H2 a u) d v := dd1.kp kp fun b hb => r3.good.fr b hb
    exact ⟨ha2, z v (upd H2 a u) S (Den.m r.good.sub dd2)⟩
end
end DL

set_option maxRecDepth 100000
set_option maxHeartbeats 4000000
/-! DLin: x in a list. -/
namespace DL
open PySem PySem.Spec PyProof.Rows L2
section
variable {K : PySem.W.Frag} {X : Cx} {W : WX} {H0 : Hp} {L : Lp} {m : Bool} {a b : Expr} {pos : Pos} {f g : DEnv → Rs Dat}
def strsOf : List Dat → Option (List Str)
  | [] => some []
  | .str s :: r => (strsOf r).map (s :: ·)
  | _ => none
theorem strs_of {H : Hp} {LL : Lk} : ∀ {es : List Dat} {ws : List Str} {vs : List V}, strsOf es = some ws → DenL K H0 LL H es vs → vs = ws.map V.str
  | [], _, _, h, d => by cases h; exact d
  | .str s :: r, ws, _, h, ⟨v, q, e, hv, t⟩ => by
    have h : (strsOf r).map (s :: ·) = some ws := h
    cases hr : strsOf r with
    | none => rw [hr] at h; cases h
    | some zs =>
      rw [hr] at h
      cases h
      have hv : v = .str s := hv
      rw [e, hv, strs_of hr t]
      rfl
  | .non :: _, _, _, h, _ => by cases h
  | .bl _ :: _, _, _, h, _ => by cases h
  | .int _ :: _, _, _, h, _ => by cases h
  | .tup _ :: _, _, _, h, _ => by cases h
  | .lst _ _ :: _, _, _, h, _ => by cases h
  | .dK _ _ :: _, _, _, h, _ => by cases h
  | .dT _ _ :: _, _, _, h, _ => by cases h
  | .scr _ :: _, _, _, h, _ => by cases h
  | .cst _ :: _, _, _, h, _ => by cases h
  | .exn _ :: _, _, _, h, _ => by cases h
  | .hvl :: _, _, _, h, _ => by cases h
  | .cel _ :: _, _, _, h, _ => by cases h
  | .als _ _ :: _, _, _, h, _ => by cases h
  | .dN _ :: _, _, _, h, _ => by cases h
  | .reg _ :: _, _, _, h, _ => by cases h
theorem in_strs (s : Str) : ∀ ws : List Str, inV (.str s) (ws.map V.str) = ws.any fun w => decide (w = s)
  | [] => rfl
  | w :: ws => by
    show (eqV (.str w) (.str s) || inV (.str s) (ws.map V.str)) = _
    rw [in_strs s ws]
    congr 1
theorem flat_strs : ∀ ws : List Str, (ws.map V.str).all flatV = true
  | [] => rfl
  | w :: ws => by show (flatV (.str w) && (ws.map V.str).all flatV) = true; rw [flat_strs ws]; rfl
def inT : Dat → Option (List Str) → Option Dat
  | .str s, some ws => some (.bl (ws.any fun w => decide (w = s)))
  | _, _ => none
def dIn (d : Dat) : Dat → Option Dat
  | .tup es => inT d (strsOf es)
  | .cst ss => inT d (some ss)
  | .lst t es => if (SeqAt.shaped (toP d) && SeqAt.shaped (toP (.lst t es))) = true then some (.bl (es.any fun e => deq e d)) else none
  | _ => none
def ninT : Dat → Option (List Str) → Option Dat
  | .str s, some ws => some (.bl (!ws.any fun w => decide (w = s)))
  | _, _ => none
def dNin (d : Dat) : Dat → Option Dat
  | .tup es => ninT d (strsOf es)
  | .cst ss => ninT d (some ss)
  | .lst t es => if (SeqAt.shaped (toP d) && SeqAt.shaped (toP (.lst t es))) = true then some (.bl (!es.any fun e => deq e d)) else none
  | _ => none
theorem any_toPs (d : Dat) : ∀ es : List Dat, ((toPs es).any fun z => PyData.eqv z (toP d)) = es.any fun e => deq e d
  | [] => rfl
  | e :: es => by
    show (PyData.eqv (toP e) (toP d) || (toPs es).any fun z => PyData.eqv z (toP d)) = _
    rw [any_toPs d es]
    rfl
theorem opd_in : OpD K (fun x y H Q => rInD K x y H Q ∨ rIn K false x y H Q) dIn := by
  intro H0 L LL H x y d e z Q gd hx hy hz hq
  cases e with
  | lst t es =>
    have hz : (if (SeqAt.shaped (toP d) && SeqAt.shaped (toP (.lst t es))) = true then some (Dat.bl (es.any fun e => deq e d)) else none) = some z := hz
    split at hz
    · rename_i hc
      cases hz
      rw [Bool.and_eq_true] at hc
      exact .inl ⟨_, toPs es, dp_ofS gd hx (SeqAt.canLay_of_shaped hc.1), dp_ofS gd hy (SeqAt.canLay_of_shaped hc.2), hc.1, hc.2, by rw [any_toPs]; exact hq _ _ (Same.refl _) rfl⟩
    · cases hz
  | tup es =>
    have hz : inT d (strsOf es) = some z := hz
    cases hws : strsOf es with
    | none => rw [hws] at hz; cases d <;> cases hz
    | some ws =>
      rw [hws] at hz
      cases d with
      | str s =>
        cases hz
        obtain ⟨a, vs, rfl, t, q⟩ := hy
        have hx : x = .str s := hx
        have hv := strs_of hws q
        subst hv
        subst hx
        exact .inr ⟨a, _, rfl, .inr t.sq, rfl, flat_strs ws, by rw [if_neg Bool.false_ne_true, in_strs]; exact hq _ _ (Same.refl _) rfl⟩
      | _ => cases hz
  | cst ws =>
    have hz : inT d (some ws) = some z := hz
    cases d with
    | str s =>
      cases hz
      obtain ⟨a, rfl, t⟩ := hy
      have hx : x = .str s := hx
      subst hx
      exact .inr ⟨a, _, rfl, .inr (cst_sq t), rfl, flat_strs ws, by rw [if_neg Bool.false_ne_true, in_strs]; exact hq _ _ (Same.refl _) rfl⟩
    | _ => cases hz
  | _ => cases hz
theorem opd_nin : OpD K (fun x y H Q => rNotInD K x y H Q ∨ rIn K true x y H Q) dNin := by
  intro H0 L LL H x y d e z Q gd hx hy hz hq
  cases e with
  | tup es =>
    have hz : ninT d (strsOf es) = some z := hz
    cases hws : strsOf es with
    | none => rw [hws] at hz; cases d <;> cases hz
    | some ws =>
      rw [hws] at hz
      cases d with
      | str s =>
        cases hz
        obtain ⟨a, vs, rfl, t, q⟩ := hy
        have hx : x = .str s := hx
        have hv := strs_of hws q
        subst hv
        subst hx
        exact .inr ⟨a, _, rfl, .inr t.sq, rfl, flat_strs ws, by rw [if_pos rfl, in_strs]; exact hq _ _ (Same.refl _) rfl⟩
      | _ => cases hz
  | cst ws =>
    have hz : ninT d (some ws) = some z := hz
    cases d with
    | str s =>
      cases hz
      obtain ⟨a, rfl, t⟩ := hy
      have hx : x = .str s := hx
      subst hx
      exact .inr ⟨a, _, rfl, .inr (cst_sq t), rfl, flat_strs ws, by rw [if_pos rfl, in_strs]; exact hq _ _ (Same.refl _) rfl⟩
    | _ => cases hz
  | lst t es =>
    have hz : (if (SeqAt.shaped (toP d) && SeqAt.shaped (toP (.lst t es))) = true then some (Dat.bl (!es.any fun e => deq e d)) else none) = some z := hz
    split at hz
    · rename_i hc
      cases hz
      rw [Bool.and_eq_true] at hc
      exact .inl ⟨_, toPs es, dp_ofS gd hx (SeqAt.canLay_of_shaped hc.1), dp_ofS gd hy (SeqAt.canLay_of_shaped hc.2), hc.1, hc.2, by rw [any_toPs]; exact hq _ _ (Same.refl _) rfl⟩
    · cases hz
  | _ => cases hz
theorem de_in {j : Nat} (hr : Room j X.A) (ha : DE false X W H0 L a f) (hb : DE false X W H0 L b g) (h1 : behindInMarks .In b = false := by first | exact nobehind _ (by decide) (by decide) | rfl) : DE m X W H0 L (.Compare a [.In] [b] pos) (bop dIn f g) := de_cmp ((op_inD (by have := hr.un; omega)).or op_in_seq) opd_in ha hb h1
theorem dt_in {j : Nat} (hr : Room j X.A) (ha : DE false X W H0 L a f) (hb : DE false X W H0 L b g) (h1 : behindInMarks .In b = false := by first | exact nobehind _ (by decide) (by decide) | rfl) : DT X W H0 L (.Compare a [.In] [b] pos) (tst (bop dIn f g)) := dt_cmp ((op_inD (by have := hr.un; omega)).or op_in_seq) opd_in ha hb h1
theorem de_notIn {j : Nat} (hr : Room j X.A) (ha : DE false X W H0 L a f) (hb : DE false X W H0 L b g) (h1 : behindInMarks .NotIn b = false := by first | exact nobehind _ (by decide) (by decide) | rfl) : DE m X W H0 L (.Compare a [.NotIn] [b] pos) (bop dNin f g) := de_cmp ((op_notInD (by have := hr.un; omega)).or op_notIn_seq) opd_nin ha hb h1
theorem dt_notIn {j : Nat} (hr : Room j X.A) (ha : DE false X W H0 L a f) (hb : DE false X W H0 L b g) (h1 : behindInMarks .NotIn b = false := by first | exact nobehind _ (by decide) (by decide) | rfl) : DT X W H0 L (.Compare a [.NotIn] [b] pos) (tst (bop dNin f g)) := dt_cmp ((op_notInD (by have := hr.un; omega)).or op_notIn_seq) opd_nin ha hb h1
end
end DL

set_option maxRecDepth 100000
set_option maxHeartbeats 4000000
/-! DLkl: for y in x.keys(): the parts of x are written. x is locked for good ahead of it. -/
namespace DL
open PySem PySem.Spec PyProof.Rows L2
/-- G: the heap as it would be without the lock -/
structure GI (K : PySem.W.Frag) (H0 : Hp) (L : Lp) (i : Nat) (a : Addr) (u : HO) (LL : Lk) (ε : DEnv) (σ : L2.St) (G : Hp) : Prop where
  r : Rel K H0 L LL ε σ G
  e : ∃ ks ds, ε[i]? = some (some (true, .cel (.dT ks ds))) ∧ lons ds = true
  v : σ[i]? = some (some (V.ref a))
  u : G a = some u
section
variable {X : Cx} {W : WX} {H0 : Hp} {L : Lp} {LL : Lk} {m : Bool} {a b c e : Expr} {es : List Expr} {pos p p2 : Pos} {f g f1 fk fv : DEnv → Rs Dat} {fa : DEnv → Rs (List Dat)} {fc : DEnv → Rs Bool} {rest body : List Stmt} {st : Stmt} {fs gs : DEnv → Rs Out} {t : TS}
variable {K : PySem.W.Frag} {mg : Str → Option Value} {σ : L2.St} {H G G' H' : Hp} {ε : DEnv} {i : Nat} {A : Addr} {od : Obj} {u : HO}
theorem GI.tr (g : GI K H0 L i A u LL ε σ G) : ∃ ks ds vs F, ε[i]? = some (some (true, .cel (.dT ks ds))) ∧ lons ds = true ∧ LL.ρ i = A :: F ∧ (LL.ρ i).Nodup ∧ u = .dT (ks.zip vs) ∧ ks.length = vs.length ∧ TrN K H0 LL G (.dT ks ds) (V.ref A) (LL.ρ i) ∧ ∀ b, b ∈ LL.ρ i → LL b ∧ ¬ L b ∧ H0 b = none := by
  obtain ⟨ks, ds, he, hl⟩ := g.e
  obtain ⟨v, hv, hF, q⟩ := g.r.own i _ he
  rw [g.v] at hv
  cases hv
  have q1 := q.1
  obtain ⟨a', vs, F, ea, eF, ha, hz, _⟩ := q1
  cases ea
  rw [g.u] at ha
  cases ha
  exact ⟨ks, ds, vs, F, he, hl, eF, q.2, rfl, hz, q.1, hF⟩
theorem GI.out (g : GI K H0 L i A u LL ε σ G) (od : Obj) : Rel K H0 L (LL.del (LL.ρ i)) (fz i ε) σ (upd G A (.frz od u)) ∧ Kp LL (LL.del (LL.ρ i)) G (upd G A (.frz od u)) := by
  obtain ⟨ks, ds, vs, F, he, hl, eF, nd, eu, hz, tr, hF⟩ := g.tr
  have hm : A ∈ LL.ρ i := by rw [eF]; exact List.mem_cons_self
  have own : OwnD K H0 LL G (.cel (.dT ks ds)) (V.ref A) (LL.ρ i) := ⟨tr, nd⟩
  obtain ⟨a', u', ea, _, hu', _, hn, dd⟩ := own.lock (fun b hb => (hF b hb).1) hl rfl
  cases ea
  rw [g.u] at hu'
  cases hu'
  have hfz : fz i ε = ε.set i (some (false, meltN (.dT ks ds))) := by unfold fz; rw [he]; rfl
  rw [hfz]
  exact g.r.frzW he g.v (.inr ⟨A, u, od, hm, g.u, hn, rfl⟩) (dd od)
theorem GI.mono (g : GI K H0 L i A u LL ε σ G) (s : Same (upd G A (.frz od u)) H') : GI K H0 L i A u LL ε σ (upd H' A u) ∧ upd (upd H' A u) A (.frz od u) = H' ∧ Same G (upd H' A u) := by
  have hA : H' A = some (.frz od u) := s _ _ upd_same
  have sm : Same G (upd H' A u) := fun b o e => by
    by_cases hb : b = A
    · rw [hb] at e ⊢; rw [upd_same, ← e, g.u]
    · rw [upd_ne hb]; exact s _ _ (by rw [upd_ne hb]; exact e)
  refine ⟨⟨g.r.mono sm, g.e, g.v, upd_same⟩, ?_, sm⟩
  rw [upd_upd]
  exact funext fun b => by
    by_cases hb : b = A
    · rw [hb, upd_same, hA]
    · rw [upd_ne hb]
def OutG (K : PySem.W.Frag) (H0 : Hp) (L : Lp) (i : Nat) (A : Addr) (od : Obj) (u : HO) (LL : Lk) (G : Hp) (D : Ends) : Out → Prop
  | .nx ε' => ∀ LL' σ' G', GI K H0 L i A u LL' ε' σ' G' → Kp LL LL' G G' → D.nx σ' (upd G' A (.frz od u))
  | _ => False
theorem OutG.mono {LL' : Lk} {D : Ends} {o : Out} (k : Kp LL LL' G G') (h : OutG K H0 L i A od u LL G D o) : OutG K H0 L i A od u LL' G' D o := by
  cases o with
  | nx ε => exact fun L2 σ' H2 r k2 => h L2 σ' H2 r (k.trans k2)
  | bk ε => exact h
  | ct ε => exact h
  | rt d => exact h
/-- a statement while x is locked -/
def tGD (_W : WX) (K : PySem.W.Frag) (H0 : Hp) (L : Lp) (i : Nat) (f : DEnv → Rs Out) : TS := fun D σ H => ∃ A od u G ε LL, H = upd G A (.frz od u) ∧ GI K H0 L i A u LL ε σ G ∧ (f ε).to (OutG K H0 L i A od u LL G D) (fun _ => False)
def gifD (i : Nat) (fc : DEnv → Rs Bool) (fs : DEnv → Rs Out) (ε : DEnv) : Rs Out := (fc (fz i ε)).nox >>= fun b => if b = true then fs ε else .ok (.nx ε)
theorem gs_if {ta : List Stmt} (hc : DT X W H0 L e fc) (ha : PSs X ta (tGD W X.K H0 L i fs)) : PS X (.If e ta [] pos) (tGD W X.K H0 L i (gifD i fc fs)) :=
  psimp (ps_if hc ha pss_nil) fun D σ H _ ⟨A, od, u, G, ε, LL, eH, g, h⟩ => by
    subst eH
    unfold gifD at h
    rw [Rs.to_bind] at h
    have h := nox_to (E' := XW X.mg W σ (upd G A (.frz od u))) (E := fun _ => False) h
    refine ⟨fz i ε, _, (g.out od).1, h.imp (fun b _ hb H' s => ?_) fun n z => z⟩
    obtain ⟨g', eH, s'⟩ := g.mono s
    cases b with
    | true => exact ⟨A, od, u, _, ε, LL, eH.symm, g', (show (fs ε).to _ _ from hb).imp (fun o _ z => z.mono (Kp.same s')) fun n z => z⟩
    | false =>
      have := (show OutG X.K H0 L i A od u LL G D (.nx ε) from hb) LL σ _ g' (.same s')
      rw [eH] at this
      exact this
theorem gs_one {st : Stmt} (h : PS X st (tGD W X.K H0 L i fs)) : PSs X [st] (tGD W X.K H0 L i fs) := pss_one h
/-- a name as a target; its slot is there -/
def tGN (j : Nat) : TG := fun v σ H Q => j < σ.length → Q (σ.set j (some v)) H
theorem gg_name (j : Nat) {z : Str} (hN : X.N.Nodup) (hi : X.N[j]? = some z) (hx : Loc X.env.scope z) (hf : X.fn z = true ∨ X.env.scope.names.lookup z = some .local) : PG X (.Name z pos) (tGN j) :=
  ⟨fun pins s σ H v u Q I r h => (pg_name hN hi hx hf).run pins s σ H v u Q I r (h (by rw [I.len]; exact lt_of_get hi))⟩
/-- turns; the name's slot is set -/
def gforD (jz : Nat) (fs : DEnv → Rs Out) : List Dat → DEnv → Rs Out
  | [], ε => .ok (.nx ε)
  | d :: r, ε => fs (ε.set jz (some (false, d))) >>= fun o => match o with
    | .nx ε' => gforD jz fs r ε'
    | _ => .no
theorem GI.setv (g : GI K H0 L i A u LL ε σ G) {j : Nat} {d : Dat} {v : V} (hj : j < σ.length) (hij : j ≠ i) (hd : Den K H0 LL G d v) : GI K H0 L i A u LL (ε.set j (some (false, d))) (σ.set j (some v)) G := by
  obtain ⟨ks, ds, he, hl⟩ := g.e
  exact ⟨g.r.setv hj hd, ⟨ks, ds, by rw [set_get_ne (Ne.symm hij)]; exact he, hl⟩, by rw [set_get_ne (Ne.symm hij)]; exact g.v, g.u⟩
noncomputable def grgD (i jz : Nat) (fa : DEnv → Rs (List Dat)) (fs : DEnv → Rs Out) (ε : DEnv) : Rs Out := (fa (fz i ε)).nox >>= fun vs => asR2 vs >>= fun ds => gforD jz fs ds ε
theorem gs_rng (jz : Nat) {z : Str} {pz pp pq : Pos} (hN : X.N.Nodup) (hc : X.calm = true) (hp : PassesOwn (model X.prog X.w) X.A X.env X.xe) (hm : X.mg "range" = none) (ha : DA false X W H0 L [a, b] fa) (hij : jz ≠ i) (hb : PSs X body (tGD W X.K H0 L i fs))
    (hi : X.N[jz]? = some z := by rfl) (hx : Loc X.env.scope z := by first | exact .inl rfl | exact .inr rfl) (hf : X.fn z = true ∨ X.env.scope.names.lookup z = some .local := by first | exact .inl rfl | exact .inr rfl | assumption)
    (hg : Gl X "range" := by rfl) (hs : starEach [a, b] X.env = [(false, eval a X.env), (false, eval b X.env)] := by rfl) (hs2 : starEach [b] X.env = [(false, eval b X.env)] := by rfl)
    (hfs : ∀ x, foldedSetIterable (.Call (.Name "range" pp) [a, b] [] pq) X.env x = pure x := by intro _; rfl) :
    PS X (.For (.Name z pz) (.Call (.Name "range" pp) [a, b] [] pq) body [] pos) (tGD W X.K H0 L i (grgD i jz fa fs)) :=
  psimp (ps_for hp hc (pi_range2 hg hm ha hs hs2) (gg_name jz hN hi hx hf) hb hfs) fun D σ H hlen ⟨A, od, u, G, ε, LL, eH, g, h⟩ => by
    subst eH
    unfold grgD at h
    rw [Rs.to_bind] at h
    have h := nox_to (E' := XW X.mg W σ (upd G A (.frz od u))) (E := fun _ => False) h
    refine ⟨fz i ε, _, (g.out od).1, h.imp (fun ds _ hd vs H1 s1 q => ?_) fun n z => z⟩
    obtain ⟨g1, eH1, s'⟩ := g.mono s1
    unfold asR2 at hd
    split at hd
    · rename_i lo hi2 _
      rw [Rs.to_bind] at hd
      obtain ⟨hz, hd⟩ := chk_to hd
      have hd : (gforD jz fs (rng lo (hi2 - lo).toNat) ε).to _ _ := hd
      rw [Bool.and_eq_true] at hz
      obtain ⟨v, w, rfl, q1, q2⟩ := pair2 q
      have q1 : v = _ := q1
      have q2 : w = _ := q2
      subst q1 q2
      refine ⟨_, _, rfl, ⟨(inR_ok hz.1).1, (inR_ok hz.1).2, (inR_ok hz.2).1, (inR_ok hz.2).2⟩, ?_⟩
      generalize (hi2 - lo).toNat = n at hd ⊢
      rw [← eH1]
      generalize upd H1 A u = G1 at g1 s' hd ⊢
      refine ⟨fun k mm σ2 H2 => mm = n - k ∧ k ≤ n ∧ ∃ G2 ε2 L2, H2 = upd G2 A (.frz od u) ∧ GI X.K H0 L i A u L2 ε2 σ2 G2 ∧ Kp LL L2 G G2 ∧ (gforD jz fs ((rng lo n).drop k) ε2).to (OutG X.K H0 L i A od u L2 G2 D) (fun _ => False),
        ⟨n, by simp, Nat.zero_le _, G1, ε, LL, rfl, g1, .same s', hd.imp (fun o _ z => z.mono (.same s')) fun n z => z⟩, ?_⟩
      rintro k mm σ2 H2 ⟨rfl, hk, G2, ε2, L2, eH2, g2, k2, hh⟩
      have hrl : (rng lo n).length = n := by simp [rng]
      by_cases hlt : k < n
      · have hdk : (rng lo n)[k]? = some (.int (lo + (k : Nat))) := by unfold rng; rw [List.getElem?_map, List.getElem?_range hlt]; rfl
        have hkl : k < (rng lo n).length := by rw [hrl]; exact hlt
        rw [List.drop_eq_getElem_cons hkl] at hh
        have he : (rng lo n)[k] = .int (lo + (k : Nat)) := by rw [List.getElem?_eq_getElem hkl] at hdk; exact Option.some.inj hdk
        rw [he] at hh
        unfold gforD at hh
        rw [Rs.to_bind] at hh
        refine .inr ⟨hlt, fun σ' H' => ∃ G2 ε2 L2, H' = upd G2 A (.frz od u) ∧ GI X.K H0 L i A u L2 ε2 σ' G2 ∧ Kp LL L2 G G2 ∧ (gforD jz fs ((rng lo n).drop (k + 1)) ε2).to (OutG X.K H0 L i A od u L2 G2 D) (fun _ => False),
          fun σ' H' z => ⟨n - (k + 1), by omega, rfl, hlt, z⟩, fun x H3 ⟨e3, ex⟩ lz => ?_⟩
        subst e3 ex
        have g3 := g2.setv (j := jz) (d := .int (lo + (k : Nat))) (v := .int (lo + (k : Nat))) lz hij rfl
        refine ⟨A, od, u, G2, _, L2, eH2, g3, hh.imp (fun o _ ho => ?_) fun n z => z⟩
        cases o with
        | nx ε' => exact fun L5 σ5 G5 g5 k5 => ⟨G5, ε', L5, rfl, g5, k2.trans k5, (show (gforD jz fs ((rng lo n).drop (k + 1)) ε').to _ _ from ho).imp (fun o _ z => z.mono k5) fun n z => z⟩
        | _ => exact ho.elim
      · have e : k = n := by omega
        subst e
        rw [List.drop_eq_nil_of_le (by rw [hrl]; exact Nat.le_refl _)] at hh
        rw [eH2]
        exact .inl ⟨Nat.le_refl _, hh L2 σ2 G2 g2 .refl⟩
    · exact hd.elim
theorem den_scal2 {H' : Hp} {LL LL' : Lk} {d : Dat} {v : V} (h : Den K H0 LL H d v) (hs : isS d = true) : Den K H0 LL' H' d v := by
  cases d <;> first | exact h | cases hs
theorem setAt_dT (ks : List (List Key)) (ds : List Dat) (n : Nat) (x : Dat) : ∃ ds', setAt (.dT ks ds) [n] x = .dT ks ds' := by
  unfold setAt
  split
  · rename_i a b h1 h2
    cases h1
    exact ⟨_, rfl⟩
  · exact ⟨_, rfl⟩
/-- x[y][z] = C -/
noncomputable def gstD (i : Nat) (f1 fk fv : DEnv → Rs Dat) (ε : DEnv) : Rs Out := (fv (fz i ε)).nox >>= fun x => (f1 (fz i ε)).nox >>= fun k1 => treeX i ε >>= fun d => Rs.of (stepK d k1) >>= fun n => Rs.of (listAt d [n]) >>= fun l =>
  (fk (fz i ε)).nox >>= fun k => asI k >>= fun z => Rs.of (ixN l.2.length z) >>= fun q => chk (isS x && scAt l.2 q && fzK i (ε.set i (some (true, .cel (setAt d [n] (.lst l.1 (l.2.set q x)))))))
    (.ok (.nx (ε.set i (some (true, .cel (setAt d [n] (.lst l.1 (l.2.set q x))))))))
theorem gs_st {jj : Nat} {x : Str} {px p1 p2 : Pos} (hr : Room jj X.A) (hx : PE X (.Name x px) (tVar i)) (h1e : DE false X W H0 L b f1) (hk : DE false X W H0 L a fk) (hv : DE true X W H0 L e fv) (hpl : NoSl b := by intro _ _; rfl)
    (h1 : PE X (.Subscript (.Name x px) b p1) (tDGet (tVar i) (tE false X.K X.mg W H0 L f1)) → PE X a (tE false X.K X.mg W H0 L fk) → PG X (.Subscript (.Subscript (.Name x px) b p1) a p2) (gSub (tDGet (tVar i) (tE false X.K X.mg W H0 L f1)) (tE false X.K X.mg W H0 L fk) rSetL))
    (hs : swapsWithSole [.Subscript (.Subscript (.Name x px) b p1) a p2] e pos.line X.env = pure false := by rfl) (hw : swappedStores [.Subscript (.Subscript (.Name x px) b p1) a p2] e X.env = pure none := by rfl)
    (h2 : (assignEach [.Subscript (.Subscript (.Name x px) b p1) a p2] X.env).map (·.2) = [assign (.Subscript (.Subscript (.Name x px) b p1) a p2) X.env] := by rfl) : PS X (.Assign [.Subscript (.Subscript (.Name x px) b p1) a p2] e pos) (tGD W X.K H0 L i (gstD i f1 fk fv)) :=
  psimp (ps_asg hv (h1 (pe_dget (by have := hr.units; omega) hx h1e hpl) hk) hs hw h2) fun D σ H _ ⟨A, od, u, G, ε, LL, eH, g, h⟩ => by
    subst eH
    unfold gstD at h
    rw [Rs.to_bind] at h
    have h := nox_to (E' := XW X.mg W σ (upd G A (.frz od u))) (E := fun _ => False) h
    refine ⟨fz i ε, _, (g.out od).1, h.imp (fun x _ hx w H1 s1 qx => ?_) fun n z => z⟩
    obtain ⟨g1, eH1, t1⟩ := g.mono s1
    rw [Rs.to_bind] at hx
    have hx := nox_to (E' := XW X.mg W σ H1) (E := fun _ => False) hx
    refine ⟨V.ref A, g1.v, ?_⟩
    have o1 := (g1.out od).1
    rw [eH1] at o1
    refine ⟨fz i ε, _, o1, hx.imp (fun k1 _ hk y H2 s2 qk => ?_) fun n z => z⟩
    rw [← eH1] at s2
    obtain ⟨g2, eH2, t2⟩ := g1.mono s2
    rw [Rs.to_bind] at hk
    obtain ⟨d, hed, hk⟩ := treeX_to hk
    rw [Rs.to_bind] at hk
    obtain ⟨n, hn, hk⟩ := Rs.to_of hk
    rw [Rs.to_bind] at hk
    obtain ⟨l, hl, hk⟩ := Rs.to_of hk
    rw [Rs.to_bind] at hk
    have hk := nox_to (E' := XW X.mg W σ H2) (E := fun _ => False) hk
    obtain ⟨ks, ds, vs, F, he, hlo, eF, nd, eu, hz, tr, hF⟩ := g2.tr
    rw [hed] at he
    cases he
    obtain ⟨b', G1, Fe, G2, eF2, adr, tn, rb⟩ := tr.focus [n] (listAt_some hl)
    have hA2 : H2 A = some (.frz od u) := by rw [← eH2, upd_same]
    have adr' := adr
    obtain ⟨a', o', w', ea, _, ho', hkv, ew, _⟩ := adr'
    cases ea
    rw [g2.u] at ho'
    cases ho'
    subst ew
    unfold stepK at hn
    cases q : keyT k1 with
    | none => rw [keyAt, q] at hn; cases hn
    | some k' =>
      rw [keyAt, q] at hn
      have hn : posL ks k' = some n := hn
      obtain ⟨b2, hy', hb⟩ := keyT_den qk q
      have hval : valV (ks.zip vs) k' = some (V.ref b') := by
        rw [val_zip, look_pos k' ks vs hz, hn]
        subst eu
        exact (kid_zip hz).symm.trans hkv
      subst eu
      refine ⟨A, V.ref b', rfl, .inr ⟨_, k', b2, .inr ⟨od, hA2⟩, hy', hb, hval.symm⟩, ?_⟩
      have o2 := (g2.out od).1
      rw [eH2] at o2
      refine ⟨fz i ε, _, o2, hk.imp (fun k _ hc z H3 s3 qz => ?_) fun n z => z⟩
      rw [← eH2] at s3
      obtain ⟨g3, eH3, t3⟩ := g2.mono s3
      rw [Rs.to_bind] at hc
      cases k with
      | int z0 =>
        have hc : (Rs.of (ixN l.2.length z0) >>= fun q => chk (isS x && scAt l.2 q && fzK i (ε.set i (some (true, .cel (setAt (.dT ks ds) [n] (.lst l.1 (l.2.set q x))))))) (.ok (.nx (ε.set i (some (true, .cel (setAt (.dT ks ds) [n] (.lst l.1 (l.2.set q x)))))))) : Rs Out).to _ _ := hc
        rw [Rs.to_bind] at hc
        obtain ⟨j, hj, hc⟩ := Rs.to_of hc
        obtain ⟨hcs, hc⟩ := chk_to hc
        rw [Bool.and_eq_true, Bool.and_eq_true] at hcs
        obtain ⟨⟨hx1, hx2⟩, hx3⟩ := hcs
        have qz : z = _ := qz
        subst qz
        have hA3 : H3 A = some (.frz od (.dT (ks.zip vs))) := by rw [← eH3, upd_same]
        have hw3 : Den X.K H0 LL (upd H3 A (.dT (ks.zip vs))) x w := den_scal2 qx hx1
        have adr3 : AddrIn (upd H3 A (.dT (ks.zip vs))) (LL.ρ i) (V.ref A) [n] b' := adr.mono fun c hc => ⟨hc, fun o ho => ⟨o, t3 _ _ ho, fun _ _ z => z⟩⟩
        obtain ⟨ws, hb3, hlen, r4, k4⟩ := g3.r.nodeSet hed g3.v (listAt_some hl) hw3 adr3 hx2
        have hbA : b' ≠ A := fun z => by rw [z, upd_same] at hb3; cases hb3
        refine ⟨b', ws, z0, j, rfl, rfl, by rw [← hb3, upd_ne hbA], by rw [hlen]; exact hj, ?_⟩
        have hc := (show OutG X.K H0 L i A od (.dT (ks.zip vs)) LL G D (.nx (ε.set i (some (true, .cel (setAt (.dT ks ds) [n] (.lst l.1 (l.2.set j x))))))) from hc) (LL.put i (LL.ρ i)) σ _ ⟨r4, ?_, g3.v, by rw [upd_ne (Ne.symm hbA)]; exact upd_same⟩ ((Kp.same (t1.trans (t2.trans t3))).trans k4)
        · have e : upd (upd (upd H3 A (.dT (ks.zip vs))) b' (.lst (ws.set j w))) A (.frz od (.dT (ks.zip vs))) = upd H3 b' (.lst (ws.set j w)) := funext fun c => by
            by_cases h1 : c = A
            · rw [h1, upd_same, upd_ne (Ne.symm hbA), hA3]
            · rw [upd_ne h1]
              by_cases h2 : c = b'
              · rw [h2, upd_same, upd_same]
              · rw [upd_ne h2, upd_ne h1, upd_ne h2]
          rw [e] at hc
          exact hc
        · have hil : i < ε.length := lt_of_get hed
          obtain ⟨ds', e⟩ := setAt_dT ks ds n (.lst l.1 (l.2.set j x))
          rw [e] at hx3 ⊢
          refine ⟨ks, ds', set_get hil, ?_⟩
          unfold fzK at hx3
          rw [set_get hil] at hx3
          exact hx3
      | _ => exact hc.elim
/-- for y in x.keys() -/
def gkeD (i jy : Nat) (fs : DEnv → Rs Out) (ε : DEnv) : Rs Out := treeX i ε >>= fun d => match d with
  | .dT ks _ => gforD jy fs (ks.map kDs) ε
  | _ => .no
theorem gs_keys (jy : Nat) {y x : Str} {py px apos cpos : Pos} (hN : X.N.Nodup) (hc : X.calm = true) (hp : PassesOwn (model X.prog X.w) X.A X.env X.xe) (hx : PE X (.Name x px) (tVar i)) (hij : jy ≠ i) (hb : PSs X body (tGD W X.K H0 L i fs))
    (hi : X.N[jy]? = some y := by rfl) (hxy : Loc X.env.scope y := by first | exact .inl rfl | exact .inr rfl) (hf : X.fn y = true ∨ X.env.scope.names.lookup y = some .local := by first | exact .inl rfl | exact .inr rfl | assumption)
    (hbase : attributeBase (.Name x px) "keys" X.env (eval (.Name x px) X.env) = eval (.Name x px) X.env := by rfl) (hline : (apos.endLine == cpos.line) = true := by rfl)
    (hfs : ∀ z, foldedSetIterable (.Call (.Attribute (.Name x px) "keys" apos) [] [] cpos) X.env z = pure z := by intro _; rfl) :
    PS X (.For (.Name y py) (.Call (.Attribute (.Name x px) "keys" apos) [] [] cpos) body [] pos) (tGD W X.K H0 L i (gkeD i jy fs)) :=
  psimp (ps_for hp hc (pi_keysG hx hbase hline) (gg_name jy hN hi hxy hf) hb hfs) fun D σ H hlen ⟨A, od, u, G, ε, LL, eH, g, h⟩ => by
    subst eH
    unfold gkeD at h
    rw [Rs.to_bind] at h
    obtain ⟨d, hed, h⟩ := treeX_to h
    obtain ⟨ks, ds, vs, F, he, hlo, eF, nd, eu, hz, tr, hF⟩ := g.tr
    rw [hed] at he
    cases he
    subst eu
    have h : (gforD jy fs (ks.map kDs) ε).to _ _ := h
    refine ⟨V.ref A, g.v, A, od, rfl, .inr ⟨_, upd_same, ?_⟩⟩
    have hzl : (ks.zip vs).length = ks.length := by rw [List.length_zip, ← hz, Nat.min_self]
    refine ⟨fun k mm σ2 H2 => mm = ks.length - k ∧ k ≤ ks.length ∧ ∃ G2 ε2 L2, H2 = upd G2 A (.frz od (.dT (ks.zip vs))) ∧ GI X.K H0 L i A (.dT (ks.zip vs)) L2 ε2 σ2 G2 ∧ Kp LL L2 G G2 ∧ (gforD jy fs ((ks.map kDs).drop k) ε2).to (OutG X.K H0 L i A od (.dT (ks.zip vs)) L2 G2 D) (fun _ => False),
      ⟨ks.length, by simp, Nat.zero_le _, G, ε, LL, rfl, g, .refl, h⟩, ?_⟩
    rintro k mm σ2 H2 ⟨rfl, hk, G2, ε2, L2, eH2, g2, k2, hh⟩
    have hrl : (ks.map kDs).length = ks.length := List.length_map _
    have hA : H2 A = some (.frz od (.dT (ks.zip vs))) := by rw [eH2, upd_same]
    by_cases hlt : k < ks.length
    · have hkl : k < (ks.map kDs).length := by rw [hrl]; exact hlt
      rw [List.drop_eq_getElem_cons hkl] at hh
      have he : (ks.map kDs)[k] = kDs ks[k] := List.getElem_map _
      rw [he] at hh
      unfold gforD at hh
      rw [Rs.to_bind] at hh
      refine .inr ⟨⟨hA, by rw [hzl]; exact hlt⟩, fun σ' H' => ∃ G2 ε2 L2, H' = upd G2 A (.frz od (.dT (ks.zip vs))) ∧ GI X.K H0 L i A (.dT (ks.zip vs)) L2 ε2 σ' G2 ∧ Kp LL L2 G G2 ∧ (gforD jy fs ((ks.map kDs).drop (k + 1)) ε2).to (OutG X.K H0 L i A od (.dT (ks.zip vs)) L2 G2 D) (fun _ => False),
        fun σ' H' z => ⟨ks.length - (k + 1), by omega, rfl, hlt, z⟩, fun x H3 ⟨e3, kk, v, q, hkk, ex, hq⟩ lz => ?_⟩
      subst e3 ex
      rw [List.getElem?_zip_eq_some] at hkk
      have : kk = ks[k] := by rw [List.getElem?_eq_getElem hlt] at hkk; exact (Option.some.inj hkk.1).symm
      subst this
      have hqA : q ≠ A := fun z => by rw [z, hA] at hq; cases hq
      have hqG : G2 q = some (.tup (ks[k].map kV)) := by rw [eH2, upd_ne hqA] at hq; exact hq
      have g3 := g2.setv (j := jy) (d := kDs ks[k]) (v := .ref q) lz hij (kDs_den hqG g2.r.mu)
      refine ⟨A, od, _, G2, _, L2, eH2, g3, hh.imp (fun o _ ho => ?_) fun n z => z⟩
      cases o with
      | nx ε' => exact fun L5 σ5 G5 g5 k5 => ⟨G5, ε', L5, rfl, g5, k2.trans k5, (show (gforD jy fs ((ks.map kDs).drop (k + 1)) ε').to _ _ from ho).imp (fun o _ z => z.mono k5) fun n z => z⟩
      | _ => exact ho.elim
    · have e : k = ks.length := by omega
      subst e
      rw [List.drop_eq_nil_of_le (by rw [hrl]; exact Nat.le_refl _)] at hh
      rw [eH2] at hA ⊢
      exact .inl ⟨⟨hA, by rw [hzl]; exact Nat.le_refl _⟩, hh L2 σ2 G2 g2 .refl⟩
/-- the lock, then the rest -/
def isT (i : Nat) (ε : DEnv) : Bool := match ε[i]? with
  | some (some (true, .cel (.dT _ ds))) => lons ds
  | _ => false
def lkD (i : Nat) (fs gs : DEnv → Rs Out) (ε : DEnv) : Rs Out := chk (isT i ε) ((fs ε).nox >>= fun o => match o with
  | .nx ε' => gs (fz i ε')
  | _ => .no)
theorem ds_lk {st : Stmt} (i : Nat) (h1 : PS X st (tGD W X.K H0 L i fs)) (h2 : DSs X W H0 L rest gs) : DSs X W H0 L (st :: rest) (lkD i fs gs) :=
  pssimp (pss_lockG (pss_cons h1 h2)) fun D σ H ⟨ε, LL, r, h⟩ => by
    unfold lkD at h
    obtain ⟨hi, h⟩ := chk_to h
    unfold isT at hi
    split at hi
    · rename_i ks ds he
      obtain ⟨v, hv, hF, q⟩ := r.own i _ he
      have q1 := q.1
      obtain ⟨A, vs, F, rfl, eF, hA, hz, _⟩ := q1
      rw [Rs.to_bind] at h
      have h := nox_to (E' := fun _ => False) h
      refine ⟨A, _, hA, trivial, fun od => ⟨A, od, _, H, ε, LL, rfl, ⟨r, ⟨ks, ds, he, hi⟩, hv, hA⟩, h.imp (fun o _ ho => ?_) fun n z => z⟩⟩
      cases o with
      | nx ε' =>
        intro L2 σ2 G2 g2 k2
        obtain ⟨r3, k3⟩ := g2.out od
        exact ⟨_, _, r3, (show (gs (fz i ε')).to _ _ from ho).imp (fun o _ z => z.mono (k2.trans k3)) fun n z => z⟩
      | _ => exact ho.elim
    · cases hi
end
end DL

set_option maxRecDepth 100000
set_option maxHeartbeats 4000000
/-! DLtx: texts: join, int(..), str(..); list(range(..)). -/
namespace DL
open PySem PySem.Spec PyProof.Rows L2
section
variable {X : Cx} {W : WX} {H0 : Hp} {L : Lp} {LL : Lk} {m : Bool} {a b c e o : Expr} {es : List Expr} {pos p p2 apos : Pos} {f g : DEnv → Rs Dat} {fa : DEnv → Rs (List Dat)}
variable {K : PySem.W.Frag} {mg : Str → Option Value} {σ : L2.St} {H : Hp} {ε : DEnv}
noncomputable def dInt : List Dat → Option Dat
  | [.int i] => some (.int i)
  | [.bl k] => some (.int (if k then 1 else 0))
  | [.str z] => if cls (z.length ≤ 640) = true then (PySem.intText? z).map .int else none
  | _ => none
theorem opl_int : OpL K (fun xs H Q => ((∃ i, xs = [.int i] ∧ Q (.int i) H) ∨ ∃ k, xs = [.bl k] ∧ Q (.int (if k then 1 else 0)) H) ∨ (∃ a n, xs = [.str a] ∧ PySem.intText? a = some n ∧ a.length ≤ 640 ∧ Q (.int n) H)) dInt := by
  intro H0 L LL H vs ds z Q gd hp hz hq
  unfold dInt at hz
  split at hz
  · obtain ⟨v, rfl, hv⟩ := pair1 hp
    cases hz
    exact .inl (.inl ⟨_, by rw [show v = V.int _ from hv], hq _ _ (Same.refl _) rfl⟩)
  · obtain ⟨v, rfl, hv⟩ := pair1 hp
    cases hz
    exact .inl (.inr ⟨_, by rw [show v = V.bl _ from hv], hq _ _ (Same.refl _) rfl⟩)
  · split at hz
    · rename_i hs
      obtain ⟨v, rfl, hv⟩ := pair1 hp
      obtain ⟨n, hn, rfl⟩ := Option.map_eq_some_iff.mp hz
      exact .inr ⟨_, n, by rw [show v = V.str _ from hv], hn, cls_ok hs, hq _ _ (Same.refl _) rfl⟩
    · cases hz
  · cases hz
theorem de_int_ (hm : X.mg "int" = none) (ha : DA false X W H0 L (e :: es) fa) (hg : Gl X "int" := by rfl)
    (he : starEach (e :: es) X.env = (false, eval e X.env) :: starEach es X.env := by rfl) (hpl : (backTo pos (starEach es X.env)).any (·.1) = false := by rfl) : DE m X W H0 L (.Call (.Name "int" p) (e :: es) [] pos) (biD dInt fa) :=
  de_ty (call_int1.or call_int_str) opl_int hm (by decide +kernel) ha hg (by decide) (by decide) he hpl
noncomputable def dStr : List Dat → Option Dat
  | [.int i] => if cls (i.natAbs.log2 < 1920) = true then some (.str (toString i)) else none
  | [.str a] => some (.str a)
  | _ => none
theorem opl_str : OpL K (fun xs H Q => (∃ i, xs = [.int i] ∧ i.natAbs.log2 < 1920 ∧ Q (.str (toString i)) H) ∨ (∃ a, xs = [.str a] ∧ Q (.str a) H)) dStr := by
  intro H0 L LL H vs ds z Q gd hp hz hq
  unfold dStr at hz
  split at hz
  · split at hz
    · rename_i hs
      obtain ⟨v, rfl, hv⟩ := pair1 hp
      cases hz
      exact .inl ⟨_, by rw [show v = V.int _ from hv], cls_ok hs, hq _ _ (Same.refl _) rfl⟩
    · cases hz
  · obtain ⟨v, rfl, hv⟩ := pair1 hp
    cases hz
    exact .inr ⟨_, by rw [show v = V.str _ from hv], hq _ _ (Same.refl _) rfl⟩
  · cases hz
theorem de_str_ (hm : X.mg "str" = none) (ha : DA false X W H0 L (e :: es) fa) (hg : Gl X "str" := by rfl)
    (he : starEach (e :: es) X.env = (false, eval e X.env) :: starEach es X.env := by rfl) (hpl : (backTo pos (starEach es X.env)).any (·.1) = false := by rfl) : DE m X W H0 L (.Call (.Name "str" p) (e :: es) [] pos) (biD dStr fa) :=
  de_ty (call_str_int.or SkE.call_str_str) opl_str hm (by decide +kernel) ha hg (by decide) (by decide) he hpl
/-! ### a comprehension in a comprehension -/
theorem look_relab {n : Str} (f : Str → NameKind → NameKind) (hf : ∀ m k, f m k = k ∨ (k = .free ∧ f m k = .cell)) : ∀ names : List (Str × NameKind), (names.lookup n = some .cell ∨ names.lookup n = some .free) →
    ((names.map fun q => (q.1, f q.1 q.2)).lookup n = some .cell ∨ (names.map fun q => (q.1, f q.1 q.2)).lookup n = some .free)
  | [], h => by simp at h
  | (m, k) :: r, h => by
    have ih := look_relab (n := n) f hf r
    simp only [List.map_cons, List.lookup_cons] at h ⊢
    cases hb : n == m with
    | true =>
      rw [hb] at h
      simp only at h ⊢
      rcases hf m k with e | ⟨e1, e2⟩
      · rw [e]; exact h
      · rw [e2]; exact .inl rfl
    | false =>
      rw [hb] at h
      exact ih h
theorem blkOk_in {N : List Str} {outer scope : Scope} {env : Env} {own : List (Str × Nat)} (h : blkC N outer scope own = true) : BlkOk N (relabel outer env) scope own := by
  have b := blkOk_by h
  refine ⟨b.kind, b.uniq, b.ix, fun y hy e => ?_, b.own⟩
  have := look_relab (n := y.1) (fun n k => if (k == NameKind.free && env.scope.kind == .function && env.kindOf n == some .cell) then NameKind.cell else k) (fun m k => by
    by_cases hk : (k == NameKind.free && env.scope.kind == .function && env.kindOf m == some .cell) = true
    · refine .inr ⟨?_, if_pos hk⟩
      rw [Bool.and_eq_true, Bool.and_eq_true] at hk
      have := hk.1.1
      cases k <;> first | rfl | cases this
    · exact .inl (if_neg hk)) outer.names (b.free y hy e)
  unfold relabel
  have e : (outer.names.map fun (n, k) => if (k == .free && env.scope.kind == .function && env.kindOf n == some .cell) then (n, NameKind.cell) else (n, k)) = outer.names.map fun q => (q.1, if (q.2 == NameKind.free && env.scope.kind == .function && env.kindOf q.1 == some .cell) then NameKind.cell else q.2) :=
    List.map_congr_left fun q _ => by
      obtain ⟨n, k⟩ := q
      show (if _ then _ else _) = _
      split <;> rename_i hc
      · simp only [hc]
      · simp only [hc]
  show List.lookup y.1 (outer.names.map _) = _ ∨ List.lookup y.1 (outer.names.map _) = _
  rw [e]
  exact this
/-! ### join -/
def asS : Dat → Rs Str
  | .str a => .ok a
  | _ => .no
noncomputable def dJoin (a : Str) : Dat → Option Dat
  | .lst _ ds => (strsOf ds).bind fun ys => if cls ((ys.map (·.length)).sum + ys.length * a.length ≤ 16777216) = true then some (.str (Txt.join a ys)) else none
  | _ => none
noncomputable def joD (f g : DEnv → Rs Dat) (ε : DEnv) : Rs Dat := f ε >>= asS >>= fun a => g ε >>= fun d => Rs.of (dJoin a d)
theorem de_join (ho : DE false X W H0 L o f) (he : DE false X W H0 L e g) (hs : starEach [e] X.env = [(false, eval e X.env)] := by rfl) (hbase : attributeBase o "join" X.env (eval o X.env) = eval o X.env := by rfl) (hline : (apos.endLine == pos.line) = true := by rfl) :
    DE m X W H0 L (.Call (.Attribute o "join" apos) [e] [] pos) (joD f g) :=
  peimp (pe_join ho he hs hbase hline) fun σ H Q ⟨ε, LL, r, h⟩ => by
    unfold joD at h
    rw [Rs.to_bind, Rs.to_bind] at h
    refine ⟨ε, LL, r, h.imp (fun d _ hd x H1 s1 q => ?_) fun n z => z⟩
    cases d with
    | str s =>
      have q : x = _ := q
      subst q
      have hd : (g ε >>= fun d => Rs.of (dJoin s d)).to _ _ := hd
      rw [Rs.to_bind] at hd
      refine ⟨⟨s, rfl⟩, ε, LL, r.mono s1, hd.imp (fun d2 _ hd2 y H2 s2 q2 => ?_) fun n z => z.mono s1⟩
      obtain ⟨z, hz, hq⟩ := Rs.to_of hd2
      cases d2 with
      | lst t ds =>
        obtain ⟨p, vs, rfl, _, _, hp, q3⟩ := q2
        have hz : ((strsOf ds).bind fun ys => if cls ((ys.map (·.length)).sum + ys.length * s.length ≤ 16777216) = true then some (Dat.str (Txt.join s ys)) else none) = some z := hz
        cases hy : strsOf ds with
        | none => rw [hy] at hz; cases hz
        | some ys =>
          rw [hy, Option.bind_some] at hz
          split at hz
          · rename_i hc
            cases hz
            rw [strs_of hy q3] at hp
            exact ⟨s, p, ys, rfl, rfl, .inl (.of hp), cls_ok hc, hq _ _ (s1.trans s2) (Den.m r.good.sub rfl)⟩
          · cases hz
      | _ => cases hz
    | _ => exact hd.elim
/-! ### list(range(..)) -/
noncomputable def rglB : List Dat → Rs (List Dat)
  | [.int j] => chk (DL.inR j && sz j.toNat) (.ok (rng 0 j.toNat))
  | _ => .no
theorem rng_den {lo : Int} : ∀ n : Nat, DenL K H0 LL H (rng lo n) ((List.range n).map fun (i : Nat) => V.int (lo + i)) := fun n => by
  unfold rng
  generalize List.range n = l
  induction l with
  | nil => rfl
  | cons i l ih => exact ⟨_, _, rfl, rfl, ih⟩
noncomputable def lrgD (f : DEnv → Rs Dat) (ε : DEnv) : Rs (List Dat) := f ε >>= fun d => rglB [d]
theorem df_lrg (hc : X.calm = true) (hl : X.mg "list" = none) (hm : X.mg "range" = none) (ha : DE false X W H0 L a f) (hg : Gl X "list" := by rfl) (hg2 : Gl X "range" := by rfl) {pp pr : Pos}
    (na : starEach [a] X.env = (false, eval a X.env) :: starEach [] X.env := by rfl) (na2 : starEach [.Call (.Name "range" p) [a] [] pp] X.env = (false, eval (.Call (.Name "range" p) [a] [] pp) X.env) :: starEach [] X.env := by rfl) :
    DF X W H0 L (.Call (.Name "list" pr) [.Call (.Name "range" p) [a] [] pp] [] pos) (lrgD f) :=
  peimp (pe_listRg hc hg hl (prg_1 hg2 hm ha na) na2) fun σ H Q ⟨ε, LL, r, h⟩ => by
    unfold lrgD at h
    rw [Rs.to_bind] at h
    refine ⟨ε, LL, r, h.imp (fun d _ hd x H1 s1 q => ?_) fun n z => z⟩
    cases d with
    | int j =>
      have hd : (chk (DL.inR j && sz j.toNat) (.ok (rng 0 j.toNat)) : Rs (List Dat)).to _ _ := hd
      obtain ⟨hz, hd⟩ := chk_to hd
      rw [Bool.and_eq_true] at hz
      have hz1 := inR_ok hz.1
      have hz2 := sz_ok hz.2
      rw [sizeLine_eq] at hz2
      refine ⟨j, q, ⟨by omega, by omega, hz1.1, hz1.2, by omega⟩, fun q hq => ?_⟩
      have e : rgV 0 j = (List.range j.toNat).map fun (i : Nat) => V.int (0 + i) := by unfold rgV; rw [Int.sub_zero]
      refine hd q (rgV 0 j) (upd H1 q (.lst (rgV 0 j))) (s1.trans (same_new hq)) (s1.free hq) upd_same ?_
      rw [e]
      exact rng_den _
    | _ => exact hd.elim
end
section
variable {ε : DEnv} {f g : DEnv → Rs Dat}
@[simp] theorem joD_eq : joD f g ε = (f ε >>= asS >>= fun a => g ε >>= fun d => Rs.of (dJoin a d)) := rfl
@[simp] theorem asS_str (a : Str) : asS (.str a) = .ok a := rfl
@[simp] theorem lrgD_eq : lrgD f ε = (f ε >>= fun d => rglB [d]) := rfl
@[simp] theorem dInt_int (i : Int) : dInt [.int i] = some (.int i) := rfl
@[simp] theorem dInt_bl (k : Bool) : dInt [.bl k] = some (.int (if k = true then 1 else 0)) := by cases k <;> rfl
end
end DL

set_option maxRecDepth 100000
set_option maxHeartbeats 4000000
/-! DLrg: for y, z in found: z.append(e): the lists of a region are written. -/
namespace DL
open PySem PySem.Spec PyProof.Rows L2
def innp (N : Nat) : Dat → Bool
  | .tup [_, .lst _ xs] => decide (xs.length ≤ N)
  | _ => false
def rgP (jy jz : Nat) (fe : DEnv → Rs Dat) : List Dat → DEnv → Rs Out
  | [], ε => .ok (.nx ((ε.set jy none).set jz none))
  | _ :: hs, ε => fe ((ε.set jy none).set jz none) >>= fun _ => rgP jy jz fe hs ((ε.set jy none).set jz none)
noncomputable def rgpD (i jy jz : Nat) (N : Nat) (fe : DEnv → Rs Dat) (ε : DEnv) : Rs Out :=
  regX i ε >>= fun ds => chk (freshs ds && ds.all (innp N) && sz (N + ds.length + 1)) (Rs.of (hvs ds) >>= fun hs => rgP jy jz fe hs (ε.set i (some (true, .lst true hs))))
theorem hvs_get : ∀ {ds hs : List Dat} {k : Nat} {d : Dat}, hvs ds = some hs → ds[k]? = some d → hs[k]? = hv d
  | [], _, _, _, _, z => by simp at z
  | d :: ds, hs, k, d', h, z => by
    have h : (hv d).bind (fun e => (hvs ds).map (e :: ·)) = some hs := h
    cases q : hv d with
    | none => rw [q] at h; cases h
    | some e =>
      rw [q] at h
      have h : (hvs ds).map (e :: ·) = some hs := h
      cases q2 : hvs ds with
      | none => rw [q2] at h; cases h
      | some es =>
        rw [q2] at h
        cases h
        cases k with
        | zero => cases z; exact q.symm
        | succ k =>
          have z : ds[k]? = some d' := by simpa using z
          have := hvs_get (k := k) q2 z
          simpa using this
section
variable {X : Cx} {W : WX} {H0 : Hp} {L : Lp} {LL : Lk} {m : Bool} {a b c e : Expr} {es : List Expr} {body : List Stmt} {pos p : Pos} {f g : DEnv → Rs Dat} {gs : DEnv → Rs (Option Dat)} {x n k j : Nat}
theorem Rel.junk {K : PySem.W.Frag} {ε : DEnv} {σ : L2.St} {H : Hp} (r : Rel K H0 L LL ε σ H) {j : Nat} {v : V} (hj : j < σ.length) (hd : ∃ d, Den K H0 LL H d v) : Rel K H0 L LL (ε.set j none) (σ.set j (some v)) H := by
  obtain ⟨d, hd⟩ := hd
  have := (r.setv hj hd).fgt j
  rw [List.set_set] at this
  exact this
theorem ds_rgp (i jy jz : Nat) (N : Nat) {x y z : Str} {px py pz pt pyy pa pc pe : Pos} {kk : Nat} (hN : X.N.Nodup) (hp : PassesOwn (model X.prog X.w) X.A X.env X.xe) (hc : X.calm = true) (hx : PE X (.Name x px) (tVar i)) (hyv : PE X (.Name z pyy) (tVar jz)) (h1 : jy ≠ i) (h2 : jz ≠ i) (h3 : jz ≠ jy)
    (he : DE true X W H0 L e f)
    (ha : PA X [e] (tCons (tE true X.K X.mg W H0 L f) tNil) → PE X (.Call (.Attribute (.Name z pyy) "append" pa) [e] [] pc) (tBM X.K "list" rAppend (tVar jz) (tCons (tE true X.K X.mg W H0 L f) tNil)))
    (hiy : X.N[jy]? = some y := by rfl) (hiz : X.N[jz]? = some z := by rfl) (hxy : Loc X.env.scope y := by first | exact .inl rfl | exact .inr rfl) (hxz : Loc X.env.scope z := by first | exact .inl rfl | exact .inr rfl)
    (hfy : X.fn y = true ∨ X.env.scope.names.lookup y = some .local := by first | exact .inl rfl | exact .inr rfl | assumption) (hfz : X.fn z = true ∨ X.env.scope.names.lookup z = some .local := by first | exact .inl rfl | exact .inr rfl | assumption)
    (he1 : starEach [e] X.env = (false, eval e X.env) :: starEach [] X.env := by rfl)
    (hsw : swapsWith (.Call (.Attribute (.Name z pyy) "append" pa) [e] [] pc) none pe.line X.env = pure false := by rfl)
    (hn : (assignEach [.Name y py, .Name z pz] X.env).length = 2 := by rfl) (hst : (assignEach [.Name y py, .Name z pz] X.env).findIdx? (·.1) = none := by rfl)
    (hs2 : (assignEach [.Name y py, .Name z pz] X.env).map (·.2) = assign (.Name y py) X.env :: (assignEach [.Name z pz] X.env).map (·.2) := by rfl) (hs3 : (assignEach [.Name z pz] X.env).map (·.2) = assign (.Name z pz) X.env :: (assignEach [] X.env).map (·.2) := by rfl)
    (hfs : ∀ u, foldedSetIterable (.Name x px) X.env u = pure u := by intro _; rfl) :
    DS X W H0 L (.For (.Tuple [.Name y py, .Name z pz] kk pt) (.Name x px) [.Expr (.Call (.Attribute (.Name z pyy) "append" pa) [e] [] pc) pe] [] pos) (rgpD i jy jz N f) :=
  psimp (ps_for hp hc (pi_list hx) (pg_tup hc (pgs_cons (pg_name hN hiy hxy hfy) (pgs_cons (pg_name hN hiz hxz hfz) pgs_nil hs3) hs2) hn hst) (pss_one (ps_expr (ha (pa_cons he pa_nil he1)) hsw)) hfs) fun D σ H hlen ⟨ε, LL, r, h⟩ => by
    unfold rgpD at h
    rw [Rs.to_bind] at h
    obtain ⟨ds, hei, h⟩ : ∃ ds, ε[i]? = some (some (true, .reg (.lst true ds))) ∧ (chk (freshs ds && ds.all (innp N) && sz (N + ds.length + 1)) (Rs.of (hvs ds) >>= fun hs => rgP jy jz f hs (ε.set i (some (true, .lst true hs))))).to (OutP X.K H0 L LL H D) (XS X.mg W H0) := by
      unfold regX at h
      split at h
      · rename_i ds he; exact ⟨ds, he, h⟩
      · exact h.elim
    obtain ⟨hchk, hh⟩ := chk_to h
    clear h
    rw [Bool.and_eq_true, Bool.and_eq_true] at hchk
    obtain ⟨⟨hfr, hin⟩, hsz⟩ := hchk
    have hsz := sz_ok hsz
    rw [Rs.to_bind] at hh
    obtain ⟨hs, hhs, hh⟩ := Rs.to_of hh
    obtain ⟨v, hv, hF, hD, hlst⟩ := r.own i _ hei
    obtain ⟨a, vs0, rfl, hna, _, _, _⟩ := id hD
    obtain ⟨vs, hHa, h0a, q2⟩ := Den.alone hD hfr
    have haF : a ∈ LL.ρ i := Classical.byContradiction fun z => hna ⟨z, .inr ⟨_, hHa⟩⟩
    have tupk : ∀ (p : Addr) (xs : List V), ¬ (((LL.reg H (LL.ρ i)).or a) : Lk) p → H p = some (.tup xs) → ¬ (LL.put i [a]) p := fun p xs hn1 hp1 z => by
      have hpF : p ∉ LL.ρ i := fun m => by obtain ⟨ws, g⟩ := hlst p m; rw [hp1] at g; cases g
      rcases z with z | z
      · exact hn1 (.inl ⟨hpF, .inl z⟩)
      · exact hn1 (.inr (by simpa using z))
    have qh : DenL X.K H0 (LL.put i [a]) H hs vs := DenL.hvs tupk q2 hhs
    have m1 : ∀ b, b ∈ [a] → b ∈ LL.ρ i := fun b m => by
      have : b = a := by simpa using m
      rw [this]; exact haF
    obtain ⟨r1, k1⟩ := r.chg (d := .lst true hs) (F' := [a]) hei hv (H' := H) (fun b o _ e => e) KL.refl (fun b m => .inl (m1 b m)) (fun b m => r.mu b (m.elim (fun m => (hF b m).1) fun m => (hF b (m1 b m)).1))
      ⟨a, rfl, rfl, vs, hHa, qh⟩ (fun k p z => nomatch z) (fun x z => nomatch z)
    -- the lists of the rows
    have rows : ∀ (k : Nat) (v' : V), vs[k]? = some v' → ∃ p u0 c, v' = .ref p ∧ H p = some (.tup [u0, .ref c]) ∧ ¬ (LL.put i [a]) p ∧ c ∈ LL.ρ i ∧ c ≠ a ∧ (∃ ws, H c = some (.lst ws) ∧ ws.length ≤ N) ∧ ∃ d0, Den X.K H0 (LL.put i [a]) H d0 u0 := fun k v' hk => by
      have hkl : k < ds.length := by rw [q2.length]; exact lt_of_get hk
      have hkh : k < hs.length := by rw [qh.length]; exact lt_of_get hk
      obtain ⟨w, hw, qd⟩ := q2.get (List.getElem?_eq_getElem hkl)
      obtain ⟨w2, hw2, qd2⟩ := qh.get (List.getElem?_eq_getElem hkh)
      rw [hk] at hw hw2
      cases hw
      cases hw2
      have hi := List.all_eq_true.mp hin _ (List.getElem_mem hkl)
      have hvk := hvs_get hhs (List.getElem?_eq_getElem hkl)
      rw [List.getElem?_eq_getElem hkh] at hvk
      generalize ds[k] = d at *
      generalize hs[k] = d2 at *
      unfold innp at hi
      split at hi
      · rename_i e0 t xs
        obtain ⟨p, us, rfl, tp, u0, r0, rfl, q0, u1, r1', rfl, ⟨c, ws, rfl, hcl, _, hHc, qc⟩, rfl⟩ := qd
        obtain ⟨d0, hd0⟩ : ∃ d0 rr, d2 = .tup (d0 :: rr) := by
          have hvk : DL.hv (.tup [e0, .lst t xs]) = some d2 := hvk.symm
          have hvk : (hvs [e0, .lst t xs]).map Dat.tup = some d2 := hvk
          cases q : hvs [e0, .lst t xs] with
          | none => rw [q] at hvk; cases hvk
          | some l =>
            rw [q] at hvk
            cases hvk
            have := hvs_len q
            cases l with
            | nil => cases this
            | cons d0 rr => exact ⟨d0, rr, rfl⟩
        obtain ⟨rr, rfl⟩ := hd0
        obtain ⟨p', us', e', tp', u0', r0', e2, q0', _⟩ := qd2
        cases e'
        have tp2 := tp'.2
        rw [tp.2] at tp2
        have e3 := Option.some.inj tp2
        cases e3
        cases e2
        refine ⟨p, u0, c, rfl, tp.2, tupk _ _ tp.1 tp.2, Classical.byContradiction fun z => hcl (.inl ⟨z, .inr ⟨_, hHc⟩⟩), fun z => hcl (.inr z), ⟨ws, hHc, ?_⟩, d0, q0'⟩
        rw [← qc.length]
        simpa using hi
      · cases hi
    have hlen2 : hs.length = vs.length := qh.length
    have out : ∀ (c : Addr), c ∈ LL.ρ i → c ≠ a → ∀ (j : Nat) (e : Dat), (ε.set i (some (true, .lst true hs)))[j]? = some (some (true, e)) → c ∉ (LL.put i [a]).ρ j := fun c hc hca j e hj m => by
      rcases get_set _ _ _ _ _ hj with ⟨rfl, _, _⟩ | ⟨hji, hj⟩
      · rw [put_self] at m; exact hca (by simpa using m)
      · rw [put_ne hji] at m
        exact hji (r.uni j i e _ c hj hei m hc)
    refine ⟨.ref a, hv, a, rfl, ⟨vs, .of hHa⟩, ?_⟩
    refine ⟨fun k mm σ2 H2 => mm = hs.length - k ∧ k ≤ hs.length ∧ ∃ ε2, Rel X.K H0 L (LL.put i [a]) ε2 σ2 H2 ∧ Kp (LL.put i [a]) (LL.put i [a]) H H2 ∧ (∀ (j : Nat) (e : Dat), ε2[j]? = some (some (true, e)) → (ε.set i (some (true, .lst true hs)))[j]? = some (some (true, e))) ∧
        (∀ c, c ∈ LL.ρ i → c ≠ a → ∀ ws, H c = some (.lst ws) → ws.length ≤ N → ∃ ws', H2 c = some (.lst ws') ∧ ws'.length ≤ N + k) ∧ H2 a = some (.lst vs) ∧ σ2.length = σ.length ∧ (rgP jy jz f (hs.drop k) ε2).to (OutP X.K H0 L (LL.put i [a]) H2 D) (XS X.mg W H0),
      ⟨hs.length, by simp, Nat.zero_le _, _, r1, .refl, fun j e z => z, fun c _ _ ws g1 g2 => ⟨ws, g1, by omega⟩, hHa, rfl, hh.imp (fun o _ z => z.mono k1) fun n z => z⟩, ?_⟩
    rintro k mm σ2 H2 ⟨rfl, hk, ε2, r2, k2, he2, hC, ha2, hl2, hz⟩
    by_cases hlt : k < hs.length
    · rw [List.drop_eq_getElem_cons hlt] at hz
      have hz : (f ((ε2.set jy none).set jz none) >>= fun _ => rgP jy jz f (hs.drop (k + 1)) ((ε2.set jy none).set jz none)).to (OutP X.K H0 L (LL.put i [a]) H2 D) (XS X.mg W H0) := hz
      rw [Rs.to_bind] at hz
      obtain ⟨v', hv', qk⟩ := qh.get (List.getElem?_eq_getElem hlt)
      obtain ⟨p, u0, c, rfl, hpt, hpl2, hcF, hca, ⟨ws0, hws0, hws1⟩, d0, qd0⟩ := rows k v' hv'
      refine .inr ⟨⟨vs, _, .of ha2, hv'⟩, fun σ' H' => ∃ ε2, Rel X.K H0 L (LL.put i [a]) ε2 σ' H' ∧ Kp (LL.put i [a]) (LL.put i [a]) H H' ∧ (∀ (j : Nat) (e : Dat), ε2[j]? = some (some (true, e)) → (ε.set i (some (true, .lst true hs)))[j]? = some (some (true, e))) ∧
        (∀ c, c ∈ LL.ρ i → c ≠ a → ∀ ws, H c = some (.lst ws) → ws.length ≤ N → ∃ ws', H' c = some (.lst ws') ∧ ws'.length ≤ N + (k + 1)) ∧ H' a = some (.lst vs) ∧ σ'.length = σ.length ∧ (rgP jy jz f (hs.drop (k + 1)) ε2).to (OutP X.K H0 L (LL.put i [a]) H' D) (XS X.mg W H0),
        fun σ' H' z => ⟨hs.length - (k + 1), by omega, rfl, hlt, z⟩, fun x H3 ⟨eH, y2⟩ => ?_⟩
      have e1 := y2 _ (.of ha2)
      rw [hv'] at e1
      cases e1
      subst eH
      have ly : jy < σ2.length := by rw [hl2, hlen]; exact lt_of_get hiy
      have lz : jz < σ2.length := by rw [hl2, hlen]; exact lt_of_get hiz
      have hpt2 : H3 p = some (.tup [u0, .ref c]) := (k2.k p _ hpl2 hpt).2
      obtain ⟨ws2, hc2, hl3⟩ := hC c hcF hca ws0 hws0 hws1
      have r3 := r2.junk (j := jy) ly ⟨d0, qd0.kp k2 fun _ z => z⟩
      have r3 := r3.junk (j := jz) (v := .ref c) (by rw [List.length_set]; exact lz) ⟨.hvl, c, ws2, rfl, hc2⟩
      refine ⟨p, _, rfl, .of hpt2, rfl, u0, [.ref c], rfl, .ref c, [], rfl, rfl, ?_⟩
      have he3 : ∀ (j : Nat) (e : Dat), ((ε2.set jy none).set jz none)[j]? = some (some (true, e)) → (ε.set i (some (true, .lst true hs)))[j]? = some (some (true, e)) := fun j e z => by
        rcases get_set _ _ _ _ _ z with ⟨_, _, z⟩ | ⟨_, z⟩
        · cases z
        · rcases get_set _ _ _ _ _ z with ⟨_, _, z⟩ | ⟨_, z⟩
          · cases z
          · exact he2 j e z
      refine ⟨.ref c, set_get (by rw [List.length_set]; exact lz), .inl ⟨rfl, ws2, .of hc2⟩, _, _, r3, hz.imp (fun x _ hx u H8 s8 qx => ?_) fun n z => z.w r3.same⟩
      have r8 := r3.mono s8
      have hc8 : H8 c = some (.lst ws2) := s8 _ _ hc2
      obtain ⟨r9, k9⟩ := r8.havoc (c := c) (ws' := ws2 ++ [u]) (.inl (hF c hcF).1) (hF c hcF).2.2 hc8 fun j e z => out c hcF hca j e (he3 j e z)
      have kk := (Kp.same s8).trans k9
      have hdl : hs.length = ds.length := hvs_len hhs
      refine ⟨c, ws2, u, rfl, rfl, hc8, by omega, _, r9, k2.trans kk, he3, fun c' g1 g2 ws g3 g4 => ?_, ?_, by rw [List.length_set, List.length_set]; exact hl2, hx.imp (fun o _ z => z.mono kk) fun n z => z⟩
      · obtain ⟨ws', g5, g6⟩ := hC c' g1 g2 ws g3 g4
        by_cases hcc : c' = c
        · subst hcc
          rw [hc2] at g5
          cases g5
          exact ⟨_, upd_same, by simp; omega⟩
        · exact ⟨ws', by rw [upd_ne hcc]; exact s8 _ _ g5, by omega⟩
      · rw [upd_ne (Ne.symm hca)]; exact s8 _ _ ha2
    · have e : k = hs.length := by omega
      subst e
      rw [List.drop_length] at hz
      exact .inl ⟨⟨vs, .of ha2, by omega⟩, hz _ _ _ ((r2.fgt jy).fgt jz) .refl⟩
end
end DL

set_option maxRecDepth 100000
set_option maxHeartbeats 4000000
/-! DLct: constants of the module; {k: v, ..} and dict(d) as data; dicts compared. -/
namespace DL
open PySem PySem.Spec PyProof.Rows L2
/-- a tuple of texts of the module -/
def CstAt (K : PySem.W.Frag) (mg : Str → Option Value) (x : Str) (ss : List Str) : Prop := ∃ t, mg x = some (.ref t) ∧ SqT K noHp t (ss.map V.str)
theorem cst_of {K : PySem.W.Frag} {t : Addr} {od : Option Addr} {its : Array Value} {n : Nat} {sl : Array (Option Value)} {ss : List Str} (hl : K.lookup t = some ⟨.type "tuple", od, .seq its n, sl⟩) (hv : Vals (ss.map V.str) its.toList) (hs : ss.length ≤ 1000) :
    SqT K noHp t (ss.map V.str) := .inr ⟨_, its, n, hl, rfl, rfl, by
      have e : its.size = ss.length := by rw [← Array.length_toList, ← hv.length, List.length_map]
      rw [e, sizeLine_eq]; omega, hv⟩
/-- a new dict is locked for good -/
def tLk (t : TE) : TE := fun σ H Q => t σ H fun v H' => ∃ d u, H' d = some u ∧ Mut (some u) ∧ ∀ od, Q v (upd H' d (.frz od u))
theorem pe_lk {X : Cx} {e : Expr} {t : TE} (h : PE X e t) : PE X e (tLk t) := ⟨fun pins s σ H Q I q => thn (h.run pins s σ H _ I q) fun u s1 ⟨x, H1, I1, rx, d, o, hd, mu, hw⟩ => by
  obtain ⟨od, I2⟩ := I1.lock hd mu
  exact ⟨x, _, I2, rx, hw od⟩⟩
section
variable {X : Cx} {W : WX} {H0 : Hp} {L : Lp} {LL : Lk} {m : Bool} {a b e : Expr} {es : List Expr} {pos p : Pos} {f g : DEnv → Rs Dat} {fa : DEnv → Rs (List Dat)}
variable {K : PySem.W.Frag} {mg : Str → Option Value} {σ : L2.St} {H H' : Hp} {ε : DEnv}
theorem de_cst {x : Str} {ss : List Str} (h : CstAt X.K X.mg x ss) (hg : Gl X x := by rfl) (hd : (x == ("__debug__" : Str)) = false := by decide) : DE m X W H0 L (.Name x pos) (kst (.cst ss)) := by
  obtain ⟨t, hm, hs⟩ := h
  exact peimp (pe_glob (v := .ref t) hg hm rfl hd) fun σ H Q ⟨ε, LL, r, h⟩ => h (.ref t) H (Same.refl H) (Den.m r.good.sub (show Den X.K H0 LL H (.cst ss) (.ref t) from ⟨t, rfl, hs⟩))

/-! ### dict(d) -/
def dCpy : List Dat → Option Dat
  | [.dK ks ds] => some (.dK ks ds)
  | _ => none
theorem de_dict_ (hm : X.mg "dict" = none) (ha : DA false X W H0 L (e :: es) fa) (hg : Gl X "dict" := by rfl)
    (he : starEach (e :: es) X.env = (false, eval e X.env) :: starEach es X.env := by rfl) (hpl : (backTo pos (starEach es X.env)).any (·.1) = false := by rfl) : DE m X W H0 L (.Call (.Name "dict" p) (e :: es) [] pos) (biD dCpy fa) :=
  peimp (pe_lk (pe_callTy call_dictD hg hm (by decide +kernel) ha (by decide) (by decide) he hpl)) fun σ H Q ⟨ε, LL, rel, h⟩ => by
    unfold biD at h
    rw [Rs.to_bind] at h
    refine ⟨ε, LL, rel, h.imp (fun ds _ hd vs H1 s1 q => ?_) fun n z => z⟩
    obtain ⟨z, hz, hq⟩ := Rs.to_of hd
    unfold dCpy at hz
    split at hz
    · cases hz
      obtain ⟨v, rfl, a, ws, rfl, hl, hr, hlen, q⟩ := pair1 q
      refine ⟨a, _, rfl, hr, fun p hp => ⟨p, _, upd_same, trivial, fun od => ?_⟩⟩
      rw [upd_upd]
      have g := (rel.mono s1).good
      exact hq _ _ (s1.trans (same_new hp)) (Den.m g.sub ⟨p, ws, od, rfl, g.not hp, upd_same, hlen, q.same (same_new hp)⟩)
    · cases hz

/-! ### {k: v, ..} -/
abbrev FG := List ((DEnv → Rs Dat) × (DEnv → Rs Dat))
def prD : FG → DEnv → Rs (List (Key × Dat))
  | [], _ => .ok []
  | (f, g) :: r, ε => f ε >>= fun k => Rs.of (keyK k) >>= fun k => g ε >>= fun d => prD r ε >>= fun t => .ok ((k, d) :: t)
def prT (K : PySem.W.Frag) (mg : Str → Option Value) (W : WX) (H0 : Hp) (L : Lp) (fg : FG) : List (TE × TE) := fg.map fun p => (tE false K mg W H0 L p.1, tE true K mg W H0 L p.2)
theorem pr_use : ∀ {fg : FG} {H : Hp} {R : List (V × V) → Hp → Prop}, Rel K H0 L LL ε σ H →
    (prD fg ε).to (fun kds => ∀ vs H', Same H H' → kds.length = vs.length → DenL K H0 LL H' (kds.map (·.2)) vs → R ((kds.zip vs).map fun z => (kV z.1.1, z.2)) H') (XW mg W σ H) → tPairs (prT K mg W H0 L fg) σ H R
  | [], H, R, r, h => h [] H (Same.refl H) rfl rfl
  | (f, g) :: t, H, R, r, h => by
    have h : (f ε >>= fun k => Rs.of (keyK k) >>= fun k => g ε >>= fun d => prD t ε >>= fun t => .ok ((k, d) :: t)).to _ _ := h
    rw [Rs.to_bind] at h
    refine ⟨ε, LL, r, h.imp (fun k _ hk x H1 s1 dx => ?_) fun n z => z⟩
    rw [Rs.to_bind] at hk
    obtain ⟨k', ek, hk⟩ := Rs.to_of hk
    rw [Rs.to_bind] at hk
    have ex := keyK_den dx ek
    subst ex
    refine ⟨ε, LL, r.mono s1, hk.imp (fun d _ hd y H2 s2 dy => ?_) fun n z => z.mono s1⟩
    rw [Rs.to_bind] at hd
    refine pr_use (r.mono (s1.trans s2)) (hd.imp (fun kds _ hq vs H3 s3 hl q => ?_) fun n z => z.mono (s1.trans s2))
    exact hq (y :: vs) H3 (s1.trans (s2.trans s3)) (congrArg (· + 1) hl) ⟨y, vs, rfl, Den.same s3 dy, q⟩
def mgK : List (Key × Dat) → List Key × List Dat → List Key × List Dat
  | [], z => z
  | (k, d) :: r, z => mgK r (putKs z.1 k, putDs z.1 z.2 k d)
theorem mg_den : ∀ {kds : List (Key × Dat)} {vs : List V} {ks : List Key} {ds : List Dat} {ws : List V}, kds.length = vs.length → DenL K H0 LL H (kds.map (·.2)) vs → ks.length = ws.length → DenL K H0 LL H ds ws →
    ∃ us, mergeK (ks.zip ws) ((kds.zip vs).map fun z => (z.1.1, z.2)) = (mgK kds (ks, ds)).1.zip us ∧ (mgK kds (ks, ds)).1.length = us.length ∧ DenL K H0 LL H (mgK kds (ks, ds)).2 us
  | [], vs, ks, ds, ws, _, _, hl, q => ⟨ws, by cases vs <;> rfl, hl, q⟩
  | (k, d) :: r, v :: vs, ks, ds, ws, h, q1, hl, q => by
    obtain ⟨v', vs', e, qd, qr⟩ := q1
    cases e
    obtain ⟨us, h1, h2, h3⟩ := mg_den (Nat.succ.inj h) qr (put_length ks ws k v hl) (put_den qd q)
    refine ⟨us, ?_, h2, h3⟩
    rw [← put_zip ks ws k v hl] at h1
    exact h1
  | (k, d) :: r, [], _, _, _, h, _, _, _ => nomatch h
noncomputable def dicD (fg : FG) (ε : DEnv) : Rs Dat := prD fg ε >>= fun kds => chk (decide (kds.length ≤ 15)) (.ok (.dK (mgK kds ([], [])).1 (mgK kds ([], [])).2))
theorem de_dic {keys : List (Option Expr)} {values : List Expr} {fg : FG} (h : PPs X pos keys values (prT X.K X.mg W H0 L fg)) (hall : keys.all (·.isSome) = true := by rfl) (hl : keys.length = values.length := by rfl) (h0 : keys ≠ [] := by exact fun z => nomatch z)
    (h15 : keys.length ≤ 15 := by decide) : DE m X W H0 L (.Dict keys values pos) (dicD fg) :=
  peimp (pe_lk (pe_disp h hall hl h0 h15)) fun σ H Q ⟨ε, LL, r, h⟩ p hp => by
    have r1 : Rel X.K H0 L (LL.or p) ε σ (upd H p (.dK [])) := r.rsv (same_new hp) hp ⟨_, upd_same, trivial⟩
    refine pr_use r1 ?_
    unfold dicD at h
    rw [Rs.to_bind] at h
    refine h.imp (fun kds _ hd vs H2 s2 hlen q => ?_) fun n z => z.mono (same_new hp)
    obtain ⟨h15, hd⟩ := chk_to hd
    have h15 := of_decide_eq_true h15
    have e2 : H2 p = some (.dK []) := s2 _ _ upd_same
    obtain ⟨us, h1, h2, h3⟩ := mg_den (ks := []) (ds := []) (ws := []) hlen q rfl rfl
    refine ⟨e2, (kds.zip vs).map fun z => (z.1.1, z.2), by rw [List.map_map]; rfl, by rw [List.length_map, List.length_zip]; omega, p, _, upd_same, trivial, fun od => ?_⟩
    rw [upd_upd]
    have h1 : mergeK [] ((kds.zip vs).map fun z => (z.1.1, z.2)) = _ := h1
    rw [h1]
    have s3 : Same H (upd H2 p (.frz od (.dK ((mgK kds ([], [])).1.zip us)))) := fun b o e => by
      by_cases hb : b = p
      · rw [hb, hp] at e; cases e
      · rw [upd_ne hb]; exact s2 _ _ (by rw [upd_ne hb]; exact e)
    refine hd _ _ s3 (Den.m r.good.sub ⟨p, us, od, rfl, r.good.not hp, upd_same, h2, h3.kp (L := LL.or p) ⟨fun b o n e => ?_, fun b vs e => ?_⟩ fun _ z => z⟩)
    · have hb : b ≠ p := fun z => n (.inr z)
      exact ⟨fun z => n (.inl z), by rw [upd_ne hb]; exact e⟩
    · by_cases hb : b = p
      · rw [hb, e2] at e; cases e
      · exact ⟨vs, by rw [upd_ne hb]; exact e⟩
theorem pps_cons' {keys : List (Option Expr)} {values : List Expr} {fg : FG} (ha : DE false X W H0 L a f) (hb : DE true X W H0 L b g) (h : PPs X pos keys values (prT X.K X.mg W H0 L fg)) : PPs X pos (some a :: keys) (b :: values) (prT X.K X.mg W H0 L ((f, g) :: fg)) := pps_cons ha hb h
theorem pps_nil' : PPs X pos [] [] (prT X.K X.mg W H0 L []) := pps_nil

/-! ### dicts compared -/
def pAt : List (Key × PyData) → Key → Option PyData
  | [], _ => none
  | (j, d) :: r, k => if j = k then some d else pAt r k
def hitP (ls : List (Key × PyData)) : List (Key × PyData) → Bool
  | [] => true
  | (k, d) :: r => (match pAt ls k with
    | some e => PyData.eqv d e && hitP ls r
    | none => false)
/-- the dict at a, as data -/
def DkAt (K : PySem.W.Frag) (H : Hp) (a : Addr) (kds : List (Key × PyData)) : Prop := ∃ kvs, Rd H a (.dK kvs) ∧ Paired (fun (p : Key × V) (q : Key × PyData) => p.1 = q.1 ∧ Dp K H p.2 q.2 ∧ SeqAt.shaped q.2 = true) kvs kds
def rEqDK (K : PySem.W.Frag) : R2 := fun x y H Q => ∃ a b ka kb, x = .ref a ∧ y = .ref b ∧ DkAt K H a ka ∧ DkAt K H b kb ∧ Q (.bl (ka.length == kb.length && hitP kb ka)) H
def rNeDK (K : PySem.W.Frag) : R2 := fun x y H Q => ∃ a b ka kb, x = .ref a ∧ y = .ref b ∧ DkAt K H a ka ∧ DkAt K H b kb ∧ Q (.bl (!(ka.length == kb.length && hitP kb ka))) H
/-- the entries, what they hold as data -/
abbrev RD (h : Heap) (p : Key × Value) (q : Key × PyData) : Prop := p.1 = q.1 ∧ (∃ as, Reads h p.2 q.2 as) ∧ SeqAt.shaped q.2 = true
theorem rd_reads {pins : List (Addr × Obj)} {s : Shared} (I : Inv X pins σ H s) {kvs : List (Key × V)} {kds : List (Key × PyData)} (h : Paired (fun (p : Key × V) (q : Key × PyData) => p.1 = q.1 ∧ Dp X.K H p.2 q.2 ∧ SeqAt.shaped q.2 = true) kvs kds) :
    ∀ {vs : List (Key × Value)}, KV kvs vs → Paired (RD s.heap) vs kds := by
  induction h with
  | nil => intro vs r; unfold KV at r; cases r; exact .nil
  | @cons p q ps qs h t ih =>
    intro vs r
    unfold KV at r
    cases r with
    | @cons _ b _ bs h2 t2 => exact .cons ⟨h2.1.symm.trans h.1, Dp.reads I _ _ _ h.2.1 h2.2, h.2.2⟩ (ih t2)
theorem rd_val {h : Heap} {vs : List (Key × Value)} {kds : List (Key × PyData)} (t : Paired (RD h) vs kds) (k : Key) : (valueAt vs k = none ∧ pAt kds k = none) ∨ ∃ y e as, valueAt vs k = some y ∧ pAt kds k = some e ∧ Reads h y e as ∧ SeqAt.shaped e = true := by
  induction t with
  | nil => exact .inl ⟨rfl, rfl⟩
  | @cons p q ps qs g t ih =>
    obtain ⟨pk, pv⟩ := p
    obtain ⟨qk, qd⟩ := q
    obtain ⟨e, ⟨as, hr⟩, hs⟩ := g
    have e : pk = qk := e
    subst e
    by_cases hk : pk = k
    · exact .inr ⟨pv, qd, as, by simp [valueAt, hk], by simp [pAt, hk], hr, hs⟩
    · have e1 : valueAt ((pk, pv) :: ps) k = valueAt ps k := by simp [valueAt, hk]
      have e2 : pAt ((pk, qd) :: qs) k = pAt qs k := by simp [pAt, hk]
      rw [e1, e2]
      exact ih
theorem hits_p {h : Heap} {s : Shared} (hh : s.heap = h) {A : Around} (hu : A.in1.units + 64 < cLine) {kb : List (Key × Value)} {db : List (Key × PyData)} (tb : Paired (RD h) kb db) {ka : List (Key × Value)} {da : List (Key × PyData)} (ta : Paired (RD h) ka da) :
    PySem.W.KeqHits A.in1 s kb ka (hitP db da) := by
  induction ta with
  | nil => exact .nil
  | @cons p q ps qs g t ih =>
    obtain ⟨pk, pv⟩ := p
    obtain ⟨qk, qd⟩ := q
    obtain ⟨e, ⟨as, hr⟩, hs⟩ := g
    have e : pk = qk := e
    subst e
    rcases rd_val tb pk with ⟨h1, h2⟩ | ⟨y, e, bs, h1, h2, h3, h4⟩
    · have : hitP db ((pk, qd) :: qs) = false := by unfold hitP; rw [h2]
      rw [this]
      exact .miss h1
    · have : hitP db ((pk, qd) :: qs) = (PyData.eqv qd e && hitP db qs) := by rw [hitP, h2]
      rw [this]
      exact .hit h1 (PySem.W.keq_at (by rw [hh]; exact hr) (by rw [hh]; exact h3) hs h4 hu) ih
theorem paired_len {α β : Type} {R : α → β → Prop} {xs : List α} {ys : List β} (h : Paired R xs ys) : xs.length = ys.length := Paired.length h
theorem op_eqDK (hu : X.A.units + 65 < cLine) : OpR X (compareOp .Eq) (rEqDK X.K) := by
  intro pins s σ H x y v u Q I rx ry h
  obtain ⟨a, b, ka, kb, rfl, rfl, ⟨kvs, ha, pa⟩, ⟨lvs, hb, pb⟩, q⟩ := h
  obtain rfl : v = Value.ref a := rx
  obtain rfl : u = Value.ref b := ry
  obtain ⟨_, ya, va, ra, da⟩ := dk_rd I.hok ha
  obtain ⟨_, yb, vb, rb, db⟩ := dk_rd I.hok hb
  have ta := rd_reads I pa ra
  have tb := rd_reads I pb rb
  refine PySem.W.keq_eq (knd := mixKind X.prog X.w) ya yb da db (by omega) (fun _ => hits_p rfl (by show X.A.units + 1 + 64 < cLine; omega) tb ta) ?_
  rw [paired_len ta, paired_len tb]
  exact ⟨.bl _, H, I, rfl, q⟩
theorem op_neDK (hu : X.A.units + 65 < cLine) : OpR X (compareOp .NotEq) (rNeDK X.K) := by
  intro pins s σ H x y v u Q I rx ry h
  obtain ⟨a, b, ka, kb, rfl, rfl, ⟨kvs, ha, pa⟩, ⟨lvs, hb, pb⟩, q⟩ := h
  obtain rfl : v = Value.ref a := rx
  obtain rfl : u = Value.ref b := ry
  obtain ⟨_, ya, va, ra, da⟩ := dk_rd I.hok ha
  obtain ⟨_, yb, vb, rb, db⟩ := dk_rd I.hok hb
  have ta := rd_reads I pa ra
  have tb := rd_reads I pb rb
  refine PySem.W.keq_ne (knd := mixKind X.prog X.w) ya yb da db (by omega) (fun _ => hits_p rfl (by show X.A.units + 1 + 64 < cLine; omega) tb ta) ?_
  rw [paired_len ta, paired_len tb]
  exact ⟨.bl _, H, I, rfl, q⟩
def shps : List Dat → Bool
  | [] => true
  | d :: r => SeqAt.shaped (toP d) && shps r
theorem dk_at {ks : List Key} : ∀ {ds : List Dat} {vs : List V}, DenL K H0 LL H ds vs → shps ds = true → Paired (fun (p : Key × V) (q : Key × PyData) => p.1 = q.1 ∧ Dp K H p.2 q.2 ∧ SeqAt.shaped q.2 = true) (ks.zip vs) (ks.zip (toPs ds)) := by
  induction ks with
  | nil => intro ds vs _ _; exact .nil
  | cons k ks ih =>
    intro ds vs q hs
    cases ds with
    | nil => cases q; exact .nil
    | cons d ds =>
      obtain ⟨v, r, rfl, h, t⟩ := q
      have hs : (SeqAt.shaped (toP d) && shps ds) = true := hs
      rw [Bool.and_eq_true] at hs
      exact .cons ⟨rfl, dp_of h (SeqAt.canLay_of_shaped hs.1), hs.1⟩ (ih t hs.2)
def deqD (ks : List Key) (ds : List Dat) (js : List Key) (es : List Dat) : Bool := (ks.zip (toPs ds)).length == (js.zip (toPs es)).length && hitP (js.zip (toPs es)) (ks.zip (toPs ds))
def dEqD : Dat → Dat → Option Dat
  | .dK ks ds, .dK js es => if (shps ds && shps es) = true then some (.bl (deqD ks ds js es)) else none
  | _, _ => none
def dNeD : Dat → Dat → Option Dat
  | .dK ks ds, .dK js es => if (shps ds && shps es) = true then some (.bl (!deqD ks ds js es)) else none
  | _, _ => none
theorem opd_eqD : OpD K (rEqDK K) dEqD := by
  intro H0 L LL H x y d e z Q gd hx hy hz hq
  unfold dEqD at hz
  split at hz
  · split at hz
    · rename_i hc
      cases hz
      rw [Bool.and_eq_true] at hc
      obtain ⟨a, vs, rfl, _, ha, _, qa⟩ := hx
      obtain ⟨b, ws, rfl, _, hb, _, qb⟩ := hy
      exact ⟨a, b, _, _, rfl, rfl, ⟨_, ha, dk_at qa hc.1⟩, ⟨_, hb, dk_at qb hc.2⟩, hq _ _ (Same.refl _) rfl⟩
    · cases hz
  · cases hz
theorem opd_neD : OpD K (rNeDK K) dNeD := by
  intro H0 L LL H x y d e z Q gd hx hy hz hq
  unfold dNeD at hz
  split at hz
  · split at hz
    · rename_i hc
      cases hz
      rw [Bool.and_eq_true] at hc
      obtain ⟨a, vs, rfl, _, ha, _, qa⟩ := hx
      obtain ⟨b, ws, rfl, _, hb, _, qb⟩ := hy
      exact ⟨a, b, _, _, rfl, rfl, ⟨_, ha, dk_at qa hc.1⟩, ⟨_, hb, dk_at qb hc.2⟩, hq _ _ (Same.refl _) rfl⟩
    · cases hz
  · cases hz
theorem de_eqD {j : Nat} (hr : Room j X.A) (ha : DE false X W H0 L a f) (hb : DE false X W H0 L b g) : DE m X W H0 L (.Compare a [.Eq] [b] pos) (bop dEqD f g) := de_cmp (op_eqDK (by have := hr.un; omega)) opd_eqD ha hb (nomark _)
theorem de_neD {j : Nat} (hr : Room j X.A) (ha : DE false X W H0 L a f) (hb : DE false X W H0 L b g) : DE m X W H0 L (.Compare a [.NotEq] [b] pos) (bop dNeD f g) := de_cmp (op_neDK (by have := hr.un; omega)) opd_neD ha hb (nomark _)
theorem dt_eqD {j : Nat} (hr : Room j X.A) (ha : DE false X W H0 L a f) (hb : DE false X W H0 L b g) : DT X W H0 L (.Compare a [.Eq] [b] pos) (tst (bop dEqD f g)) := dt_cmp (op_eqDK (by have := hr.un; omega)) opd_eqD ha hb (nomark _)
theorem dt_neD {j : Nat} (hr : Room j X.A) (ha : DE false X W H0 L a f) (hb : DE false X W H0 L b g) : DT X W H0 L (.Compare a [.NotEq] [b] pos) (tst (bop dNeD f g)) := dt_cmp (op_neDK (by have := hr.un; omega)) opd_neD ha hb (nomark _)
end
end DL

set_option maxRecDepth 100000
set_option maxHeartbeats 4000000
/-! DLmn: min and max of a list of whole numbers. -/
namespace DL
open PySem PySem.Spec PyProof.Rows L2
def leastI : List Int → Option Int
  | [] => none
  | a :: r => some (match leastI r with
    | none => a
    | some b => if a ≤ b then a else b)
def mostI : List Int → Option Int
  | [] => none
  | a :: r => some (match mostI r with
    | none => a
    | some b => if b ≤ a then a else b)
theorem leastI_spec : ∀ {l : List Int} {m : Int}, leastI l = some m → m ∈ l ∧ ∀ y ∈ l, m ≤ y
  | [], _, h => by cases h
  | a :: r, m, h => by
    unfold leastI at h
    cases hr : leastI r with
    | none =>
      rw [hr] at h
      have h : some a = some m := h
      cases h
      have : r = [] := by cases r with | nil => rfl | cons _ _ => cases hr
      subst this
      exact ⟨by simp, fun y hy => by simp at hy; omega⟩
    | some b =>
      rw [hr] at h
      obtain ⟨h1, h2⟩ := leastI_spec hr
      have h : some (if a ≤ b then a else b) = some m := h
      have h := Option.some.inj h
      by_cases hab : a ≤ b
      · rw [if_pos hab] at h
        subst h
        exact ⟨by simp, fun y hy => (List.mem_cons.mp hy).elim (fun e => by omega) fun q => Int.le_trans hab (h2 y q)⟩
      · rw [if_neg hab] at h
        subst h
        exact ⟨List.mem_cons_of_mem _ h1, fun y hy => (List.mem_cons.mp hy).elim (fun e => by omega) fun q => h2 y q⟩
theorem mostI_spec : ∀ {l : List Int} {m : Int}, mostI l = some m → m ∈ l ∧ ∀ y ∈ l, y ≤ m
  | [], _, h => by cases h
  | a :: r, m, h => by
    unfold mostI at h
    cases hr : mostI r with
    | none =>
      rw [hr] at h
      have h : some a = some m := h
      cases h
      have : r = [] := by cases r with | nil => rfl | cons _ _ => cases hr
      subst this
      exact ⟨by simp, fun y hy => by simp at hy; omega⟩
    | some b =>
      rw [hr] at h
      obtain ⟨h1, h2⟩ := mostI_spec hr
      have h : some (if b ≤ a then a else b) = some m := h
      have h := Option.some.inj h
      by_cases hab : b ≤ a
      · rw [if_pos hab] at h
        subst h
        exact ⟨by simp, fun y hy => (List.mem_cons.mp hy).elim (fun e => by omega) fun q => Int.le_trans (h2 y q) hab⟩
      · rw [if_neg hab] at h
        subst h
        exact ⟨List.mem_cons_of_mem _ h1, fun y hy => (List.mem_cons.mp hy).elim (fun e => by omega) fun q => h2 y q⟩
def dMin : List Dat → Option Dat
  | [.lst _ ds] => (intsD ds).bind fun bs => (leastI bs).map .int
  | _ => none
def dMax : List Dat → Option Dat
  | [.lst _ ds] => (intsD ds).bind fun bs => (mostI bs).map .int
  | _ => none
section
variable {X : Cx} {W : WX} {H0 : Hp} {L : Lp} {LL : Lk} {m : Bool} {a b e : Expr} {es : List Expr} {pos p : Pos} {f g : DEnv → Rs Dat} {fa : DEnv → Rs (List Dat)} {K : PySem.W.Frag}
theorem opl_min : OpL K (rMin K) dMin := by
  intro H0 L LL H vs ds z Q gd hp hz hq
  unfold dMin at hz
  split at hz
  · rename_i tt ds
    obtain ⟨v, rfl, p, ws, rfl, _, _, h, q⟩ := pair1 hp
    cases hb : intsD ds with
    | none => rw [hb] at hz; cases hz
    | some bs =>
      rw [hb] at hz
      cases hl : leastI bs with
      | none => rw [Option.bind_some, hl] at hz; cases hz
      | some k =>
        rw [Option.bind_some, hl] at hz
        cases hz
        have := denL_ints q hb
        subst this
        obtain ⟨h1, h2⟩ := leastI_spec hl
        refine ⟨p, bs, rfl, .of h, List.length_pos_of_mem h1, fun m m1 m2 => ?_⟩
        have e : m = k := Int.le_antisymm (m2 k h1) (h2 m m1)
        rw [e]
        exact hq _ _ (Same.refl _) rfl
  · cases hz
theorem opl_max : OpL K (rMax K) dMax := by
  intro H0 L LL H vs ds z Q gd hp hz hq
  unfold dMax at hz
  split at hz
  · rename_i tt ds
    obtain ⟨v, rfl, p, ws, rfl, _, _, h, q⟩ := pair1 hp
    cases hb : intsD ds with
    | none => rw [hb] at hz; cases hz
    | some bs =>
      rw [hb] at hz
      cases hl : mostI bs with
      | none => rw [Option.bind_some, hl] at hz; cases hz
      | some k =>
        rw [Option.bind_some, hl] at hz
        cases hz
        have := denL_ints q hb
        subst this
        obtain ⟨h1, h2⟩ := mostI_spec hl
        refine ⟨p, bs, rfl, .of h, List.length_pos_of_mem h1, fun m m1 m2 => ?_⟩
        have e : m = k := Int.le_antisymm (h2 m m1) (m2 k h1)
        rw [e]
        exact hq _ _ (Same.refl _) rfl
  · cases hz
theorem de_min (hc : X.calm = true) (hm : X.mg "min" = none) (ha : DA false X W H0 L (e :: es) fa) (hg : Gl X "min" := by rfl)
    (he : starEach (e :: es) X.env = (false, eval e X.env) :: starEach es X.env := by rfl) (hpl : (backTo pos (starEach es X.env)).any (·.1) = false := by rfl) : DE m X W H0 L (.Call (.Name "min" p) (e :: es) [] pos) (biD dMin fa) :=
  de_bi (cr_min hc) opl_min hm (by decide +kernel) ha hg (by decide) (by decide) he hpl
theorem de_max (hc : X.calm = true) (hm : X.mg "max" = none) (ha : DA false X W H0 L (e :: es) fa) (hg : Gl X "max" := by rfl)
    (he : starEach (e :: es) X.env = (false, eval e X.env) :: starEach es X.env := by rfl) (hpl : (backTo pos (starEach es X.env)).any (·.1) = false := by rfl) : DE m X W H0 L (.Call (.Name "max" p) (e :: es) [] pos) (biD dMax fa) :=
  de_bi (cr_max hc) opl_max hm (by decide +kernel) ha hg (by decide) (by decide) he hpl
end
end DL

set_option maxRecDepth 100000
set_option maxHeartbeats 4000000
/-! DLnn: dicts whose keys are None or whole numbers: {}, x[k] = v, the walk of x.keys(). -/
namespace DL
open PySem PySem.Spec PyProof.Rows L2
def oV : Option Int → V
  | none => .non
  | some i => .int i
theorem isNk_of {k : Option Int} {u : Value} (r : RelV (oV k) u) : isNk k u = true := by
  cases k with
  | none =>
    have r : u = Value.none := r
    rw [r]; rfl
  | some i =>
    obtain ⟨t, rfl⟩ := (show ∃ t, u = Value.int i t from r)
    exact decide_eq_true rfl
theorem relV_nk {k : Option Int} {u : Value} (h : isNk k u = true) : RelV (oV k) u := by
  cases k with
  | none => cases u <;> first | rfl | cases h
  | some i =>
    cases u with
    | int j t =>
      have e : j = i := of_decide_eq_true h
      subst e
      exact ⟨t, rfl⟩
    | _ => cases h
theorem non_all {P : Program} {w : World} {h : Heap} {a : Addr} {vs : List (Option Int × Value)} (d : h.DictOf (nonKind P w) a vs) (P' : Program) (w' : World) : h.DictOf (nonKind P' w') a vs := by
  obtain ⟨o, es, ep, h1, h2, h3, h4, h5, h6⟩ := d
  refine ⟨o, es, ep, h1, h2, h3, fun e he => ?_, ?_, h6⟩
  · obtain ⟨k, k1, k2⟩ := h4 e he
    refine ⟨k, k1, k2.trans ?_⟩
    cases k <;> rfl
  · clear h4 h3 h6
    generalize es.toList = l at h5 ⊢
    induction h5 with
    | nil => exact .nil
    | cons a b _ ih => exact .cons a b ih
theorem nonAt_stay {ks : List (Option Int)} {a : Addr} {h1 h2 : Heap} (x : NonAt ks a h1) (k : ∀ o, h1.get? a = some o → h2.get? a = some o) : NonAt ks a h2 := by
  obtain ⟨z, hs, vs, e, d⟩ := x
  refine ⟨z, hs, vs, e, fun P w => ?_⟩
  obtain ⟨o, es, ep, g1, g⟩ := d P w
  exact ⟨o, es, ep, k o g1, g⟩
theorem nonO_ok {P : Program} {w : World} {H : Hp} {h : Heap} {a : Addr} {ks : List (Option Int)} (x : NonAt ks a h) : ObjOk P w H h a (nonO ks a) := by
  refine ⟨x, ?_, fun h1 h2 y k => nonAt_stay y k⟩
  obtain ⟨_, _, _, _, d⟩ := x
  obtain ⟨o, _, _, g1, _⟩ := d P w
  exact ⟨o, g1⟩
def tDNewN : TE := fun _ H Q => ∀ p, H p = none → Q (.ref p) (upd H p (nonO [] p))
theorem pe_dnewN {X : Cx} {pos : Pos} : PE X (.Dict [] [] pos) tDNewN := ⟨fun pins s σ H Q I h =>
  wpAny_Dict_empty ⟨.ref s.heap.objs.size, _, I.laid (a := s.heap.objs.size) (o := nonO [] s.heap.objs.size) (t' := s.toks) (fun _ _ q => Heap.get?_push_of_some _ q) (Nat.le_refl _)
    (nonO_ok ⟨Nat.zero_le _, beq_eq_false_iff_ne.mpr (Ne.symm (Nat.ne_of_lt I.big)), [], rfl, fun P w => Heap.DictOf.new s.heap⟩), rfl, h _ (I.hok.fresh (Nat.le_refl _))⟩⟩
theorem stored_keys (k : Option Int) (r : Value) (vs : List (Option Int × Value)) : (stored vs k r).map (·.1) = putKs (vs.map (·.1)) k := by
  unfold stored putKs hasL
  have e : (vs.any fun kv => decide (kv.1 = k)) = (vs.map (·.1)).any fun j => decide (j = k) := by rw [List.any_map]; rfl
  rw [e]
  split
  · rw [List.map_map]
    exact List.map_congr_left fun p _ => by
      show (if p.1 = k then (p.1, r) else p).1 = p.1
      split <;> rfl
  · rw [List.map_append]
    rfl
section
variable {X : Cx} {pins : List (Addr × Obj)} {σ : L2.St} {H : Hp} {s : Shared} {a d : Addr} {u r : Value} {A : Around} {E : Value → Shared → Prop} {o : Obj} {ks : List (Option Int)}
theorem nonAt_of (I : Inv X pins σ H s) (e : H a = some (nonO ks a)) : NonAt ks a s.heap := (show ObjOk X.prog X.w H s.heap a (nonO ks a) from I.hok a _ e).1
theorem putKs_len (ks : List (Option Int)) (k : Option Int) : (putKs ks k).length ≤ ks.length + 1 := by
  unfold putKs
  split
  · omega
  · rw [List.length_append]; exact Nat.le_refl _
theorem d_setN {Q : Unit → Shared → Prop} (I : Inv X pins σ H s) (e : H a = some (nonO ks a)) {k : Option Int} (ry : RelV (oV k) u) (hl : ks.length < sizeLine) (h : ∀ s', Inv X pins σ (upd H a (nonO (putKs ks k) a)) s' → Q () s') :
    wpAny (model X.prog X.w) A (setItem (.ref a) u r) Q E s := by
  obtain ⟨z, hs, vs, ev, d⟩ := nonAt_of I e
  have hz : vs.length ≤ sizeLine := by rw [← ev, List.length_map] at z; exact z
  refine wpAny_setItem_pairs (knd := nonKind X.prog X.w) (hsz := hz) (isNk_of ry) (d X.prog X.w) fun h' dd' sb => h _ ?_
  have he : ∃ q, h'.get? a = some q := let ⟨q, _, _, hq, _⟩ := dd'; ⟨q, hq⟩
  have hk := putKs_len ks k
  exact d_write I (by rw [e]; exact True.intro) sb he (nonO_ok ⟨by omega, hs, stored vs k r, by rw [stored_keys, ev], fun P w => non_all dd' P w⟩)
/-- d[y] = v -/
def sNPut (td ty tv : TE) : TS := fun D σ H => tv σ H fun v H1 => td σ H1 fun x H2 => ty σ H2 fun y H3 => ∃ a ks k, x = .ref a ∧ y = oV k ∧ H3 a = some (nonO ks a) ∧ ks.length < sizeLine ∧ D.nx σ (upd H3 a (nonO (putKs ks k) a))
theorem ps_nput {oe i value : Expr} {pos pos' : Pos} {td ty tv : TE} (ho : PE X oe td) (hi : PE X i ty) (hv : PE X value tv) (hs : swapsWith value (some (.Subscript oe i pos')) pos.line X.env = pure false) :
    PS X (.Assign [.Subscript oe i pos'] value pos) (sNPut td ty tv) := by
  refine ⟨fun pins s σ H D I h => ?_⟩
  refine wpAny_Assign_Subscript (thn (hv.run pins s σ H _ I h) fun r s1 ⟨v, H1, I1, rv, q1⟩ => thn (ho.run pins s1 σ H1 _ I1 q1) fun u s2 ⟨x, H2, I2, rx, q2⟩ => thn (hi.run pins s2 σ H2 _ I2 q2) fun iv s3 ⟨y, H3, I3, ry, a, ks, k, ex, ey, g, hl, q3⟩ => ?_) hs
  subst ex ey
  obtain rfl : u = Value.ref a := rx
  exact d_setN I3 g ry hl fun s4 I4 => ⟨σ, _, I4, q3⟩
/-! ### the walk of the keys of a locked one -/
theorem frzN (I : Inv X pins σ H s) (h : H d = some (.frz o (nonO ks d))) : (d == sysModules) = false ∧ s.heap.get? d = some o ∧ o.ExactDict ∧ ∃ (es : Array DictEntry) (ep : Nat), o.data = .dict es ep ∧ es.size = ks.length ∧
    ∀ (i : Nat) (k : Option Int), ks[i]? = some k → ∃ en : DictEntry, es[i]? = some en ∧ RelV (oV k) en.key := by
  obtain ⟨hd, ⟨z, hs, vs, ev, dd⟩, _⟩ := I.hok d _ h
  obtain ⟨o', es, ep, ho, hx, hdt, hk, hp, _⟩ := dd X.prog X.w
  rw [hd] at ho
  cases ho
  refine ⟨hs, hd, hx, es, ep, hdt, ?_, fun i k e => ?_⟩
  · rw [← ev, List.length_map, ← hp.length, Array.length_toList]
  · rw [← ev, List.getElem?_map] at e
    cases hv : vs[i]? with
    | none => rw [hv] at e; cases e
    | some p =>
      rw [hv] at e
      have e : p.1 = k := Option.some.inj e
      have hlt : i < es.size := by
        have := (List.getElem?_eq_some_iff.mp hv).1
        rw [← hp.length, Array.length_toList] at this
        exact this
      have hes : es.toList[i]? = some es[i] := by rw [Array.getElem?_toList]; exact Array.getElem?_eq_getElem hlt
      obtain ⟨g1, g2⟩ := hp.get? (i := i) (e := es[i]) (k := p.1) (v := p.2) hes hv
      exact ⟨es[i], Array.getElem?_eq_getElem hlt, by rw [← e]; exact relV_nk g1⟩
end
def Itkn (d : Addr) (o : Obj) (ks : List (Option Int)) : L2.It :=
  ⟨fun i H => H d = some (.frz o (nonO ks d)) ∧ i < ks.length, fun i H x H' => H' = H ∧ ∃ k, ks[i]? = some k ∧ x = oV k, fun i H => H d = some (.frz o (nonO ks d)) ∧ ks.length ≤ i⟩
theorem turn_keysN {P : Program} {w : World} {K : PySem.W.Frag} {tg : Expr} {d : Addr} {o : Obj} {es : Array DictEntry} {ep : Nat} {ks : List (Option Int)} (it : Addr) (hod : o.data = .dict es ep) : Turn P w K tg (Itkn d o ks) [it] it (fun i h => h.IsKeyIter it d i ks.length ep) where
  mem := by simp
  obj := fun i h st b hb => by
    have e : b = it := by simpa using hb
    subst e
    obtain ⟨oi, e, c, dd⟩ := st
    exact ⟨oi, e, fun v z => by rw [dd] at z; cases z⟩
  keep := fun i h h' st k => st.at fun oi e => k it (by simp) oi e
  item := by
    intro X hP hw hK hc i pins s σ H E I hf st hg
    subst hP hw hK
    obtain ⟨hd, hi⟩ := hg
    obtain ⟨f0, f1, f2, f3, f4, f5⟩ := hf it (by simp)
    obtain ⟨hs, hgd, hx, es', ep', hdt, hsz, ent⟩ := frzN I hd
    obtain ⟨rfl, rfl⟩ := dict_ep hod hdt
    obtain ⟨k, hk⟩ : ∃ k, ks[i]? = some k := ⟨ks[i], List.getElem?_eq_getElem hi⟩
    obtain ⟨en, hen, hkey⟩ := ent i k hk
    refine next_key_item st hgd hdt hsz hen fun h' st' sb => ?_
    have I1 : Inv X pins σ H { s with heap := h' } := I.turned (t' := s.toks) (fun b ob hb e => (sb.2 b hb).trans e) f0 f1 f3 f4 f5
    obtain ⟨oi, e, c, dd⟩ := id st'
    exact ⟨en.key, rfl, go_of (s := { s with heap := h' }) e c dd (by decide) ⟨oV k, H, I1, hkey, ⟨rfl, k, hk, rfl⟩, st', fun b hb => (hf b hb).1⟩⟩
  done := by
    intro X hP hw hK hc i pins s σ H E I hf st hg
    subst hP hw hK
    obtain ⟨hd, hi⟩ := hg
    obtain ⟨f0, f1, f2, f3, f4, f5⟩ := hf it (by simp)
    obtain ⟨hs, hgd, hx, es', ep', hdt, hsz, ent⟩ := frzN I hd
    obtain ⟨rfl, rfl⟩ := dict_ep hod hdt
    exact next_key_end (I.ok.hd hc) st hgd hdt hsz hi fun h' eb => ⟨rfl, I.turned (t' := s.toks) (fun b ob hb e => eb b ob hb e) f0 f1 f3 f4 f5⟩
  self := fun A i s Q E st h => by
    refine wpAny_pyIter_slot st.typeIs F.slot_dict_keyiterator_iter (wpAny_call_entry F.slot_dict_keyiterator_iter st.typeIs F.entry_dict_keyiterator_iter ?_ (F.args_dict_keyiterator_iter_1 _))
    show wpAny _ _ (ret (.ref it)) _ _ s
    exact wpAny_pure ⟨_, rfl, "dict_keyiterator", _, st.typeIs, F.slot_dict_keyiterator_next.lookup, h⟩
def iKeysN (td : TE) : TI := fun σ H R => td σ H fun x H1 => ∃ d o ks, x = .ref d ∧ H1 d = some (.frz o (nonO ks d)) ∧ R (Itkn d o ks) H1
theorem pi_keysN {X : Cx} {tg e : Expr} {td : TE} {apos cpos : Pos} (he : PE X e td) (hbase : attributeBase e "keys" X.env (eval e X.env) = eval e X.env := by rfl) (hline : (apos.endLine == cpos.line) = true := by rfl) : PI X tg (.Call (.Attribute e "keys" apos) [] [] cpos) (iKeysN td) := by
  refine ⟨fun pins s σ H R I h => ?_⟩
  refine wpAny_Call_method (T := "dict") (id := "dict.keys") hbase rfl hline PySem.F.plainAttrs_dict PySem.F.slot_dict_keys PySem.F.type_dict_keys (thn (he.run pins s σ H _ I h) fun u s1 ⟨x, H1, I1, rx, d, o, ks, ex, hd, q⟩ => ?_)
  subst ex
  obtain rfl : u = Value.ref d := rx
  obtain ⟨hs, hgd, hx, es, ep, hdt, hsz, _⟩ := frzN I1 hd
  have hm : DT.Raw s1.heap d es ep := ⟨o, hgd, hx, hdt⟩
  obtain ⟨t1, t2⟩ := method_raw (prog := X.prog) (w := X.w) (A := X.A) (E := X.xe) hm
  refine ⟨t1, t2, ?_⟩
  have I2 : Inv X pins σ H1 { s1 with heap := s1.heap.push { cls := .type "dict_keys", data := .fields #[.ref d] } } := I1.kept (t' := s1.toks) fun b ob q => Heap.get?_push_of_some _ q
  have esz : (s1.heap.push { cls := .type "dict_keys", data := .fields #[.ref d] } : Heap).objs.size = s1.heap.objs.size + 1 := Heap.size_push ..
  have fin : wpAny (model X.prog X.w) X.A (pyIter (.ref s1.heap.objs.size)) (PIE X pins σ tg R) X.xe { s1 with heap := s1.heap.push { cls := .type "dict_keys", data := .fields #[.ref d] } } := by
    have st : Heap.IsKeyIter ((s1.heap.push { cls := .type "dict_keys", data := .fields #[.ref d] }).push { cls := .type "dict_keyiterator", data := .fields #[.ref d, .int 0 0, .int es.size 0, .int ep 0] }) (s1.heap.objs.size + 1) d 0 ks.length ep := by
      have h := Heap.get?_push_size (s1.heap.push { cls := .type "dict_keys", data := .fields #[.ref d] } : Heap) (o := ({ cls := .type "dict_keyiterator", data := .fields #[.ref d, .int 0 0, .int es.size 0, .int ep 0] } : Obj)) rfl
      rw [esz] at h
      exact ⟨_, h, rfl, by rw [hsz] <;> rfl⟩
    exact iter_keysR (d := d) ⟨_, Heap.get?_push_size _ rfl, rfl, rfl⟩ (hm.push _) (pi_one (tk := s1.toks) I2 _ (tn := fun i h => h.IsKeyIter (s1.heap.objs.size + 1) d i ks.length ep) (by rw [esz]; exact turn_keysN _ hdt) st q)
  exact method_meetsIn PySem.F.slot_dict_keys PySem.F.entry_dict_keys rfl (PySem.evalArgs_none ⟨rfl, t1, PySem.F.args_dict_keys_1 _, _, meets_keysR (es := es) (ep := ep) hs, hm, fin⟩)
/-! ### over data -/
def oD : Option Int → Dat
  | none => .non
  | some i => .int i
def keyN : Dat → Option (Option Int)
  | .non => some none
  | .int i => some (some i)
  | _ => none
def asKeysN : Dat → Rs (List Dat)
  | .dN ks => .ok (ks.map oD)
  | _ => .no
section
variable {X : Cx} {W : WX} {H0 : Hp} {L : Lp} {LL : Lk} {m : Bool} {a b e : Expr} {pos p apos cpos : Pos} {f g fk fv : DEnv → Rs Dat} {tg : Expr}
variable {K : PySem.W.Frag} {mg : Str → Option Value} {σ : L2.St} {H : Hp} {ε : DEnv}
theorem oD_den {k : Option Int} : Den K H0 LL H (oD k) (oV k) := by cases k <;> rfl
theorem keyN_den {d : Dat} {v : V} {k : Option Int} (h : DenS K H0 L LL H d v) (e : keyN d = some k) : v = oV k := by
  cases d with
  | non => cases e; exact h
  | int i => cases e; exact h
  | _ => cases e
theorem wlk_keysN {d : Addr} {o : Obj} {ks : List (Option Int)} (hd : H d = some (.frz o (nonO ks d))) (hl : ¬ LL d) : Wlk m K H0 LL H (Itkn d o ks) (ks.map oD) := ⟨fun L2 LL2 H2 g k s i => by
  have hd2 := (k.k d _ hl hd).2
  refine ⟨fun z hz' => ?_, fun hi => ⟨hd2, by simpa using hi⟩⟩
  have hi : i < ks.length := by have := lt_of_get hz'; simpa using this
  refine ⟨⟨hd2, hi⟩, fun x H3 ⟨eH, kk, hk, ex⟩ => ?_⟩
  subst eH ex
  rw [List.getElem?_map, hk] at hz'
  cases hz'
  exact ⟨Same.refl _, oD_den⟩⟩
def walkN (f : DEnv → Rs Dat) (ε : DEnv) : Rs (List Dat) := f ε >>= asKeysN
theorem di_keysN (he : DE true X W H0 L e f) (hbase : attributeBase e "keys" X.env (eval e X.env) = eval e X.env := by rfl) (hline : (apos.endLine == cpos.line) = true := by rfl) : DI m X W H0 L tg (.Call (.Attribute e "keys" apos) [] [] cpos) (walkN f) :=
  piimp (pi_keysN he hbase hline) fun σ H R ⟨ε, LL, r, h⟩ => by
    unfold walkN at h
    rw [Rs.to_bind] at h
    refine ⟨ε, LL, r, h.imp (fun d _ hd v H1 s1 q => ?_) fun n z => z⟩
    cases d with
    | dN ks =>
      obtain ⟨p, o, rfl, hl, hp⟩ := q
      exact ⟨p, o, ks, rfl, hp, hd _ _ s1 (wlk_keysN hp hl)⟩
    | _ => exact hd.elim
theorem ds_dnewN (i : Nat) {x : Str} {pos' : Pos} (hN : X.N.Nodup) (hi : X.N[i]? = some x := by rfl) (hx : Loc X.env.scope x := by first | exact .inl rfl | exact .inr rfl) (hs : swapsWith (.Dict [] [] p) (some (.Name x pos')) pos.line X.env = pure false := by rfl)
    (hf : X.fn x = true ∨ X.env.scope.names.lookup x = some .local := by first | exact .inl rfl | exact .inr rfl | assumption) : DS X W H0 L (.Assign [.Name x pos'] (.Dict [] [] p) pos) (dnewD i (.dN [])) :=
  psimp (ps_set hN hi hx pe_dnewN hs hf) fun D σ H hl ⟨ε, LL, r, h⟩ => fun p hp => by
    obtain ⟨r1, k1⟩ := r.setown (d := .dN []) (i := i) (by rw [hl]; exact lt_of_get hi) (same_new hp) hp upd_same
    exact h _ _ _ r1 k1
/-- x[k] = v -/
def ownN (i : Nat) (ε : DEnv) : Rs (List (Option Int)) := match ε[i]? with
  | some (some (true, .dN ks)) => .ok ks
  | _ => .no
noncomputable def nputD (i : Nat) (fk fv : DEnv → Rs Dat) (ε : DEnv) : Rs Out := fv ε >>= fun _ => ownN i ε >>= fun ks => fk ε >>= fun k => Rs.of (keyN k) >>= fun j => chk (sz (ks.length + 1)) (.ok (.nx (ε.set i (some (true, .dN (putKs ks j))))))
theorem nput_use {i : Nat} {D : Ends} {fk fv : DEnv → Rs Dat} (h : tD K mg W H0 L (nputD i fk fv) D σ H) : sNPut (tVar i) (tE false K mg W H0 L fk) (tE true K mg W H0 L fv) D σ H := by
  obtain ⟨ε, LL, r, h⟩ := h
  unfold nputD at h
  rw [Rs.to_bind] at h
  refine ⟨ε, LL, r, h.imp (fun v _ hd w H1 s1 qv => ?_) fun n z => z.w r.same⟩
  rw [Rs.to_bind] at hd
  unfold ownN at hd
  split at hd
  · rename_i ks he
    have hd : (fk ε >>= fun k => Rs.of (keyN k) >>= fun j => chk (sz (ks.length + 1)) (Rs.ok (Out.nx (ε.set i (some (true, .dN (putKs ks j))))))).to (OutP K H0 L LL H D) (XS mg W H0) := hd
    obtain ⟨a, ha', own, hL, h0, hob, _⟩ := r.ownS he rfl
    rw [Rs.to_bind] at hd
    refine ⟨_, ha', ε, LL, r.mono s1, hd.imp (fun k _ hk y H2 s2 qk => ?_) fun n z => z.w (r.mono s1).same⟩
    rw [Rs.to_bind] at hk
    obtain ⟨j, hj, hk⟩ := Rs.to_of hk
    obtain ⟨hsz, hk⟩ := chk_to hk
    have s := s1.trans s2
    have r1 := r.mono s
    have hv : H a = some (nonO ks a) := hob
    have hv2 : H2 a = some (nonO ks a) := s _ _ hv
    have kl : KL H2 (upd H2 a (nonO (putKs ks j) a)) := .dict hv2 fun vs z => (nomatch z)
    have hz := sz_ok hsz
    refine ⟨a, ks, j, rfl, keyN_den qk hj, hv2, by omega, ?_⟩
    obtain ⟨r2, k2⟩ := r1.mut (d := .dN (putKs ks j)) he rfl ha' (show OwnB K H0 LL _ a (.dN (putKs ks j)) from upd_same) kl
    exact hk _ _ _ r2 ((Kp.same s).trans k2)
  · exact hd.elim
theorem ds_nput (i : Nat) {x : Str} {px p2 : Pos} {fk fv : DEnv → Rs Dat} (hv0 : PE X (.Name x px) (tVar i)) (hk : DE false X W H0 L a fk) (hv : DE true X W H0 L e fv)
    (hs : swapsWith e (some (.Subscript (.Name x px) a p2)) pos.line X.env = pure false := by rfl) : DS X W H0 L (.Assign [.Subscript (.Name x px) a p2] e pos) (nputD i fk fv) :=
  psimp (ps_nput hv0 hk hv hs) fun D σ H _ h => nput_use h
end
end DL

set_option maxRecDepth 100000
set_option maxHeartbeats 4000000
/-! DLst: texts split, a sign in a text, walks of texts, chains of two comparisons, texts and numbers of the module. -/
namespace DL
open PySem PySem.Spec PyProof.Rows L2
section
variable {X : Cx} {W : WX} {H0 : Hp} {L : Lp} {LL : Lk} {m : Bool} {a b c e o tg : Expr} {pos p p2 apos : Pos} {f g k : DEnv → Rs Dat}
variable {K : PySem.W.Frag} {mg : Str → Option Value} {σ : L2.St} {H : Hp} {ε : DEnv}
/-- a text, a number of the module -/
def GcAt (mg : Str → Option Value) (x : Str) (v : V) : Prop := ∃ u, mg x = some u ∧ RelV v u
theorem de_gstr {x s : Str} (h : GcAt X.mg x (.str s)) (hg : Gl X x := by rfl) (hd : (x == ("__debug__" : Str)) = false := by decide) : DE m X W H0 L (.Name x pos) (kst (.str s)) := de_const (C8.pe_gc hg h hd) fun _ _ _ _ => rfl
theorem de_gint {x : Str} {i : Int} (h : GcAt X.mg x (.int i)) (hg : Gl X x := by rfl) (hd : (x == ("__debug__" : Str)) = false := by decide) : DE m X W H0 L (.Name x pos) (kst (.int i)) := de_const (C8.pe_gc hg h hd) fun _ _ _ _ => rfl
/-! ### split -/
noncomputable def dSplit (a : Str) : Dat → Option (List Dat)
  | .str b => if cls ((b.length == 0) = false ∧ a.length + 2 ≤ sizeLine) = true then some ((Txt.split a b).map .str) else none
  | _ => none
noncomputable def spLD (f g : DEnv → Rs Dat) (ε : DEnv) : Rs (List Dat) := f ε >>= asS >>= fun a => g ε >>= fun d => Rs.of (dSplit a d)
theorem den_strs : ∀ ss : List Str, DenL K H0 LL H (ss.map .str) (ss.map V.str)
  | [] => rfl
  | s :: r => ⟨_, _, rfl, rfl, den_strs r⟩
theorem df_split (ho : DE false X W H0 L o f) (he : DE false X W H0 L e g) (hs : starEach [e] X.env = [(false, eval e X.env)] := by rfl) (hbase : attributeBase o "split" X.env (eval o X.env) = eval o X.env := by rfl) (hline : (apos.endLine == pos.line) = true := by rfl) :
    DF X W H0 L (.Call (.Attribute o "split" apos) [e] [] pos) (spLD f g) :=
  peimp (pe_split ho he hs hbase hline) fun σ H Q ⟨ε, LL, r, h⟩ => by
    unfold spLD at h
    rw [Rs.to_bind, Rs.to_bind] at h
    refine ⟨ε, LL, r, h.imp (fun d _ hd x H1 s1 q => ?_) fun n z => z⟩
    cases d with
    | str s =>
      have q : x = _ := q
      subst q
      have hd : (g ε >>= fun d => Rs.of (dSplit s d)).to _ _ := hd
      rw [Rs.to_bind] at hd
      refine ⟨⟨s, rfl⟩, ε, LL, r.mono s1, hd.imp (fun d2 _ hd2 y H2 s2 q2 => ?_) fun n z => z.mono s1⟩
      obtain ⟨ds, hz, hq⟩ := Rs.to_of hd2
      cases d2 with
      | str b =>
        have q2 : y = _ := q2
        subst q2
        have hz : (if cls ((b.length == 0) = false ∧ s.length + 2 ≤ sizeLine) = true then some ((Txt.split s b).map Dat.str) else none) = some ds := hz
        split at hz
        · rename_i hc
          cases hz
          have hc := cls_ok hc
          refine ⟨s, b, rfl, rfl, hc.1, hc.2, fun p hp => ?_⟩
          exact hq p _ _ ((s1.trans s2).trans (same_new hp)) ((s1.trans s2).free hp) upd_same (den_strs _)
        · cases hz
      | _ => cases hz
    | _ => exact hd.elim
/-! ### a sign in a text -/
def dInS : Dat → Dat → Option Dat
  | .str a, .str z => (match a.cps.toList with
    | [c] => some (.bl (decide (c ∈ z.cps.toList)))
    | _ => none)
  | _, _ => none
def dNinS : Dat → Dat → Option Dat
  | .str a, .str z => (match a.cps.toList with
    | [c] => some (.bl (!decide (c ∈ z.cps.toList)))
    | _ => none)
  | _, _ => none
theorem sign_eq {a : Str} {c : Nat} (h : a.cps.toList = [c]) : a = ⟨#[c]⟩ := by
  cases a with
  | mk x =>
    have : x = #[c] := by
      apply Array.toList_inj.mp
      exact h
    rw [this]
theorem opd_inS : OpD K (fun x y H Q => ∃ (c : Nat) (z : Str), x = .str ⟨#[c]⟩ ∧ y = .str z ∧ Q (.bl (decide (c ∈ z.cps.toList))) H) dInS := by
  intro H0 L LL H x y d e z Q gd hx hy hz hq
  unfold dInS at hz
  split at hz
  · rename_i a w
    have hx : x = _ := hx
    have hy : y = _ := hy
    subst hx hy
    split at hz
    · rename_i c hc
      cases hz
      exact ⟨c, w, by rw [sign_eq hc], rfl, hq _ _ (Same.refl _) rfl⟩
    · cases hz
  · cases hz
theorem opd_ninS : OpD K (fun x y H Q => ∃ (c : Nat) (z : Str), x = .str ⟨#[c]⟩ ∧ y = .str z ∧ Q (.bl (!decide (c ∈ z.cps.toList))) H) dNinS := by
  intro H0 L LL H x y d e z Q gd hx hy hz hq
  unfold dNinS at hz
  split at hz
  · rename_i a w
    have hx : x = _ := hx
    have hy : y = _ := hy
    subst hx hy
    split at hz
    · rename_i c hc
      cases hz
      exact ⟨c, w, by rw [sign_eq hc], rfl, hq _ _ (Same.refl _) rfl⟩
    · cases hz
  · cases hz
theorem dt_inS (ha : DE false X W H0 L a f) (hb : DE false X W H0 L b g) (hm : behindInMarks .In b = false := by rfl) : DT X W H0 L (.Compare a [.In] [b] pos) (tst (bop dInS f g)) := dt_cmp op_in_sign opd_inS ha hb hm
theorem dt_ninS (ha : DE false X W H0 L a f) (hb : DE false X W H0 L b g) (hm : behindInMarks .NotIn b = false := by rfl) : DT X W H0 L (.Compare a [.NotIn] [b] pos) (tst (bop dNinS f g)) := dt_cmp op_notIn_sign opd_ninS ha hb hm
/-! ### the signs of a text, one by one -/
def asSg : Dat → Rs (List Dat)
  | .str z => .ok (z.cps.toList.map fun c => .str ⟨#[c]⟩)
  | _ => .no
def walkS (f : DEnv → Rs Dat) (ε : DEnv) : Rs (List Dat) := f ε >>= asSg
theorem wlk_str {z : Str} : Wlk m K H0 LL H (Its z) (z.cps.toList.map fun c => .str ⟨#[c]⟩) := ⟨fun L2 LL2 H2 g k s i => by
  refine ⟨fun d hd => ?_, fun hi => by simpa [Its] using hi⟩
  rw [List.getElem?_map] at hd
  cases hc : z.cps.toList[i]? with
  | none => rw [hc] at hd; cases hd
  | some c =>
    rw [hc] at hd
    cases hd
    have hc2 : z.cps[i]? = some c := by rw [← hc, Array.getElem?_toList]
    have hlt : i < z.cps.size := (Array.getElem?_eq_some_iff.mp hc2).1
    refine ⟨hlt, fun x H3 ⟨e, c', h', y⟩ => ?_⟩
    subst e y
    rw [hc2] at h'
    cases h'
    exact ⟨Same.refl _, rfl⟩⟩
theorem di_str (he : DE false X W H0 L e f) : DI m X W H0 L tg e (walkS f) :=
  piimp (pi_str he) fun σ H R ⟨ε, LL, r, h⟩ => by
    unfold walkS at h
    rw [Rs.to_bind] at h
    refine ⟨ε, LL, r, h.imp (fun d _ hd v H1 s1 q => ?_) fun n z => z⟩
    cases d with
    | str z =>
      have q : v = _ := q
      subst q
      exact ⟨z, rfl, hd _ _ s1 wlk_str⟩
    | _ => exact hd.elim
/-! ### chains -/
def chD (F F' : Dat → Dat → Option Dat) (f g k : DEnv → Rs Dat) (ε : DEnv) : Rs Dat := f ε >>= fun a => g ε >>= fun b => Rs.of (F a b) >>= fun z => asB z >>= fun t => if t = true then k ε >>= fun c => Rs.of (F' b c) else .ok (.bl false)
theorem chn_use {r r' : R2} {F F' : Dat → Dat → Option Dat} {Q : VK} (hF : OpD K r F) (hF' : OpD K r' F') (h : tE m K mg W H0 L (chD F F' f g k) σ H Q) : tChain r r' (tE false K mg W H0 L f) (tE false K mg W H0 L g) (tE false K mg W H0 L k) σ H Q := by
  obtain ⟨ε, LL, rel, h⟩ := h
  unfold chD at h
  rw [Rs.to_bind] at h
  refine ⟨ε, LL, rel, h.imp (fun d _ hd x H1 s1 dx => ?_) fun n z => z⟩
  rw [Rs.to_bind] at hd
  refine ⟨ε, LL, rel.mono s1, hd.imp (fun e _ he y H2 s2 dy => ?_) fun n z => z.mono s1⟩
  rw [Rs.to_bind] at he
  obtain ⟨z, hz, hq⟩ := Rs.to_of he
  refine hF (rel.mono (s1.trans s2)).good (DenS.same s2 dx) dy hz fun v H3 s3 q => ?_
  cases z with
  | bl b =>
    have q : v = _ := q
    subst q
    refine ⟨b, rfl, ?_⟩
    have hq : (if b = true then k ε >>= fun c => Rs.of (F' e c) else .ok (.bl false)).to _ _ := hq
    cases b with
    | true =>
      rw [if_pos rfl] at hq ⊢
      rw [Rs.to_bind] at hq
      refine ⟨ε, LL, rel.mono (s1.trans (s2.trans s3)), hq.imp (fun c _ hc w H4 s4 dw => ?_) fun n z => z.mono (s1.trans (s2.trans s3))⟩
      obtain ⟨z', hz', hq'⟩ := Rs.to_of hc
      exact hF' (rel.mono ((s1.trans (s2.trans s3)).trans s4)).good (DenS.same (s3.trans s4) dy) dw hz' fun v' H5 s5 q' => hq' v' H5 (((s1.trans (s2.trans s3)).trans s4).trans s5) (q'.m rel.good.sub)
    | false =>
      rw [if_neg Bool.false_ne_true] at hq ⊢
      exact hq _ _ (s1.trans (s2.trans s3)) (Den.m rel.good.sub rfl)
  | _ => exact hq.elim
theorem dt_chn {op op' : CmpOp} {r r' : R2} {F F' : Dat → Dat → Option Dat} (ho : OpR X (compareOp op) r) (ho' : OpR X (compareOp op') r') (hF : OpD X.K r F) (hF' : OpD X.K r' F') (ha : DE false X W H0 L a f) (hb : DE false X W H0 L b g) (hc : DE false X W H0 L c k) (hm : lastMarks [op, op'] [b, c] = false := by with_unfolding_all rfl) :
    DT X W H0 L (.Compare a [op, op'] [b, c] pos) (tst (chD F F' f g k)) :=
  ptimp (pt_chain ho ho' ha hb hc hm) fun σ H Q h => by
    have h2 := tst_use h
    unfold tTest at h2 ⊢
    exact chn_use (m := false) hF hF' h2
theorem de_chn {op op' : CmpOp} {r r' : R2} {F F' : Dat → Dat → Option Dat} (ho : OpR X (compareOp op) r) (ho' : OpR X (compareOp op') r') (hF : OpD X.K r F) (hF' : OpD X.K r' F') (ha : DE false X W H0 L a f) (hb : DE false X W H0 L b g) (hc : DE false X W H0 L c k) (hm : lastMarks [op, op'] [b, c] = false := by with_unfolding_all rfl) :
    DE m X W H0 L (.Compare a [op, op'] [b, c] pos) (chD F F' f g k) :=
  peimp (pe_chain ho ho' ha hb hc hm) fun σ H Q h => chn_use hF hF' h
theorem dt_lele (ha : DE false X W H0 L a f) (hb : DE false X W H0 L b g) (hc : DE false X W H0 L c k) (hm : lastMarks [.LtE, .LtE] [b, c] = false := by with_unfolding_all rfl) : DT X W H0 L (.Compare a [.LtE, .LtE] [b, c] pos) (tst (chD dLe dLe f g k)) := dt_chn op_le op_le opd_I2 opd_I2 ha hb hc hm
theorem de_lele (ha : DE false X W H0 L a f) (hb : DE false X W H0 L b g) (hc : DE false X W H0 L c k) (hm : lastMarks [.LtE, .LtE] [b, c] = false := by with_unfolding_all rfl) : DE m X W H0 L (.Compare a [.LtE, .LtE] [b, c] pos) (chD dLe dLe f g k) := de_chn op_le op_le opd_I2 opd_I2 ha hb hc hm
theorem dt_lelt (hu : X.A.units < cLine) (ha : DE false X W H0 L a f) (hb : DE false X W H0 L b g) (hc : DE false X W H0 L c k) (hm : lastMarks [.LtE, .Lt] [b, c] = false := by with_unfolding_all rfl) : DT X W H0 L (.Compare a [.LtE, .Lt] [b, c] pos) (tst (chD dLe dLt f g k)) := dt_chn op_le (op_lt.or (op_ltT hu)) opd_I2 opd_cmp ha hb hc hm
end
section
variable {ε : DEnv} {f g k : DEnv → Rs Dat}
@[simp] theorem spLD_eq : spLD f g ε = (f ε >>= asS >>= fun a => g ε >>= fun d => Rs.of (dSplit a d)) := rfl
@[simp] theorem walkS_eq : walkS f ε = (f ε >>= asSg) := rfl
@[simp] theorem asSg_str (z : Str) : asSg (.str z) = .ok (z.cps.toList.map fun c => .str ⟨#[c]⟩) := rfl
@[simp] theorem chD_eq {F F' : Dat → Dat → Option Dat} : chD F F' f g k ε = (f ε >>= fun a => g ε >>= fun b => Rs.of (F a b) >>= fun z => asB z >>= fun t => if t = true then k ε >>= fun c => Rs.of (F' b c) else .ok (.bl false)) := rfl
end
end DL

set_option maxRecDepth 100000
set_option maxHeartbeats 4000000
/-! DLlx: comprehensions whose element may raise. -/
namespace DL
open PySem PySem.Spec PyProof.Rows L2

/-! ### an exception that leaves a comprehension's block -/
section
variable {M : Model} {A : Around} {E : Value → Shared → Prop} {s : Shared} {Z : Obj → Prop} {base B B' : Heap} {env : Env} {outer l : List Env} {L e a C : Addr}
theorem traced_less {h : Heap} {fl : Value} (sub : ∀ b o, B'.get? b = some o → B.get? b = some o) (t : HandSPX.TracedZ h B e Z fl) : HandSPX.TracedZ h B' e Z fl := by
  obtain ⟨oe, vs, T, oT, ts, he, hz, hd, h1, hnT, r⟩ := t
  refine ⟨oe, vs, T, oT, ts, he, hz, hd, h1, ?_, r⟩
  cases q : B'.get? T with
  | none => rfl
  | some o => rw [sub T o q] at hnT; cases hnT
theorem sky_less {h : Heap} (sub : ∀ b o, B'.get? b = some o → B.get? b = some o) (x : Sky B l a Z L h) : Sky B' l a Z L h := by
  have nn : ∀ b, B.get? b = none → B'.get? b = none := fun b e => by
    cases q : B'.get? b with
    | none => rfl
    | some o => rw [sub b o q] at e; cases e
  have st : B.StaysIn h → B'.StaysIn h := fun k b o e => k b o (sub b o e)
  have ff : h.FunFrames B l → h.FunFrames B' l := fun k => funFrames_none k fun b hb => nn b (k.mem hb).1
  rcases x with ⟨h1, h2, h3, h4⟩ | ⟨h1, h2, h3, h4⟩ | ⟨h1, h2, h3, h4⟩
  · exact .inl ⟨st h1, nn _ h2, ff h3, h4⟩
  · exact .inr (.inl ⟨st h1, nn _ h2, ff h3, traced_less sub h4⟩)
  · exact .inr (.inr ⟨st h1, nn _ h2, ff h3, traced_less sub h4⟩)
/-- noted by a frame that did not hold it -/
theorem looks_other {fl : Value} {Q : Unit → Shared → Prop} (hZ : HandSPX.Steady Z) (hfr : A.frames = some (env :: outer)) (hf : env.frame = some L) (hne : (fl == rawInt L) = false)
    (hkb : base.StaysIn s.heap) (hen : base.get? e = none) (hl : s.heap.FunFrames base (env :: outer)) (ht : HandSPX.TracedZ s.heap base e Z fl)
    (hQ : ∀ h', HandSPX.HeldZ base (env :: outer) e Z L h' → s.heap.UpToSlots h' → Q () { s with heap := h' }) : wpAny M A (noteFrame (.ref e) env) Q E s := by
  obtain ⟨oe, vs, T, oT, ts, he, hz, hd, h1, hnT, hTe, hT, hdT, h3⟩ := ht
  unfold noteFrame
  simp only [hf]
  refine wpAny_bind (wpAny_field he hd h1 ?_)
  rw [if_pos (show (Value.ref T != Value.none) = true from by simp)]
  refine wpAny_bind (wpAny_field hT hdT h3 ?_)
  rw [if_neg (show ¬ ((fl == rawInt L) = true) from by rw [hne]; exact Bool.false_ne_true)]
  refine wpAny_bind (wpAny_setField hT hdT (Array.getElem?_eq_some_iff.mp h3).1 ?_)
  have other : ∀ b, b ≠ T → (s.heap.update T (Obj.mapFields (·.setIfInBounds 3 Value.none))).get? b = s.heap.get? b := fun b hb => Heap.get?_update_other _ _ (Ne.symm hb)
  have noRecord : ∀ b o, s.heap.get? b = some o → (∀ vs, o.data ≠ .fields vs) → b ≠ T := fun b o hb hnf q => by
    rw [q, hT] at hb; injection hb with hb; subst hb; exact hnf ts hdT
  refine HandSPX.wpAny_entryZ hZ hfr (hl.of_keeps fun b o hb hnf => ⟨o, (other b (noRecord b o hb hnf)).trans hb, rfl⟩) hf ((other e (Ne.symm hTe)).trans he)
    (fun b o hbo => (other b fun q => by rw [q, hnT] at hbo; cases hbo).trans (hkb b o hbo)) hen hd (Array.getElem?_eq_some_iff.mp h1).1 hz fun h' hN => ?_
  obtain ⟨x1, x2, x3, x4⟩ := hN
  exact hQ h' ⟨x1, hen, x2, x3⟩ fun b o hb hnf => x4 b o ((other b (noRecord b o hb hnf)).trans hb) hnf
/-- in the block's air, noted by the def's own frame -/
theorem sky_noted {Q : Unit → Shared → Prop} (hZ : HandSPX.Steady Z) (hfr : A.frames = some (env :: outer)) (hf : env.frame = some L) (hne : C ≠ L) (x : Sky B (env :: outer) a Z C s.heap)
    (hQ : ∀ h', HandSPX.HeldZ B (env :: outer) a Z L h' → s.heap.UpToSlots h' → Q () { s with heap := h' }) : wpAny M A (noteFrame (.ref a) env) Q E s := by
  rcases x with ⟨hB, hn, hl, oe, vs, he, hz, hd, h1⟩ | fl | hh
  · exact HandSPX.look_newZ hZ hfr hl hf he hB hn hd h1 hz hQ
  · exact HandSPX.looks_onZ hZ hfr hf fl hQ
  · obtain ⟨h1, h2, h3, h4⟩ := hh
    refine looks_other hZ hfr hf ?_ h1 h2 h3 h4 hQ
    simp only [rawInt, beq_eq_false_iff_ne, ne_eq, Value.int.injEq, and_true]
    intro z
    exact hne (Int.ofNat_inj.mp z)
theorem held_same {h h' : Heap} {m : Str → Option Value} (hs : Heap.SameBut C h h') (hn : h.Ns C m) (hn' : ∃ m', h'.Ns C m') (hC : B.get? C = none) (x : HandSPX.HeldZ B l a Z L h) : HandSPX.HeldZ B l a Z L h' := by
  obtain ⟨b1, b0, f1, oe, vs, T, oT, ts, he, hz, hd, h1, hnT, hTe, hT, hdT, h3⟩ := x
  obtain ⟨m', hn'⟩ := hn'
  obtain ⟨oL, es, ep, hoL, hdL, _⟩ := hn
  have ne : ∀ (b : Addr) (o : Obj) (ws : Array Value), h.get? b = some o → o.data = .fields ws → b ≠ C := fun b o ws e d q => by
    rw [q, hoL] at e
    have z := Option.some.inj e
    rw [← z, hdL] at d
    cases d
  exact ⟨fun b o e => (hs.2 b fun q => by rw [q, hC] at e; cases e).trans (b1 b o e), b0, Heap.FunFrames.sameBut hs hn' f1, oe, vs, T, oT, ts, (hs.2 a (ne a oe vs he hd)).trans he, hz, hd, h1, hnT, hTe, (hs.2 T (ne T oT ts hT hdT)).trans hT, hdT, h3⟩
end

section
variable {X : Cx} {W : WX} {pins pn : List (Addr × Obj)} {σ : L2.St} {H : Hp} {s : Shared} {scope : Scope} {ce : Env} {fp : List Addr}
/-- what the element's exceptions come to -/
abbrev Cx.le (X : Cx) (s : Shared) (H : Hp) (scope : Scope) (ce : Env) (fp : List Addr) (pn : List (Addr × Obj)) : Cx :=
  (X.blk s H scope ce fp).tr pn (notedBy (model X.prog X.w) X.A ce (CompFails (model X.prog X.w) X.A X.xe ce))
theorem le_takes (hs : X.stack = X.env :: X.outer) (hf : X.env.frame = some X.env.locals) (tk : Takes X W) (I : Inv X pins σ H s) (okB : (X.blk s H scope ce fp).Ok) (hfp : ∀ b ∈ fp, FpOk X pins H b)
    (cL : ce.locals = s.heap.objs.size) (cF : ce.frame = X.env.frame) : Takes (Cx.le X s H scope ce fp pn) (fun c d _ H' => W c d σ H') := by
  rintro u s' ⟨a, B, sI, pins', σ', H', cls, d, rfl, J, nb, up, sky, na, os, ag, w⟩
  have nb : ∀ b o, sI.heap.get? b = some o → b ∉ frs X.stack → B.get? b = some o := nb
  have sky : Sky B X.stack a (Zc cls d) ce.locals s'.heap := sky
  have hfr : X.A.frames = some (X.env :: X.outer) := by rw [I.ok.frames, hs]
  have hLC : ce.locals ≠ X.env.locals := by rw [cL]; exact Nat.ne_of_gt I.lt
  obtain ⟨m, hn, _⟩ := J.loc
  have hn : sI.heap.Ns ce.locals m := hn
  have sub : ∀ b o, (PySem.W.hideAll B [ce.locals]).get? b = some o → B.get? b = some o := fun b o e => PySem.W.of_hideAll _ e
  have noC : (PySem.W.hideAll B [ce.locals]).get? ce.locals = none := PySem.W.hideAll_none _ (by simp)
  show wpAny _ X.A (noteFrame (.ref a) ce) _ _ s'
  rw [noteFrame_env _ cF]
  rw [hs] at sky
  refine sky_noted Zc.steady hfr hf hLC (sky_less sub sky) fun h1 held up1 => ?_
  have hn1 : h1.Ns ce.locals m := up1.ns (up.ns hn)
  refine ⟨m, hn1, fun h2 m2 hn2 hs2 => ?_⟩
  have held2 := held_same hs2 hn1 ⟨m2, hn2⟩ noC held
  obtain ⟨k1, k2, k3, oe, vs, T, oT, ts, he, hz, hd, hh1, hr⟩ := id held2
  unfold PySem.passOn
  refine wpAny_bind (wpAny_field he hd hh1 ?_)
  rw [if_neg (show ¬ ((Value.ref T == Value.none) = true) from by simp)]
  have fin : wpAny (model X.prog X.w) X.A (setFlight (.ref a) ce.frame) (fun _ s4 => wpAny (model X.prog X.w) X.A (throw (.ref a) : Sem Value) (fun _ _ => False) X.xe s4) X.xe { s' with heap := h2 } := by
    rw [cF, hf]
    refine HandSPX.setFlight_onZ held2 fun h3 held3 up3 => wpAny_throw (tk _ _ ?_)
    have lt3 : ∀ b o, s.heap.get? b = some o → b ∉ [ce.locals] := fun b o e z => by
      rw [List.mem_singleton] at z
      have q := Heap.lt_size e
      rw [z, cL] at q
      exact Nat.lt_irrefl _ q
    have nC : H' ce.locals = none := J.free
    refine ⟨a, PySem.W.hideAll B [ce.locals], { sI with heap := PySem.W.hideAll sI.heap [ce.locals] }, pins, σ, H', cls, d, rfl, ?_, fun b o e hb => ?_, fun b o e hnf => ?_, .inr (.inr (by rw [hs]; exact held3)), na, os, ag, w⟩
    · refine I.call' (ch := fp) J.os ⟨fun b o e n hb hx => PySem.W.hideAll_get _ (J.base.keep b o e n hb hx) (lt3 b o e), fun b o e n hb hx => ?_, J.base.free, fun b o e hx => ?_, J.base.tups, J.base.frzs, J.base.tbls⟩ (fun b o q => ?_) J.bare fun b hb => ⟨(hfp b hb).2.2.2.1, (hfp b hb).2.1, (hfp b hb).2.2.2.2.1, (hfp b hb).2.2.2.2.2⟩
      · obtain ⟨sl, e1⟩ := J.base.slot b o e n hb hx
        exact ⟨sl, PySem.W.hideAll_get _ e1 (lt3 b o e)⟩
      · obtain ⟨o', e1⟩ := J.base.there b o e hx
        exact ⟨o', PySem.W.hideAll_get _ e1 (lt3 b o e)⟩
      · refine (J.hok b o q).stay (fun c u hc r => PySem.W.hideAll_get _ r fun z => ?_) (fun _ r => r) fun _ _ r => r
        rw [List.mem_singleton] at z
        rcases hc with hc | hc
        · rw [← hc, z, nC] at q; cases q
        · rw [z, nC] at hc; cases hc
    · have e1 : sI.heap.get? b = some o := PySem.W.of_hideAll _ e
      refine PySem.W.hideAll_get _ (nb b o e1 hb) fun z => ?_
      rw [PySem.W.hideAll_none _ z] at e; cases e
    · have e : (PySem.W.hideAll sI.heap [ce.locals]).get? b = some o := e
      have e1 : sI.heap.get? b = some o := PySem.W.of_hideAll _ e
      have bC : b ≠ ce.locals := fun z => by
        rw [PySem.W.hideAll_none _ (by rw [z]; simp)] at e; cases e
      obtain ⟨sl1, q1⟩ := up b o e1 hnf
      obtain ⟨sl2, q2⟩ := up1 b _ q1 hnf
      have q3 := (hs2.2 b bC).trans q2
      obtain ⟨sl3, q4⟩ := up3 b _ q3 hnf
      exact ⟨sl3, q4⟩
  first
    | exact wpAny_bind (wpAny_pure (wpAny_bind fin))
    | exact wpAny_bind fin
theorem lcx_core {W : WX} {pins : List (Addr × Obj)} {s : Shared} {σ : L2.St} {H : Hp} {Q : VK} {elt tg iter : Expr} {ifs : List Expr} {scope : Scope} {own : List (Str × Nat)} {pos pos' : Pos} {wi : TI} {g : TG} {tt : TT} {te : WX → TE} {use : Option (Value → Sem Unit)} {Qf : Value → Shared → Prop}
    (hs0 : X.stack = X.env :: X.outer) (hf0 : X.env.frame = some X.env.locals) (tk : Takes X W) (hc : X.calm = true) (hN : X.N.Nodup) (I : Inv X pins σ H s) (hi : PI X tg iter wi) (ok : BlkOk X.N X.env.scope scope own)
    (hg : ∀ (s : Shared) (H : Hp) (C : Addr) (cl : List (Str × Addr)) (fp : List Addr), PG (X.blk s H scope (compEnvC scope cl C X.env) fp) tg g) (ht : ∀ (s : Shared) (H : Hp) (C : Addr) (cl : List (Str × Addr)) (fp : List Addr), PTs (X.blk s H scope (compEnvC scope cl C X.env) fp) ifs tt)
    (he : ∀ (s : Shared) (H : Hp) (C : Addr) (cl : List (Str × Addr)) (fp : List Addr) (pn : List (Addr × Obj)) (V : WX), Takes (Cx.le X s H scope (compEnvC scope cl C X.env) fp pn) V → PE (Cx.le X s H scope (compEnvC scope cl C X.env) fp pn) elt (te V)) (hs : ∀ x, foldedSetIterable iter X.env x = pure x)
    (h : tLc wi g tt (te (fun c d _ H' => W c d σ H')) (own.map (·.2)) σ H Q)
    (hRR : ∀ D C s' m H' (ce : Env), ce.locals = C → Inv X pins σ H' s' → Q (.ref D) H' → s'.heap.Ns C m → FpOk X pins H' C → compEnds (model X.prog X.w) X.A X.xe use Qf (.ref D) ce (.ok .next) s') :
    wpAny (model X.prog X.w) X.A (comprehension (.ListComp elt [⟨tg, iter, ifs, 0⟩] scope pos) scope X.env pos' (newList []) false (eval iter X.env) use) Qf X.xe s := by
  have hfree : ∀ y ∈ scope.names, y.2 = .free → ∃ c, X.env.cells.lookup y.1 = some c := fun y hy e => by
    rcases ok.free y hy e with k | k
    · exact I.ok.has _ (.inl k)
    · exact I.ok.has _ (.inr k)
  refine comprehension_at (use := use) rfl hs (closure_ok hfree) ok.kind (fun y hy e => by rw [ok.uniq y hy, e])
    (thn (hi.run pins s σ H _ I h) fun xv s1 hx => thn hx fun itv s2 h2 => ?_)
  obtain ⟨it, fp, tn, J, H2, e, I2, T, st2, f2, q⟩ := h2
  subst e
  refine wpAny_newObj_type (newEnv_comp ?_) (by show 0 ≤ sizeLine; decide)
  generalize hD : s2.heap.objs.size = D
  have hDn : H2 D = none := I2.hok.fresh (Nat.le_of_eq hD)
  obtain ⟨W, ⟨m0, w0⟩, turn⟩ := q D hDn
  -- the new list
  generalize hs3 : ({ s2 with heap := s2.heap.push { cls := .type "list", data := .seq ([] : List Value).toArray } } : Shared) = s3
  have I3 : Inv X pins σ (upd H2 D (.lst [])) s3 := by
    rw [← hs3]
    refine I2.laid (t' := s2.toks) (fun b o e => Heap.get?_push_of_some _ e) (Nat.le_of_eq hD) ⟨Nat.zero_le _, [], 0, .nil, ?_⟩
    rw [← hD]
    exact Heap.get?_push_size _ rfl
  have h3 : s3.heap = s2.heap.push { cls := .type "list", data := .seq ([] : List Value).toArray } := by rw [← hs3]
  have sz : ∀ b ∈ fp, b < s2.heap.objs.size := fun b hb => by
    obtain ⟨o, e, _⟩ := T.obj _ _ st2 b hb
    exact Heap.lt_size e
  have f3 : ∀ b ∈ fp, FpOk X pins (upd H2 D (.lst [])) b ∧ b < s3.heap.objs.size := fun b hb => by
    have hlt := sz b hb
    refine ⟨⟨?_, (f2 b hb).2⟩, by rw [h3, Heap.size_push]; exact Nat.lt_succ_of_lt hlt⟩
    rw [upd_ne (by rw [← hD]; exact Nat.ne_of_lt hlt)]
    exact (f2 b hb).1
  have st3 : tn 0 s3.heap := T.keep _ _ _ st2 fun b _ o e => by rw [h3]; exact Heap.get?_push_of_some _ e
  have I4 := block_start I3 ok hN f3
  have pg := hg s3 (upd H2 D (.lst [])) s3.heap.objs.size (cellsFrom (s3.heap.objs.size + 1) scope.names (cloFrom X.env.cells scope.names [])) fp
  have pt := ht s3 (upd H2 D (.lst [])) s3.heap.objs.size (cellsFrom (s3.heap.objs.size + 1) scope.names (cloFrom X.env.cells scope.names [])) fp
  have conv : ∀ (ce : Env) (u : Value) (s' : Shared), CompFails (model X.prog X.w) X.A X.xe ce u s' → compEnds (model X.prog X.w) X.A X.xe use Qf (.ref D) ce (.error u) s' := fun ce u s' z => by cases use <;> exact z
  have pe := fun (pn : List (Addr × Obj)) (okB : (X.blk s3 (upd H2 D (.lst [])) scope (compEnvC scope (cellsFrom (s3.heap.objs.size + 1) scope.names (cloFrom X.env.cells scope.names [])) s3.heap.objs.size X.env) fp).Ok) =>
    he s3 (upd H2 D (.lst [])) s3.heap.objs.size (cellsFrom (s3.heap.objs.size + 1) scope.names (cloFrom X.env.cells scope.names [])) fp pn _ (le_takes (pn := pn) hs0 hf0 tk I3 okB (fun b hb => (f3 b hb).1) rfl rfl)
  show codeAny _ _ (.compStart (.ListComp elt [⟨tg, iter, ifs, 0⟩] scope pos) 0 (.ref it) (.ref D) (compEnvC scope (cellsFrom (s3.heap.objs.size + 1) scope.names (cloFrom X.env.cells scope.names [])) s3.heap.objs.size X.env)) (compEnds (model X.prog X.w) X.A X.xe use Qf (.ref D) (compEnvC scope (cellsFrom (s3.heap.objs.size + 1) scope.names (cloFrom X.env.cells scope.names [])) s3.heap.objs.size X.env)) { s3 with heap := pushCells (s3.heap.push { cls := .type "dict", data := .dict #[] }) scope.names }
  have nfp : ∀ b ∈ fp, (upd H2 D (.lst [])) b = none := fun b hb => (f3 b hb).1.1
  generalize hce : compEnvC scope (cellsFrom (s3.heap.objs.size + 1) scope.names (cloFrom X.env.cells scope.names [])) s3.heap.objs.size X.env = ce at I4 pg pt pe ⊢
  have cL : ce.locals = s3.heap.objs.size := by subst hce; rfl
  generalize hH3 : upd H2 D (.lst []) = H3 at I3 I4 pg pt pe w0 nfp f3
  generalize hs4 : ({ s3 with heap := pushCells (s3.heap.push { cls := .type "dict", data := .dict #[] }) scope.names } : Shared) = s4 at I4 ⊢
  have st4 : tn 0 s4.heap := T.keep _ _ _ st3 fun b _ o e => by rw [← hs4]; exact pushCells_keeps _ _ _ _ (Heap.get?_push_of_some _ e)
  have stat : ∀ {σ' : L2.St} {H' : Hp} {s' : Shared}, Inv (X.blk s3 H3 scope ce fp) [] σ' H' s' → (∀ b ∈ fp, H' b = none) → ∀ b ∈ fp, FpOk (X.blk s3 H3 scope ce fp) [] H' b := fun {σ' H' s'} I' hn b hb =>
    ⟨hn b hb, (I'.ok.exf b hb).1, I'.ok.exfs b hb, .inl hb, fun x c e => (I'.ok.exf b hb).2 x c e, fun p hp => absurd (show p ∈ ([] : List (Addr × Obj)) ++ [] from hp) (by simp)⟩
  have loop : codeAny (model X.prog X.w) X.A (.compLoop (.ListComp elt [⟨tg, iter, ifs, 0⟩] scope pos) 0 (.ref it) (.ref D) ce) (compEnds (model X.prog X.w) X.A X.xe use Qf (.ref D) ce) s4 := by
    refine compLoop_any (fun n s' => ∃ i H', Inv (X.blk s3 H3 scope ce fp) [] (wipe σ (own.map (·.2))) H' s' ∧ tn i s'.heap ∧ (∀ b ∈ fp, H' b = none) ∧ W i n H') ?_ m0 ⟨0, H3, I4, st4, nfp, w0⟩
    rintro n s5 ⟨i, H5, I5, st5, n5, w5⟩
    rcases turn i n H5 w5 with ⟨stop, qq⟩ | ⟨go, Nx, hNx, step⟩
    · have td := T.done (X.blk s3 H3 scope ce fp) rfl rfl rfl hc i [] s5 _ H5 (fun _ _ => False) I5 (stat I5 n5) st5 stop
      refine thnF td fun r s6 ⟨hr, I6⟩ => ?_
      subst hr
      -- back in the def's context
      have I7 : Inv X pins σ H5 s6 := I3.call' (ch := fp) I6.os I6.base I6.hok I6.bare fun b hb => ⟨(f3 b hb).1.2.2.2.1, (f3 b hb).1.2.1, (f3 b hb).1.2.2.2.2.1, (f3 b hb).1.2.2.2.2.2⟩
      have nC : H5 s3.heap.objs.size = none := by
        have z : H5 ce.locals = none := I6.free
        rw [cL] at z
        exact z
      obtain ⟨m, hn, _⟩ := I6.loc
      have hn : s6.heap.Ns ce.locals m := hn
      rw [cL] at hn
      exact hRR D s3.heap.objs.size s6 m H5 ce cL I7 qq hn (I3.fpOk (Nat.le_refl _) nC)
    · have ti := T.item (X.blk s3 H3 scope ce fp) rfl rfl rfl hc i [] s5 _ H5 (fun _ _ => False) I5 (stat I5 n5) st5 go
      refine thnF ti fun r s6 ⟨u, hr, h6⟩ => ?_
      subst hr
      refine thnF h6 fun _ s7 ⟨x, H7, I7, r7, y7, st7, n7⟩ => ?_
      have I7' := I7.pinned (stat I7 n7) (T.obj _ _ st7)
      refine thnF (pg.run _ s7 _ H7 x u _ I7' r7 (step x H7 y7)) fun _ s8 ⟨σ8, H8, I8, hw8, q8⟩ => ?_
      refine thnF (pt.run _ s8 σ8 H8 _ I8 q8) fun b s9 ⟨H9, I9, q9⟩ => ?_
      -- the turn's end
      have fin : ∀ {s' : Shared} {H' : Hp}, Inv (X.blk s3 H3 scope ce fp) ([] ++ pinsAt fp s7.heap) σ8 H' s' → Nx H' → ∃ m, m < n ∧ ∃ i H', Inv (X.blk s3 H3 scope ce fp) [] (wipe σ (own.map (·.2))) H' s' ∧ tn i s'.heap ∧ (∀ b ∈ fp, H' b = none) ∧ W i m H' := fun {s' H'} I' nx => by
        obtain ⟨m', hm, w'⟩ := hNx H' nx
        have pin' : ∀ b ∈ fp, ∀ o, s7.heap.get? b = some o → s'.heap.get? b = some o ∧ H' b = none := fun b hb o e =>
          let z := I'.pin (b, o) (List.mem_append_right _ (List.mem_append_right _ (mem_pinsAt hb e)))
          ⟨z.1, z.2.1⟩
        have hl : (wipe σ (own.map (·.2))).length = σ8.length := by rw [← hw8, wipe_length]
        refine ⟨m', hm, i + 1, H', (I'.unpinned (pins := [])).weak hl (fun j v e => ?_), T.keep _ _ _ st7 fun b hb o e => (pin' b hb o e).1, fun b hb => ?_, w'⟩
        · rw [← hw8] at e
          exact (wipe_some e).1
        · obtain ⟨o, e, _⟩ := T.obj _ _ st7 b hb
          exact (pin' b hb o e).2
      cases b with
      | false =>
        simp only [Bool.false_eq_true, if_false] at q9 ⊢
        exact fin I9 q9
      | true =>
        simp only [if_true] at q9 ⊢
        refine wpAny_mono ((pe _ I9.ok).run [] s9 σ8 H9 _ (I9.toTry _) q9) (fun z s10 hz => ?_) fun u s' hx => wpAny_mono hx (fun _ s'' h => conv ce u s'' h) fun e s'' h => conv ce e s'' h
        obtain ⟨yv, H10, I10', r10, acc, hD10, hz10, nx⟩ := hz
        have I10 := I10'.ofTry I9.ok
        exact app_ok (X := X.blk s3 H3 scope ce fp) I10 hD10 hz10 r10 fun s11 I11 => fin I11 nx
  exact codeAny_compStart_list loop (T.self X.A 0 _ _ _ st4 loop)
/-- as a value -/
theorem pe_lcx {W : WX} {elt tg iter : Expr} {ifs : List Expr} {own : List (Str × Nat)} {pos : Pos} {wi : TI} {g : TG} {tt : TT} {te : WX → TE} (hs0 : X.stack = X.env :: X.outer) (hf0 : X.env.frame = some X.env.locals) (tk : Takes X W)
    (hc : X.calm = true) (hN : X.N.Nodup) (hi : PI X tg iter wi) (ok : BlkOk X.N X.env.scope scope own)
    (hg : ∀ (s : Shared) (H : Hp) (C : Addr) (cl : List (Str × Addr)) (fp : List Addr), PG (X.blk s H scope (compEnvC scope cl C X.env) fp) tg g) (ht : ∀ (s : Shared) (H : Hp) (C : Addr) (cl : List (Str × Addr)) (fp : List Addr), PTs (X.blk s H scope (compEnvC scope cl C X.env) fp) ifs tt)
    (he : ∀ (s : Shared) (H : Hp) (C : Addr) (cl : List (Str × Addr)) (fp : List Addr) (pn : List (Addr × Obj)) (V : WX), Takes (Cx.le X s H scope (compEnvC scope cl C X.env) fp pn) V → PE (Cx.le X s H scope (compEnvC scope cl C X.env) fp pn) elt (te V)) (hs : ∀ x, foldedSetIterable iter X.env x = pure x := by intro _; rfl) :
    PE X (.ListComp elt [⟨tg, iter, ifs, 0⟩] scope pos) (fun σ H Q => tLc wi g tt (te (fun c d _ H' => W c d σ H')) (own.map (·.2)) σ H Q) := by
  refine ⟨fun pins s σ H Q I h => ?_⟩
  rw [eval_ListComp]
  refine lcx_core hs0 hf0 tk hc hN I hi ok hg ht he hs h fun D C s' m H' ce hce I' q hn f => ?_
  subst hce
  refine ⟨m, hn, fun h'' sb => ?_⟩
  obtain ⟨f0, f1, f2, f3, f4, f5⟩ := f
  exact ⟨.ref D, H', I'.turned (t' := s'.toks) (fun b o hb e => (sb.2 b hb).trans e) f0 f1 f3 f4 f5, rfl, q⟩
/-- stored in a local name, all on one line -/
theorem ps_setLcx {W : WX} {i : Nat} {y : Str} {py : Pos} {elt tg iter : Expr} {ifs : List Expr} {own : List (Str × Nat)} {pos spos : Pos} {wi : TI} {g : TG} {tt : TT} {te : WX → TE} (hs0 : X.stack = X.env :: X.outer) (hf0 : X.env.frame = some X.env.locals) (tk : Takes X W)
    (hc : X.calm = true) (hN : X.N.Nodup) (hy : X.N[i]? = some y) (hyl : X.env.scope.names.lookup y = some .local)
    (hsw : swapsWith (.ListComp elt [⟨tg, iter, ifs, 0⟩] scope pos) (some (.Name y py)) spos.line X.env = pure true) (hi : PI X tg iter wi) (ok : BlkOk X.N X.env.scope scope own)
    (hg : ∀ (s : Shared) (H : Hp) (C : Addr) (cl : List (Str × Addr)) (fp : List Addr), PG (X.blk s H scope (compEnvC scope cl C X.env) fp) tg g) (ht : ∀ (s : Shared) (H : Hp) (C : Addr) (cl : List (Str × Addr)) (fp : List Addr), PTs (X.blk s H scope (compEnvC scope cl C X.env) fp) ifs tt)
    (he : ∀ (s : Shared) (H : Hp) (C : Addr) (cl : List (Str × Addr)) (fp : List Addr) (pn : List (Addr × Obj)) (V : WX), Takes (Cx.le X s H scope (compEnvC scope cl C X.env) fp pn) V → PE (Cx.le X s H scope (compEnvC scope cl C X.env) fp pn) elt (te V)) (hs : ∀ x, foldedSetIterable iter X.env x = pure x := by intro _; rfl) :
    PS X (.Assign [.Name y py] (.ListComp elt [⟨tg, iter, ifs, 0⟩] scope pos) spos) (fun D σ H => tAsg (fun σ H Q => tLc wi g tt (te (fun c d _ H' => W c d σ H')) (own.map (·.2)) σ H Q) (gName i) D σ H) := by
  refine ⟨fun pins s σ H D I h => ?_⟩
  rw [exec_Assign_Name_used _ _ _ _ hsw]
  refine wpAny_bind (wpAny_standAt (wpAny_bind ?_))
  show wpAny _ X.A (do let _ ← comprehension (.ListComp elt [⟨tg, iter, ifs, 0⟩] scope pos) scope X.env (firstIterPos [⟨tg, iter, ifs, 0⟩] pos) (newList []) false (eval iter X.env) (some (assign (.Name y py) X.env))) _ _ s
  have h : tLc wi g tt (te (fun c d _ H' => W c d σ H')) (own.map (·.2)) σ H (fun x H1 => gName i x σ H1 D.nx) := h
  refine wpAny_bind (thn (lcx_core (Qf := fun _ s' => SP X pins D .next s') hs0 hf0 tk hc hN I hi ok hg ht he hs h fun L C s' m H' ce hce I' q hn f => ?_) fun _ s' hq => wpAny_pure (wpAny_pure hq))
  subst hce
  show wpAny _ _ (assign (.Name y py) X.env (.ref L)) _ _ _
  refine wpAny_assign_Name (store_ok2 (v := V.ref L) I' hN hy (.inl hyl) rfl (fun s2 I2 ⟨a, sb, ha⟩ => ?_) (.inr hyl))
  obtain ⟨f0, f1, f2, f3, f4, f5⟩ := f
  have haC : ce.locals ≠ a := by
    rcases ha with z | z
    · rw [z]; exact f1
    · exact fun e => f4 y a z e.symm
  refine ⟨m, hn.sameBut sb haC, fun h3 sb3 => ?_⟩
  exact ⟨_, H', I2.turned (t' := s2.toks) (fun b o hb e => (sb3.2 b hb).trans e) f0 f1 f3 f4 f5, q⟩
end

/-! ### over data -/
def compTX (g : Dat → DEnv → Option DEnv) (c : DEnv → Rs Bool) (fe : DEnv → Rs Dat) (ε : DEnv) (d : Dat) : Rs (Option Dat) :=
  Rs.of (g d ε) >>= fun ε2 => (c ε2).nox >>= fun b => if b = true then fe ε2 >>= fun z => .ok (some z) else .ok none
noncomputable def compDX (w : DEnv → Rs (List Dat)) (g : Dat → DEnv → Option DEnv) (c : DEnv → Rs Bool) (fe : DEnv → Rs Dat) (vs : List Nat) (ε : DEnv) : Rs (List Dat) :=
  w ε >>= fun ds => chk (sz ds.length && noOwn ε vs) (compL (compTX g c fe (wipeD ε vs)) ds)
section
variable {X : Cx} {W : WX} {H0 : Hp} {L : Lp} {m : Bool} {a b e : Expr} {es : List Expr} {pos : Pos} {f fe : DEnv → Rs Dat} {fa w : DEnv → Rs (List Dat)} {c : DEnv → Rs Bool} {g : Dat → DEnv → Option DEnv} {tg iter elt : Expr} {ifs : List Expr} {scope : Scope} {own : List (Str × Nat)}
theorem lcx_use {K : PySem.W.Frag} {mg : Str → Option Value} {σ0 : L2.St} {H : Hp} {Q : VK} {vs : List Nat} (hloc : ∀ d ε ε', g d ε = some ε' → ∀ j, ¬ j ∈ vs → ε'[j]? = ε[j]?) (h : tF K mg W H0 L (compDX w g c fe vs) σ0 H Q) :
    tLc (tI false K mg W H0 L w) (fun v σ H Q => ∃ M : {M : Lp // M.c = L.c}, tG (fun j => j ∈ vs) K H0 M.1 g v σ H Q) (fun σ H Q => ∃ M : {M : Lp // M.c = L.c}, tT K mg W0 H0 M.1 c σ H Q) (fun σ H Q => ∃ M : {M : Lp // M.c = L.c}, tE true K mg (fun C d _ H' => W C d σ0 H') H0 M.1 fe σ H Q) vs σ0 H Q := by
  obtain ⟨ε, LL, r, h⟩ := h
  unfold compDX at h
  rw [Rs.to_bind] at h
  refine ⟨ε, LL, r, h.imp (fun ds _ hd J H1 s1 wk D hD => ?_) fun n z => z⟩
  obtain ⟨hz, hd⟩ := chk_to hd
  rw [Bool.and_eq_true] at hz
  have hsz := sz_ok hz.1
  have hHD : H D = none := s1.free hD
  refine ⟨fun i m H2 => m = ds.length - i ∧ i ≤ ds.length ∧ Same H1 H2 ∧ ∃ acc dacc, H2 D = some (.lst acc) ∧ acc.length ≤ i ∧ DenL K H0 (LL.or D) H2 dacc acc ∧
      (compL (compTX g c fe (wipeD ε vs)) (ds.drop i)).to (fun zs => ∀ a us H', Same H H' → H a = none → H' a = some (.lst us) → DenL K H0 (LL.or a) H' (dacc ++ zs) us → Q (.ref a) H') (XW mg W σ0 H),
    ⟨ds.length, by simp, Nat.zero_le _, same_new hD, [], [], upd_same, Nat.le_refl _, rfl, hd⟩, ?_⟩
  rintro i m H2 ⟨rfl, hi, s2, acc, dacc, hacc, hlen, dden, h2⟩
  have hH2 : Same H H2 := s1.trans s2
  have good : ∀ {H3 : Hp}, Same H2 H3 → Good H0 (L.or D) (LL.or D) H3 := fun {H3} s3 => ⟨fun _ z => z.imp (r.sub _) id, (by
    intro b z
    rcases z with z | z
    · obtain ⟨o, e, m⟩ := r.mu b z
      exact ⟨o, (hH2.trans s3) _ _ e, m⟩
    · exact ⟨.lst acc, by rw [z]; exact s3 _ _ hacc, trivial⟩), fun b e => r.same.free ((hH2.trans s3).free e)⟩
  have wi := wk.run (L.or D) (LL.or D) H2 (good (Same.refl _)) (kp_or s2 hD) (fun _ => s2) i
  by_cases hlt : i < ds.length
  · have hdi : ds[i]? = some ds[i] := List.getElem?_eq_getElem hlt
    have hdrop : ds.drop i = ds[i] :: ds.drop (i + 1) := List.drop_eq_getElem_cons hlt
    rw [hdrop] at h2
    unfold compL at h2
    rw [Rs.to_bind] at h2
    unfold compTX at h2
    rw [Rs.to_bind] at h2
    obtain ⟨ε2, he2, h3⟩ := Rs.to_of h2
    rw [Rs.to_bind] at h3
    obtain ⟨go, yl⟩ := wi.1 _ hdi
    refine .inr ⟨go, fun H' => Same H1 H' ∧ ∃ acc dacc, H' D = some (.lst acc) ∧ acc.length ≤ i + 1 ∧ DenL K H0 (LL.or D) H' dacc acc ∧
      (compL (compTX g c fe (wipeD ε vs)) (ds.drop (i + 1))).to (fun zs => ∀ a us H', Same H H' → H a = none → H' a = some (.lst us) → DenL K H0 (LL.or a) H' (dacc ++ zs) us → Q (.ref a) H') (XW mg W σ0 H),
      fun H' z => ⟨ds.length - (i + 1), by omega, rfl, hlt, z⟩, fun x H3 hy => ?_⟩
    obtain ⟨s3, q3⟩ := yl x H3 hy
    have hD3 : H3 D = some (.lst acc) := s3 _ _ hacc
    have r3 := r.block hz.2 (hH2.trans s3) hHD ⟨_, hD3, trivial⟩
    refine ⟨⟨L.or D, rfl⟩, wipeD ε vs, LL.or D, ds[i], r3, q3, ε2, he2, fun σ2 r4 j4 l4 => ⟨?_, ?_⟩⟩
    · exact wipe_eq (fun j hj => (j4 j hj).trans (wipe_out' hj)) (l4.trans (wipe_length _ _))
    · refine ⟨⟨L.or D, rfl⟩, ε2, LL.or D, r4, (nox_to h3).imp (fun b _ hb H4 s4 => ?_) fun n z => z⟩
      cases b with
      | true =>
        simp only [if_true] at hb ⊢
        rw [Rs.to_bind] at hb
        refine ⟨⟨L.or D, rfl⟩, ε2, LL.or D, r4.mono s4, hb.imp (fun z _ hz y H5 s5 dz => ?_) fun n z C H6 hm s6 => z C H6 hm (hH2.trans (s3.trans (s4.trans s6)))⟩
        have hD5 : H5 D = some (.lst acc) := s5 _ _ (s4 _ _ hD3)
        have sn : Kp (LL.or D) (LL.or D) H5 (upd H5 D (.lst (acc ++ [y]))) := kp_mut (.inr rfl) .lst
        refine ⟨acc, hD5, by omega, fun b o e => ?_, acc ++ [y], dacc ++ [z], upd_same, by rw [List.length_append]; simp; exact hlen, ?_, ?_⟩
        · rw [upd_ne (ne_of_none e hD)]
          exact s5 _ _ (s4 _ _ (s3 _ _ (s2 _ _ e)))
        · refine DenL.app ?_ ⟨y, [], rfl, ?_, rfl⟩
          · exact (dden.same (s3.trans (s4.trans s5))).kp sn fun _ z => z
          · exact Den.kp sn (fun _ z => z) (show Den _ _ _ _ _ _ from dz)
        · have hz' : (compL (compTX g c fe (wipeD ε vs)) (ds.drop (i + 1)) >>= fun zs => Rs.ok (z :: zs)).to _ _ := hz
          rw [Rs.to_bind] at hz'
          refine hz'.imp (fun zs _ q a us H' s hn ha dd => ?_) fun n z => z
          rw [List.append_assoc] at dd
          exact q a us H' s hn ha dd
      | false =>
        simp only [Bool.false_eq_true, if_false] at hb ⊢
        have hb' : (compL (compTX g c fe (wipeD ε vs)) (ds.drop (i + 1)) >>= fun zs => Rs.ok zs).to _ _ := hb
        rw [Rs.to_bind] at hb'
        exact ⟨s2.trans (s3.trans s4), acc, dacc, s4 _ _ hD3, Nat.le_succ_of_le hlen, dden.same (s3.trans s4), hb'⟩
  · have e : i = ds.length := by omega
    subst e
    rw [List.drop_length] at h2
    refine .inl ⟨wi.2 (Nat.le_refl _), ?_⟩
    have h2' : ∀ a us H', Same H H' → H a = none → H' a = some (.lst us) → DenL K H0 (LL.or a) H' (dacc ++ []) us → Q (.ref a) H' := h2
    rw [List.append_nil] at h2'
    exact h2' D acc H2 hH2 hHD hacc dden


theorem df_lcx (hs0 : X.stack = X.env :: X.outer) (hf0 : X.env.frame = some X.env.locals) (tk : Takes X W) (hc : X.calm = true) (hN : X.N.Nodup) (hi : DI false X W H0 L tg iter w) (ok : BlkOk X.N X.env.scope scope own)
    {vs : List Nat} (hg : ∀ (s : Shared) (H : Hp) (C : Addr) (cl : List (Str × Addr)) (fp : List Addr) (M : Lp), M.c = L.c → DG (fun j => j ∈ vs) (X.blk s H scope (compEnvC scope cl C X.env) fp) H0 M tg g)
    (ht : ∀ (s : Shared) (H : Hp) (C : Addr) (cl : List (Str × Addr)) (fp : List Addr) (M : Lp), M.c = L.c → DTs (X.blk s H scope (compEnvC scope cl C X.env) fp) W0 H0 M ifs c)
    (he : ∀ (s : Shared) (H : Hp) (C : Addr) (cl : List (Str × Addr)) (fp : List Addr) (pn : List (Addr × Obj)) (V : WX) (tkV : Takes (Cx.le X s H scope (compEnvC scope cl C X.env) fp pn) V) (M : Lp), M.c = L.c → DE true (Cx.le X s H scope (compEnvC scope cl C X.env) fp pn) V H0 M elt fe)
    (hvs : own.map (·.2) = vs := by rfl) (hs : ∀ x, foldedSetIterable iter X.env x = pure x := by intro _; rfl) :
    DF X W H0 L (.ListComp elt [⟨tg, iter, ifs, 0⟩] scope pos) (compDX w g c fe vs) := by
  subst hvs
  exact peimp (pe_lcx hs0 hf0 tk hc hN hi ok (fun s H C cl fp => pgex (t := fun M : {M : Lp // M.c = L.c} => tG (fun j => j ∈ own.map (·.2)) X.K H0 M.1 g) fun M => (hg s H C cl fp M.1 M.2).pg) (fun s H C cl fp => ptsex (t := fun M : {M : Lp // M.c = L.c} => tT X.K X.mg W0 H0 M.1 c) fun M => ht s H C cl fp M.1 M.2) (te := fun V σ H Q => ∃ M : {M : Lp // M.c = L.c}, tE true X.K X.mg V H0 M.1 fe σ H Q) (fun s H C cl fp pn V tkV => peex (t := fun M : {M : Lp // M.c = L.c} => tE true X.K X.mg V H0 M.1 fe) fun M => he s H C cl fp pn V tkV M.1 M.2) hs) fun σ H Q h => lcx_use (hg X.s_0 H 0 [] [] L rfl).loc h
theorem ds_setLcx (i : Nat) {y : Str} {py spos : Pos} (hs0 : X.stack = X.env :: X.outer) (hf0 : X.env.frame = some X.env.locals) (tk : Takes X W) (hc : X.calm = true) (hN : X.N.Nodup) (hi : DI false X W H0 L tg iter w) (ok : BlkOk X.N X.env.scope scope own)
    {vs : List Nat} (hg : ∀ (s : Shared) (H : Hp) (C : Addr) (cl : List (Str × Addr)) (fp : List Addr) (M : Lp), M.c = L.c → DG (fun j => j ∈ vs) (X.blk s H scope (compEnvC scope cl C X.env) fp) H0 M tg g)
    (ht : ∀ (s : Shared) (H : Hp) (C : Addr) (cl : List (Str × Addr)) (fp : List Addr) (M : Lp), M.c = L.c → DTs (X.blk s H scope (compEnvC scope cl C X.env) fp) W0 H0 M ifs c)
    (he : ∀ (s : Shared) (H : Hp) (C : Addr) (cl : List (Str × Addr)) (fp : List Addr) (pn : List (Addr × Obj)) (V : WX) (tkV : Takes (Cx.le X s H scope (compEnvC scope cl C X.env) fp pn) V) (M : Lp), M.c = L.c → DE true (Cx.le X s H scope (compEnvC scope cl C X.env) fp pn) V H0 M elt fe)
    (hy : X.N[i]? = some y := by rfl) (hyl : X.env.scope.names.lookup y = some .local := by rfl)
    (hsw : swapsWith (.ListComp elt [⟨tg, iter, ifs, 0⟩] scope pos) (some (.Name y py)) spos.line X.env = pure true := by exact sw_true rfl rfl rfl (by decide +kernel)) (hvs : own.map (·.2) = vs := by rfl) (hs : ∀ x, foldedSetIterable iter X.env x = pure x := by intro _; rfl) :
    DS X W H0 L (.Assign [.Name y py] (.ListComp elt [⟨tg, iter, ifs, 0⟩] scope pos) spos) (setD i (lstD (compDX w g c fe vs))) := by
  subst hvs
  have base := ps_setLcx (i := i) hs0 hf0 tk hc hN hy hyl hsw hi ok (fun s H C cl fp => pgex (t := fun M : {M : Lp // M.c = L.c} => tG (fun j => j ∈ own.map (·.2)) X.K H0 M.1 g) fun M => (hg s H C cl fp M.1 M.2).pg) (fun s H C cl fp => ptsex (t := fun M : {M : Lp // M.c = L.c} => tT X.K X.mg W0 H0 M.1 c) fun M => ht s H C cl fp M.1 M.2) (te := fun V σ H Q => ∃ M : {M : Lp // M.c = L.c}, tE true X.K X.mg V H0 M.1 fe σ H Q) (fun s H C cl fp pn V tkV => peex (t := fun M : {M : Lp // M.c = L.c} => tE true X.K X.mg V H0 M.1 fe) fun M => he s H C cl fp pn V tkV M.1 M.2) hs
  refine psimp base fun D σ H hl ⟨ε, LL, r, h⟩ => ?_
  unfold tAsg
  dsimp only
  refine lcx_use (W := W) (L := L) (hg X.s_0 H 0 [] [] L rfl).loc ⟨ε, LL, r, ?_⟩
  unfold setD lstD at h
  rw [Rs.to_bind, Rs.to_bind] at h
  refine h.imp (fun ds _ hd a vs H' s hn ha q => ?_) fun n z => z.w r.same
  have r1 := (r.mono s).setv (d := .lst true ds) (v := .ref a) (i := i) (by rw [hl]; exact lt_of_get hy) ⟨a, vs, rfl, fun z => r.trk a z hn, fun _ => r.same.free hn, ha, DenL.kp (L := LL.or a) ⟨fun b o n e => ⟨fun z => n (Or.inl z), e⟩, KL.refl⟩ (fun _ z => z) q⟩
  exact hd _ _ _ r1 (Kp.same s)
end
end DL

set_option maxRecDepth 100000
set_option maxHeartbeats 4000000
/-! DLsw: x, y = y, x. -/
namespace DL
open PySem PySem.Spec PyProof.Rows L2
section
variable {X : Cx}
/-- two plain local names take two values, the right one first -/
def tPar2 (i j : Nat) (ta : TA) : TS := fun D σ H => ta σ H fun vs H1 => ∃ u v, vs = [u, v] ∧ D.nx ((σ.set i (some u)).set j (some v)) H1
theorem ps_par2 {i j : Nat} {x y : Str} {a b : Expr} {ta : TA} {px py pt pos : Pos} {kt k2 pt2} (hc : X.calm = true) (hN : X.N.Nodup) (hi : X.N[i]? = some x) (hj : X.N[j]? = some y) (hij : i ≠ j)
    (hx : X.env.scope.names.lookup x = some .local) (hy : X.env.scope.names.lookup y = some .local) (ha : PA X [a, b] ta)
    (hw : swappedStores [.Tuple [.Name x px, .Name y py] kt pt] (.Tuple [a, b] k2 pt2) X.env = pure (some [x, y]))
    (hs : swapsWithSole [.Tuple [.Name x px, .Name y py] kt pt] (.Tuple [a, b] k2 pt2) pos.line X.env = pure false) :
    PS X (.Assign [.Tuple [.Name x px, .Name y py] kt pt] (.Tuple [a, b] k2 pt2) pos) (tPar2 i j ta) := by
  refine ⟨fun pins s σ H D I h => ?_⟩
  refine Assign_Tuple_swapped (names := [x, y]) (Tuple_ (thn (ha.run _ pins s σ H _ I h) fun us s1 ⟨vs, H1, I1, r1, q1⟩ => ?_)) hs hw
  obtain ⟨v1, v2, e1, q1⟩ := q1
  subst e1
  obtain ⟨u1, u2, rfl, r1', r2'⟩ : ∃ u1 u2, us = [u1, u2] ∧ RelV v1 u1 ∧ RelV v2 u2 := by
    cases r1 with
    | cons p q =>
      cases q with
      | cons p' q' => cases q'; exact ⟨_, _, rfl, p, p'⟩
  refine wpAny_newObj_type ?_ (by show 2 ≤ sizeLine; decide)
  have I2 : Inv X pins σ H1 { s1 with heap := s1.heap.push { cls := .type "tuple", data := .seq [u1, u2].toArray } } := I1.kept (t' := s1.toks) fun b o e => Heap.get?_push_of_some _ e
  refine unpackItems_tuple (items := #[u1, u2]) (I.ok.hd hc) (IsTup.new s1.heap _) fun h' hx' => ?_
  have I3 := I2.kept (h' := h') (t' := s1.toks) fun b o e => hx' b o (Nat.ne_of_lt (Heap.lt_size e)) e
  show wpAny _ _ (assignInOrder [fun v => bindName X.env y v, fun v => bindName X.env x v] [u2, u1]) _ _ _
  refine assignInOrder_cons (wpAny_bindName (store_ok I3 hN hj (.inl hy) r2' (fun s2 I4 => ?_) (.inr hy)))
  refine assignInOrder_cons (wpAny_bindName (store_ok I4 hN hi (.inl hx) r1' (fun s3 I5 => assignInOrder_nil ?_) (.inr hx)))
  rw [List.set_comm _ _ (Ne.symm hij)] at I5
  exact ⟨_, H1, I5, q1⟩
def parD (i j : Nat) (fa : DEnv → Rs (List Dat)) (ε : DEnv) : Rs Out := fa ε >>= fun ds => match ds with
  | [d, e] => .ok (.nx ((ε.set i (some (false, d))).set j (some (false, e))))
  | _ => .no
variable {W : WX} {H0 : Hp} {L : Lp} {fa : DEnv → Rs (List Dat)}
theorem ds_par2 (i j : Nat) {x y : Str} {a b : Expr} {px py pt pos : Pos} {kt k2 pt2} (hN : X.N.Nodup) (ha : DA true X W H0 L [a, b] fa) (hc : X.calm = true := by rfl) (hi : X.N[i]? = some x := by rfl) (hj : X.N[j]? = some y := by rfl) (hij : i ≠ j := by decide)
    (hx : X.env.scope.names.lookup x = some .local := by rfl) (hy : X.env.scope.names.lookup y = some .local := by rfl)
    (hw : swappedStores [.Tuple [.Name x px, .Name y py] kt pt] (.Tuple [a, b] k2 pt2) X.env = pure (some [x, y]) := by rfl)
    (hs : swapsWithSole [.Tuple [.Name x px, .Name y py] kt pt] (.Tuple [a, b] k2 pt2) pos.line X.env = pure false := by rfl) :
    DS X W H0 L (.Assign [.Tuple [.Name x px, .Name y py] kt pt] (.Tuple [a, b] k2 pt2) pos) (parD i j fa) :=
  psimp (ps_par2 hc hN hi hj hij hx hy ha hw hs) fun D σ H hl ⟨ε, LL, r, h⟩ => by
    unfold parD at h
    rw [Rs.to_bind] at h
    refine ⟨ε, LL, r, h.imp (fun ds _ hd vs H' s q => ?_) fun n z => z.w r.same⟩
    cases q with
    | nil => exact hd.elim
    | cons p q =>
      cases q with
      | nil => exact hd.elim
      | cons p' q =>
        cases q with
        | cons _ _ => exact hd.elim
        | nil =>
          refine ⟨_, _, rfl, ?_⟩
          have r1 := (r.mono s).setv (i := i) (by rw [hl]; exact lt_of_get hi) p
          have r2 := r1.setv (i := j) (by rw [List.length_set, hl]; exact lt_of_get hj) p'
          exact hd _ _ _ r2 (Kp.same s)
end
/-! ### x in a tuple of plain items -/
section
variable {K : PySem.W.Frag} {X : Cx} {W : WX} {H0 : Hp} {L : Lp} {m : Bool} {a b : Expr} {pos : Pos} {f g : DEnv → Rs Dat}
theorem flats_of {H : Hp} {LL : Lk} : ∀ {es : List Dat} {vs : List V}, es.all isS = true → DenL K H0 LL H es vs → vs = es.map fv ∧ vs.all flatV = true
  | [], _, _, d => by cases d; exact ⟨rfl, rfl⟩
  | e :: r, _, h, ⟨v, q, e1, hv, t⟩ => by
    rw [List.all_cons, Bool.and_eq_true] at h
    obtain ⟨h1, h2⟩ := flats_of h.2 t
    have hf : v = fv e := by
      have h1 := h.1
      revert hv h1
      cases e <;> first | (intro hv _; exact hv) | (intro _ z; exact absurd z Bool.false_ne_true)
    rw [e1, hf]
    refine ⟨by rw [h1]; rfl, ?_⟩
    rw [List.all_cons, h2, Bool.and_true]
    cases e <;> rfl
def dInF (d : Dat) : Dat → Option Dat
  | .tup es => if (isS d && es.all isS) = true then some (.bl (inV (fv d) (es.map fv))) else none
  | _ => none
theorem opd_inF : OpD K (rIn K false) dInF := by
  intro H0 L LL H x y d e z Q gd hx hy hz hq
  cases e with
  | tup es =>
    have hz : (if (isS d && es.all isS) = true then some (Dat.bl (inV (fv d) (es.map fv))) else none) = some z := hz
    split at hz
    · rename_i hc
      cases hz
      rw [Bool.and_eq_true] at hc
      obtain ⟨a, vs, rfl, t, q⟩ := hy
      obtain ⟨h1, h2⟩ := flats_of hc.2 q
      have hx := fv_of hx hc.1
      subst hx h1
      exact ⟨a, _, rfl, .inr t.sq, by cases d <;> rfl, h2, by rw [if_neg Bool.false_ne_true]; exact hq _ _ (Same.refl _) rfl⟩
    · cases hz
  | _ => cases hz
theorem de_inF (ha : DE false X W H0 L a f) (hb : DE false X W H0 L b g) (h1 : behindInMarks .In b = false := by first | exact nobehind _ (by decide) (by decide) | rfl) : DE m X W H0 L (.Compare a [.In] [b] pos) (bop dInF f g) := de_cmp op_in_seq opd_inF ha hb h1
theorem dt_inF (ha : DE false X W H0 L a f) (hb : DE false X W H0 L b g) (h1 : behindInMarks .In b = false := by first | exact nobehind _ (by decide) (by decide) | rfl) : DT X W H0 L (.Compare a [.In] [b] pos) (tst (bop dInF f g)) := dt_cmp op_in_seq opd_inF ha hb h1
end
end DL

set_option maxRecDepth 100000
set_option maxHeartbeats 4000000
/-! MEq: data told by an encoding: equal as data just where the told things are equal. -/
namespace DL
open PySem PySem.Spec PyProof.Rows L2
structure EqE {α : Type} (n : Nat) (h : α → Dat) : Prop where
  eq : ∀ a b, deq (h a) (h b) = true ↔ a = b
  lay : ∀ a, (toP (h a)).canLay0 = true
  dep : ∀ a, (toP (h a)).depth ≤ n
section
variable {α β : Type} {n m : Nat} {h : α → Dat} {k : β → Dat} {t u : Bool}
theorem toPs_map (l : List α) : toPs (l.map h) = l.map fun a => toP (h a) := by
  induction l with
  | nil => rfl
  | cons a l ih => show toP (h a) :: toPs (l.map h) = _; rw [ih]; rfl
theorem EqE.all (E : EqE n h) : ∀ l m : List α, PyData.eqvAll (toPs (l.map h)) (toPs (m.map h)) = true ↔ l = m
  | [], [] => ⟨fun _ => rfl, fun _ => by show PyData.eqvAll [] [] = true; rw [PyData.eqvAll]⟩
  | [], b :: m => ⟨fun z => (by
      have z : PyData.eqvAll [] (toP (h b) :: toPs (m.map h)) = true := z
      rw [PyData.eqvAll] at z
      exact absurd z Bool.false_ne_true), fun z => (nomatch z)⟩
  | a :: l, [] => ⟨fun z => (by
      have z : PyData.eqvAll (toP (h a) :: toPs (l.map h)) [] = true := z
      rw [PyData.eqvAll] at z
      exact absurd z Bool.false_ne_true), fun z => (nomatch z)⟩
  | a :: l, b :: m => by
    show PyData.eqvAll (toP (h a) :: toPs (l.map h)) (toP (h b) :: toPs (m.map h)) = true ↔ _
    rw [PyData.eqvAll, Bool.and_eq_true, EqE.all E l m]
    have := E.eq a b
    unfold deq at this
    rw [this]
    constructor
    · rintro ⟨rfl, rfl⟩; rfl
    · intro z; cases z; exact ⟨rfl, rfl⟩
theorem EqE.layAll (E : EqE n h) : ∀ l : List α, PyData.canLayAll0 (toPs (l.map h)) = true
  | [] => by show PyData.canLayAll0 [] = true; rw [PyData.canLayAll0]
  | a :: l => by
    show PyData.canLayAll0 (toP (h a) :: toPs (l.map h)) = true
    rw [PyData.canLayAll0, E.lay a, EqE.layAll E l]
    rfl
theorem EqE.depAll (E : EqE n h) : ∀ l : List α, PyData.depthAll (toPs (l.map h)) ≤ n
  | [] => by show PyData.depthAll [] ≤ n; rw [PyData.depthAll]; exact Nat.zero_le _
  | a :: l => by
    show PyData.depthAll (toP (h a) :: toPs (l.map h)) ≤ n
    rw [PyData.depthAll]
    exact Nat.max_le.mpr ⟨E.dep a, EqE.depAll E l⟩
theorem EqE.list (E : EqE n h) (t : Bool) : EqE (n + 1) fun l : List α => .lst t (l.map h) where
  eq l m := by
    show PyData.eqv (.list (toPs (l.map h))) (.list (toPs (m.map h))) = true ↔ _
    rw [PyData.eqv]
    exact E.all l m
  lay l := by
    show PyData.canLay0 (.list (toPs (l.map h))) = true
    rw [PyData.canLay0]
    exact E.layAll l
  dep l := by
    show PyData.depth (.list (toPs (l.map h))) ≤ _
    rw [PyData.depth]
    exact Nat.succ_le_succ (E.depAll l)
theorem EqE.tupl (E : EqE n h) : EqE (n + 1) fun l : List α => .tup (l.map h) where
  eq l m := by
    show PyData.eqv (.tuple (toPs (l.map h))) (.tuple (toPs (m.map h))) = true ↔ _
    rw [PyData.eqv]
    exact E.all l m
  lay l := by
    show PyData.canLay0 (.tuple (toPs (l.map h))) = true
    rw [PyData.canLay0]
    exact E.layAll l
  dep l := by
    show PyData.depth (.tuple (toPs (l.map h))) ≤ _
    rw [PyData.depth]
    exact Nat.succ_le_succ (E.depAll l)
theorem EqE.pair (E : EqE n h) (F : EqE m k) : EqE (max n m + 1) fun p : α × β => .tup [h p.1, k p.2] where
  eq p q := by
    show PyData.eqv (.tuple [toP (h p.1), toP (k p.2)]) (.tuple [toP (h q.1), toP (k q.2)]) = true ↔ _
    rw [PyData.eqv, PyData.eqvAll, PyData.eqvAll, PyData.eqvAll, Bool.and_true, Bool.and_eq_true]
    have h1 := E.eq p.1 q.1
    have h2 := F.eq p.2 q.2
    unfold deq at h1 h2
    rw [h1, h2]
    exact ⟨fun z => Prod.ext z.1 z.2, fun z => by rw [z]; exact ⟨rfl, rfl⟩⟩
  lay p := by
    show PyData.canLay0 (.tuple [toP (h p.1), toP (k p.2)]) = true
    rw [PyData.canLay0, PyData.canLayAll0, PyData.canLayAll0, PyData.canLayAll0, E.lay, F.lay]
    rfl
  dep p := by
    show PyData.depth (.tuple [toP (h p.1), toP (k p.2)]) ≤ _
    rw [PyData.depth, PyData.depthAll, PyData.depthAll, PyData.depthAll]
    have h1 := E.dep p.1
    have h2 := F.dep p.2
    omega
theorem EqE.int : EqE 0 Dat.int where
  eq a b := by
    show PyData.eqv (.int a) (.int b) = true ↔ _
    rw [PyData.eqv, beq_iff_eq]
  lay a := by show PyData.canLay0 (.int a) = true; rw [PyData.canLay0]
  dep a := by show PyData.depth (.int a) ≤ 0; rw [PyData.depth]; exact Nat.le_refl 0
theorem EqE.bl : EqE 0 Dat.bl where
  eq a b := by
    show PyData.eqv (.bool a) (.bool b) = true ↔ _
    rw [PyData.eqv, beq_iff_eq]
  lay a := by show PyData.canLay0 (.bool a) = true; rw [PyData.canLay0]
  dep a := by show PyData.depth (.bool a) ≤ 0; rw [PyData.depth]; exact Nat.le_refl 0
/-- through an injection -/
theorem EqE.via {γ : Type} (E : EqE n h) (f : γ → α) (hf : ∀ a b, f a = f b → a = b) : EqE n fun c => h (f c) where
  eq a b := (E.eq _ _).trans ⟨hf a b, fun z => by rw [z]⟩
  lay a := E.lay _
  dep a := E.dep _
theorem EqE.eqEq (E : EqE n h) (hn : n ≤ 64) [DecidableEq α] (a b : α) : dEq (h a) (h b) = some (.bl (decide (a = b))) := by
  have ok : eqOk (h a) (h b) = true := by
    have e : ∀ a, SeqAt.shaped (toP (h a)) = true := fun a => by
      unfold SeqAt.shaped
      rw [E.lay, Bool.true_and, decide_eq_true_eq]
      exact Nat.le_trans (E.dep a) hn
    unfold eqOk
    rw [e, e]
    simp
  unfold dEq
  rw [if_pos ok]
  have : deq (h a) (h b) = decide (a = b) := by rw [Bool.eq_iff_iff, E.eq, decide_eq_true_eq]
  rw [this]
theorem EqE.neNe (E : EqE n h) (hn : n ≤ 64) [DecidableEq α] (a b : α) : dNe (h a) (h b) = some (.bl (!decide (a = b))) := by
  have ok : eqOk (h a) (h b) = true := by
    have e : ∀ a, SeqAt.shaped (toP (h a)) = true := fun a => by
      unfold SeqAt.shaped
      rw [E.lay, Bool.true_and, decide_eq_true_eq]
      exact Nat.le_trans (E.dep a) hn
    unfold eqOk
    rw [e, e]
    simp
  unfold dNe
  rw [if_pos ok]
  have : deq (h a) (h b) = decide (a = b) := by rw [Bool.eq_iff_iff, E.eq, decide_eq_true_eq]
  rw [this]
/-- lists, whoever made them -/
theorem EqE.eqL (E : EqE n h) (hn : n < 64) [DecidableEq α] (a b : List α) : dEq (.lst t (a.map h)) (.lst u (b.map h)) = some (.bl (decide (a = b))) :=
  (E.list t).eqEq hn a b
theorem EqE.neL (E : EqE n h) (hn : n < 64) [DecidableEq α] (a b : List α) : dNe (.lst t (a.map h)) (.lst u (b.map h)) = some (.bl (!decide (a = b))) :=
  (E.list t).neNe hn a b
end
end DL

set_option maxRecDepth 100000
set_option maxHeartbeats 4000000
/-! MSp: spans of time over the whole numbers; no program in sight. -/
namespace SP
abbrev Bd := Option Int
abbrev Sg := Bd × Bd
def loB : Bd → Int → Bool
  | none, _ => true
  | some a, x => decide (a ≤ x)
def hiB : Bd → Int → Bool
  | none, _ => true
  | some b, x => decide (x < b)
def memB (x : Int) (s : Sg) : Bool := loB s.1 x && hiB s.2 x
def inS (x : Int) (l : List Sg) : Bool := l.any (memB x)
def isS : Bd → Bd → Bool
  | some a, some b => decide (a < b)
  | _, _ => true
def ltB : Bd → Bd → Bool
  | some a, some b => decide (a < b)
  | _, _ => false
def Nf : List Sg → Prop
  | [] => True
  | s :: r => isS s.1 s.2 = true ∧ (∀ t ∈ r, ltB s.2 t.1 = true) ∧ Nf r
def AllS (l : List Sg) : Prop := ∀ s ∈ l, isS s.1 s.2 = true
theorem Nf.all : ∀ {l : List Sg}, Nf l → AllS l
  | [], _, s, h => nomatch h
  | _ :: _, h, s, hs => (List.mem_cons.mp hs).elim (fun e => by rw [e]; exact h.1) fun z => Nf.all h.2.2 s z
theorem inS_nil (x : Int) : inS x [] = false := rfl
theorem inS_cons (x : Int) (s : Sg) (l : List Sg) : inS x (s :: l) = (memB x s || inS x l) := rfl
theorem inS_app (x : Int) (l m : List Sg) : inS x (l ++ m) = (inS x l || inS x m) := by unfold inS; rw [List.any_append]
theorem inS_true {x : Int} {l : List Sg} : inS x l = true ↔ ∃ s ∈ l, memB x s = true := by unfold inS; rw [List.any_eq_true]
theorem ltB_some {a b : Bd} (h : ltB a b = true) : ∃ i j, a = some i ∧ b = some j ∧ i < j := by
  cases a with
  | none => cases h
  | some i => cases b with
    | none => cases h
    | some j => exact ⟨i, j, rfl, rfl, by simpa [ltB] using h⟩
theorem memB_true {x : Int} {s : Sg} : memB x s = true ↔ loB s.1 x = true ∧ hiB s.2 x = true := by unfold memB; rw [Bool.and_eq_true]
/-- a member of the tail stands above the head's end -/
theorem Nf.tail_hi {s : Sg} {r : List Sg} (h : Nf (s :: r)) {x : Int} (hx : inS x r = true) : ∃ e, s.2 = some e ∧ e < x := by
  obtain ⟨t, ht, hm⟩ := inS_true.mp hx
  obtain ⟨i, j, e1, e2, hij⟩ := ltB_some (h.2.1 t ht)
  have := (memB_true.mp hm).1
  rw [e2] at this
  have h2 : j ≤ x := by simpa [loB] using this
  exact ⟨i, e1, by omega⟩
/-- all members stand at or above the head's start -/
theorem Nf.lo {s : Sg} {r : List Sg} (h : Nf (s :: r)) {x : Int} (hx : inS x (s :: r) = true) : loB s.1 x = true := by
  rw [inS_cons, Bool.or_eq_true] at hx
  rcases hx with hx | hx
  · exact (memB_true.mp hx).1
  · obtain ⟨e, he, hlt⟩ := h.tail_hi hx
    cases hs : s.1 with
    | none => rfl
    | some a =>
      have := h.1
      rw [hs, he] at this
      have : a < e := by simpa [isS] using this
      simp [loB]; omega
theorem Nf.has {s : Sg} {r : List Sg} (h : Nf (s :: r)) : ∃ x, inS x (s :: r) = true := by
  cases h1 : s.1 with
  | some a => exact ⟨a, by
      rw [inS_cons, Bool.or_eq_true]
      refine .inl (memB_true.mpr ⟨by simp [h1, loB], ?_⟩)
      cases h2 : s.2 with
      | none => rfl
      | some b => have := h.1; rw [h1, h2] at this; simpa [isS, hiB] using this⟩
  | none =>
    cases h2 : s.2 with
    | none => exact ⟨0, by rw [inS_cons, Bool.or_eq_true]; exact .inl (memB_true.mpr ⟨by rw [h1]; rfl, by rw [h2]; rfl⟩)⟩
    | some b => exact ⟨b - 1, by rw [inS_cons, Bool.or_eq_true]; exact .inl (memB_true.mpr ⟨by rw [h1]; rfl, by rw [h2]; simp [hiB]; omega⟩)⟩
theorem Nf.start_le {s t : Sg} {r q : List Sg} (h : Nf (s :: r)) (g : Nf (t :: q)) (e : ∀ x, inS x (s :: r) = true → inS x (t :: q) = true) : ∀ a, t.1 = some a → ∃ b, s.1 = some b ∧ a ≤ b := by
  intro a ha
  cases hs : s.1 with
  | some b =>
    refine ⟨b, rfl, ?_⟩
    have : inS b (s :: r) = true := by
      rw [inS_cons, Bool.or_eq_true]
      refine .inl (memB_true.mpr ⟨by simp [hs, loB], ?_⟩)
      cases h2 : s.2 with
      | none => rfl
      | some c => have := h.1; rw [hs, h2] at this; simpa [isS, hiB] using this
    have := g.lo (e _ this)
    rw [ha] at this
    simpa [loB] using this
  | none =>
    exfalso
    have key : ∀ x, x < a → hiB s.2 x = true → False := fun x hx hh => by
      have : inS x (s :: r) = true := by
        rw [inS_cons, Bool.or_eq_true]
        exact .inl (memB_true.mpr ⟨by rw [hs]; rfl, hh⟩)
      have := g.lo (e _ this)
      rw [ha] at this
      have : a ≤ x := by simpa [loB] using this
      omega
    cases h2 : s.2 with
    | none => exact key (a - 1) (by omega) (by rw [h2]; rfl)
    | some c => exact key (min (a - 1) (c - 1)) (by omega) (by rw [h2]; simp [hiB]; omega)
theorem Nf.end_le {s t : Sg} {r q : List Sg} (h : Nf (s :: r)) (g : Nf (t :: q)) (hs : s.1 = t.1) (e : ∀ x, inS x (s :: r) = true → inS x (t :: q) = true) : ∀ b, t.2 = some b → ∃ c, s.2 = some c ∧ c ≤ b := by
  intro b hb
  have key : hiB s.2 b = true → False := fun hh => by
    have h1 : inS b (s :: r) = true := by
      rw [inS_cons, Bool.or_eq_true]
      refine .inl (memB_true.mpr ⟨?_, hh⟩)
      rw [hs]
      cases ht : t.1 with
      | none => rfl
      | some a => have := g.1; rw [ht, hb] at this; have : a < b := by simpa [isS] using this
                  simp [loB]; omega
    have h2 := e _ h1
    rw [inS_cons, Bool.or_eq_true] at h2
    rcases h2 with h2 | h2
    · have := (memB_true.mp h2).2
      rw [hb] at this
      simp [hiB] at this
    · obtain ⟨c, hc, hlt⟩ := g.tail_hi h2
      rw [hb] at hc
      cases hc
      omega
  cases hs2 : s.2 with
  | none => exact (key (by rw [hs2]; rfl)).elim
  | some c =>
    refine ⟨c, rfl, ?_⟩
    rw [hs2] at key
    simp [hiB] at key
    exact key
/-- one form -/
theorem Nf.ext : ∀ {l m : List Sg}, Nf l → Nf m → (∀ x, inS x l = inS x m) → l = m
  | [], [], _, _, _ => rfl
  | [], t :: q, _, g, e => by
    obtain ⟨x, hx⟩ := g.has
    rw [← e] at hx
    cases hx
  | s :: r, [], h, _, e => by
    obtain ⟨x, hx⟩ := h.has
    rw [e] at hx
    cases hx
  | s :: r, t :: q, h, g, e => by
    have a1 := h.start_le g fun x hx => by rw [← e]; exact hx
    have a2 := g.start_le h fun x hx => by rw [e]; exact hx
    have hs : s.1 = t.1 := by
      cases hs : s.1 with
      | none =>
        cases ht : t.1 with
        | none => rfl
        | some a => obtain ⟨b, hb, _⟩ := a1 a ht; rw [hs] at hb; cases hb
      | some b =>
        obtain ⟨a, ha, h1⟩ := a2 b hs
        obtain ⟨b', hb', h2⟩ := a1 a ha
        rw [hs] at hb'
        cases hb'
        rw [ha]
        congr 1
        omega
    have b1 := h.end_le g hs fun x hx => by rw [← e]; exact hx
    have b2 := g.end_le h hs.symm fun x hx => by rw [e]; exact hx
    have he : s.2 = t.2 := by
      cases h2 : s.2 with
      | none =>
        cases ht : t.2 with
        | none => rfl
        | some a => obtain ⟨b, hb, _⟩ := b1 a ht; rw [h2] at hb; cases hb
      | some b =>
        obtain ⟨a, ha, h1⟩ := b2 b h2
        obtain ⟨b', hb', h2'⟩ := b1 a ha
        rw [h2] at hb'
        cases hb'
        rw [ha]
        congr 1
        omega
    have hst : s = t := Prod.ext hs he
    subst hst
    have : r = q := Nf.ext h.2.2 g.2.2 fun x => by
      have ex := e x
      rw [inS_cons, inS_cons] at ex
      cases hm : memB x s with
      | false => rw [hm] at ex; simpa using ex
      | true =>
        have no : ∀ {p : List Sg}, Nf (s :: p) → inS x p = false := fun {p} hp => by
          cases hi : inS x p with
          | false => rfl
          | true =>
            obtain ⟨c, hc, hlt⟩ := hp.tail_hi hi
            have := (memB_true.mp hm).2
            rw [hc] at this
            simp [hiB] at this
            omega
        rw [no h, no g]
    rw [this]
theorem Nf.app {l : List Sg} {s : Sg} : Nf (l ++ [s]) ↔ Nf l ∧ isS s.1 s.2 = true ∧ ∀ t ∈ l, ltB t.2 s.1 = true := by
  induction l with
  | nil => simp [Nf]
  | cons t l ih =>
    show (isS t.1 t.2 = true ∧ (∀ u ∈ l ++ [s], ltB t.2 u.1 = true) ∧ Nf (l ++ [s])) ↔ (isS t.1 t.2 = true ∧ (∀ u ∈ l, ltB t.2 u.1 = true) ∧ Nf l) ∧ _ ∧ _
    rw [ih]
    constructor
    · rintro ⟨a, b, c, d, e⟩
      refine ⟨⟨a, fun u hu => b u (List.mem_append_left _ hu), c⟩, d, fun u hu => ?_⟩
      rcases List.mem_cons.mp hu with rfl | hu
      · exact b s (by simp)
      · exact e u hu
    · rintro ⟨⟨a, b, c⟩, d, e⟩
      refine ⟨a, fun u hu => ?_, c, d, fun u hu => e u (List.mem_cons_of_mem _ hu)⟩
      rcases List.mem_append.mp hu with hu | hu
      · exact b u hu
      · have : u = s := by simpa using hu
        rw [this]
        exact e t (by simp)

/-! ### tidied -/
def later : Bd → Bd → Bd
  | some x, some y => some (max x y)
  | _, _ => none
def leB : Bd → Bd → Bool
  | none, _ => true
  | some _, none => false
  | some a, some b => decide (a ≤ b)
def touch : Bd → Bd → Bool
  | some a, some b => decide (b ≤ a)
  | _, _ => true
/-- the last one of found, and a stretch that begins no earlier -/
def tidyF : List Sg → Sg → List Sg → List Sg
  | acc, l, [] => acc ++ [l]
  | acc, l, s :: r => if touch l.2 s.1 = true then tidyF acc (l.1, later l.2 s.2) r else tidyF (acc ++ [l]) s r
def tidyL : List Sg → List Sg
  | [] => []
  | s :: r => tidyF [] s r
theorem mem_later {f e s t : Bd} {x : Int} (h1 : leB f s = true) (h2 : touch e s = true) (h3 : isS f e = true) (h4 : isS s t = true) : memB x (f, later e t) = (memB x (f, e) || memB x (s, t)) := by
  cases f <;> cases e <;> cases s <;> cases t <;> simp_all [memB, loB, hiB, later, leB, touch, isS] <;> (try (rw [Bool.eq_iff_iff]; simp)) <;> omega
theorem isS_later {f e t : Bd} (h : isS f e = true) : isS f (later e t) = true := by
  cases f <;> cases e <;> cases t <;> simp_all [later, isS] <;> omega
theorem ltB_le {a b c : Bd} (h : ltB a b = true) (g : leB b c = true) : ltB a c = true := by
  cases a <;> cases b <;> cases c <;> simp_all [ltB, leB] <;> omega
theorem leB_trans {a b c : Bd} (h : leB a b = true) (g : leB b c = true) : leB a c = true := by
  cases a <;> cases b <;> cases c <;> simp_all [leB] <;> omega
theorem ltB_of {e s : Bd} (h : ¬ touch e s = true) : ltB e s = true := by
  cases e <;> cases s <;> simp_all [touch, ltB]
theorem tidyF_spec : ∀ {r : List Sg} {acc : List Sg} {l : Sg}, Nf (acc ++ [l]) → AllS r → (l :: r).Pairwise (fun a b => leB a.1 b.1 = true) → Nf (tidyF acc l r) ∧ ∀ x, inS x (tidyF acc l r) = (inS x (acc ++ [l]) || inS x r)
  | [], acc, l, h, _, _ => ⟨h, fun x => by rw [inS_nil, Bool.or_false]; rfl⟩
  | s :: r, acc, l, h, ha, hp => by
    have hls : leB l.1 s.1 = true := (List.pairwise_cons.mp hp).1 s (by simp)
    have hlr : ∀ t ∈ r, leB l.1 t.1 = true := fun t ht => (List.pairwise_cons.mp hp).1 t (by simp [ht])
    have hsr := (List.pairwise_cons.mp hp).2
    have hss : isS s.1 s.2 = true := ha s (by simp)
    have har : AllS r := fun t ht => ha t (by simp [ht])
    obtain ⟨n1, n2, n3⟩ := Nf.app.mp h
    unfold tidyF
    split
    · rename_i ht
      obtain ⟨q1, q2⟩ := tidyF_spec (r := r) (acc := acc) (l := (l.1, later l.2 s.2)) (Nf.app.mpr ⟨n1, isS_later n2, n3⟩) har (List.pairwise_cons.mpr ⟨hlr, (List.pairwise_cons.mp hsr).2⟩)
      refine ⟨q1, fun x => ?_⟩
      rw [q2, inS_app, inS_app, inS_cons, inS_cons, inS_cons, inS_nil, Bool.or_false, Bool.or_false, mem_later hls ht n2 hss]
      simp only [Bool.or_assoc]
    · rename_i ht
      have hlt := ltB_of ht
      obtain ⟨q1, q2⟩ := tidyF_spec (r := r) (acc := acc ++ [l]) (l := s) (Nf.app.mpr ⟨h, hss, fun t htm => by
        rcases List.mem_append.mp htm with h5 | h5
        · exact ltB_le (n3 t h5) hls
        · have : t = l := by simpa using h5
          rw [this]
          exact hlt⟩) har hsr
      refine ⟨q1, fun x => ?_⟩
      rw [q2, inS_app, inS_cons, inS_cons, inS_nil, Bool.or_false]
      simp only [Bool.or_assoc]
theorem tidyL_spec {l : List Sg} (ha : AllS l) (hp : l.Pairwise (fun a b => leB a.1 b.1 = true)) : Nf (tidyL l) ∧ ∀ x, inS x (tidyL l) = inS x l := by
  cases l with
  | nil => exact ⟨trivial, fun _ => rfl⟩
  | cons s r =>
    obtain ⟨q1, q2⟩ := tidyF_spec (r := r) (acc := []) (l := s) (show Nf [s] from ⟨ha s (by simp), by simp, trivial⟩) (fun t ht => ha t (by simp [ht])) hp
    exact ⟨q1, fun x => by rw [tidyL, q2, List.nil_append, inS_cons, inS_cons, inS_nil, Bool.or_false]⟩

theorem inS_perm {l m : List Sg} (h : l.Perm m) (x : Int) : inS x l = inS x m := by
  unfold inS
  rw [Bool.eq_iff_iff, List.any_eq_true, List.any_eq_true]
  exact ⟨fun ⟨s, a, b⟩ => ⟨s, h.mem_iff.mp a, b⟩, fun ⟨s, a, b⟩ => ⟨s, h.mem_iff.mpr a, b⟩⟩

/-! ### met, gaps -/
def laterS : Bd → Bd → Bd
  | none, b => b
  | a, none => a
  | some a, some b => some (max a b)
def earlier : Bd → Bd → Bd
  | none, b => b
  | a, none => a
  | some a, some b => some (min a b)
theorem loB_laterS (a b : Bd) (x : Int) : loB (laterS a b) x = (loB a x && loB b x) := by
  cases a <;> cases b <;> simp [laterS, loB] <;> (try (rw [Bool.eq_iff_iff]; simp)) <;> omega
theorem hiB_earlier (a b : Bd) (x : Int) : hiB (earlier a b) x = (hiB a x && hiB b x) := by
  cases a <;> cases b <;> simp [earlier, hiB] <;> (try (rw [Bool.eq_iff_iff]; simp)) <;> omega
theorem mem_of_not {s e : Bd} (h : isS s e = false) (x : Int) : memB x (s, e) = false := by
  cases s <;> cases e <;> simp_all [isS, memB, loB, hiB] <;> omega
def cross (s t : Sg) : Sg := (laterS s.1 t.1, earlier s.2 t.2)
theorem mem_cross (s t : Sg) (x : Int) : memB x (cross s t) = (memB x s && memB x t) := by
  unfold cross memB
  rw [loB_laterS, hiB_earlier]
  cases loB s.1 x <;> cases loB t.1 x <;> cases hiB s.2 x <;> cases hiB t.2 x <;> rfl
def metL (l m : List Sg) : List Sg := l.flatMap fun s => (m.map (cross s)).filter fun c => isS c.1 c.2
theorem inS_filter (l : List Sg) (x : Int) : inS x (l.filter fun c => isS c.1 c.2) = inS x l := by
  induction l with
  | nil => rfl
  | cons s l ih =>
    rw [List.filter_cons]
    split
    · rw [inS_cons, inS_cons, ih]
    · rename_i h
      rw [inS_cons, ih, mem_of_not (by simpa using h)]
      rfl
theorem inS_map_cross (s : Sg) (m : List Sg) (x : Int) : inS x (m.map (cross s)) = (memB x s && inS x m) := by
  induction m with
  | nil => simp [inS]
  | cons t m ih => rw [List.map_cons, inS_cons, ih, mem_cross, inS_cons]; cases memB x s <;> rfl
theorem inS_met (l m : List Sg) (x : Int) : inS x (metL l m) = (inS x l && inS x m) := by
  induction l with
  | nil => rfl
  | cons s l ih =>
    show inS x ((m.map (cross s)).filter _ ++ metL l m) = _
    rw [inS_app, ih, inS_filter, inS_map_cross, inS_cons]
    cases memB x s <;> cases inS x l <;> cases inS x m <;> rfl
theorem metL_all (l m : List Sg) : AllS (metL l m) := fun s hs => by
  obtain ⟨a, _, h⟩ := List.mem_flatMap.mp hs
  exact (List.mem_filter.mp h).2
def between : List Sg → List Sg
  | a :: b :: r => (a.2, b.1) :: between (b :: r)
  | _ => []
def pre : Bd → List Sg
  | none => []
  | some a => [(none, some a)]
def post : Bd → List Sg
  | none => []
  | some a => [(some a, none)]
def lastE : Sg → List Sg → Bd
  | s, [] => s.2
  | _, t :: r => lastE t r
def gapsL : List Sg → List Sg
  | [] => [(none, none)]
  | s :: r => pre s.1 ++ between (s :: r) ++ post (lastE s r)
theorem gap_after : ∀ {r : List Sg} {s : Sg}, Nf (s :: r) → ∀ x, hiB s.2 x = false → inS x (between (s :: r) ++ post (lastE s r)) = !inS x r
  | [], s, h, x, hx => by
    show inS x (post s.2) = true
    cases hs : s.2 with
    | none => rw [hs] at hx; cases hx
    | some b => rw [hs] at hx; simp [hiB] at hx; simp [post, inS, memB, loB, hiB]; omega
  | t :: r, s, h, x, hx => by
    show inS x ((s.2, t.1) :: (between (t :: r) ++ post (lastE t r))) = _
    obtain ⟨i, j, e1, e2, hij⟩ := ltB_some (h.2.1 t (by simp))
    rw [e1] at hx
    have hxi : i ≤ x := by simpa [hiB] using hx
    rw [inS_cons, inS_cons]
    cases hm : hiB t.2 x with
    | false =>
      rw [gap_after h.2.2 x hm]
      have h1 : memB x (s.2, t.1) = false := by
        cases q : memB x (s.2, t.1) with
        | false => rfl
        | true =>
          have := (memB_true.mp q).2
          rw [e2] at this
          have h3 : x < j := by simpa [hiB] using this
          cases ht : t.2 with
          | none => rw [ht] at hm; cases hm
          | some c =>
            rw [ht] at hm
            have h4 : c ≤ x := by simpa [hiB] using hm
            have := h.2.2.1
            rw [e2, ht] at this
            have : j < c := by simpa [isS] using this
            omega
      have h2 : memB x t = false := by unfold memB; rw [hm, Bool.and_false]
      rw [h1, h2]
      rfl
    | true =>
      have h1 : inS x (between (t :: r) ++ post (lastE t r)) = false := by
        cases q : inS x (between (t :: r) ++ post (lastE t r)) with
        | false => rfl
        | true =>
          exfalso
          exact above h.2.2 x q hm
      have h2 : inS x r = false := by
        cases q : inS x r with
        | false => rfl
        | true =>
          obtain ⟨c, hc, hlt⟩ := h.2.2.tail_hi q
          rw [hc] at hm
          simp [hiB] at hm
          omega
      rw [h1, h2]
      have e3 : memB x (s.2, t.1) = !memB x t := by
        unfold memB
        rw [hm, e1, e2]
        simp only [loB, hiB, Bool.and_true]
        rw [Bool.eq_iff_iff]
        simp
        omega
      rw [e3]
      simp
where
  above : ∀ {r : List Sg} {t : Sg}, Nf (t :: r) → ∀ x, inS x (between (t :: r) ++ post (lastE t r)) = true → hiB t.2 x = true → False
    | [], t, h, x, hx, hm => by
      have hx : inS x (post t.2) = true := hx
      cases ht : t.2 with
      | none => rw [ht] at hx; cases hx
      | some b => rw [ht] at hx hm; simp [post, inS, memB, loB, hiB] at hx hm; omega
    | u :: r, t, h, x, hx, hm => by
      have hx : inS x ((t.2, u.1) :: (between (u :: r) ++ post (lastE u r))) = true := hx
      obtain ⟨i, j, e1, e2, hij⟩ := ltB_some (h.2.1 u (by simp))
      rw [e1] at hm
      have hxi : x < i := by simpa [hiB] using hm
      rw [inS_cons, Bool.or_eq_true] at hx
      rcases hx with hx | hx
      · have := (memB_true.mp hx).1
        rw [e1] at this
        have : i ≤ x := by simpa [loB] using this
        omega
      · refine above h.2.2 x hx ?_
        cases hu : u.2 with
        | none => rfl
        | some c =>
          have := h.2.2.1
          rw [e2, hu] at this
          have : j < c := by simpa [isS] using this
          simp [hiB]; omega
theorem inS_gaps {l : List Sg} (h : Nf l) (x : Int) : inS x (gapsL l) = !inS x l := by
  cases l with
  | nil => rfl
  | cons s r =>
    show inS x (pre s.1 ++ between (s :: r) ++ post (lastE s r)) = _
    rw [List.append_assoc, inS_app]
    cases hm : hiB s.2 x with
    | false =>
      rw [gap_after h x hm]
      have h1 : inS x (pre s.1) = false := by
        cases hs : s.1 with
        | none => rfl
        | some a =>
          cases he : s.2 with
          | none => rw [he] at hm; cases hm
          | some c =>
            rw [he] at hm
            have h4 : c ≤ x := by simpa [hiB] using hm
            have := h.1
            rw [hs, he] at this
            have : a < c := by simpa [isS] using this
            simp [pre, inS, memB, loB, hiB]
            omega
      have h2 : memB x s = false := by unfold memB; rw [hm, Bool.and_false]
      rw [h1, inS_cons, h2]
      simp
    | true =>
      have h1 : inS x (between (s :: r) ++ post (lastE s r)) = false := by
        cases q : inS x (between (s :: r) ++ post (lastE s r)) with
        | false => rfl
        | true => exact (gap_after.above h x q hm).elim
      have h2 : inS x r = false := by
        cases q : inS x r with
        | false => rfl
        | true =>
          obtain ⟨c, hc, hlt⟩ := h.tail_hi q
          rw [hc] at hm
          simp [hiB] at hm
          omega
      rw [h1, inS_cons, h2, Bool.or_false, Bool.or_false]
      unfold memB
      rw [hm, Bool.and_true]
      cases hs : s.1 with
      | none => rfl
      | some a => simp [pre, inS, memB, loB, hiB]; rw [Bool.eq_iff_iff]; simp
end SP

set_option maxRecDepth 100000
set_option maxHeartbeats 4000000
/-! MSg: a grid of rising moments, its pieces, and spans told by pieces. -/
namespace SP
def Up (g : List Int) : Prop := g.Pairwise (· < ·)
def ix (g : List Int) (x : Int) : Nat := g.countP fun a => decide (a ≤ x)
theorem ix_le (g : List Int) (x : Int) : ix g x ≤ g.length := List.countP_le_length
theorem ix_at : ∀ {g : List Int}, Up g → ∀ {i : Nat} {a : Int} (x : Int), g[i]? = some a → (a ≤ x ↔ i < ix g x)
  | [], _, _, _, _, h => by simp at h
  | b :: g, u, i, a, x, h => by
    have hu := List.pairwise_cons.mp u
    have none : ¬ b ≤ x → ix g x = 0 := fun hb => by
      unfold ix
      rw [List.countP_eq_zero]
      intro c hc
      have := hu.1 c hc
      simp
      omega
    have e : ix (b :: g) x = ix g x + if b ≤ x then 1 else 0 := by
      unfold ix
      rw [List.countP_cons]
      by_cases hb : b ≤ x <;> simp [hb]
    rw [e]
    cases i with
    | zero =>
      simp at h
      subst h
      by_cases hb : b ≤ x
      · simp [hb]
      · rw [none hb]; simp [hb]
    | succ i =>
      have h' : g[i]? = some a := by simpa using h
      have ih := ix_at hu.2 x h'
      have hba : b < a := hu.1 a (List.mem_of_getElem? h')
      by_cases hb : b ≤ x
      · rw [ih, if_pos hb]; omega
      · rw [none hb, if_neg hb]
        constructor
        · intro hh; omega
        · intro hh; omega
theorem Up.lt {g : List Int} (u : Up g) {i j : Nat} {a b : Int} (h1 : g[i]? = some a) (h2 : g[j]? = some b) (h : i < j) : a < b := by
  obtain ⟨l1, e1⟩ := List.getElem?_eq_some_iff.mp h1
  obtain ⟨l2, e2⟩ := List.getElem?_eq_some_iff.mp h2
  rw [← e1, ← e2]
  exact List.pairwise_iff_getElem.mp u i j l1 l2 h
/-- the stretch from piece f to piece l -/
def stG (g : List Int) (f l : Nat) : Sg := (if 0 < f then g[f - 1]? else none, g[l]?)
theorem mem_stG {g : List Int} (u : Up g) {f l : Nat} (hf : f ≤ g.length) (x : Int) : memB x (stG g f l) = (decide (f ≤ ix g x) && decide (ix g x ≤ l)) := by
  have h1 : loB (stG g f l).1 x = decide (f ≤ ix g x) := by
    show loB (if 0 < f then g[f - 1]? else none) x = _
    by_cases h0 : 0 < f
    · rw [if_pos h0, List.getElem?_eq_getElem (by omega : f - 1 < g.length)]
      have := ix_at u x (List.getElem?_eq_getElem (by omega : f - 1 < g.length))
      simp only [loB]
      rw [Bool.eq_iff_iff]
      simp only [decide_eq_true_eq]
      rw [this]
      omega
    · rw [if_neg h0]
      have : f = 0 := by omega
      simp [loB, this]
  have h2 : hiB (stG g f l).2 x = decide (ix g x ≤ l) := by
    show hiB g[l]? x = _
    by_cases hl : l < g.length
    · rw [List.getElem?_eq_getElem hl]
      have := ix_at u x (List.getElem?_eq_getElem hl)
      simp only [hiB]
      rw [Bool.eq_iff_iff]
      simp only [decide_eq_true_eq]
      omega
    · rw [List.getElem?_eq_none (by omega)]
      have := ix_le g x
      have h3 : ix g x ≤ l := by omega
      simp [hiB, h3]
  unfold memB
  rw [h1, h2]
theorem isS_stG {g : List Int} (u : Up g) {f l : Nat} (hf : f ≤ l) : isS (stG g f l).1 (stG g f l).2 = true := by
  show isS (if 0 < f then g[f - 1]? else none) g[l]? = true
  by_cases h0 : 0 < f
  · rw [if_pos h0]
    cases h1 : g[f - 1]? with
    | none => rfl
    | some a => cases h2 : g[l]? with
      | none => rfl
      | some b => simp [isS]; exact u.lt h1 h2 (by omega)
  · rw [if_neg h0]; rfl
def spanG (g : List Int) (fs : List (Nat × Nat)) : List Sg := fs.map fun p => stG g p.1 p.2
/-- fs tells the runs of lit -/
structure Runs (lit : List Bool) (fs : List (Nat × Nat)) : Prop where
  ok : ∀ p ∈ fs, p.1 ≤ p.2 ∧ p.2 < lit.length
  sep : fs.Pairwise fun p q => p.2 + 1 < q.1
  cov : ∀ k, k < lit.length → (lit[k]? = some true ↔ ∃ p ∈ fs, p.1 ≤ k ∧ k ≤ p.2)
theorem Runs.nf {g : List Int} {lit : List Bool} {fs : List (Nat × Nat)} (u : Up g) (hl : lit.length = g.length + 1) (r : Runs lit fs) : Nf (spanG g fs) := by
  have go : ∀ {fs : List (Nat × Nat)}, (∀ p ∈ fs, p.1 ≤ p.2 ∧ p.2 < lit.length) → (fs.Pairwise fun p q => p.2 + 1 < q.1) → Nf (spanG g fs) := by
    intro fs
    induction fs with
    | nil => exact fun _ _ => trivial
    | cons p fs ih =>
      intro h1 h2
      have h3 := List.pairwise_cons.mp h2
      have hp := h1 p (by simp)
      refine ⟨isS_stG u hp.1, fun t ht => ?_, ih (fun q hq => h1 q (by simp [hq])) h3.2⟩
      obtain ⟨q, hq, rfl⟩ := List.mem_map.mp ht
      have hs := h3.1 q hq
      have hq2 := h1 q (by simp [hq])
      show ltB g[p.2]? (if 0 < q.1 then g[q.1 - 1]? else none) = true
      rw [if_pos (by omega), List.getElem?_eq_getElem (by omega : p.2 < g.length), List.getElem?_eq_getElem (by omega : q.1 - 1 < g.length)]
      simp only [ltB, decide_eq_true_eq]
      exact List.pairwise_iff_getElem.mp u _ _ _ _ (by omega)
  exact go r.ok r.sep
theorem Runs.mem {g : List Int} {lit : List Bool} {fs : List (Nat × Nat)} (u : Up g) (hl : lit.length = g.length + 1) (r : Runs lit fs) (x : Int) : inS x (spanG g fs) = true ↔ lit[ix g x]? = some true := by
  have := ix_le g x
  rw [r.cov (ix g x) (by omega), inS_true]
  constructor
  · rintro ⟨s, hs, hm⟩
    obtain ⟨p, hp, rfl⟩ := List.mem_map.mp hs
    have hq := r.ok p hp
    rw [mem_stG u (by omega), Bool.and_eq_true] at hm
    exact ⟨p, hp, by simpa using hm.1, by simpa using hm.2⟩
  · rintro ⟨p, hp, h1, h2⟩
    have hq := r.ok p hp
    exact ⟨_, List.mem_map.mpr ⟨p, hp, rfl⟩, by rw [mem_stG u (by omega), Bool.and_eq_true]; exact ⟨by simpa using h1, by simpa using h2⟩⟩
theorem Runs.uni {lit : List Bool} {fs : List (Nat × Nat)} (r : Runs lit fs) {l : List Sg} {g : List Int} (u : Up g) (hl : lit.length = g.length + 1) (hn : Nf l) (he : ∀ x, inS x l = true ↔ lit[ix g x]? = some true) : l = spanG g fs :=
  Nf.ext hn (r.nf u hl) fun x => by rw [Bool.eq_iff_iff, he, r.mem u hl]
theorem ix_self {g : List Int} (u : Up g) {k : Nat} {a : Int} (h : g[k]? = some a) : ix g a = k + 1 := by
  have h1 := (ix_at u a h).mp (Int.le_refl _)
  by_cases h2 : k + 1 < g.length
  · have h3 := u.lt h (List.getElem?_eq_getElem h2) (Nat.lt_succ_self k)
    have h4 := ix_at u a (List.getElem?_eq_getElem h2)
    by_cases h5 : k + 1 < ix g a
    · have := h4.mpr h5
      omega
    · omega
  · have := ix_le g a
    omega
theorem ix_pred {g : List Int} (u : Up g) {k : Nat} {a : Int} (h : g[k]? = some a) : ix g (a - 1) = k := by
  have h1 := ix_at u (a - 1) h
  have h2 : ¬ k < ix g (a - 1) := fun z => by have := h1.mpr z; omega
  cases k with
  | zero => omega
  | succ k =>
    obtain ⟨hk, _⟩ := List.getElem?_eq_some_iff.mp h
    have h3 : g[k]? = some g[k] := List.getElem?_eq_getElem (by omega)
    have h4 := u.lt h3 h (Nat.lt_succ_self k)
    have h5 := (ix_at u (a - 1) h3).mp (by omega)
    omega
end SP

set_option maxRecDepth 100000
set_option maxHeartbeats 4000000
/-! MEn: spans as data. -/
namespace SP
open PySem PySem.Spec PyProof.Rows L2 DL
noncomputable section
@[simp] theorem walkA_eq {f : DEnv → Rs Dat} {ε : DEnv} : walkA f ε = (f ε >>= asA) := rfl
@[simp] theorem asA_lst {t : Bool} {ds : List Dat} : asA (.lst t ds) = .ok ds := rfl
@[simp] theorem asA_tup {ds : List Dat} : asA (.tup ds) = .ok ds := rfl
def eB : Bd → Dat
  | none => .non
  | some i => .int i
def eS (s : Sg) : Dat := .tup [eB s.1, eB s.2]
def eL (l : List Sg) : List Dat := l.map eS
@[simp] theorem eB_none : eB none = .non := rfl
@[simp] theorem eB_some (i : Int) : eB (some i) = .int i := rfl
@[simp] theorem old_eB (b : Bd) : old (eB b) = eB b := by cases b <;> rfl
@[simp] theorem old_eS (s : Sg) : old (eS s) = eS s := by simp [eS]
@[simp] theorem olds_eL (l : List Sg) : olds (eL l) = eL l := olds_map _ _ old_eS l
@[simp] theorem fresh_eB (b : Bd) : fresh (eB b) = true := by cases b <;> rfl
@[simp] theorem fresh_eS (s : Sg) : fresh (eS s) = true := by simp [eS]
@[simp] theorem freshs_eL : ∀ l : List Sg, freshs (eL l) = true
  | [] => rfl
  | s :: l => by show (fresh (eS s) && freshs (eL l)) = true; rw [fresh_eS, freshs_eL l]; rfl
@[simp] theorem eL_nil : eL [] = [] := rfl
@[simp] theorem eL_cons (s : Sg) (l : List Sg) : eL (s :: l) = eS s :: eL l := rfl
@[simp] theorem eL_app (l m : List Sg) : eL (l ++ m) = eL l ++ eL m := List.map_append
@[simp] theorem eL_len (l : List Sg) : (eL l).length = l.length := List.length_map _
@[simp] theorem isN_eB (b : Bd) : dIsN (eB b) .non = some (.bl b.isNone) := by cases b <;> rfl
@[simp] theorem notN_eB (b : Bd) : dNotN (eB b) .non = some (.bl b.isSome) := by cases b <;> rfl
theorem eB_inj {a b : Bd} (h : eB a = eB b) : a = b := by
  cases a <;> cases b <;> first | rfl | (cases h; rfl) | cases h
theorem eqe_B : EqE 0 eB where
  eq a b := by
    cases a with
    | none => cases b with
      | none => exact ⟨fun _ => rfl, fun _ => by show PyData.eqv .none .none = true; rw [PyData.eqv]⟩
      | some j => exact ⟨fun z => (by
          have z : PyData.eqv .none (.int j) = true := z
          rw [PyData.eqv] at z
          exact absurd z Bool.false_ne_true), fun z => (nomatch z)⟩
    | some i => cases b with
      | none => exact ⟨fun z => (by
          have z : PyData.eqv (.int i) .none = true := z
          rw [PyData.eqv] at z
          exact absurd z Bool.false_ne_true), fun z => (nomatch z)⟩
      | some j => exact (EqE.int.eq i j).trans ⟨fun z => by rw [z], fun z => by cases z; rfl⟩
  lay a := by
    cases a with
    | none => show PyData.canLay0 .none = true; rw [PyData.canLay0]
    | some i => exact EqE.int.lay i
  dep a := by
    cases a with
    | none => show PyData.depth .none ≤ 0; rw [PyData.depth]; exact Nat.le_refl 0
    | some i => exact EqE.int.dep i
theorem eqe_S : EqE 1 eS := eqe_B.pair eqe_B
@[simp] theorem eq_eL {t u : Bool} (l m : List Sg) : dEq (.lst t (eL l)) (.lst u (eL m)) = some (.bl (decide (l = m))) := eqe_S.eqL (by decide) l m
@[simp] theorem ne_eL {t u : Bool} (l m : List Sg) : dNe (.lst t (eL l)) (.lst u (eL m)) = some (.bl (!decide (l = m))) := eqe_S.neL (by decide) l m
@[simp] theorem ne_eL_nil {t u : Bool} (l : List Sg) : dNe (.lst t (eL l)) (.lst u []) = some (.bl (!decide (l = []))) := eqe_S.neL (by decide) l []
@[simp] theorem eq_eL_nil {t u : Bool} (l : List Sg) : dEq (.lst t (eL l)) (.lst u []) = some (.bl (decide (l = []))) := eqe_S.eqL (by decide) l []
theorem atI_last {α : Type} (xs : List α) (x : α) {k : Int} (h : k = ((xs ++ [x]).length : Int) - 1) : atI (xs ++ [x]) k = some x := by
  subst h
  refine atI_at (by simp) ?_
  simp
theorem ixN_last {n : Nat} (h : 0 < n) : ixN n ((n : Int) - 1) = some (n - 1) := by
  unfold ixN
  rw [if_pos (by omega), if_pos (by omega)]
  congr 1
  omega
def kS (s : Sg) : List Int := match s.1 with
  | none => [0, 0]
  | some a => [1, a]
theorem kS_le (s t : Sg) : PySem.W.dataLe false keyP (kS s, eS s) (kS t, eS t) = leB s.1 t.1 := by
  have go : ∀ (a b c d : Int) (x y : Dat), PySem.W.dataLe false keyP ([a, b], x) ([c, d], y) = decide (a < c ∨ (a = c ∧ b ≤ d)) := fun a b c d x y => by
    have := congrFun (congrFun (PySem.W.dataLe_ii (β := Int × Int) (fun p => p.1) (fun p => p.2)) (a, b)) (c, d)
    exact this
  cases hs : s.1 <;> cases ht : t.1 <;> simp [kS, hs, ht, go, leB]
theorem leB_total (a b : Bd) : (leB a b || leB b a) = true := by
  cases a <;> cases b <;> simp [leB] <;> omega
/-- the stretches in order of their starts -/
def ordS (l : List Sg) : List Sg := l.mergeSort fun s t => leB s.1 t.1
theorem ordS_perm (l : List Sg) : (ordS l).Perm l := List.mergeSort_perm _ _
theorem ordS_pair (l : List Sg) : (ordS l).Pairwise fun s t => leB s.1 t.1 = true :=
  List.pairwise_mergeSort (le := fun s t : Sg => leB s.1 t.1) (fun a b c h1 h2 => leB_trans h1 h2) (fun a b => leB_total _ _) l
theorem ordK_eS (l : List Sg) : ordK (l.map fun s => (kS s, eS s)) = eL (ordS l) := by
  unfold ordK ordS eL
  have := List.map_mergeSort (r := fun s t : Sg => leB s.1 t.1) (s := PySem.W.dataLe false keyP) (f := fun s : Sg => (kS s, eS s)) (l := l) fun a _ b _ => (kS_le a b).symm
  rw [← this, List.map_map]
  rfl
theorem keysD_eS {F : List Dat → Rs Dat} (h : ∀ s : Sg, F [eS s] = .ok (.tup ((kS s).map .int))) : ∀ l : List Sg, keysD F (eL l) = .ok (l.map fun s => (kS s, eS s))
  | [] => rfl
  | s :: l => by
    show (F [old (eS s)] >>= _) = _
    rw [old_eS, h]
    have hk : keyI (.tup ((kS s).map .int)) = some (kS s) := by
      cases hs : s.1 <;> simp [kS, hs, keyI, intsD]
    have ih := keysD_eS h l
    unfold eL at ih
    simp [hk, ih]
/-- what tidied tells -/
def tdL (l : List Sg) : List Sg := tidyL (ordS l)
theorem tdL_spec {l : List Sg} (h : AllS l) : Nf (tdL l) ∧ ∀ x, inS x (tdL l) = inS x l := by
  obtain ⟨a, b⟩ := tidyL_spec (l := ordS l) (fun s hs => h s ((ordS_perm l).mem_iff.mp hs)) (ordS_pair l)
  exact ⟨a, fun x => (b x).trans (inS_perm (ordS_perm l) x)⟩
theorem tdL_len (l : List Sg) : (tdL l).length ≤ l.length := by
  have go : ∀ (r : List Sg) (acc : List Sg) (s : Sg), (tidyF acc s r).length ≤ acc.length + r.length + 1 := by
    intro r
    induction r with
    | nil => intro acc s; simp [tidyF]
    | cons t r ih =>
      intro acc s
      unfold tidyF
      split
      · have := ih acc (s.1, later s.2 t.2); simp; omega
      · have := ih (acc ++ [s]) t; simp at this ⊢; omega
  unfold tdL
  have hl : (ordS l).length = l.length := List.length_mergeSort _
  cases h : ordS l with
  | nil => simp [tidyL]
  | cons s r => rw [h] at hl; have := go r [] s; simp [tidyL] at this hl ⊢; omega
theorem tdL_nf {l : List Sg} (h : Nf l) : tdL l = l := Nf.ext (tdL_spec h.all).1 h (tdL_spec h.all).2
end
end SP

set_option maxRecDepth 100000
set_option maxHeartbeats 4000000
/-! MKn: a dict from rows to lists of truths, in the making and made. -/
namespace SP
open PySem PySem.Spec PyProof.Rows L2 DL
noncomputable section
abbrev Rw := List Int
abbrev Kn := List (Rw × List Bool)
def eRow (r : Rw) : Dat := .tup (r.map .int)
def eBits (b : List Bool) : Dat := .lst true (b.map .bl)
def kRow (r : Rw) : List Key := r.map Sum.inl
def eK (M : Kn) : Dat := .dT (M.map fun m => kRow m.1) (M.map fun m => .cel (eBits m.2))
def eKm (t : Bool) (M : Kn) : Dat := .dT (M.map fun m => kRow m.1) (M.map fun m => .lst t (m.2.map .bl))
theorem keysL_ints : ∀ r : Rw, keysL (r.map .int) = some (kRow r)
  | [] => rfl
  | i :: r => by show ((keyK (.int i)).bind fun k => (keysL (r.map .int)).map (k :: ·)) = _; rw [keysL_ints r]; rfl
@[simp] theorem keyT_row (r : Rw) : keyT (eRow r) = some (kRow r) := keysL_ints r
theorem kRow_inj {a b : Rw} (h : kRow a = kRow b) : a = b := by
  induction a generalizing b with
  | nil => cases b with
    | nil => rfl
    | cons _ _ => cases h
  | cons x a ih => cases b with
    | nil => cases h
    | cons y b =>
      have h : (Sum.inl x : Key) :: kRow a = Sum.inl y :: kRow b := h
      injection h with h1 h2
      injection h1 with h1
      rw [h1, ih h2]
@[simp] theorem kDs_row (r : Rw) : kDs (kRow r) = eRow r := by
  unfold kDs kRow eRow
  rw [List.map_map]
  rfl
@[simp] theorem old_eRow (r : Rw) : old (eRow r) = eRow r := by simp [eRow]
@[simp] theorem fresh_eRow (r : Rw) : fresh (eRow r) = true := by simp [eRow]
/-- where the row stands -/
def posM {β : Type} : List (Rw × β) → Rw → Option Nat
  | [], _ => none
  | m :: M, r => if m.1 = r then some 0 else (posM M r).map (· + 1)
theorem pos_kRow {β : Type} (r : Rw) : ∀ M : List (Rw × β), posL (M.map fun m => kRow m.1) (kRow r) = posM M r
  | [] => rfl
  | m :: M => by
    show (if kRow m.1 = kRow r then some 0 else (posL (M.map fun m => kRow m.1) (kRow r)).map (· + 1)) = if m.1 = r then some 0 else (posM M r).map (· + 1)
    rw [pos_kRow r M]
    by_cases h : m.1 = r
    · rw [if_pos h, if_pos (by rw [h])]
    · rw [if_neg h, if_neg fun z => h (kRow_inj z)]
theorem posM_some {β : Type} {r : Rw} : ∀ {M : List (Rw × β)} {n : Nat}, posM M r = some n → ∃ b, M[n]? = some (r, b)
  | [], _, h => by cases h
  | m :: M, n, h => by
    have h : (if m.1 = r then some 0 else (posM M r).map (· + 1)) = some n := h
    by_cases e : m.1 = r
    · rw [if_pos e] at h; cases h; exact ⟨m.2, by rw [← e]; rfl⟩
    · rw [if_neg e] at h
      cases q : posM M r with
      | none => rw [q] at h; cases h
      | some k =>
        rw [q] at h
        cases h
        obtain ⟨b, hb⟩ := posM_some q
        exact ⟨b, by simpa using hb⟩
theorem posM_none {β : Type} {r : Rw} : ∀ {M : List (Rw × β)}, posM M r = none → ∀ m ∈ M, m.1 ≠ r
  | [], _, m, hm => by cases hm
  | m :: M, h, x, hx => by
    have h : (if m.1 = r then some 0 else (posM M r).map (· + 1)) = none := h
    by_cases e : m.1 = r
    · rw [if_pos e] at h; cases h
    · rw [if_neg e] at h
      rcases List.mem_cons.mp hx with rfl | hx
      · exact e
      · exact posM_none (by cases q : posM M r with
          | none => rfl
          | some k => rw [q] at h; cases h) x hx
/-- with the row there -/
def ens (M : Kn) (r : Rw) (b : List Bool) : Kn := match posM M r with
  | some _ => M
  | none => M ++ [(r, b)]
def idx (M : Kn) (r : Rw) : Nat := (posM M r).getD M.length
theorem ens_at (M : Kn) (r : Rw) (b : List Bool) : ∃ c, (ens M r b)[idx M r]? = some (r, c) := by
  unfold ens idx
  cases h : posM M r with
  | some n => exact posM_some h
  | none => exact ⟨b, by simp⟩
theorem kidsD_eK (M : Kn) : kidsD (eK M) = some (M.map fun m => .cel (eBits m.2)) := rfl
theorem kidC_eK {M : Kn} {n : Nat} {m : Rw × List Bool} (h : M[n]? = some m) : kidC (eK M) n = some (eBits m.2) := by
  unfold kidC
  rw [kidsD_eK]
  simp [h]
theorem nodeAt_eK {M : Kn} {n : Nat} {m : Rw × List Bool} (h : M[n]? = some m) : nodeAt (eK M) [n] = some (eBits m.2) := by
  show (kidC (eK M) n).bind _ = _
  rw [kidC_eK h]
  rfl
theorem listAt_eK {M : Kn} {n : Nat} {m : Rw × List Bool} (h : M[n]? = some m) : DL.listAt (eK M) [n] = some (true, m.2.map .bl) := by
  unfold DL.listAt
  rw [nodeAt_eK h]
  rfl
theorem setd_eK (M : Kn) (r : Rw) (b : List Bool) (hM : M.length < 16777216) : setdT (eK M) (eRow r) (.cel (eBits b)) = some (eK (ens M r b), idx M r) := by
  unfold setdT
  rw [kidsD_eK, Option.bind_some, if_pos (sz_small (by simp; omega))]
  have hk : keyAt (eK M) (eRow r) = some (posM M r) := by
    show (keyT (eRow r)).map (posL (M.map fun m => kRow m.1)) = _
    rw [keyT_row, Option.map_some, pos_kRow]
  rw [hk, Option.bind_some]
  unfold ens idx
  cases h : posM M r with
  | some n =>
    obtain ⟨c, hc⟩ := posM_some h
    simp only [kidC_eK hc, Option.isSome_some, if_true, Option.getD_some]
  | none =>
    have hn : keyNew (eK M) (eRow r) (.cel (eBits b)) = some (eK (M ++ [(r, b)])) := by
      show (keyT (eRow r)).bind (fun j => if sz ((M.map fun m => kRow m.1).length + 1) = true then some (Dat.dT ((M.map fun m => kRow m.1) ++ [j]) ((M.map fun m => Dat.cel (eBits m.2)) ++ [.cel (eBits b)])) else none) = _
      rw [keyT_row, Option.bind_some, if_pos (sz_small (by simp; omega))]
      simp [eK]
    simp [hn]
theorem setAt_eK {M : Kn} {n : Nat} {r : Rw} {c : List Bool} (h : M[n]? = some (r, c)) (b : List Bool) : setAt (eK M) [n] (eBits b) = eK (M.set n (r, b)) := by
  show (match kidsD (eK M), kidC (eK M) n with
    | some ds, some x => setKids (ds.set n (.cel (setAt x [] (eBits b)))) (eK M)
    | _, _ => eK M) = _
  rw [kidsD_eK, kidC_eK h]
  unfold eK
  simp only [setKids, setAt, List.map_set]
  congr 1
  rw [set_same]
  rw [List.getElem?_map, h]
  rfl
theorem setAt_eK' {M : Kn} {n : Nat} {r : Rw} {c : List Bool} (h : M[n]? = some (r, c)) (b : List Bool) : setAt (eK M) [n] (.lst true (b.map .bl)) = eK (M.set n (r, b)) := setAt_eK h b
theorem scAt_bits {b : List Bool} {k : Nat} (h : k < b.length) : scAt (b.map .bl) k = true := by
  unfold scAt
  rw [List.getElem?_map, List.getElem?_eq_getElem h]
  rfl
theorem ixN_nat {n k : Nat} (h : k < n) : ixN n (k : Int) = some k := by
  unfold ixN
  rw [if_pos (by omega), if_pos (by omega)]
  rfl
theorem lons_eK (M : Kn) : lons (M.map fun m => Dat.cel (eBits m.2)) = true := by
  induction M with
  | nil => rfl
  | cons m M ih =>
    have hb : ∀ b : List Bool, lons (b.map .bl) = true := fun b => by
      induction b with
      | nil => rfl
      | cons x b ih => exact ih
    show (lon (.cel (eBits m.2)) && lons (M.map fun m => Dat.cel (eBits m.2))) = true
    rw [ih, Bool.and_true]
    exact hb m.2
theorem melt_eK (M : Kn) : meltN (eK M) = eKm true M := by
  have hb : ∀ b : List Bool, melts (b.map .bl) = b.map .bl := fun b => by
    induction b with
    | nil => rfl
    | cons x b ih => exact congrArg (Dat.bl x :: ·) ih
  have go : ∀ M : Kn, melts (M.map fun m => Dat.cel (eBits m.2)) = M.map fun m => .lst true (m.2.map .bl) := fun M => by
    induction M with
    | nil => rfl
    | cons m M ih =>
      show meltN (eBits m.2) :: melts (M.map fun m => Dat.cel (eBits m.2)) = _
      rw [ih]
      show Dat.lst true (melts (m.2.map .bl)) :: _ = _
      rw [hb]
      rfl
  show Dat.dT _ (melts _) = _
  rw [go]
  rfl
theorem olds_kn (t : Bool) (M : Kn) : old (eKm t M) = eKm false M := by
  have hb : ∀ b : List Bool, olds (b.map .bl) = b.map .bl := fun b => olds_map _ _ (fun _ => rfl) b
  have go : ∀ M : Kn, olds (M.map fun m => Dat.lst t (m.2.map .bl)) = M.map fun m => .lst false (m.2.map .bl) := fun M => by
    induction M with
    | nil => rfl
    | cons m M ih =>
      show Dat.lst false (olds (m.2.map .bl)) :: olds (M.map fun m => Dat.lst t (m.2.map .bl)) = _
      rw [ih, hb]
      rfl
  show Dat.dT _ (olds _) = _
  rw [go]
  rfl
theorem look_kn {α : Type} (f : List Bool → α) (r : Rw) : ∀ M : Kn, lookL (M.map fun m => kRow m.1) (M.map fun m => f m.2) (kRow r) = (posM M r).bind fun n => (M[n]?).map fun m => f m.2
  | [] => rfl
  | m :: M => by
    show (if kRow m.1 = kRow r then some (f m.2) else lookL (M.map fun m => kRow m.1) (M.map fun m => f m.2) (kRow r)) = (if m.1 = r then some 0 else (posM M r).map (· + 1)).bind fun n => ((m :: M)[n]?).map fun m => f m.2
    rw [look_kn f r M]
    by_cases h : m.1 = r
    · rw [if_pos h, if_pos (by rw [h])]; rfl
    · rw [if_neg h, if_neg fun z => h (kRow_inj z)]
      cases posM M r <;> rfl
theorem posM_nodup {β : Type} {M : List (Rw × β)} (hn : (M.map (·.1)).Nodup) {n : Nat} {r : Rw} {b : β} (h : M[n]? = some (r, b)) : posM M r = some n := by
  induction M generalizing n with
  | nil => simp at h
  | cons m M ih =>
    have hn' : m.1 ∉ M.map (·.1) ∧ (M.map (·.1)).Nodup := List.nodup_cons.mp hn
    show (if m.1 = r then some 0 else (posM M r).map (· + 1)) = some n
    cases n with
    | zero => simp at h; rw [h, if_pos rfl]
    | succ n =>
      have h' : M[n]? = some (r, b) := by simpa using h
      rw [if_neg, ih hn'.2 h']
      · rfl
      · intro e
        exact hn'.1 (List.mem_map.mpr ⟨_, List.mem_of_getElem? h', e.symm⟩)
/-- what a row holds -/
def bitsOf (M : Kn) (r : Rw) : List Bool := ((posM M r).bind fun n => (M[n]?).map (·.2)).getD []
theorem bitsOf_eq {M : Kn} (hn : (M.map (·.1)).Nodup) {m : Rw × List Bool} (h : m ∈ M) : bitsOf M m.1 = m.2 := by
  obtain ⟨n, hl, e⟩ := List.getElem_of_mem h
  have h' : M[n]? = some (m.1, m.2) := by rw [List.getElem?_eq_getElem hl, e]
  unfold bitsOf
  rw [posM_nodup hn h', Option.bind_some, h']
  rfl
theorem get_eKm {t : Bool} {M : Kn} {r : Rw} (h : r ∈ M.map (·.1)) : dGet (eKm t M) (eRow r) = some (.lst t ((bitsOf M r).map .bl)) := by
  show (((keyT (eRow r)).map (lookL (M.map fun m => kRow m.1) (M.map fun m => Dat.lst t (m.2.map .bl)))).bind id) = _
  rw [keyT_row, Option.map_some, look_kn (fun b => Dat.lst t (b.map .bl))]
  cases hp : posM M r with
  | none =>
    obtain ⟨m, hm, e⟩ := List.mem_map.mp h
    exact absurd e (posM_none hp m hm)
  | some n =>
    obtain ⟨c, hc⟩ := posM_some hp
    unfold bitsOf
    rw [hp]
    simp [hc]
theorem keys_eKm (t : Bool) (M : Kn) : asKeys (eKm t M) = .ok ((M.map (·.1)).map eRow) := by
  show Rs.ok ((M.map fun m => kRow m.1).map kDs) = _
  rw [List.map_map, List.map_map]
  congr 1
  exact List.map_congr_left fun m _ => kDs_row m.1
/-! ### rows in order -/
theorem alike_row (a b : Rw) : PySem.W.alike (toP (eRow a)) (toP (eRow b)) = true := by
  have e : ∀ r : Rw, toP (eRow r) = .tuple (r.map .int) := fun r => by
    show PyData.tuple (toPs (r.map .int)) = _
    rw [toPs_map]
    rfl
  rw [e, e]
  show PySem.W.alikeAll _ _ = true
  exact PySem.W.alike_ints _ _
theorem toP_row (r : Rw) : toP (eRow r) = .tuple (r.map .int) := by
  show PyData.tuple (toPs (r.map .int)) = _
  rw [toPs_map]
  rfl
theorem soOk_rows {R : List Rw} (h : ∀ r ∈ R, r ≠ []) : SoOk (R.map eRow) where
  al := by
    intro d hd d' hd'
    obtain ⟨x, hx, rfl⟩ := List.mem_map.mp hd
    obtain ⟨y, hy, rfl⟩ := List.mem_map.mp hd'
    obtain ⟨a, _, rfl⟩ := List.mem_map.mp hx
    obtain ⟨b, _, rfl⟩ := List.mem_map.mp hy
    exact alike_row a b
  so := .inl fun d hd => by
    obtain ⟨x, hx, rfl⟩ := List.mem_map.mp hd
    obtain ⟨a, ha, rfl⟩ := List.mem_map.mp hx
    rw [toP_row]
    cases a with
    | nil => exact absurd rfl (h [] ha)
    | cons i a => exact ⟨.int i, a.map .int, rfl⟩
  lay := fun d hd => by
    obtain ⟨a, ha, rfl⟩ := List.mem_map.mp hd
    rw [toP_row]
    refine ⟨?_, ?_⟩
    · have h : (toP (eRow a)).canLay0 = true := EqE.int.tupl.lay a
      rwa [toP_row] at h
    · show PyData.depth (.tuple (a.map .int)) ≤ 60
      rw [PyData.depth, PySem.W.depth_ints]
      decide
def ordR (R : List Rw) : List Rw := R.mergeSort fun a b => PySem.W.dataLe false toP (eRow a) (eRow b)
theorem ordP_rows (R : List Rw) : ordP (R.map eRow) = (ordR R).map eRow := by
  unfold ordP ordR
  exact (List.map_mergeSort (r := fun a b : Rw => PySem.W.dataLe false toP (eRow a) (eRow b)) (s := PySem.W.dataLe false toP) (f := eRow) (l := R) fun a _ b _ => rfl).symm
theorem ordR_perm (R : List Rw) : (ordR R).Perm R := List.mergeSort_perm _ _
theorem srtK_eKm (t : Bool) {M : Kn} (h : ∀ m ∈ M, m.1 ≠ []) : srtK (eKm t M) = .ok ((ordR (M.map (·.1))).map eRow) := by
  unfold srtK
  rw [keys_eKm]
  show chk (cls (SoOk ((M.map (·.1)).map eRow))) (Rs.ok (ordP ((M.map (·.1)).map eRow))) = _
  rw [cls_true (soOk_rows fun r hr => by obtain ⟨m, hm, rfl⟩ := List.mem_map.mp hr; exact h m hm), chk_true, ordP_rows]
/-! ### numbers in order -/
theorem soOk_ints (l : List Int) : SoOk (l.map .int) where
  al := by
    intro d hd d' hd'
    obtain ⟨x, hx, rfl⟩ := List.mem_map.mp hd
    obtain ⟨y, hy, rfl⟩ := List.mem_map.mp hd'
    obtain ⟨a, _, rfl⟩ := List.mem_map.mp hx
    obtain ⟨b, _, rfl⟩ := List.mem_map.mp hy
    rfl
  so := .inr fun d hd => by
    obtain ⟨x, hx, rfl⟩ := List.mem_map.mp hd
    obtain ⟨a, ha, rfl⟩ := List.mem_map.mp hx
    exact ⟨fun z => (nomatch z), fun xs z => (nomatch z)⟩
  lay := fun d hd => by
    obtain ⟨a, ha, rfl⟩ := List.mem_map.mp hd
    exact ⟨EqE.int.lay a, Nat.le_trans (EqE.int.dep a) (by decide)⟩
theorem ordP_ints (l : List Int) : ordP (l.map .int) = (l.mergeSort fun a b => decide (a ≤ b)).map .int := by
  unfold ordP
  refine (List.map_mergeSort (r := fun a b : Int => decide (a ≤ b)) (s := PySem.W.dataLe false toP) (f := Dat.int) (l := l) fun a _ b _ => ?_).symm
  have := congrFun (congrFun (PySem.W.dataLe_int (β := Int) fun b => b) a) b
  exact this.symm
/-- rising and alike in what they hold: equal -/
theorem up_ext : ∀ {a b : List Int}, Up a → Up b → (∀ x, x ∈ a ↔ x ∈ b) → a = b
  | [], [], _, _, _ => rfl
  | [], y :: b, _, _, h => absurd ((h y).mpr (by simp)) (by simp)
  | x :: a, [], _, _, h => absurd ((h x).mp (by simp)) (by simp)
  | x :: a, y :: b, ha, hb, h => by
    have ha' := List.pairwise_cons.mp ha
    have hb' := List.pairwise_cons.mp hb
    have e : x = y := by
      rcases List.mem_cons.mp ((h x).mp (by simp)) with q | q
      · exact q
      · rcases List.mem_cons.mp ((h y).mpr (by simp)) with q2 | q2
        · exact q2.symm
        · have h1 := hb'.1 x q
          have h2 := ha'.1 y q2
          omega
    subst e
    rw [up_ext ha'.2 hb'.2 fun z => ?_]
    constructor
    · intro hz
      rcases List.mem_cons.mp ((h z).mp (List.mem_cons_of_mem _ hz)) with q | q
      · have := ha'.1 z hz; omega
      · exact q
    · intro hz
      rcases List.mem_cons.mp ((h z).mpr (List.mem_cons_of_mem _ hz)) with q | q
      · have := hb'.1 z hz; omega
      · exact q
theorem up_sort {l : List Int} (hn : l.Nodup) : Up (l.mergeSort fun a b => decide (a ≤ b)) := by
  have h1 := List.pairwise_mergeSort (le := fun a b : Int => decide (a ≤ b)) (fun a b c h1 h2 => by simp at *; omega) (fun a b => by simp; omega) l
  have h2 : (l.mergeSort fun a b => decide (a ≤ b)).Nodup := (List.mergeSort_perm l _).nodup_iff.mpr hn
  have h3 := List.Pairwise.and h1 h2
  exact h3.imp fun {a b} ⟨x, y⟩ => by simp at x; have : a ≠ b := y; omega
end
end SP

set_option maxRecDepth 100000
set_option maxHeartbeats 4000000
/-! MKg: dicts of rows and lists, in general; rows in order. -/
namespace SP
open PySem PySem.Spec PyProof.Rows L2 DL
noncomputable section
variable {β : Type} (e : β → List Dat)
def eG (M : List (Rw × β)) : Dat := .dT (M.map fun m => kRow m.1) (M.map fun m => .cel (.lst true (e m.2)))
def eGm (t : Bool) (M : List (Rw × β)) : Dat := .dT (M.map fun m => kRow m.1) (M.map fun m => .lst t (e m.2))
def ensG (M : List (Rw × β)) (r : Rw) (b : β) : List (Rw × β) := match posM M r with
  | some _ => M
  | none => M ++ [(r, b)]
def idxG (M : List (Rw × β)) (r : Rw) : Nat := (posM M r).getD M.length
theorem ensG_at (M : List (Rw × β)) (r : Rw) (b : β) : ∃ c, (ensG M r b)[idxG M r]? = some (r, c) := by
  unfold ensG idxG
  cases h : posM M r with
  | some n => exact posM_some h
  | none => exact ⟨b, by simp⟩
theorem kidC_eG {M : List (Rw × β)} {n : Nat} {m : Rw × β} (h : M[n]? = some m) : kidC (eG e M) n = some (.lst true (e m.2)) := by
  show ((kidsD (eG e M)).bind fun ds => _) = _
  simp [kidsD, eG, h]
theorem listAt_eG {M : List (Rw × β)} {n : Nat} {m : Rw × β} (h : M[n]? = some m) : DL.listAt (eG e M) [n] = some (true, e m.2) := by
  unfold DL.listAt
  have : nodeAt (eG e M) [n] = some (.lst true (e m.2)) := by
    show (kidC (eG e M) n).bind _ = _
    rw [kidC_eG e h]
    rfl
  rw [this]
  rfl
theorem setd_eG (M : List (Rw × β)) (r : Rw) (b : β) (hM : M.length < 16777216) : setdT (eG e M) (eRow r) (.cel (.lst true (e b))) = some (eG e (ensG M r b), idxG M r) := by
  unfold setdT
  have hkd : kidsD (eG e M) = some (M.map fun m => .cel (.lst true (e m.2))) := rfl
  rw [hkd, Option.bind_some, if_pos (sz_small (by simp; omega))]
  have hk : keyAt (eG e M) (eRow r) = some (posM M r) := by
    show (keyT (eRow r)).map (posL (M.map fun m => kRow m.1)) = _
    rw [keyT_row, Option.map_some, pos_kRow]
  rw [hk, Option.bind_some]
  unfold ensG idxG
  cases h : posM M r with
  | some n =>
    obtain ⟨c, hc⟩ := posM_some h
    simp only [kidC_eG e hc, Option.isSome_some, if_true, Option.getD_some]
  | none =>
    have hn : keyNew (eG e M) (eRow r) (.cel (.lst true (e b))) = some (eG e (M ++ [(r, b)])) := by
      show (keyT (eRow r)).bind (fun j => if sz ((M.map fun m => kRow m.1).length + 1) = true then some (Dat.dT ((M.map fun m => kRow m.1) ++ [j]) ((M.map fun m => Dat.cel (.lst true (e m.2))) ++ [.cel (.lst true (e b))])) else none) = _
      rw [keyT_row, Option.bind_some, if_pos (sz_small (by simp; omega))]
      simp [eG]
    simp [hn]
theorem setAt_eG {M : List (Rw × β)} {n : Nat} {r : Rw} {c : β} (h : M[n]? = some (r, c)) (b : β) : setAt (eG e M) [n] (.lst true (e b)) = eG e (M.set n (r, b)) := by
  show (match kidsD (eG e M), kidC (eG e M) n with
    | some ds, some x => setKids (ds.set n (.cel (setAt x [] (.lst true (e b))))) (eG e M)
    | _, _ => eG e M) = _
  have hkd : kidsD (eG e M) = some (M.map fun m => .cel (.lst true (e m.2))) := rfl
  rw [hkd, kidC_eG e h]
  unfold eG
  simp only [setKids, setAt, List.map_set]
  congr 1
  rw [set_same]
  rw [List.getElem?_map, h]
  rfl
theorem lons_eG (hl : ∀ b, lons (e b) = true) : ∀ M : List (Rw × β), lons (M.map fun m => Dat.cel (.lst true (e m.2))) = true
  | [] => rfl
  | m :: M => by
    show (lons (e m.2) && lons (M.map fun m => Dat.cel (.lst true (e m.2)))) = true
    rw [lons_eG hl M, hl]
    rfl
theorem melt_eG (hm : ∀ b, melts (e b) = e b) (M : List (Rw × β)) : meltN (eG e M) = eGm e true M := by
  have go : ∀ M : List (Rw × β), melts (M.map fun m => Dat.cel (.lst true (e m.2))) = M.map fun m => .lst true (e m.2) := fun M => by
    induction M with
    | nil => rfl
    | cons m M ih =>
      show Dat.lst true (melts (e m.2)) :: melts (M.map fun m => Dat.cel (.lst true (e m.2))) = _
      rw [ih, hm]
      rfl
  show Dat.dT _ (melts _) = _
  rw [go]
  rfl
theorem look_G {α : Type} (f : β → α) (r : Rw) : ∀ M : List (Rw × β), lookL (M.map fun m => kRow m.1) (M.map fun m => f m.2) (kRow r) = (posM M r).bind fun n => (M[n]?).map fun m => f m.2
  | [] => rfl
  | m :: M => by
    show (if kRow m.1 = kRow r then some (f m.2) else lookL (M.map fun m => kRow m.1) (M.map fun m => f m.2) (kRow r)) = (if m.1 = r then some 0 else (posM M r).map (· + 1)).bind fun n => ((m :: M)[n]?).map fun m => f m.2
    rw [look_G f r M]
    by_cases h : m.1 = r
    · rw [if_pos h, if_pos (by rw [h])]; rfl
    · rw [if_neg h, if_neg fun z => h (kRow_inj z)]
      cases posM M r <;> rfl
theorem get_eGm {t : Bool} {M : List (Rw × β)} (hn : (M.map (·.1)).Nodup) {m : Rw × β} (h : m ∈ M) : dGet (eGm e t M) (eRow m.1) = some (.lst t (e m.2)) := by
  show (((keyT (eRow m.1)).map (lookL (M.map fun m => kRow m.1) (M.map fun m => Dat.lst t (e m.2)))).bind id) = _
  rw [keyT_row, Option.map_some, look_G (fun b => Dat.lst t (e b))]
  obtain ⟨n, hl, q⟩ := List.getElem_of_mem h
  have h' : M[n]? = some (m.1, m.2) := by rw [List.getElem?_eq_getElem hl, q]
  rw [posM_nodup hn h']
  simp [h']
theorem keys_eGm (t : Bool) (M : List (Rw × β)) : asKeys (eGm e t M) = .ok ((M.map (·.1)).map eRow) := by
  show Rs.ok ((M.map fun m => kRow m.1).map kDs) = _
  rw [List.map_map, List.map_map]
  congr 1
  exact List.map_congr_left fun m _ => kDs_row m.1
theorem srtK_eGm (t : Bool) {M : List (Rw × β)} (h : ∀ m ∈ M, m.1 ≠ []) : srtK (eGm e t M) = .ok ((ordR (M.map (·.1))).map eRow) := by
  unfold srtK
  rw [keys_eGm]
  show chk (cls (SoOk ((M.map (·.1)).map eRow))) (Rs.ok (ordP ((M.map (·.1)).map eRow))) = _
  rw [cls_true (soOk_rows fun r hr => by obtain ⟨m, hm, rfl⟩ := List.mem_map.mp hr; exact h m hm), chk_true, ordP_rows]
theorem nodup_ensG {M : List (Rw × β)} (h : (M.map (·.1)).Nodup) (r : Rw) (b : β) : ((ensG M r b).map (·.1)).Nodup ∧ ∀ x, x ∈ (ensG M r b).map (·.1) ↔ x ∈ M.map (·.1) ∨ x = r := by
  unfold ensG
  cases hp : posM M r with
  | some n =>
    obtain ⟨c, hc⟩ := posM_some hp
    have hr : r ∈ M.map (·.1) := List.mem_map.mpr ⟨_, List.mem_of_getElem? hc, rfl⟩
    exact ⟨h, fun x => ⟨.inl, fun z => z.elim id fun z => by rw [z]; exact hr⟩⟩
  | none =>
    refine ⟨?_, fun x => by simp⟩
    rw [List.map_append, List.nodup_append]
    refine ⟨h, by simp, fun a ha b hb e => ?_⟩
    obtain ⟨m, hm, rfl⟩ := List.mem_map.mp ha
    simp at hb
    exact posM_none hp m hm (e.trans hb)
/-! ### rows in order: one order -/
def rk (r : Rw) : List (Int ⊕ List Nat) := PySem.W.keyToks (toP (eRow r))
theorem rk_cons (r : Rw) : rk r = PySem.W.keyToksAll (r.map .int) := by
  unfold rk
  rw [toP_row]
  exact PySem.W.keyToks.eq_6 _
theorem toksAll_inj : ∀ {a b : Rw}, PySem.W.keyToksAll (a.map .int) = PySem.W.keyToksAll (b.map .int) → a = b
  | [], [], _ => rfl
  | [], y :: b, h => by
    rw [List.map_nil, List.map_cons, PySem.W.keyToksAll, PySem.W.keyToksAll] at h
    simp at h
  | x :: a, [], h => by
    rw [List.map_nil, List.map_cons, PySem.W.keyToksAll, PySem.W.keyToksAll] at h
    simp at h
  | x :: a, y :: b, h => by
    rw [List.map_cons, List.map_cons, PySem.W.keyToksAll, PySem.W.keyToksAll, PySem.W.keyToks, PySem.W.keyToks] at h
    simp at h
    rw [h.1, toksAll_inj h.2]
theorem rk_inj {a b : Rw} (h : rk a = rk b) : a = b := toksAll_inj (by rw [← rk_cons, ← rk_cons]; exact h)
def leR (a b : Rw) : Bool := PySem.W.dataLe false toP (eRow a) (eRow b)
theorem leR_anti {a b : Rw} (h1 : leR a b = true) (h2 : leR b a = true) : a = b := by
  refine rk_inj ?_
  have h1' : (!(PyProof.Rows.listOrd PyProof.Rows.itemOrd).blt (rk b) (rk a)) = true := h1
  have h2' : (!(PyProof.Rows.listOrd PyProof.Rows.itemOrd).blt (rk a) (rk b)) = true := h2
  rw [Bool.not_eq_true'] at h1' h2'
  exact (PyProof.Rows.listOrd PyProof.Rows.itemOrd).total _ _ h2' h1'
theorem leR_pair (R : List Rw) : (ordR R).Pairwise fun a b => leR a b = true := by
  have T := PySem.W.sortLe_total (PyProof.Rows.listOrd PyProof.Rows.itemOrd) false rk
  exact List.pairwise_mergeSort (le := leR) (fun a b c h1 h2 => T.trans a b c h1 h2) (fun a b => by
    rcases T.total a b with h | h
    · show (leR a b || leR b a) = true
      rw [show leR a b = true from h]; rfl
    · show (leR a b || leR b a) = true
      rw [show leR b a = true from h, Bool.or_true]) R
theorem ordR_of {R Q : List Rw} (h : R.Perm Q) : ordR R = ordR Q :=
  List.Perm.eq_of_pairwise (le := fun a b => leR a b = true) (fun a b _ _ h1 h2 => leR_anti h1 h2) (leR_pair R) (leR_pair Q) (((ordR_perm R).trans h).trans (ordR_perm Q).symm)
theorem ordR_ext {R Q : List Rw} (h1 : R.Nodup) (h2 : Q.Nodup) (h : ∀ x, x ∈ R ↔ x ∈ Q) : ordR R = ordR Q := ordR_of ((List.perm_ext_iff_of_nodup h1 h2).mpr h)
end
end SP

set_option maxRecDepth 100000
set_option maxHeartbeats 4000000
/-! MTs: texts as lists of signs. -/
namespace TX
open PySem PySem.Spec PyProof.Rows L2 DL SX
noncomputable section
theorem ixS {l : List Nat} {k c : Nat} (hl : l.length ≤ 16777216) (h : l[k]? = some c) : dIx (.str (S l)) (.int (k : Int)) = some (.str (S [c])) := by
  show (if sz (S l).length = true then (atI (S l).cps.toList (k : Int)).map fun c => Dat.str ⟨#[c]⟩ else none) = _
  rw [if_pos (sz_small (by rw [S_len]; exact hl)), show (S l).cps.toList = l from rfl, atI_nat h]
  rfl
theorem slS_to {l : List Nat} (n : Nat) (hl : l.length ≤ 16777216) : dSl (.str (S l)) none (some (n : Int)) = some (.str (S (l.take n))) := by
  show (if sz (S l).length = true then some (Dat.str (cutS (S l) none (some (n : Int)))) else none) = _
  rw [if_pos (sz_small (by rw [S_len]; exact hl)), C8.cutS_slice, slice_to (by omega)]
  rfl
theorem slS_from {l : List Nat} (n : Nat) (hl : l.length ≤ 16777216) : dSl (.str (S l)) (some (n : Int)) none = some (.str (S (l.drop n))) := by
  show (if sz (S l).length = true then some (Dat.str (cutS (S l) (some (n : Int)) none)) else none) = _
  rw [if_pos (sz_small (by rw [S_len]; exact hl)), C8.cutS_slice, slice_from (by omega)]
  rfl
theorem addS {a b : List Nat} (h : a.length + b.length ≤ 16777216) : dAdd (.str (S a)) (.str (S b)) = some (.str (S (a ++ b))) := by
  show (if (S a).length + (S b).length ≤ sizeLine then some (Dat.str (S a ++ S b)) else none) = _
  rw [S_len, S_len, if_pos (by rw [sizeLine_eq]; exact h), S_cat]
theorem lenS {a : List Nat} (h : a.length ≤ 16777216) : dLen [.str (S a)] = some (.int a.length) := by
  show (if sz (S a).length = true then some (Dat.int (S a).length) else none) = _
  rw [S_len, if_pos (sz_small h)]
theorem strsOf_S : ∀ ys : List (List Nat), strsOf (ys.map fun y => .str (S y)) = some (ys.map S)
  | [] => rfl
  | y :: ys => by
    show (strsOf (ys.map fun y => Dat.str (S y))).map (S y :: ·) = _
    rw [strsOf_S ys]
    rfl
theorem joinS {t : Bool} {a : List Nat} {ys : List (List Nat)} (h : (ys.map (·.length)).sum + ys.length * a.length ≤ 16777216) : dJoin (S a) (.lst t (ys.map fun y => .str (S y))) = some (.str (S (TL.joinL a ys))) := by
  show ((strsOf (ys.map fun y => Dat.str (S y))).bind fun ys => if cls ((ys.map (·.length)).sum + ys.length * (S a).length ≤ 16777216) = true then some (Dat.str (Txt.join (S a) ys)) else none) = _
  rw [strsOf_S, Option.bind_some, if_pos (cls_true (by rw [lens, S_len, List.length_map]; exact h)), join_S]
theorem joinL_nil : ∀ ws : List Nat, TL.joinL [] (ws.map fun c => [c]) = ws
  | [] => rfl
  | [c] => rfl
  | c :: d :: r => by
    show [c] ++ ([] ++ TL.joinL [] ((d :: r).map fun c => [c])) = _
    rw [joinL_nil (d :: r)]
    rfl
theorem S_eq {a b : List Nat} : (S a = S b) = (a = b) := propext ⟨S_inj, fun h => by rw [h]⟩
def letL : List Nat := (List.range 26).map (97 + ·)
theorem let_eq : (Str.ofString "abcdefghijklmnopqrstuvwxyz") = S letL := by decide +kernel
theorem let_at {i : Nat} (h : i < 26) : letL[i]? = some (97 + i) := by
  unfold letL
  rw [List.getElem?_map, List.getElem?_range h]
  rfl
theorem let_ix {i : Nat} (h : i < 26) : dIx (.str (S letL)) (.int (i : Int)) = some (.str (S [97 + i])) := ixS (by decide) (let_at h)
/-- a name, its sign at one place drawn -/
def nm (w : List Nat) (at_ fi k : Nat) : List Nat := w.take at_ ++ [97 + (fi + k) % 26] ++ w.drop (at_ + 1)
theorem nm_ne {w : List Nat} {at_ fi k j : Nat} (hk : k < 26) (hj : j < 26) (h : k ≠ j) : nm w at_ fi k ≠ nm w at_ fi j := fun e => by
  unfold nm at e
  rw [List.append_assoc, List.append_assoc] at e
  have := List.append_cancel_left e
  simp at this
  omega
theorem nm_len {w : List Nat} {at_ fi k : Nat} (h : at_ < w.length) : (nm w at_ fi k).length = w.length := by
  unfold nm
  simp
  omega
end
end TX

set_option maxRecDepth 100000
set_option maxHeartbeats 4000000
/-! MTt (k71, k72, k73, k81): numbers as texts; texts split and joined. -/
namespace TX
open PySem PySem.Spec PyProof.Rows L2 DL SX
noncomputable section
/-- the signs of a whole number -/
def numZ (i : Int) : List Nat := if i < 0 then 45 :: TL.numL i.natAbs else TL.numL i.natAbs
theorem str_num (i : Int) : (Str.ofString (toString i) : Str) = S (numZ i) := by
  unfold numZ
  cases i with
  | ofNat m =>
    rw [if_neg (by have : (0 : Int) ≤ Int.ofNat m := Int.natCast_nonneg m; omega)]
    exact num_S m
  | negSucc m =>
    rw [if_pos (by omega)]
    refine TL.ext_tl ?_
    show (Str.ofString (toString (Int.negSucc m))).cps.toList = _
    have e : toString (Int.negSucc m) = "-" ++ Nat.repr (m + 1) := rfl
    have e2 : (Str.ofString (toString (((m + 1 : Nat)) : Int))).cps.toList = TL.numL (m + 1) := TL.tl_num (m + 1)
    rw [PyProof.Rows.signs_ofString] at e2 ⊢
    rw [e, String.toList_append, List.map_append]
    show [45] ++ (Nat.repr (m + 1)).toList.map Char.toNat = _
    have e3 : toString (((m + 1 : Nat)) : Int) = Nat.repr (m + 1) := rfl
    rw [e3] at e2
    rw [e2]
    rfl
theorem dStr_int {i : Int} (h : i.natAbs.log2 < 1920) : dStr [.int i] = some (.str (S (numZ i))) := by
  show (if cls (i.natAbs.log2 < 1920) = true then some (Dat.str (toString i)) else none) = _
  rw [cls_true h, if_pos rfl]
  congr 2
  exact str_num i
theorem log_small {i : Int} (h : i.natAbs < 10 ^ 61) : i.natAbs.log2 < 1920 := by
  by_cases h0 : i.natAbs = 0
  · rw [h0]; decide
  · have h1 : 10 ^ 61 ≤ 2 ^ 1920 := by
      have : 10 ^ 61 ≤ 2 ^ 244 := by
        have : (10 : Nat) ^ 61 ≤ (2 ^ 4) ^ 61 := Nat.pow_le_pow_left (by decide) 61
        rw [← Nat.pow_mul] at this
        exact this
      exact Nat.le_trans this (Nat.pow_le_pow_right (by decide) (by decide))
    exact (Nat.log2_lt h0).mpr (Nat.lt_of_lt_of_le h h1)
theorem numL_head {n : Nat} : (TL.numL n).head? = some 48 ↔ n = 0 := by
  induction n using Nat.strongRecOn with
  | ind n ih =>
    by_cases h : n < 10
    · rw [TL.numL_lt h]
      simp
    · have h : 10 ≤ n := by omega
      rw [TL.numL_step h]
      have hne := TL.numL_ne (n / 10)
      have := ih (n / 10) (by omega)
      rw [List.head?_append]
      cases hh : (TL.numL (n / 10)).head? with
      | none => exact absurd (List.head?_eq_none_iff.mp hh) hne
      | some c =>
        rw [hh] at this
        show some c = some 48 ↔ _
        rw [this]
        omega
theorem numZ_ne (i : Int) : numZ i ≠ [] := by
  unfold numZ
  split
  · simp
  · exact TL.numL_ne _
theorem numZ_free {i : Int} {s : Nat} (h : s < 48 ∨ 57 < s) (h2 : s ≠ 45) : s ∉ numZ i := by
  unfold numZ
  split
  · intro hm
    rcases List.mem_cons.mp hm with e | hm
    · exact h2 e
    · exact TL.numL_free h hm
  · exact TL.numL_free h
theorem numL_len60 {n : Nat} (h : n < 10 ^ 60) : 1 ≤ (TL.numL n).length ∧ (TL.numL n).length ≤ 60 := by
  refine ⟨?_, TL.numL_len (by decide) h⟩
  cases hh : TL.numL n with
  | nil => exact absurd hh (TL.numL_ne n)
  | cons c r => simp
theorem numZ_len {i : Int} (h : i.natAbs < 10 ^ 60) : (numZ i).length ≤ 61 := by
  have := numL_len60 h
  unfold numZ
  split
  · simp; omega
  · omega
theorem int_num {n : Nat} (h : n < 10 ^ 60) : dInt [.str (S (TL.numL n))] = some (.int (n : Int)) := by
  have hl := numL_len60 h
  show (if cls ((S (TL.numL n)).length ≤ 640) = true then (PySem.intText? (S (TL.numL n))).map Dat.int else none) = _
  rw [cls_true (by rw [S_len]; omega), if_pos rfl]
  have := int_S (a := TL.numL n) (by
    rw [List.all_eq_true]
    intro c hc
    have := TL.numL_digits n c hc
    simp only [Bool.and_eq_true, decide_eq_true_eq]
    exact this) (TL.numL_ne n) (by omega)
  rw [this, TL.numL_val]
  rfl
/-! ### split -/
theorem dSplit_S {a b : List Nat} (hb : b ≠ []) (hk : b.all (· < 256) = true) (hl : a.length + 2 ≤ 16777216) : dSplit (S a) (.str (S b)) = some ((TL.spl b 0 [] a).map fun y => .str (S y)) := by
  show (if cls (((S b).length == 0) = false ∧ (S a).length + 2 ≤ sizeLine) = true then some ((Txt.split (S a) (S b)).map Dat.str) else none) = _
  rw [cls_true ⟨by rw [S_len]; cases b with | nil => exact absurd rfl hb | cons c r => rfl, by rw [S_len, sizeLine_eq]; exact hl⟩, if_pos rfl, split_S hb hk, List.map_map]
  rfl
theorem dSplit_join {c : Nat} {sep : List Nat} {parts : List (List Nat)} (hne : parts ≠ []) (h : ∀ p ∈ parts, c ∉ p) (hk : (c :: sep).all (· < 256) = true) (hl : (TL.joinL (c :: sep) parts).length + 2 ≤ 16777216) :
    dSplit (S (TL.joinL (c :: sep) parts)) (.str (S (c :: sep))) = some (parts.map fun y => .str (S y)) := by
  rw [dSplit_S (List.cons_ne_nil _ _) hk hl, spl_join hne h]
theorem joinL_len (sep : List Nat) : ∀ ps : List (List Nat), (TL.joinL sep ps).length ≤ (ps.map (·.length)).sum + ps.length * sep.length
  | [] => by show 0 ≤ _; exact Nat.zero_le _
  | [p] => by show p.length ≤ _; simp
  | p :: q :: r => by
    have ih := joinL_len sep (q :: r)
    show (p ++ (sep ++ TL.joinL sep (q :: r))).length ≤ _
    rw [List.length_append, List.length_append, List.map_cons, List.sum_cons, List.length_cons, Nat.add_mul, Nat.one_mul]
    omega
theorem joinL_free {c : Nat} {sep : List Nat} (hs : c ∉ sep) : ∀ {ps : List (List Nat)}, (∀ p ∈ ps, c ∉ p) → c ∉ TL.joinL sep ps
  | [], _ => by show c ∉ []; simp
  | [p], h => h p (by simp)
  | p :: q :: r, h => by
    have ih := joinL_free hs (ps := q :: r) fun x hx => h x (List.mem_cons_of_mem _ hx)
    show c ∉ p ++ (sep ++ TL.joinL sep (q :: r))
    rw [List.mem_append, List.mem_append]
    rintro (z | z | z)
    · exact h p (by simp) z
    · exact hs z
    · exact ih z
theorem joinL_ne {sep : List Nat} {ps : List (List Nat)} (h : ps ≠ []) (hp : ∀ p ∈ ps, p ≠ []) : TL.joinL sep ps ≠ [] := by
  match ps, h with
  | [p], _ => exact hp p (by simp)
  | p :: q :: r, _ =>
    show p ++ (sep ++ TL.joinL sep (q :: r)) ≠ []
    intro e
    exact hp p (by simp) (List.append_eq_nil_iff.mp e).1
/-- a sign in a text -/
theorem ninS_S (c : Nat) (z : List Nat) : dNinS (.str ⟨#[c]⟩) (.str (S z)) = some (.bl (!decide (c ∈ z))) := by
  show some (Dat.bl (!decide (c ∈ (S z).cps.toList))) = _
  have e : (S z).cps.toList = z := rfl
  rw [e]
def figL : List Nat := (List.range 10).map (48 + ·)
theorem fig_eq : (Str.ofString "0123456789") = S figL := by decide +kernel
theorem fig_mem {c : Nat} : c ∈ figL ↔ 48 ≤ c ∧ c ≤ 57 := by
  unfold figL
  rw [List.mem_map]
  constructor
  · rintro ⟨k, hk, rfl⟩
    have := List.mem_range.mp hk
    omega
  · intro h
    exact ⟨c - 48, List.mem_range.mpr (by omega), by omega⟩
theorem signs_S (z : List Nat) : asSg (.str (S z)) = .ok (z.map fun c => .str ⟨#[c]⟩) := rfl
end
end TX

set_option maxRecDepth 100000
set_option maxHeartbeats 4000000
/-! law_k71_facts_as_texts: the walk, printed by gen.py -/
namespace LW
open PySem PySem.Spec PyProof.Rows L2 DL
/-! the text -/
def topS (i : Nat) : Stmt := PySem.Challenge.pw_whenrows_k71_facts_as_texts.main.body.getD i (.Pass ⟨0, 0, 0, 0⟩)
structure Bt (mg : Str → Option Value) : Prop where
  b_ValueError : mg "ValueError" = none
  b_bool : mg "bool" = none
  b_int : mg "int" = none
  b_isinstance : mg "isinstance" = none
  b_len : mg "len" = none
  b_list : mg "list" = none
  b_min : mg "min" = none
  b_range : mg "range" = none
  b_str : mg "str" = none
  b_tuple : mg "tuple" = none
structure Xs (K : PySem.W.Frag) (mg : Str → Option Value) : Prop where
  r_NoText : Rz K mg "NoText"
  c_WhenError : Cg K mg "WhenError" ["NoText"]
  i_NoText : Ia K mg "NoText" [("NoText", true)]
  i_ValueError : Ib K mg "ValueError" [("NoText", true)]
  t_0 : It K mg ["NoStretch", "NoWidth", "NoTable", "NoColumn", "NoName", "NoRow"] [("NoText", false)]
structure Cs (K : PySem.W.Frag) (mg : Str → Option Value) : Prop where
  g_FIGURES : GcAt mg "FIGURES" (.str "0123456789")
  g_LONGEST : GcAt mg "LONGEST" (.int 60)
  g_WIDEST : GcAt mg "WIDEST" (.int 5)
  g_MOST : GcAt mg "MOST" (.int 60)
/-! ### is_stretch -/
abbrev s_is_stretch : Stmt := topS 10
abbrev nm_is_stretch : List Str := ["start", "end"]
theorem sc_is_stretch : FnScope ["start", "end"] ["start", "end"] (defScope s_is_stretch) := ⟨rfl, rfl, rfl, by decide +kernel, rfl, by decide +kernel, by decide +kernel⟩
noncomputable def F_is_stretch : List Dat → Rs Dat := runF 2 (retD (orV (bop dIsN (rdv false 0) (kst .non)) (orV (bop dIsN (rdv false 1) (kst .non)) (bop dLt (rdv false 0) (rdv false 1)))))
theorem ok_is_stretch {P : Program} {w : World} {K : PySem.W.Frag} {mg : Str → Option Value} {base : Heap} {f : Addr} {fd : FuncData} (Fn : Fun K "is_stretch" "is_stretch" s_is_stretch f fd) (mf : mg "is_stretch" = some (.ref f)) (bf : Binds K fd ["start", "end"] []) (B : Bt mg) (V : Xs K mg) (C : Cs K mg) : DefOk P w K mg base "is_stretch" 2 1 F_is_stretch :=
  def_ok (ps := ["start", "end"]) false Fn mf bf sc_is_stretch fun cdv A outer s H E hr L hL => 
  (ds_one (ds_ret hL (de_or (de_isN (dv 0) de_non) (de_or (de_isN (dv 1) de_non) (de_one (de_lt hr.units0 (dv 0) (dv 1)))))))
/-! ### read_number -/
abbrev s_read_number : Stmt := topS 16
abbrev nm_read_number : List Str := ["word", "figures", "sign"]
theorem sc_read_number : FnScope ["word", "figures", "sign"] ["word"] (defScope s_read_number) := ⟨rfl, rfl, rfl, by decide +kernel, rfl, by decide +kernel, by decide +kernel⟩
noncomputable def L_read_number_1 : DEnv → Rs Out := (fgtD [2] (iteD (tst (bop dNinS (rdv false 2) (kst (.str "0123456789"))))
  (fun _ => .ex "NoText")
  (fun ε => .ok (.nx ε))))
noncomputable def F_read_number : List Dat → Rs Dat := runF 3 (seqD (setD 1 (rdv true 0))
  (seqD (iteD (tst (bop dEq (slD (rdv false 0) noO (smO (kst (.int 1)))) (kst (.str "-"))))
  (setD 1 (slD (rdv false 0) (smO (kst (.int 1))) noO))
  (fun ε => .ok (.nx ε)))
  (seqD (iteD (orT (notT (tst (chD dLe dLe (kst (.int 1)) (biD dLen (argsC (rdv false 1) argsN)) (kst (.int 60))))) (andT (tst (bop dEq (bop dIx (rdv false 1) (kst (.int 0))) (kst (.str "0")))) (tst (bop dNe (rdv false 0) (kst (.str "0"))))))
  (fun _ => .ex "NoText")
  (fun ε => .ok (.nx ε)))
  (seqD (loopD (walkS (rdv false 1)) (trn (gN 2) L_read_number_1))
  (seqD (iteD (tst (bop dNe (rdv false 1) (rdv false 0)))
  (retD (uop dNeg (biD dInt (argsC (rdv false 1) argsN))))
  (fun ε => .ok (.nx ε)))
  (retD (biD dInt (argsC (rdv false 1) argsN))))))))
theorem ok_read_number {P : Program} {w : World} {K : PySem.W.Frag} {mg : Str → Option Value} {base : Heap} {f : Addr} {fd : FuncData} (Fn : Fun K "read_number" "read_number" s_read_number f fd) (mf : mg "read_number" = some (.ref f)) (bf : Binds K fd ["word"] []) (B : Bt mg) (V : Xs K mg) (C : Cs K mg) : DefOk P w K mg base "read_number" 1 1 F_read_number :=
  def_ok (ps := ["word"]) false Fn mf bf sc_read_number fun cdv A outer s H E hr L hL => 
  (ds_cons (ds_set 1 sc_read_number.nd (dv 0))
  (ds_cons (ds_if (dt_eq hr.units (de_slice (dv 0) do_none (do_some de_int)) de_str)
  (ds_one (ds_set 1 sc_read_number.nd (de_slice (dv 0) (do_some de_int) do_none)))
  ds_nil)
  (ds_cons (ds_if (DW.t (dw_or (dt_not (dt_lele de_int (de_len B.b_len (da_cons (dv 1) da_nil)) (de_gint C.g_LONGEST))) (dw_or1 (DW.t (dw_and (dt_eq hr.units (de_ix (dv 1) de_int) de_str) (dw_and1 (dt_ne hr.units (dv 0) de_str)))))))
  (ds_one (ds_raise1 V.r_NoText rfl (takes_of rfl rfl rfl rfl)))
  ds_nil)
  (ds_cons (ds_for rfl (passes_of rfl) (di_str (dv 1)) (dg_name 2 sc_read_number.nd trivial)
  (ds_fgt [2] (ds_one (ds_if (dt_ninS (dv 2) (de_gstr C.g_FIGURES))
  (ds_one (ds_raise1 V.r_NoText rfl (takes_of rfl rfl rfl rfl)))
  ds_nil))))
  (ds_cons (ds_if (dt_ne hr.units (dv 1) (dv 0))
  (ds_one (ds_ret hL (de_neg (de_int_ B.b_int (da_cons (dv 1) da_nil)))))
  ds_nil)
  (ds_one (ds_ret hL (de_int_ B.b_int (da_cons (dv 1) da_nil)))))))))
/-! ### read_bound -/
abbrev s_read_bound : Stmt := topS 17
abbrev nm_read_bound : List Str := ["word"]
theorem sc_read_bound : FnScope ["word"] ["word"] (defScope s_read_bound) := ⟨rfl, rfl, rfl, by decide +kernel, rfl, by decide +kernel, by decide +kernel⟩
noncomputable def F_read_bound : List Dat → Rs Dat := runF 1 (seqD (iteD (tst (bop dEq (rdv false 0) (kst (.str "*"))))
  (retD (kst .non))
  (fun ε => .ok (.nx ε)))
  (retD (callD 1 F_read_number (argsC (rdv true 0) argsN))))
theorem ok_read_bound {P : Program} {w : World} {K : PySem.W.Frag} {mg : Str → Option Value} {base : Heap} {f : Addr} {fd : FuncData} (Fn : Fun K "read_bound" "read_bound" s_read_bound f fd) (mf : mg "read_bound" = some (.ref f)) (bf : Binds K fd ["word"] []) (B : Bt mg) (V : Xs K mg) (C : Cs K mg) (G_read_number : DefOk P w K mg base "read_number" 1 1 F_read_number) : DefOk P w K mg base "read_bound" 1 2 F_read_bound :=
  def_ok (ps := ["word"]) false Fn mf bf sc_read_bound fun cdv A outer s H E hr L hL => 
  (ds_cons (ds_if (dt_eq hr.units (dv 0) de_str)
  (ds_one (ds_ret hL de_non))
  ds_nil)
  (ds_one (ds_ret hL (dcall hL G_read_number hr (by decide) (takes_of rfl rfl rfl rfl) (da_cons (dv 0) da_nil)))))
/-! ### read_fact -/
abbrev s_read_fact : Stmt := topS 18
abbrev nm_read_fact : List Str := ["text", "words", "cells", "row", "start", "end", "word"]
theorem sc_read_fact : FnScope ["text", "words", "cells", "row", "start", "end", "word"] ["text"] (defScope s_read_fact) := ⟨rfl, rfl, rfl, by decide +kernel, rfl, by decide +kernel, by decide +kernel⟩
noncomputable def C_read_fact_1 : DEnv → Rs (List Dat) := compDX (walkA (rdv false 2)) (gN 6) yesT (callD 1 F_read_number (argsC (rdv true 6) argsN)) [6]
noncomputable def F_read_fact : List Dat → Rs Dat := runF 7 (seqD (setD 1 (lstD (spLD (rdv false 0) (kst (.str " ")))))
  (seqD (setD 2 (slD (rdv false 1) noO (smO (uop dNeg (kst (.int 3))))))
  (seqD (iteD (orT (notT (tst (chD dLe dLe (kst (.int 1)) (biD dLen (argsC (rdv false 2) argsN)) (kst (.int 5))))) (tst (bop dNe (bop dIx (rdv false 1) (biD dLen (argsC (rdv false 2) argsN))) (kst (.str "@")))))
  (fun _ => .ex "NoText")
  (fun ε => .ok (.nx ε)))
  (seqD (setD 3 (biD dTuple (argsC (lstD C_read_fact_1) argsN)))
  (seqD (setD 4 (callD 1 F_read_bound (argsC (bop dIx (rdv false 1) (bop dSub (biD dLen (argsC (rdv false 1) argsN)) (kst (.int 2)))) argsN)))
  (seqD (setD 5 (callD 1 F_read_bound (argsC (bop dIx (rdv false 1) (bop dSub (biD dLen (argsC (rdv false 1) argsN)) (kst (.int 1)))) argsN)))
  (seqD (iteD (notT (tst (callD 2 F_is_stretch (argsC (rdv true 4) (argsC (rdv true 5) argsN)))))
  (fun _ => .ex "NoText")
  (fun ε => .ok (.nx ε)))
  (retD (tupD (argsC (rdv true 3) (argsC (rdv true 4) (argsC (rdv true 5) argsN))))))))))))
theorem ok_read_fact {P : Program} {w : World} {K : PySem.W.Frag} {mg : Str → Option Value} {base : Heap} {f : Addr} {fd : FuncData} (Fn : Fun K "read_fact" "read_fact" s_read_fact f fd) (mf : mg "read_fact" = some (.ref f)) (bf : Binds K fd ["text"] []) (B : Bt mg) (V : Xs K mg) (C : Cs K mg) (G_read_bound : DefOk P w K mg base "read_bound" 1 2 F_read_bound) (G_is_stretch : DefOk P w K mg base "is_stretch" 2 1 F_is_stretch) (G_read_number : DefOk P w K mg base "read_number" 1 1 F_read_number) : DefOk P w K mg base "read_fact" 1 3 F_read_fact :=
  def_ok (ps := ["text"]) false Fn mf bf sc_read_fact fun cdv A outer s H E hr L hL => 
  (ds_cons (ds_set 1 sc_read_fact.nd (DF.de (df_split (dv 0) de_str)))
  (ds_cons (ds_set 2 sc_read_fact.nd (de_slice (dv 1) do_none (do_some (de_neg de_int))))
  (ds_cons (ds_if (DW.t (dw_or (dt_not (dt_lele de_int (de_len B.b_len (da_cons (dv 2) da_nil)) (de_gint C.g_WIDEST))) (dw_or1 (dt_ne hr.units (de_ix (dv 1) (de_len B.b_len (da_cons (dv 2) da_nil))) de_str))))
  (ds_one (ds_raise1 V.r_NoText rfl (takes_of rfl rfl rfl rfl)))
  ds_nil)
  (ds_cons (ds_set 3 sc_read_fact.nd (de_tuple B.b_tuple (da_cons (DF.de (df_lcx rfl rfl (takes_of rfl rfl rfl rfl) rfl sc_read_fact.nd (di_any (dv 2)) (blkOk_by (N := nm_read_fact) (sc := defScope s_read_fact) (own := [("word", 6)]) (by decide +kernel)) (fun _ _ _ _ _ _ h1 => (dg_name 6 sc_read_fact.nd (by decide))) (fun _ _ _ _ _ _ h1 => dts_nil) (fun _ _ _ _ _ _ _ tkV _ h1 => (dcall (h1.trans hL) G_read_number hr (by decide) tkV (da_cons (dv 6) da_nil))))) da_nil)))
  (ds_cons (ds_set 4 sc_read_fact.nd (dcall hL G_read_bound hr (by decide) (takes_of rfl rfl rfl rfl) (da_cons (de_ix (dv 1) (de_sub (de_len B.b_len (da_cons (dv 1) da_nil)) de_int)) da_nil)))
  (ds_cons (ds_set 5 sc_read_fact.nd (dcall hL G_read_bound hr (by decide) (takes_of rfl rfl rfl rfl) (da_cons (de_ix (dv 1) (de_sub (de_len B.b_len (da_cons (dv 1) da_nil)) de_int)) da_nil)))
  (ds_cons (ds_if (dt_not (dt_val (dcall hL G_is_stretch hr (by decide) (takes_of rfl rfl rfl rfl) (da_cons (dv 4) (da_cons (dv 5) da_nil)))))
  (ds_one (ds_raise1 V.r_NoText rfl (takes_of rfl rfl rfl rfl)))
  ds_nil)
  (ds_one (ds_ret hL (de_tup (da_cons (dv 3) (da_cons (dv 4) (da_cons (dv 5) da_nil)))))))))))))
/-! ### read_facts -/
abbrev s_read_facts : Stmt := topS 19
abbrev nm_read_facts : List Str := ["text", "facts", "fact", "part"]
theorem sc_read_facts : FnScope ["text", "facts", "fact", "part"] ["text"] (defScope s_read_facts) := ⟨rfl, rfl, rfl, by decide +kernel, rfl, by decide +kernel, by decide +kernel⟩
noncomputable def C_read_facts_1 : DEnv → Rs (List Dat) := compDX (walkD (lstD (spLD (rdv false 0) (kst (.str "; "))))) (gN 3) yesT (callD 1 F_read_fact (argsC (rdv true 3) argsN)) [3]
noncomputable def L_read_facts_1 : DEnv → Rs Out := (fgtD [2] (iteD (tst (bop dNe (biD dLen (argsC (bop dIx (rdv false 2) (kst (.int 0))) argsN)) (biD dLen (argsC (bop dIx (bop dIx (rdv false 1) (kst (.int 0))) (kst (.int 0))) argsN))))
  (fun _ => .ex "NoText")
  (fun ε => .ok (.nx ε))))
noncomputable def F_read_facts : List Dat → Rs Dat := runF 4 (seqD (iteD (notT (tst (isiD "str" (rdv false 0))))
  (fun _ => .ex "NoText")
  (fun ε => .ok (.nx ε)))
  (seqD (iteD (tst (bop dEq (rdv false 0) (kst (.str ""))))
  (retD (lstD (dspD argsN)))
  (fun ε => .ok (.nx ε)))
  (seqD (setD 1 (lstD C_read_facts_1))
  (seqD (iteD (tst (bop dGt (biD dLen (argsC (rdv false 1) argsN)) (kst (.int 60))))
  (fun _ => .ex "NoText")
  (fun ε => .ok (.nx ε)))
  (seqD (loopD (walkA (rdv true 1)) (trn (gN 2) L_read_facts_1))
  (retD (rdv true 1)))))))
theorem ok_read_facts {P : Program} {w : World} {K : PySem.W.Frag} {mg : Str → Option Value} {base : Heap} {f : Addr} {fd : FuncData} (Fn : Fun K "read_facts" "read_facts" s_read_facts f fd) (mf : mg "read_facts" = some (.ref f)) (bf : Binds K fd ["text"] []) (B : Bt mg) (V : Xs K mg) (C : Cs K mg) (G_read_fact : DefOk P w K mg base "read_fact" 1 3 F_read_fact) : DefOk P w K mg base "read_facts" 1 4 F_read_facts :=
  def_ok (ps := ["text"]) false Fn mf bf sc_read_facts fun cdv A outer s H E hr L hL => 
  (ds_cons (ds_if (dt_not (dt_val (de_isi (T := "str") B.b_isinstance B.b_str (by decide +kernel) (dv 0))))
  (ds_one (ds_raise1 V.r_NoText rfl (takes_of rfl rfl rfl rfl)))
  ds_nil)
  (ds_cons (ds_if (dt_eq hr.units (dv 0) de_str)
  (ds_one (ds_ret hL (DF.de (df_lst da_nil))))
  ds_nil)
  (ds_cons (ds_setLcx 1 rfl rfl (takes_of rfl rfl rfl rfl) rfl sc_read_facts.nd (di_list (DF.de (df_split (dv 0) de_str))) (blkOk_by (N := nm_read_facts) (sc := defScope s_read_facts) (own := [("part", 3)]) (by decide +kernel)) (fun _ _ _ _ _ _ h1 => (dg_name 3 sc_read_facts.nd (by decide))) (fun _ _ _ _ _ _ h1 => dts_nil) (fun _ _ _ _ _ _ _ tkV _ h1 => (dcall (h1.trans hL) G_read_fact hr (by decide) tkV (da_cons (dv 3) da_nil))))
  (ds_cons (ds_if (dt_gt (de_len B.b_len (da_cons (dv 1) da_nil)) (de_gint C.g_MOST))
  (ds_one (ds_raise1 V.r_NoText rfl (takes_of rfl rfl rfl rfl)))
  ds_nil)
  (ds_cons (ds_for rfl (passes_of rfl) (di_any (dv 1)) (dg_name 2 sc_read_facts.nd trivial)
  (ds_fgt [2] (ds_one (ds_if (dt_ne hr.units (de_len B.b_len (da_cons (de_ix (dv 2) de_int) da_nil)) (de_len B.b_len (da_cons (de_ix (de_ix (dv 1) de_int) de_int) da_nil)))
  (ds_one (ds_raise1 V.r_NoText rfl (takes_of rfl rfl rfl rfl)))
  ds_nil))))
  (ds_one (ds_ret hL (dv 1))))))))
/-! ### _law_whole -/
abbrev s__law_whole : Stmt := topS 21
abbrev nm__law_whole : List Str := ["_law_found"]
theorem sc__law_whole : FnScope ["_law_found"] ["_law_found"] (defScope s__law_whole) := ⟨rfl, rfl, rfl, by decide +kernel, rfl, by decide +kernel, by decide +kernel⟩
noncomputable def F__law_whole : List Dat → Rs Dat := runF 1 (retD (andV (isiD "int" (rdv false 0)) (uop dNot (isiD "bool" (rdv false 0)))))
theorem ok__law_whole {P : Program} {w : World} {K : PySem.W.Frag} {mg : Str → Option Value} {base : Heap} {f : Addr} {fd : FuncData} (Fn : Fun K "_law_whole" "_law_whole" s__law_whole f fd) (mf : mg "_law_whole" = some (.ref f)) (bf : Binds K fd ["_law_found"] []) (B : Bt mg) (V : Xs K mg) (C : Cs K mg) : DefOk P w K mg base "_law_whole" 1 1 F__law_whole :=
  def_ok (ps := ["_law_found"]) false Fn mf bf sc__law_whole fun cdv A outer s H E hr L hL => 
  (ds_one (ds_ret hL (de_and (de_isi (T := "int") B.b_isinstance B.b_int (by decide +kernel) (dv 0)) (de_one (de_not (de_isi (T := "bool") B.b_isinstance B.b_bool (by decide +kernel) (dv 0)))))))
/-! ### _law_mix -/
abbrev s__law_mix : Stmt := topS 22
abbrev nm__law_mix : List Str := ["_law_cell", "_law_j", "_law_number_here"]
theorem sc__law_mix : FnScope ["_law_cell", "_law_j", "_law_number_here"] ["_law_cell", "_law_j"] (defScope s__law_mix) := ⟨rfl, rfl, rfl, by decide +kernel, rfl, by decide +kernel, by decide +kernel⟩
noncomputable def F__law_mix : List Dat → Rs Dat := runF 3 (seqD (iteD (andT (tst (bop dEq (bop dMod (rdv false 0) (kst (.int 2))) (kst (.int 1)))) (tst (bop dNe (bop dShr (rdv false 0) (kst (.int 27))) (kst (.int 0)))))
  (retD (bop dMod (bop dShr (rdv false 0) (bop dAdd (kst (.int 1)) (bop dMul (kst (.int 20)) (rdv false 1)))) (kst (.int 1048576))))
  (fun ε => .ok (.nx ε)))
  (seqD (setD 2 (bop dMod (bop dAdd (bop dMul (rdv false 0) (bop dAdd (bop dMul (kst (.int 2)) (rdv false 1)) (kst (.int 3)))) (rdv false 1)) (kst (.int 2147483629))))
  (seqD (setD 2 (bop dMod (bop dMul (bop dAdd (bop dMul (rdv false 2) (rdv false 2)) (kst (.int 1))) (kst (.int 48271))) (kst (.int 2147483629))))
  (retD (bop dMod (bop dMul (rdv false 2) (rdv false 2)) (kst (.int 2147483587)))))))
theorem ok__law_mix {P : Program} {w : World} {K : PySem.W.Frag} {mg : Str → Option Value} {base : Heap} {f : Addr} {fd : FuncData} (Fn : Fun K "_law_mix" "_law_mix" s__law_mix f fd) (mf : mg "_law_mix" = some (.ref f)) (bf : Binds K fd ["_law_cell", "_law_j"] []) (B : Bt mg) (V : Xs K mg) (C : Cs K mg) : DefOk P w K mg base "_law_mix" 2 1 F__law_mix :=
  def_ok (ps := ["_law_cell", "_law_j"]) false Fn mf bf sc__law_mix fun cdv A outer s H E hr L hL => 
  (ds_cons (ds_if (DW.t (dw_and (dt_eq hr.units (de_mod (dv 0) de_int) de_int) (dw_and1 (dt_ne hr.units (de_shr (dv 0) de_int) de_int))))
  (ds_one (ds_ret hL (de_mod (de_shr (dv 0) (de_add de_int (de_mul de_int (dv 1)))) de_int)))
  ds_nil)
  (ds_cons (ds_set 2 sc__law_mix.nd (de_mod (de_add (de_mul (dv 0) (de_add (de_mul de_int (dv 1)) de_int)) (dv 1)) de_int))
  (ds_cons (ds_set 2 sc__law_mix.nd (de_mod (de_mul (de_add (de_mul (dv 2) (dv 2)) de_int) de_int) de_int))
  (ds_one (ds_ret hL (de_mod (de_mul (dv 2) (dv 2)) de_int))))))
/-! ### _law_number -/
abbrev s__law_number : Stmt := topS 23
abbrev nm__law_number : List Str := ["_law_cell", "_law_j", "_law_drawn"]
theorem sc__law_number : FnScope ["_law_cell", "_law_j", "_law_drawn"] ["_law_cell", "_law_j"] (defScope s__law_number) := ⟨rfl, rfl, rfl, by decide +kernel, rfl, by decide +kernel, by decide +kernel⟩
noncomputable def F__law_number : List Dat → Rs Dat := runF 3 (seqD (setD 2 (callD 2 F__law_mix (argsC (rdv true 0) (argsC (rdv true 1) argsN))))
  (seqD (iteD (tst (bop dEq (bop dMod (rdv false 2) (kst (.int 3))) (kst (.int 0))))
  (retD (bop dSub (bop dMod (bop dFdiv (rdv false 2) (kst (.int 3))) (kst (.int 5))) (kst (.int 2))))
  (fun ε => .ok (.nx ε)))
  (seqD (iteD (tst (bop dEq (bop dMod (rdv false 2) (kst (.int 3))) (kst (.int 1))))
  (retD (bop dSub (bop dMod (bop dFdiv (rdv false 2) (kst (.int 3))) (kst (.int 2001))) (kst (.int 1000))))
  (fun ε => .ok (.nx ε)))
  (retD (bop dSub (bop dMod (bop dSub (bop dAdd (bop dMul (rdv false 0) (bop dAdd (rdv false 1) (kst (.int 1)))) (bop dPow (kst (.int 10)) (kst (.int 60)))) (kst (.int 1))) (bop dSub (bop dMul (kst (.int 2)) (bop dPow (kst (.int 10)) (kst (.int 60)))) (kst (.int 1)))) (bop dSub (bop dPow (kst (.int 10)) (kst (.int 60))) (kst (.int 1))))))))
theorem ok__law_number {P : Program} {w : World} {K : PySem.W.Frag} {mg : Str → Option Value} {base : Heap} {f : Addr} {fd : FuncData} (Fn : Fun K "_law_number" "_law_number" s__law_number f fd) (mf : mg "_law_number" = some (.ref f)) (bf : Binds K fd ["_law_cell", "_law_j"] []) (B : Bt mg) (V : Xs K mg) (C : Cs K mg) (G__law_mix : DefOk P w K mg base "_law_mix" 2 1 F__law_mix) : DefOk P w K mg base "_law_number" 2 2 F__law_number :=
  def_ok (ps := ["_law_cell", "_law_j"]) false Fn mf bf sc__law_number fun cdv A outer s H E hr L hL => 
  (ds_cons (ds_set 2 sc__law_number.nd (dcall hL G__law_mix hr (by decide) (takes_of rfl rfl rfl rfl) (da_cons (dv 0) (da_cons (dv 1) da_nil))))
  (ds_cons (ds_if (dt_eq hr.units (de_mod (dv 2) de_int) de_int)
  (ds_one (ds_ret hL (de_sub (de_mod (de_fdiv (dv 2) de_int) de_int) de_int)))
  ds_nil)
  (ds_cons (ds_if (dt_eq hr.units (de_mod (dv 2) de_int) de_int)
  (ds_one (ds_ret hL (de_sub (de_mod (de_fdiv (dv 2) de_int) de_int) de_int)))
  ds_nil)
  (ds_one (ds_ret hL (de_sub (de_mod (de_sub (de_add (de_mul (dv 0) (de_add (dv 1) de_int)) (de_pow de_int de_int)) de_int) (de_sub (de_mul de_int (de_pow de_int de_int)) de_int)) (de_sub (de_pow de_int de_int) de_int)))))))
/-! ### _law_bounds -/
abbrev s__law_bounds : Stmt := topS 24
abbrev nm__law_bounds : List Str := ["_law_cell", "_law_start", "_law_end"]
theorem sc__law_bounds : FnScope ["_law_cell", "_law_start", "_law_end"] ["_law_cell"] (defScope s__law_bounds) := ⟨rfl, rfl, rfl, by decide +kernel, rfl, by decide +kernel, by decide +kernel⟩
noncomputable def F__law_bounds : List Dat → Rs Dat := runF 3 (seqD (setD 1 (callD 2 F__law_number (argsC (rdv true 0) (argsC (kst (.int 20)) argsN))))
  (seqD (setD 2 (callD 2 F__law_number (argsC (rdv true 0) (argsC (kst (.int 21)) argsN))))
  (seqD (iteD (andT (tst (bop dGe (rdv false 1) (rdv false 2))) (tst (bop dGt (bop dMod (callD 2 F__law_mix (argsC (rdv true 0) (argsC (kst (.int 22)) argsN))) (kst (.int 6))) (kst (.int 0)))))
  (parD 1 2 (argsC (rdv true 2) (argsC (rdv true 1) argsN)))
  (fun ε => .ok (.nx ε)))
  (seqD (iteD (andT (tst (bop dEq (rdv false 1) (rdv false 2))) (tst (bop dGt (bop dMod (callD 2 F__law_mix (argsC (rdv true 0) (argsC (kst (.int 22)) argsN))) (kst (.int 6))) (kst (.int 0)))))
  (setD 1 (bop dSub (rdv false 1) (biD dInt (argsC (bop dGt (rdv false 1) (uop dNeg (bop dSub (bop dPow (kst (.int 10)) (kst (.int 60))) (kst (.int 1))))) argsN))))
  (fun ε => .ok (.nx ε)))
  (seqD (iteD (tst (bop dEq (bop dMod (callD 2 F__law_mix (argsC (rdv true 0) (argsC (kst (.int 23)) argsN))) (kst (.int 5))) (kst (.int 1))))
  (setD 1 (kst .non))
  (fun ε => .ok (.nx ε)))
  (seqD (iteD (tst (bop dEq (bop dMod (callD 2 F__law_mix (argsC (rdv true 0) (argsC (kst (.int 24)) argsN))) (kst (.int 5))) (kst (.int 1))))
  (setD 2 (kst .non))
  (fun ε => .ok (.nx ε)))
  (retD (tupD (argsC (rdv true 1) (argsC (rdv true 2) argsN))))))))))
theorem ok__law_bounds {P : Program} {w : World} {K : PySem.W.Frag} {mg : Str → Option Value} {base : Heap} {f : Addr} {fd : FuncData} (Fn : Fun K "_law_bounds" "_law_bounds" s__law_bounds f fd) (mf : mg "_law_bounds" = some (.ref f)) (bf : Binds K fd ["_law_cell"] []) (B : Bt mg) (V : Xs K mg) (C : Cs K mg) (G__law_number : DefOk P w K mg base "_law_number" 2 2 F__law_number) (G__law_mix : DefOk P w K mg base "_law_mix" 2 1 F__law_mix) : DefOk P w K mg base "_law_bounds" 1 3 F__law_bounds :=
  def_ok (ps := ["_law_cell"]) false Fn mf bf sc__law_bounds fun cdv A outer s H E hr L hL => 
  (ds_cons (ds_set 1 sc__law_bounds.nd (dcall hL G__law_number hr (by decide) (takes_of rfl rfl rfl rfl) (da_cons (dv 0) (da_cons de_int da_nil))))
  (ds_cons (ds_set 2 sc__law_bounds.nd (dcall hL G__law_number hr (by decide) (takes_of rfl rfl rfl rfl) (da_cons (dv 0) (da_cons de_int da_nil))))
  (ds_cons (ds_if (DW.t (dw_and (dt_ge (dv 1) (dv 2)) (dw_and1 (dt_gt (de_mod (dcall hL G__law_mix hr (by decide) (takes_of rfl rfl rfl rfl) (da_cons (dv 0) (da_cons de_int da_nil))) de_int) de_int))))
  (ds_one (ds_par2 1 2 sc__law_bounds.nd (da_cons (dv 2) (da_cons (dv 1) da_nil))))
  ds_nil)
  (ds_cons (ds_if (DW.t (dw_and (dt_eq hr.units (dv 1) (dv 2)) (dw_and1 (dt_gt (de_mod (dcall hL G__law_mix hr (by decide) (takes_of rfl rfl rfl rfl) (da_cons (dv 0) (da_cons de_int da_nil))) de_int) de_int))))
  (ds_one (ds_set 1 sc__law_bounds.nd (de_sub (dv 1) (de_int_ B.b_int (da_cons (de_gt (dv 1) (de_neg (de_sub (de_pow de_int de_int) de_int))) da_nil)))))
  ds_nil)
  (ds_cons (ds_if (dt_eq hr.units (de_mod (dcall hL G__law_mix hr (by decide) (takes_of rfl rfl rfl rfl) (da_cons (dv 0) (da_cons de_int da_nil))) de_int) de_int)
  (ds_one (ds_set 1 sc__law_bounds.nd de_non))
  ds_nil)
  (ds_cons (ds_if (dt_eq hr.units (de_mod (dcall hL G__law_mix hr (by decide) (takes_of rfl rfl rfl rfl) (da_cons (dv 0) (da_cons de_int da_nil))) de_int) de_int)
  (ds_one (ds_set 2 sc__law_bounds.nd de_non))
  ds_nil)
  (ds_one (ds_ret hL (de_tup (da_cons (dv 1) (da_cons (dv 2) da_nil)))))))))))
/-! ### _law_word -/
abbrev s__law_word : Stmt := topS 25
abbrev nm__law_word : List Str := ["_law_bound"]
theorem sc__law_word : FnScope ["_law_bound"] ["_law_bound"] (defScope s__law_word) := ⟨rfl, rfl, rfl, by decide +kernel, rfl, by decide +kernel, by decide +kernel⟩
noncomputable def F__law_word : List Dat → Rs Dat := runF 1 (seqD (iteD (tst (bop dIsN (rdv false 0) (kst .non)))
  (retD (kst (.str "*")))
  (fun ε => .ok (.nx ε)))
  (retD (biD dStr (argsC (rdv false 0) argsN))))
theorem ok__law_word {P : Program} {w : World} {K : PySem.W.Frag} {mg : Str → Option Value} {base : Heap} {f : Addr} {fd : FuncData} (Fn : Fun K "_law_word" "_law_word" s__law_word f fd) (mf : mg "_law_word" = some (.ref f)) (bf : Binds K fd ["_law_bound"] []) (B : Bt mg) (V : Xs K mg) (C : Cs K mg) : DefOk P w K mg base "_law_word" 1 1 F__law_word :=
  def_ok (ps := ["_law_bound"]) false Fn mf bf sc__law_word fun cdv A outer s H E hr L hL => 
  (ds_cons (ds_if (dt_isN (dv 0) de_non)
  (ds_one (ds_ret hL de_str))
  ds_nil)
  (ds_one (ds_ret hL (de_str_ B.b_str (da_cons (dv 0) da_nil)))))
/-! ### _law_text -/
abbrev s__law_text : Stmt := topS 26
abbrev nm__law_text : List Str := ["_law_cells", "_law_at", "_law_size", "_law_many", "_law_found", "_law_k", "_law_cell", "_law_words", "_law_start", "_law_end", "_law_j"]
theorem sc__law_text : FnScope ["_law_cells", "_law_at", "_law_size", "_law_many", "_law_found", "_law_k", "_law_cell", "_law_words", "_law_start", "_law_end", "_law_j"] ["_law_cells", "_law_at"] (defScope s__law_text) := ⟨rfl, rfl, rfl, by decide +kernel, rfl, by decide +kernel, by decide +kernel⟩
noncomputable def C__law_text_1 : DEnv → Rs (List Dat) := compD (rngD asR1 (argsC (rdv false 2) argsN)) (gN 10) yesT (biD dStr (argsC (callD 2 F__law_number (argsC (rdv true 6) (argsC (bop dAdd (kst (.int 5)) (rdv false 10)) argsN))) argsN)) [10]
noncomputable def L__law_text_1 : DEnv → Rs Out := (fgtD [5, 6, 7, 8, 9] (seqD (setD 6 (bop dAdd (bop dIx (rdv false 0) (bop dMod (bop dAdd (rdv false 1) (rdv false 5)) (biD dLen (argsC (rdv false 0) argsN)))) (bop dFdiv (rdv false 5) (kst (.int 7)))))
  (seqD (setD 7 (lstD C__law_text_1))
  (seqD (asgD (gT (gCons' (gN 8) (gCons' (gN 9) gNil'))) (callD 1 F__law_bounds (argsC (rdv true 6) argsN)))
  (appD 4 (joD (kst (.str " ")) (bop dAdd (rdv false 7) (lstD (dspD (argsC (kst (.str "@")) (argsC (callD 1 F__law_word (argsC (rdv true 8) argsN)) (argsC (callD 1 F__law_word (argsC (rdv true 9) argsN)) argsN))))))))))))
noncomputable def F__law_text : List Dat → Rs Dat := runF 11 (seqD (setD 2 (bop dIx (lstD (dspD (argsC (kst (.int 1)) (argsC (kst (.int 2)) (argsC (kst (.int 3)) (argsC (kst (.int 4)) (argsC (kst (.int 5)) (argsC (kst (.int 1)) (argsC (kst (.int 2)) (argsC (kst (.int 6)) argsN)))))))))) (bop dMod (callD 2 F__law_mix (argsC (bop dIx (rdv false 0) (rdv false 1)) (argsC (kst (.int 1)) argsN))) (kst (.int 8)))))
  (seqD (setD 3 (bop dMod (callD 2 F__law_mix (argsC (bop dIx (rdv false 0) (rdv false 1)) (argsC (kst (.int 2)) argsN))) (kst (.int 5))))
  (seqD (iteD (andT (tst (bop dEq (rdv false 1) (kst (.int 0)))) (tst (bop dEq (bop dMod (callD 2 F__law_mix (argsC (bop dIx (rdv false 0) (rdv false 1)) (argsC (kst (.int 3)) argsN))) (kst (.int 4))) (kst (.int 1)))))
  (seqD (setD 3 (bop dAdd (kst (.int 60)) (bop dMod (callD 2 F__law_mix (argsC (bop dIx (rdv false 0) (rdv false 1)) (argsC (kst (.int 4)) argsN))) (kst (.int 2)))))
  (setD 2 (biD dMin2 (argsC (rdv false 2) (argsC (kst (.int 2)) argsN)))))
  (fun ε => .ok (.nx ε)))
  (seqD (ownD 4 (dspD argsN))
  (seqD (loopD (rngD asR1 (argsC (rdv false 3) argsN)) (trn (gN 5) L__law_text_1))
  (fzD 4 (retD (joD (kst (.str "; ")) (rdv false 4)))))))))
theorem ok__law_text {P : Program} {w : World} {K : PySem.W.Frag} {mg : Str → Option Value} {base : Heap} {f : Addr} {fd : FuncData} (Fn : Fun K "_law_text" "_law_text" s__law_text f fd) (mf : mg "_law_text" = some (.ref f)) (bf : Binds K fd ["_law_cells", "_law_at"] []) (B : Bt mg) (V : Xs K mg) (C : Cs K mg) (G__law_mix : DefOk P w K mg base "_law_mix" 2 1 F__law_mix) (G__law_bounds : DefOk P w K mg base "_law_bounds" 1 3 F__law_bounds) (G__law_number : DefOk P w K mg base "_law_number" 2 2 F__law_number) (G__law_word : DefOk P w K mg base "_law_word" 1 1 F__law_word) : DefOk P w K mg base "_law_text" 2 4 F__law_text :=
  def_ok (ps := ["_law_cells", "_law_at"]) false Fn mf bf sc__law_text fun cdv A outer s H E hr L hL => 
  (ds_cons (ds_set 2 sc__law_text.nd (de_ix (DF.de (df_lst (da_cons de_int (da_cons de_int (da_cons de_int (da_cons de_int (da_cons de_int (da_cons de_int (da_cons de_int (da_cons de_int da_nil)))))))))) (de_mod (dcall hL G__law_mix hr (by decide) (takes_of rfl rfl rfl rfl) (da_cons (de_ix (dv 0) (dv 1)) (da_cons de_int da_nil))) de_int)))
  (ds_cons (ds_set 3 sc__law_text.nd (de_mod (dcall hL G__law_mix hr (by decide) (takes_of rfl rfl rfl rfl) (da_cons (de_ix (dv 0) (dv 1)) (da_cons de_int da_nil))) de_int))
  (ds_cons (ds_if (DW.t (dw_and (dt_eq hr.units (dv 1) de_int) (dw_and1 (dt_eq hr.units (de_mod (dcall hL G__law_mix hr (by decide) (takes_of rfl rfl rfl rfl) (da_cons (de_ix (dv 0) (dv 1)) (da_cons de_int da_nil))) de_int) de_int))))
  (ds_cons (ds_set 3 sc__law_text.nd (de_add de_int (de_mod (dcall hL G__law_mix hr (by decide) (takes_of rfl rfl rfl rfl) (da_cons (de_ix (dv 0) (dv 1)) (da_cons de_int da_nil))) de_int)))
  (ds_one (ds_set 2 sc__law_text.nd (de_min2 rfl B.b_min (da_cons (dv 2) (da_cons de_int da_nil))))))
  ds_nil)
  (ds_cons (ds_own 4 sc__law_text.nd (df_lst da_nil))
  (ds_cons (ds_for rfl (passes_of rfl) (di_range1 B.b_range (da_cons (dv 3) da_nil)) (dg_name 5 sc__law_text.nd trivial)
  (ds_fgt [5, 6, 7, 8, 9] (ds_cons (ds_set 6 sc__law_text.nd (de_add (de_ix (dv 0) (de_mod (de_add (dv 1) (dv 5)) (de_len B.b_len (da_cons (dv 0) da_nil)))) (de_fdiv (dv 5) de_int)))
  (ds_cons (ds_setLc 7 rfl sc__law_text.nd (di_range1 B.b_range (da_cons (dv 2) da_nil)) (blkOk_by (N := nm__law_text) (sc := defScope s__law_text) (own := [("_law_j", 10)]) (by decide +kernel)) (fun _ _ _ _ _ _ h1 => (dg_name 10 sc__law_text.nd (by decide))) (fun _ _ _ _ _ _ h1 => dts_nil) (fun _ _ _ _ _ _ h1 => (de_str_ B.b_str (da_cons (dcall (h1.trans hL) G__law_number hr (by decide) takes0 (da_cons (dv 6) (da_cons (de_add de_int (dv 10)) da_nil))) da_nil)))).1
  (ds_cons (ds_asg (dcall hL G__law_bounds hr (by decide) (takes_of rfl rfl rfl rfl) (da_cons (dv 6) da_nil)) (dg_tup rfl (dgs_cons (dg_name 8 sc__law_text.nd trivial) (dgs_cons (dg_name 9 sc__law_text.nd trivial) dgs_nil)) (gl_cons (gl_cons gl_nil))))
  (ds_one (ds_app 4 (de_join de_str (de_add (dv 7) (DF.de (df_lst (da_cons de_str (da_cons (dcall hL G__law_word hr (by decide) (takes_of rfl rfl rfl rfl) (da_cons (dv 8) da_nil)) (da_cons (dcall hL G__law_word hr (by decide) (takes_of rfl rfl rfl rfl) (da_cons (dv 9) da_nil)) da_nil))))))) (h1 := fun b => pe_bm PySem.F.plainAttrs_list PySem.F.slot_list_append PySem.F.type_list_append mt_append (pv 4) b))))))))
  (ds_fz 4 (ds_one (ds_ret hL (de_join de_str (dv 4))))))))))
/-! ### _law_odd -/
abbrev s__law_odd : Stmt := topS 27
abbrev nm__law_odd : List Str := ["_law_cell", "_law_some"]
theorem sc__law_odd : FnScope ["_law_cell", "_law_some"] ["_law_cell"] (defScope s__law_odd) := ⟨rfl, rfl, rfl, by decide +kernel, rfl, by decide +kernel, by decide +kernel⟩
noncomputable def F__law_odd : List Dat → Rs Dat := runF 2 (seqD (setD 1 (lstD (dspD (argsC (kst (.str " ")) (argsC (kst (.str ";")) (argsC (kst (.str "; ")) (argsC (kst (.str "1")) (argsC (kst (.str "1 @")) (argsC (kst (.str "1 @ 2")) (argsC (kst (.str "1 @ 2 3 4")) (argsC (kst (.str "@ 2 3")) (argsC (kst (.str "1 2 3")) (argsC (kst (.str "1 @ 3 2")) (argsC (kst (.str "1 @ 2 2")) argsN))))))))))))))
  (seqD (setD 1 (bop dAdd (rdv false 1) (lstD (dspD (argsC (kst (.str "1 @ 01 2")) (argsC (kst (.str "1 @ -0 2")) (argsC (kst (.str "1 @ * *;")) (argsC (kst (.str "1 @ * *; ")) (argsC (kst (.str "1 @ * *;1 @ * *")) (argsC (kst (.str "1 @ * * ")) (argsC (kst (.str " 1 @ * *")) argsN)))))))))))
  (seqD (setD 1 (bop dAdd (rdv false 1) (lstD (dspD (argsC (kst (.str "1  @ * *")) (argsC (kst (.str "1 @* *")) (argsC (kst (.str "1 @ ** 2")) (argsC (kst (.str "* @ 1 2")) (argsC (kst (.str "1 @ 1 2; 1 2 @ 1 2")) (argsC (kst (.str "1 2 3 4 5 6 @ 1 2")) argsN))))))))))
  (seqD (setD 1 (bop dAdd (rdv false 1) (lstD (dspD (argsC (kst (.str "1 @ +1 2")) (argsC (kst (.str "1_0 @ 1 2")) (argsC (kst (.str "+1 @ 1 2")) (argsC (kst (.str "1 @ 1 2\n")) (argsC (kst (.str "1\t@ 1 2")) (argsC (kst (.str "x @ 1 2")) (argsC (kst .non) (argsC (kst (.int 7)) (argsC (lstD (dspD (argsC (tupD (argsC (tupD (argsC (kst (.int 1)) argsN)) (argsC (kst (.int 1)) (argsC (kst (.int 2)) argsN)))) argsN))) argsN)))))))))))))
  (retD (bop dIx (rdv false 1) (bop dMod (callD 2 F__law_mix (argsC (rdv true 0) (argsC (kst (.int 30)) argsN))) (kst (.int 33)))))))))
theorem ok__law_odd {P : Program} {w : World} {K : PySem.W.Frag} {mg : Str → Option Value} {base : Heap} {f : Addr} {fd : FuncData} (Fn : Fun K "_law_odd" "_law_odd" s__law_odd f fd) (mf : mg "_law_odd" = some (.ref f)) (bf : Binds K fd ["_law_cell"] []) (B : Bt mg) (V : Xs K mg) (C : Cs K mg) (G__law_mix : DefOk P w K mg base "_law_mix" 2 1 F__law_mix) : DefOk P w K mg base "_law_odd" 1 2 F__law_odd :=
  def_ok (ps := ["_law_cell"]) false Fn mf bf sc__law_odd fun cdv A outer s H E hr L hL => 
  (ds_cons (ds_set 1 sc__law_odd.nd (DF.de (df_lst (da_cons de_str (da_cons de_str (da_cons de_str (da_cons de_str (da_cons de_str (da_cons de_str (da_cons de_str (da_cons de_str (da_cons de_str (da_cons de_str (da_cons de_str da_nil))))))))))))))
  (ds_cons (ds_set 1 sc__law_odd.nd (de_add (dv 1) (DF.de (df_lst (da_cons de_str (da_cons de_str (da_cons de_str (da_cons de_str (da_cons de_str (da_cons de_str (da_cons de_str da_nil)))))))))))
  (ds_cons (ds_set 1 sc__law_odd.nd (de_add (dv 1) (DF.de (df_lst (da_cons de_str (da_cons de_str (da_cons de_str (da_cons de_str (da_cons de_str (da_cons de_str da_nil))))))))))
  (ds_cons (ds_set 1 sc__law_odd.nd (de_add (dv 1) (DF.de (df_lst (da_cons de_str (da_cons de_str (da_cons de_str (da_cons de_str (da_cons de_str (da_cons de_str (da_cons de_non (da_cons de_int (da_cons (DF.de (df_lst (da_cons (de_tup (da_cons (de_tup (da_cons de_int da_nil)) (da_cons de_int (da_cons de_int da_nil)))) da_nil))) da_nil)))))))))))))
  (ds_one (ds_ret hL (de_ix (dv 1) (de_mod (dcall hL G__law_mix hr (by decide) (takes_of rfl rfl rfl rfl) (da_cons (dv 0) (da_cons de_int da_nil))) de_int))))))))
/-! ### _law_spoiled -/
abbrev s__law_spoiled : Stmt := topS 28
abbrev nm__law_spoiled : List Str := ["_law_text_here", "_law_cell", "_law_signs", "_law_way", "_law_at", "_law_sign"]
theorem sc__law_spoiled : FnScope ["_law_text_here", "_law_cell", "_law_signs", "_law_way", "_law_at", "_law_sign"] ["_law_text_here", "_law_cell"] (defScope s__law_spoiled) := ⟨rfl, rfl, rfl, by decide +kernel, rfl, by decide +kernel, by decide +kernel⟩
noncomputable def F__law_spoiled : List Dat → Rs Dat := runF 6 (seqD (setD 2 (kst (.str "   ;;@@**--0123456789x,+_\n\t")))
  (seqD (setD 3 (bop dMod (callD 2 F__law_mix (argsC (rdv true 1) (argsC (kst (.int 31)) argsN))) (kst (.int 8))))
  (seqD (setD 4 (bop dMod (callD 2 F__law_mix (argsC (rdv true 1) (argsC (kst (.int 32)) argsN))) (bop dAdd (biD dLen (argsC (rdv false 0) argsN)) (kst (.int 1)))))
  (seqD (setD 5 (bop dIx (rdv false 2) (bop dMod (callD 2 F__law_mix (argsC (rdv true 1) (argsC (kst (.int 33)) argsN))) (biD dLen (argsC (rdv false 2) argsN)))))
  (seqD (iteD (tst (bop dEq (rdv false 3) (kst (.int 0))))
  (retD (bop dAdd (bop dAdd (slD (rdv false 0) noO (smO (rdv false 4))) (rdv false 5)) (slD (rdv false 0) (smO (rdv false 4)) noO)))
  (fun ε => .ok (.nx ε)))
  (seqD (iteD (tst (bop dEq (rdv false 3) (kst (.int 1))))
  (retD (bop dAdd (slD (rdv false 0) noO (smO (rdv false 4))) (slD (rdv false 0) (smO (bop dAdd (rdv false 4) (kst (.int 1)))) noO)))
  (fun ε => .ok (.nx ε)))
  (seqD (iteD (tst (bop dLt (rdv false 3) (kst (.int 5))))
  (retD (bop dAdd (bop dAdd (slD (rdv false 0) noO (smO (rdv false 4))) (rdv false 5)) (slD (rdv false 0) (smO (bop dAdd (rdv false 4) (kst (.int 1)))) noO)))
  (fun ε => .ok (.nx ε)))
  (seqD (iteD (tst (bop dEq (rdv false 3) (kst (.int 5))))
  (retD (callD 1 F__law_odd (argsC (rdv true 1) argsN)))
  (fun ε => .ok (.nx ε)))
  (retD (rdv true 0))))))))))
theorem ok__law_spoiled {P : Program} {w : World} {K : PySem.W.Frag} {mg : Str → Option Value} {base : Heap} {f : Addr} {fd : FuncData} (Fn : Fun K "_law_spoiled" "_law_spoiled" s__law_spoiled f fd) (mf : mg "_law_spoiled" = some (.ref f)) (bf : Binds K fd ["_law_text_here", "_law_cell"] []) (B : Bt mg) (V : Xs K mg) (C : Cs K mg) (G__law_mix : DefOk P w K mg base "_law_mix" 2 1 F__law_mix) (G__law_odd : DefOk P w K mg base "_law_odd" 1 2 F__law_odd) : DefOk P w K mg base "_law_spoiled" 2 3 F__law_spoiled :=
  def_ok (ps := ["_law_text_here", "_law_cell"]) false Fn mf bf sc__law_spoiled fun cdv A outer s H E hr L hL => 
  (ds_cons (ds_set 2 sc__law_spoiled.nd de_str)
  (ds_cons (ds_set 3 sc__law_spoiled.nd (de_mod (dcall hL G__law_mix hr (by decide) (takes_of rfl rfl rfl rfl) (da_cons (dv 1) (da_cons de_int da_nil))) de_int))
  (ds_cons (ds_set 4 sc__law_spoiled.nd (de_mod (dcall hL G__law_mix hr (by decide) (takes_of rfl rfl rfl rfl) (da_cons (dv 1) (da_cons de_int da_nil))) (de_add (de_len B.b_len (da_cons (dv 0) da_nil)) de_int)))
  (ds_cons (ds_set 5 sc__law_spoiled.nd (de_ix (dv 2) (de_mod (dcall hL G__law_mix hr (by decide) (takes_of rfl rfl rfl rfl) (da_cons (dv 1) (da_cons de_int da_nil))) (de_len B.b_len (da_cons (dv 2) da_nil)))))
  (ds_cons (ds_if (dt_eq hr.units (dv 3) de_int)
  (ds_one (ds_ret hL (de_add (de_add (de_slice (dv 0) do_none (do_some (dv 4))) (dv 5)) (de_slice (dv 0) (do_some (dv 4)) do_none))))
  ds_nil)
  (ds_cons (ds_if (dt_eq hr.units (dv 3) de_int)
  (ds_one (ds_ret hL (de_add (de_slice (dv 0) do_none (do_some (dv 4))) (de_slice (dv 0) (do_some (de_add (dv 4) de_int)) do_none))))
  ds_nil)
  (ds_cons (ds_if (dt_lt hr.units0 (dv 3) de_int)
  (ds_one (ds_ret hL (de_add (de_add (de_slice (dv 0) do_none (do_some (dv 4))) (dv 5)) (de_slice (dv 0) (do_some (de_add (dv 4) de_int)) do_none))))
  ds_nil)
  (ds_cons (ds_if (dt_eq hr.units (dv 3) de_int)
  (ds_one (ds_ret hL (dcall hL G__law_odd hr (by decide) (takes_of rfl rfl rfl rfl) (da_cons (dv 1) da_nil))))
  ds_nil)
  (ds_one (ds_ret hL (dv 0)))))))))))
/-! ### _law_number_told -/
abbrev s__law_number_told : Stmt := topS 29
abbrev nm__law_number_told : List Str := ["_law_word_here", "_law_figures", "_law_sign"]
theorem sc__law_number_told : FnScope ["_law_word_here", "_law_figures", "_law_sign"] ["_law_word_here"] (defScope s__law_number_told) := ⟨rfl, rfl, rfl, by decide +kernel, rfl, by decide +kernel, by decide +kernel⟩
noncomputable def L__law_number_told_1 : DEnv → Rs Out := (fgtD [2] (iteD (tst (bop dNinS (rdv false 2) (kst (.str "0123456789"))))
  (retD (kst .non))
  (fun ε => .ok (.nx ε))))
noncomputable def F__law_number_told : List Dat → Rs Dat := runF 3 (seqD (setD 1 (slD (rdv false 0) (smO (biD dInt (argsC (bop dEq (slD (rdv false 0) noO (smO (kst (.int 1)))) (kst (.str "-"))) argsN))) noO))
  (seqD (iteD (orT (tst (bop dEq (rdv false 1) (kst (.str "")))) (orT (tst (bop dGt (biD dLen (argsC (rdv false 1) argsN)) (kst (.int 60)))) (andT (tst (bop dEq (bop dIx (rdv false 1) (kst (.int 0))) (kst (.str "0")))) (tst (bop dNe (rdv false 0) (kst (.str "0")))))))
  (retD (kst .non))
  (fun ε => .ok (.nx ε)))
  (seqD (loopD (walkS (rdv false 1)) (trn (gN 2) L__law_number_told_1))
  (retD (bop dMul (biD dInt (argsC (rdv false 1) argsN)) (bop dSub (kst (.int 1)) (bop dMul (kst (.int 2)) (biD dInt (argsC (bop dNe (rdv false 1) (rdv false 0)) argsN)))))))))
theorem ok__law_number_told {P : Program} {w : World} {K : PySem.W.Frag} {mg : Str → Option Value} {base : Heap} {f : Addr} {fd : FuncData} (Fn : Fun K "_law_number_told" "_law_number_told" s__law_number_told f fd) (mf : mg "_law_number_told" = some (.ref f)) (bf : Binds K fd ["_law_word_here"] []) (B : Bt mg) (V : Xs K mg) (C : Cs K mg) : DefOk P w K mg base "_law_number_told" 1 1 F__law_number_told :=
  def_ok (ps := ["_law_word_here"]) false Fn mf bf sc__law_number_told fun cdv A outer s H E hr L hL => 
  (ds_cons (ds_set 1 sc__law_number_told.nd (de_slice (dv 0) (do_some (de_int_ B.b_int (da_cons (de_eq hr.units (de_slice (dv 0) do_none (do_some de_int)) de_str) da_nil))) do_none))
  (ds_cons (ds_if (DW.t (dw_or (dt_eq hr.units (dv 1) de_str) (dw_or (dt_gt (de_len B.b_len (da_cons (dv 1) da_nil)) de_int) (dw_or1 (DW.t (dw_and (dt_eq hr.units (de_ix (dv 1) de_int) de_str) (dw_and1 (dt_ne hr.units (dv 0) de_str))))))))
  (ds_one (ds_ret hL de_non))
  ds_nil)
  (ds_cons (ds_for rfl (passes_of rfl) (di_str (dv 1)) (dg_name 2 sc__law_number_told.nd trivial)
  (ds_fgt [2] (ds_one (ds_if (dt_ninS (dv 2) de_str)
  (ds_one (ds_ret hL de_non))
  ds_nil))))
  (ds_one (ds_ret hL (de_mul (de_int_ B.b_int (da_cons (dv 1) da_nil)) (de_sub de_int (de_mul de_int (de_int_ B.b_int (da_cons (de_ne hr.units (dv 1) (dv 0)) da_nil))))))))))
/-! ### _law_fact_told -/
abbrev s__law_fact_told : Stmt := topS 30
abbrev nm__law_fact_told : List Str := ["_law_text_here", "_law_words", "_law_row", "_law_ends", "_law_word_here", "_law_bound"]
theorem sc__law_fact_told : FnScope ["_law_text_here", "_law_words", "_law_row", "_law_ends", "_law_word_here", "_law_bound"] ["_law_text_here"] (defScope s__law_fact_told) := ⟨rfl, rfl, rfl, by decide +kernel, rfl, by decide +kernel, by decide +kernel⟩
noncomputable def C__law_fact_told_1 : DEnv → Rs (List Dat) := compD (walkD (slD (rdv false 1) noO (smO (bop dSub (biD dLen (argsC (rdv false 1) argsN)) (kst (.int 3)))))) (gN 4) yesT (callD 1 F__law_number_told (argsC (rdv true 4) argsN)) [4]
noncomputable def L__law_fact_told_1 : DEnv → Rs Out := (fgtD [4, 5] (seqD (setD 5 (callD 1 F__law_number_told (argsC (rdv true 4) argsN)))
  (seqD (iteD (andT (tst (bop dIsN (rdv false 5) (kst .non))) (tst (bop dNe (rdv false 4) (kst (.str "*")))))
  (retD (kst .non))
  (fun ε => .ok (.nx ε)))
  (appD 3 (rdv true 5)))))
noncomputable def F__law_fact_told : List Dat → Rs Dat := runF 6 (seqD (setD 1 (lstD (spLD (rdv false 0) (kst (.str " ")))))
  (seqD (iteD (orT (tst (bop dLt (biD dLen (argsC (rdv false 1) argsN)) (kst (.int 4)))) (orT (tst (bop dGt (biD dLen (argsC (rdv false 1) argsN)) (kst (.int 8)))) (tst (bop dNe (bop dIx (rdv false 1) (bop dSub (biD dLen (argsC (rdv false 1) argsN)) (kst (.int 3)))) (kst (.str "@"))))))
  (retD (kst .non))
  (fun ε => .ok (.nx ε)))
  (seqD (setD 2 (biD dTuple (argsC (lstD C__law_fact_told_1) argsN)))
  (seqD (iteD (tst (bop dInF (kst .non) (rdv false 2)))
  (retD (kst .non))
  (fun ε => .ok (.nx ε)))
  (seqD (ownD 3 (dspD argsN))
  (seqD (loopD (walkD (slD (rdv false 1) (smO (bop dSub (biD dLen (argsC (rdv false 1) argsN)) (kst (.int 2)))) noO)) (trn (gN 4) L__law_fact_told_1))
  (fzD 3 (seqD (iteD (andT (tst (bop dNotN (bop dIx (rdv false 3) (kst (.int 0))) (kst .non))) (andT (tst (bop dNotN (bop dIx (rdv false 3) (kst (.int 1))) (kst .non))) (tst (bop dGe (bop dIx (rdv false 3) (kst (.int 0))) (bop dIx (rdv false 3) (kst (.int 1)))))))
  (retD (kst .non))
  (fun ε => .ok (.nx ε)))
  (retD (tupD (argsC (rdv true 2) (argsC (bop dIx (rdv false 3) (kst (.int 0))) (argsC (bop dIx (rdv false 3) (kst (.int 1))) argsN)))))))))))))
theorem ok__law_fact_told {P : Program} {w : World} {K : PySem.W.Frag} {mg : Str → Option Value} {base : Heap} {f : Addr} {fd : FuncData} (Fn : Fun K "_law_fact_told" "_law_fact_told" s__law_fact_told f fd) (mf : mg "_law_fact_told" = some (.ref f)) (bf : Binds K fd ["_law_text_here"] []) (B : Bt mg) (V : Xs K mg) (C : Cs K mg) (G__law_number_told : DefOk P w K mg base "_law_number_told" 1 1 F__law_number_told) : DefOk P w K mg base "_law_fact_told" 1 2 F__law_fact_told :=
  def_ok (ps := ["_law_text_here"]) false Fn mf bf sc__law_fact_told fun cdv A outer s H E hr L hL => 
  (ds_cons (ds_set 1 sc__law_fact_told.nd (DF.de (df_split (dv 0) de_str)))
  (ds_cons (ds_if (DW.t (dw_or (dt_lt hr.units0 (de_len B.b_len (da_cons (dv 1) da_nil)) de_int) (dw_or (dt_gt (de_len B.b_len (da_cons (dv 1) da_nil)) de_int) (dw_or1 (dt_ne hr.units (de_ix (dv 1) (de_sub (de_len B.b_len (da_cons (dv 1) da_nil)) de_int)) de_str)))))
  (ds_one (ds_ret hL de_non))
  ds_nil)
  (ds_cons (ds_set 2 sc__law_fact_told.nd (de_tuple B.b_tuple (da_cons (DF.de (df_lc rfl sc__law_fact_told.nd (di_list (de_slice (dv 1) do_none (do_some (de_sub (de_len B.b_len (da_cons (dv 1) da_nil)) de_int)))) (blkOk_by (N := nm__law_fact_told) (sc := defScope s__law_fact_told) (own := [("_law_word_here", 4)]) (by decide +kernel)) (fun _ _ _ _ _ _ h1 => (dg_name 4 sc__law_fact_told.nd (by decide))) (fun _ _ _ _ _ _ h1 => dts_nil) (fun _ _ _ _ _ _ h1 => (dcall (h1.trans hL) G__law_number_told hr (by decide) takes0 (da_cons (dv 4) da_nil))))) da_nil)))
  (ds_cons (ds_if (dt_inF de_non (dv 2))
  (ds_one (ds_ret hL de_non))
  ds_nil)
  (ds_cons (ds_own 3 sc__law_fact_told.nd (df_lst da_nil))
  (ds_cons (ds_for rfl (passes_of rfl) (di_list (de_slice (dv 1) (do_some (de_sub (de_len B.b_len (da_cons (dv 1) da_nil)) de_int)) do_none)) (dg_name 4 sc__law_fact_told.nd trivial)
  (ds_fgt [4, 5] (ds_cons (ds_set 5 sc__law_fact_told.nd (dcall hL G__law_number_told hr (by decide) (takes_of rfl rfl rfl rfl) (da_cons (dv 4) da_nil)))
  (ds_cons (ds_if (DW.t (dw_and (dt_isN (dv 5) de_non) (dw_and1 (dt_ne hr.units (dv 4) de_str))))
  (ds_one (ds_ret hL de_non))
  ds_nil)
  (ds_one (ds_app 3 (dv 5) (h1 := fun b => pe_bm PySem.F.plainAttrs_list PySem.F.slot_list_append PySem.F.type_list_append mt_append (pv 3) b)))))))
  (ds_fz 3 (ds_cons (ds_if (DW.t (dw_and (dt_notN (de_ix (dv 3) de_int) de_non) (dw_and (dt_notN (de_ix (dv 3) de_int) de_non) (dw_and1 (dt_ge (de_ix (dv 3) de_int) (de_ix (dv 3) de_int))))))
  (ds_one (ds_ret hL de_non))
  ds_nil)
  (ds_one (ds_ret hL (de_tup (da_cons (dv 2) (da_cons (de_ix (dv 3) de_int) (da_cons (de_ix (dv 3) de_int) da_nil))))))))))))))
/-! ### _law_told -/
abbrev s__law_told : Stmt := topS 31
abbrev nm__law_told : List Str := ["_law_text_here", "_law_found", "_law_fact", "_law_piece"]
theorem sc__law_told : FnScope ["_law_text_here", "_law_found", "_law_fact", "_law_piece"] ["_law_text_here"] (defScope s__law_told) := ⟨rfl, rfl, rfl, by decide +kernel, rfl, by decide +kernel, by decide +kernel⟩
noncomputable def C__law_told_1 : DEnv → Rs (List Dat) := compD (walkD (lstD (spLD (rdv false 0) (kst (.str "; "))))) (gN 3) yesT (callD 1 F__law_fact_told (argsC (rdv true 3) argsN)) [3]
noncomputable def L__law_told_1 : DEnv → Rs Out := (fgtD [2] (iteD (tst (bop dNe (biD dLen (argsC (bop dIx (rdv false 2) (kst (.int 0))) argsN)) (biD dLen (argsC (bop dIx (bop dIx (rdv false 1) (kst (.int 0))) (kst (.int 0))) argsN))))
  (retD (kst .non))
  (fun ε => .ok (.nx ε))))
noncomputable def F__law_told : List Dat → Rs Dat := runF 4 (seqD (iteD (notT (tst (isiD "str" (rdv false 0))))
  (retD (kst .non))
  (fun ε => .ok (.nx ε)))
  (seqD (iteD (tst (bop dEq (rdv false 0) (kst (.str ""))))
  (retD (lstD (dspD argsN)))
  (fun ε => .ok (.nx ε)))
  (seqD (setD 1 (lstD C__law_told_1))
  (seqD (iteD (orT (tst (bop dIn (kst .non) (rdv false 1))) (tst (bop dGt (biD dLen (argsC (rdv false 1) argsN)) (kst (.int 60)))))
  (retD (kst .non))
  (fun ε => .ok (.nx ε)))
  (seqD (loopD (walkA (rdv true 1)) (trn (gN 2) L__law_told_1))
  (retD (rdv true 1)))))))
theorem ok__law_told {P : Program} {w : World} {K : PySem.W.Frag} {mg : Str → Option Value} {base : Heap} {f : Addr} {fd : FuncData} (Fn : Fun K "_law_told" "_law_told" s__law_told f fd) (mf : mg "_law_told" = some (.ref f)) (bf : Binds K fd ["_law_text_here"] []) (B : Bt mg) (V : Xs K mg) (C : Cs K mg) (G__law_fact_told : DefOk P w K mg base "_law_fact_told" 1 2 F__law_fact_told) : DefOk P w K mg base "_law_told" 1 3 F__law_told :=
  def_ok (ps := ["_law_text_here"]) false Fn mf bf sc__law_told fun cdv A outer s H E hr L hL => 
  (ds_cons (ds_if (dt_not (dt_val (de_isi (T := "str") B.b_isinstance B.b_str (by decide +kernel) (dv 0))))
  (ds_one (ds_ret hL de_non))
  ds_nil)
  (ds_cons (ds_if (dt_eq hr.units (dv 0) de_str)
  (ds_one (ds_ret hL (DF.de (df_lst da_nil))))
  ds_nil)
  (ds_cons (ds_setLc 1 rfl sc__law_told.nd (di_list (DF.de (df_split (dv 0) de_str))) (blkOk_by (N := nm__law_told) (sc := defScope s__law_told) (own := [("_law_piece", 3)]) (by decide +kernel)) (fun _ _ _ _ _ _ h1 => (dg_name 3 sc__law_told.nd (by decide))) (fun _ _ _ _ _ _ h1 => dts_nil) (fun _ _ _ _ _ _ h1 => (dcall (h1.trans hL) G__law_fact_told hr (by decide) takes0 (da_cons (dv 3) da_nil)))).1
  (ds_cons (ds_if (DW.t (dw_or (dt_in hr de_non (dv 1)) (dw_or1 (dt_gt (de_len B.b_len (da_cons (dv 1) da_nil)) de_int))))
  (ds_one (ds_ret hL de_non))
  ds_nil)
  (ds_cons (ds_for rfl (passes_of rfl) (di_any (dv 1)) (dg_name 2 sc__law_told.nd trivial)
  (ds_fgt [2] (ds_one (ds_if (dt_ne hr.units (de_len B.b_len (da_cons (de_ix (dv 2) de_int) da_nil)) (de_len B.b_len (da_cons (de_ix (de_ix (dv 1) de_int) de_int) da_nil)))
  (ds_one (ds_ret hL de_non))
  ds_nil))))
  (ds_one (ds_ret hL (dv 1))))))))
/-! ### _law_is_facts -/
abbrev s__law_is_facts : Stmt := topS 32
abbrev nm__law_is_facts : List Str := ["_law_found", "_law_due", "_law_fact", "_law_number_here"]
theorem sc__law_is_facts : FnScope ["_law_found", "_law_due", "_law_fact", "_law_number_here"] ["_law_found", "_law_due"] (defScope s__law_is_facts) := ⟨rfl, rfl, rfl, by decide +kernel, rfl, by decide +kernel, by decide +kernel⟩
noncomputable def L__law_is_facts_1 : DEnv → Rs Out := (fgtD [3] (iteD (andT (tst (bop dNotN (rdv false 3) (kst .non))) (notT (tst (callD 1 F__law_whole (argsC (rdv true 3) argsN)))))
  (retD (kst (.bl false)))
  (fun ε => .ok (.nx ε))))
noncomputable def L__law_is_facts_2 : DEnv → Rs Out := (fgtD [2, 3] (seqD (iteD (orT (notT (tst (isiD "tuple" (rdv false 2)))) (notT (tst (isiD "tuple" (bop dIx (rdv false 2) (kst (.int 0)))))))
  (retD (kst (.bl false)))
  (fun ε => .ok (.nx ε)))
  (loopD (walkA (bop dAdd (bop dIx (rdv false 2) (kst (.int 0))) (slD (rdv false 2) (smO (kst (.int 1))) noO))) (trn (gN 3) L__law_is_facts_1))))
noncomputable def F__law_is_facts : List Dat → Rs Dat := runF 4 (seqD (iteD (orT (notT (tst (isiD "list" (rdv false 0)))) (tst (bop dNe (rdv false 0) (rdv false 1))))
  (retD (kst (.bl false)))
  (fun ε => .ok (.nx ε)))
  (seqD (loopD (walkA (rdv true 0)) (trn (gN 2) L__law_is_facts_2))
  (retD (kst (.bl true)))))
theorem ok__law_is_facts {P : Program} {w : World} {K : PySem.W.Frag} {mg : Str → Option Value} {base : Heap} {f : Addr} {fd : FuncData} (Fn : Fun K "_law_is_facts" "_law_is_facts" s__law_is_facts f fd) (mf : mg "_law_is_facts" = some (.ref f)) (bf : Binds K fd ["_law_found", "_law_due"] []) (B : Bt mg) (V : Xs K mg) (C : Cs K mg) (G__law_whole : DefOk P w K mg base "_law_whole" 1 1 F__law_whole) : DefOk P w K mg base "_law_is_facts" 2 2 F__law_is_facts :=
  def_ok (ps := ["_law_found", "_law_due"]) false Fn mf bf sc__law_is_facts fun cdv A outer s H E hr L hL => 
  (ds_cons (ds_if (DW.t (dw_or (dt_not (dt_val (de_isi (T := "list") B.b_isinstance B.b_list (by decide +kernel) (dv 0)))) (dw_or1 (dt_ne hr.units (dv 0) (dv 1)))))
  (ds_one (ds_ret hL de_bl))
  ds_nil)
  (ds_cons (ds_for rfl (passes_of rfl) (di_any (dv 0)) (dg_name 2 sc__law_is_facts.nd trivial)
  (ds_fgt [2, 3] (ds_cons (ds_if (DW.t (dw_or (dt_not (dt_val (de_isi (T := "tuple") B.b_isinstance B.b_tuple (by decide +kernel) (dv 2)))) (dw_or1 (dt_not (dt_val (de_isi (T := "tuple") B.b_isinstance B.b_tuple (by decide +kernel) (de_ix (dv 2) de_int)))))))
  (ds_one (ds_ret hL de_bl))
  ds_nil)
  (ds_one (ds_for rfl (passes_of rfl) (di_any (de_add (de_ix (dv 2) de_int) (de_slice (dv 2) (do_some de_int) do_none))) (dg_name 3 sc__law_is_facts.nd trivial)
  (ds_fgt [3] (ds_one (ds_if (DW.t (dw_and (dt_notN (dv 3) de_non) (dw_and1 (dt_not (dt_val (dcall hL G__law_whole hr (by decide) (takes_of rfl rfl rfl rfl) (da_cons (dv 3) da_nil)))))))
  (ds_one (ds_ret hL de_bl))
  ds_nil))))))))
  (ds_one (ds_ret hL de_bl))))
/-! ### _law_right -/
abbrev s__law_right : Stmt := topS 33
abbrev nm__law_right : List Str := ["_law_text_here", "_law_due", "_law_error", "_law_found", "e"]
theorem sc__law_right : FnScope ["_law_text_here", "_law_due", "_law_error", "_law_found", "e"] ["_law_text_here"] (defScope s__law_right) := ⟨rfl, rfl, rfl, by decide +kernel, rfl, by decide +kernel, by decide +kernel⟩
noncomputable def F__law_right : List Dat → Rs Dat := runF 5 (seqD (setD 1 (callD 1 F__law_told (argsC (rdv true 0) argsN)))
  (seqD (setD 2 (kst .non))
  (seqD (setD 3 (kst .non))
  (seqD (tryD (some 3) 2 4 ["NoText"] (callD 1 F_read_facts (argsC (rdv true 0) argsN)))
  (seqD (iteD (tst (bop dNotN (rdv false 1) (kst .non)))
  (retD (andV (bop dIsN (rdv false 2) (kst .non)) (callD 2 F__law_is_facts (argsC (rdv true 3) (argsC (rdv true 1) argsN)))))
  (fun ε => .ok (.nx ε)))
  (seqD (iteD (tst (isxD [("NoText", false)] (rdv false 2)))
  (retD (kst (.bl false)))
  (fun ε => .ok (.nx ε)))
  (retD (andV (isxD [("NoText", true)] (rdv false 2)) (isxD [("NoText", true)] (rdv false 2))))))))))
theorem ok__law_right {P : Program} {w : World} {K : PySem.W.Frag} {mg : Str → Option Value} {base : Heap} {f : Addr} {fd : FuncData} (Fn : Fun K "_law_right" "_law_right" s__law_right f fd) (mf : mg "_law_right" = some (.ref f)) (bf : Binds K fd ["_law_text_here"] []) (B : Bt mg) (V : Xs K mg) (C : Cs K mg) (G__law_told : DefOk P w K mg base "_law_told" 1 3 F__law_told) (G_read_facts : DefOk P w K mg base "read_facts" 1 4 F_read_facts) (G__law_is_facts : DefOk P w K mg base "_law_is_facts" 2 2 F__law_is_facts) : DefOk P w K mg base "_law_right" 1 5 F__law_right :=
  def_ok (ps := ["_law_text_here"]) false Fn mf bf sc__law_right fun cdv A outer s H E hr L hL => 
  (ds_cons (ds_set 1 sc__law_right.nd (dcall hL G__law_told hr (by decide) (takes_of rfl rfl rfl rfl) (da_cons (dv 0) da_nil)))
  (ds_cons (ds_set 2 sc__law_right.nd de_non)
  (ds_cons (ds_set 3 sc__law_right.nd de_non)
  (ds_cons (ds_tryA1 V.c_WhenError sc__law_right.nd 3 2 4 (takes_of rfl rfl rfl rfl) (fun _ _ _ tkV => (dcall hL G_read_facts hr (by decide) tkV (da_cons (dv 0) da_nil))))
  (ds_cons (ds_if (dt_notN (dv 1) de_non)
  (ds_one (ds_ret hL (de_and (de_isN (dv 2) de_non) (de_one (dcall hL G__law_is_facts hr (by decide) (takes_of rfl rfl rfl rfl) (da_cons (dv 3) (da_cons (dv 1) da_nil)))))))
  ds_nil)
  (ds_cons (ds_if (dt_val (de_isxT1 B.b_isinstance V.t_0 (nm_cons (nm_cons (nm_cons (nm_cons (nm_cons (nm_cons nm_nil)))))) (dv 2)))
  (ds_one (ds_ret hL de_bl))
  ds_nil)
  (ds_one (ds_ret hL (de_and (de_isx1 B.b_isinstance V.i_NoText (dv 2)) (de_one (de_isx2 B.b_isinstance V.i_ValueError (by decide +kernel) (dv 2))))))))))))
/-! ### law -/
abbrev s_law : Stmt := topS 34
abbrev nm_law : List Str := ["_law_script", "_law_cells", "_law_at", "_law_text_here"]
theorem sc_law : FnScope ["_law_script", "_law_cells", "_law_at", "_law_text_here"] ["_law_script"] (defScope s_law) := ⟨rfl, rfl, rfl, by decide +kernel, rfl, by decide +kernel, by decide +kernel⟩
noncomputable def L_law_1 : DEnv → Rs Out := (fgtD [2, 3] (seqD (setD 3 (callD 2 F__law_text (argsC (rdv true 1) (argsC (rdv true 2) argsN))))
  (iteD (orT (notT (tst (callD 1 F__law_right (argsC (rdv true 3) argsN)))) (notT (tst (callD 1 F__law_right (argsC (callD 2 F__law_spoiled (argsC (rdv true 3) (argsC (bop dIx (rdv false 1) (rdv false 2)) argsN))) argsN)))))
  (retD (kst (.bl false)))
  (fun ε => .ok (.nx ε)))))
noncomputable def F_law : List Dat → Rs Dat := runF 4 (seqD (setD 1 (bop dAdd (slD (rdv false 0) noO (smO (kst (.int 63)))) (lstD (dspD (argsC (kst (.int 0)) argsN)))))
  (seqD (loopD (rngD asR1 (argsC (biD dLen (argsC (rdv false 1) argsN)) argsN)) (trn (gN 2) L_law_1))
  (retD (kst (.bl true)))))
theorem ok_law {P : Program} {w : World} {K : PySem.W.Frag} {mg : Str → Option Value} {base : Heap} {f : Addr} {fd : FuncData} (Fn : Fun K "law" "law" s_law f fd) (mf : mg "law" = some (.ref f)) (bf : Binds K fd ["_law_script"] []) (B : Bt mg) (V : Xs K mg) (C : Cs K mg) (G__law_text : DefOk P w K mg base "_law_text" 2 4 F__law_text) (G__law_right : DefOk P w K mg base "_law_right" 1 5 F__law_right) (G__law_spoiled : DefOk P w K mg base "_law_spoiled" 2 3 F__law_spoiled) : FnOk P w K mg base (L2.CX P w) 6 f fd ["_law_script"] (spD K mg 1 F_law) :=
  fn_okD (ps := ["_law_script"]) false Fn sc_law fun cdv A outer s H E hr L hL => 
  (ds_cons (ds_set 1 sc_law.nd (de_add (de_slice (dv 0) do_none (do_some de_int)) (DF.de (df_lst (da_cons de_int da_nil)))))
  (ds_cons (ds_for rfl (passes_of rfl) (di_range1 B.b_range (da_cons (de_len B.b_len (da_cons (dv 1) da_nil)) da_nil)) (dg_name 2 sc_law.nd trivial)
  (ds_fgt [2, 3] (ds_cons (ds_set 3 sc_law.nd (dcall hL G__law_text hr (by decide) (takes_of rfl rfl rfl rfl) (da_cons (dv 1) (da_cons (dv 2) da_nil))))
  (ds_one (ds_if (DW.t (dw_or (dt_not (dt_val (dcall hL G__law_right hr (by decide) (takes_of rfl rfl rfl rfl) (da_cons (dv 3) da_nil)))) (dw_or1 (dt_not (dt_val (dcall hL G__law_right hr (by decide) (takes_of rfl rfl rfl rfl) (da_cons (dcall hL G__law_spoiled hr (by decide) (takes_of rfl rfl rfl rfl) (da_cons (dv 3) (da_cons (de_ix (dv 1) (dv 2)) da_nil))) da_nil)))))))
  (ds_one (ds_ret hL de_bl))
  ds_nil)))))
  (ds_one (ds_ret hL de_bl))))
theorem all_mk {l : PySem.W.OpenLaw} {w : World} {K : PySem.W.Frag} {h : Heap} {mg : Str → Option Value} {fa : Addr} (X : K.In h) (G : h.Ns mainGlobals mg) (hfa : mg "law" = some (.ref fa))
    {f_is_stretch f_read_number f_read_bound f_read_fact f_read_facts f__law_whole f__law_mix f__law_number f__law_bounds f__law_word f__law_text f__law_odd f__law_spoiled f__law_number_told f__law_fact_told f__law_told f__law_is_facts f__law_right f_law : Addr} {od_is_stretch an_is_stretch od_read_number an_read_number od_read_bound an_read_bound od_read_fact an_read_fact od_read_facts an_read_facts od__law_whole an__law_whole od__law_mix an__law_mix od__law_number an__law_number od__law_bounds an__law_bounds od__law_word an__law_word od__law_text an__law_text od__law_odd an__law_odd od__law_spoiled an__law_spoiled od__law_number_told an__law_number_told od__law_fact_told an__law_fact_told od__law_told an__law_told od__law_is_facts an__law_is_facts od__law_right an__law_right od_law an_law : Option Addr} {sl_is_stretch sl_read_number sl_read_bound sl_read_fact sl_read_facts sl__law_whole sl__law_mix sl__law_number sl__law_bounds sl__law_word sl__law_text sl__law_odd sl__law_spoiled sl__law_number_told sl__law_fact_told sl__law_told sl__law_is_facts sl__law_right sl_law : Array (Option Value)} {oc_is_stretch kV_is_stretch dc_is_stretch pm_is_stretch cd_is_stretch ct_is_stretch oc_read_number kV_read_number dc_read_number pm_read_number cd_read_number ct_read_number oc_read_bound kV_read_bound dc_read_bound pm_read_bound cd_read_bound ct_read_bound oc_read_fact kV_read_fact dc_read_fact pm_read_fact cd_read_fact ct_read_fact oc_read_facts kV_read_facts dc_read_facts pm_read_facts cd_read_facts ct_read_facts oc__law_whole kV__law_whole dc__law_whole pm__law_whole cd__law_whole ct__law_whole oc__law_mix kV__law_mix dc__law_mix pm__law_mix cd__law_mix ct__law_mix oc__law_number kV__law_number dc__law_number pm__law_number cd__law_number ct__law_number oc__law_bounds kV__law_bounds dc__law_bounds pm__law_bounds cd__law_bounds ct__law_bounds oc__law_word kV__law_word dc__law_word pm__law_word cd__law_word ct__law_word oc__law_text kV__law_text dc__law_text pm__law_text cd__law_text ct__law_text oc__law_odd kV__law_odd dc__law_odd pm__law_odd cd__law_odd ct__law_odd oc__law_spoiled kV__law_spoiled dc__law_spoiled pm__law_spoiled cd__law_spoiled ct__law_spoiled oc__law_number_told kV__law_number_told dc__law_number_told pm__law_number_told cd__law_number_told ct__law_number_told oc__law_fact_told kV__law_fact_told dc__law_fact_told pm__law_fact_told cd__law_fact_told ct__law_fact_told oc__law_told kV__law_told dc__law_told pm__law_told cd__law_told ct__law_told oc__law_is_facts kV__law_is_facts dc__law_is_facts pm__law_is_facts cd__law_is_facts ct__law_is_facts oc__law_right kV__law_right dc__law_right pm__law_right cd__law_right ct__law_right oc_law kV_law dc_law pm_law cd_law ct_law : Value}
    (a_is_stretch : PySem.W.nsIn K mainGlobals "is_stretch" = some (some (.ref f_is_stretch))) (l_is_stretch : K.lookup f_is_stretch = some ⟨oc_is_stretch, od_is_stretch, .func (PySem.W.fnOf "is_stretch" "is_stretch" (defArgs s_is_stretch) (defBody s_is_stretch) (defScope s_is_stretch) .none kV_is_stretch dc_is_stretch pm_is_stretch an_is_stretch cd_is_stretch ct_is_stretch), sl_is_stretch⟩) (c_is_stretch : PySem.W.codeIn K cd_is_stretch "is_stretch" = true) (k_is_stretch : PySem.W.keepIn K (.ref f_is_stretch) = true)
    (a_read_number : PySem.W.nsIn K mainGlobals "read_number" = some (some (.ref f_read_number))) (l_read_number : K.lookup f_read_number = some ⟨oc_read_number, od_read_number, .func (PySem.W.fnOf "read_number" "read_number" (defArgs s_read_number) (defBody s_read_number) (defScope s_read_number) .none kV_read_number dc_read_number pm_read_number an_read_number cd_read_number ct_read_number), sl_read_number⟩) (c_read_number : PySem.W.codeIn K cd_read_number "read_number" = true) (k_read_number : PySem.W.keepIn K (.ref f_read_number) = true)
    (a_read_bound : PySem.W.nsIn K mainGlobals "read_bound" = some (some (.ref f_read_bound))) (l_read_bound : K.lookup f_read_bound = some ⟨oc_read_bound, od_read_bound, .func (PySem.W.fnOf "read_bound" "read_bound" (defArgs s_read_bound) (defBody s_read_bound) (defScope s_read_bound) .none kV_read_bound dc_read_bound pm_read_bound an_read_bound cd_read_bound ct_read_bound), sl_read_bound⟩) (c_read_bound : PySem.W.codeIn K cd_read_bound "read_bound" = true) (k_read_bound : PySem.W.keepIn K (.ref f_read_bound) = true)
    (a_read_fact : PySem.W.nsIn K mainGlobals "read_fact" = some (some (.ref f_read_fact))) (l_read_fact : K.lookup f_read_fact = some ⟨oc_read_fact, od_read_fact, .func (PySem.W.fnOf "read_fact" "read_fact" (defArgs s_read_fact) (defBody s_read_fact) (defScope s_read_fact) .none kV_read_fact dc_read_fact pm_read_fact an_read_fact cd_read_fact ct_read_fact), sl_read_fact⟩) (c_read_fact : PySem.W.codeIn K cd_read_fact "read_fact" = true) (k_read_fact : PySem.W.keepIn K (.ref f_read_fact) = true)
    (a_read_facts : PySem.W.nsIn K mainGlobals "read_facts" = some (some (.ref f_read_facts))) (l_read_facts : K.lookup f_read_facts = some ⟨oc_read_facts, od_read_facts, .func (PySem.W.fnOf "read_facts" "read_facts" (defArgs s_read_facts) (defBody s_read_facts) (defScope s_read_facts) .none kV_read_facts dc_read_facts pm_read_facts an_read_facts cd_read_facts ct_read_facts), sl_read_facts⟩) (c_read_facts : PySem.W.codeIn K cd_read_facts "read_facts" = true) (k_read_facts : PySem.W.keepIn K (.ref f_read_facts) = true)
    (a__law_whole : PySem.W.nsIn K mainGlobals "_law_whole" = some (some (.ref f__law_whole))) (l__law_whole : K.lookup f__law_whole = some ⟨oc__law_whole, od__law_whole, .func (PySem.W.fnOf "_law_whole" "_law_whole" (defArgs s__law_whole) (defBody s__law_whole) (defScope s__law_whole) .none kV__law_whole dc__law_whole pm__law_whole an__law_whole cd__law_whole ct__law_whole), sl__law_whole⟩) (c__law_whole : PySem.W.codeIn K cd__law_whole "_law_whole" = true) (k__law_whole : PySem.W.keepIn K (.ref f__law_whole) = true)
    (a__law_mix : PySem.W.nsIn K mainGlobals "_law_mix" = some (some (.ref f__law_mix))) (l__law_mix : K.lookup f__law_mix = some ⟨oc__law_mix, od__law_mix, .func (PySem.W.fnOf "_law_mix" "_law_mix" (defArgs s__law_mix) (defBody s__law_mix) (defScope s__law_mix) .none kV__law_mix dc__law_mix pm__law_mix an__law_mix cd__law_mix ct__law_mix), sl__law_mix⟩) (c__law_mix : PySem.W.codeIn K cd__law_mix "_law_mix" = true) (k__law_mix : PySem.W.keepIn K (.ref f__law_mix) = true)
    (a__law_number : PySem.W.nsIn K mainGlobals "_law_number" = some (some (.ref f__law_number))) (l__law_number : K.lookup f__law_number = some ⟨oc__law_number, od__law_number, .func (PySem.W.fnOf "_law_number" "_law_number" (defArgs s__law_number) (defBody s__law_number) (defScope s__law_number) .none kV__law_number dc__law_number pm__law_number an__law_number cd__law_number ct__law_number), sl__law_number⟩) (c__law_number : PySem.W.codeIn K cd__law_number "_law_number" = true) (k__law_number : PySem.W.keepIn K (.ref f__law_number) = true)
    (a__law_bounds : PySem.W.nsIn K mainGlobals "_law_bounds" = some (some (.ref f__law_bounds))) (l__law_bounds : K.lookup f__law_bounds = some ⟨oc__law_bounds, od__law_bounds, .func (PySem.W.fnOf "_law_bounds" "_law_bounds" (defArgs s__law_bounds) (defBody s__law_bounds) (defScope s__law_bounds) .none kV__law_bounds dc__law_bounds pm__law_bounds an__law_bounds cd__law_bounds ct__law_bounds), sl__law_bounds⟩) (c__law_bounds : PySem.W.codeIn K cd__law_bounds "_law_bounds" = true) (k__law_bounds : PySem.W.keepIn K (.ref f__law_bounds) = true)
    (a__law_word : PySem.W.nsIn K mainGlobals "_law_word" = some (some (.ref f__law_word))) (l__law_word : K.lookup f__law_word = some ⟨oc__law_word, od__law_word, .func (PySem.W.fnOf "_law_word" "_law_word" (defArgs s__law_word) (defBody s__law_word) (defScope s__law_word) .none kV__law_word dc__law_word pm__law_word an__law_word cd__law_word ct__law_word), sl__law_word⟩) (c__law_word : PySem.W.codeIn K cd__law_word "_law_word" = true) (k__law_word : PySem.W.keepIn K (.ref f__law_word) = true)
    (a__law_text : PySem.W.nsIn K mainGlobals "_law_text" = some (some (.ref f__law_text))) (l__law_text : K.lookup f__law_text = some ⟨oc__law_text, od__law_text, .func (PySem.W.fnOf "_law_text" "_law_text" (defArgs s__law_text) (defBody s__law_text) (defScope s__law_text) .none kV__law_text dc__law_text pm__law_text an__law_text cd__law_text ct__law_text), sl__law_text⟩) (c__law_text : PySem.W.codeIn K cd__law_text "_law_text" = true) (k__law_text : PySem.W.keepIn K (.ref f__law_text) = true)
    (a__law_odd : PySem.W.nsIn K mainGlobals "_law_odd" = some (some (.ref f__law_odd))) (l__law_odd : K.lookup f__law_odd = some ⟨oc__law_odd, od__law_odd, .func (PySem.W.fnOf "_law_odd" "_law_odd" (defArgs s__law_odd) (defBody s__law_odd) (defScope s__law_odd) .none kV__law_odd dc__law_odd pm__law_odd an__law_odd cd__law_odd ct__law_odd), sl__law_odd⟩) (c__law_odd : PySem.W.codeIn K cd__law_odd "_law_odd" = true) (k__law_odd : PySem.W.keepIn K (.ref f__law_odd) = true)
    (a__law_spoiled : PySem.W.nsIn K mainGlobals "_law_spoiled" = some (some (.ref f__law_spoiled))) (l__law_spoiled : K.lookup f__law_spoiled = some ⟨oc__law_spoiled, od__law_spoiled, .func (PySem.W.fnOf "_law_spoiled" "_law_spoiled" (defArgs s__law_spoiled) (defBody s__law_spoiled) (defScope s__law_spoiled) .none kV__law_spoiled dc__law_spoiled pm__law_spoiled an__law_spoiled cd__law_spoiled ct__law_spoiled), sl__law_spoiled⟩) (c__law_spoiled : PySem.W.codeIn K cd__law_spoiled "_law_spoiled" = true) (k__law_spoiled : PySem.W.keepIn K (.ref f__law_spoiled) = true)
    (a__law_number_told : PySem.W.nsIn K mainGlobals "_law_number_told" = some (some (.ref f__law_number_told))) (l__law_number_told : K.lookup f__law_number_told = some ⟨oc__law_number_told, od__law_number_told, .func (PySem.W.fnOf "_law_number_told" "_law_number_told" (defArgs s__law_number_told) (defBody s__law_number_told) (defScope s__law_number_told) .none kV__law_number_told dc__law_number_told pm__law_number_told an__law_number_told cd__law_number_told ct__law_number_told), sl__law_number_told⟩) (c__law_number_told : PySem.W.codeIn K cd__law_number_told "_law_number_told" = true) (k__law_number_told : PySem.W.keepIn K (.ref f__law_number_told) = true)
    (a__law_fact_told : PySem.W.nsIn K mainGlobals "_law_fact_told" = some (some (.ref f__law_fact_told))) (l__law_fact_told : K.lookup f__law_fact_told = some ⟨oc__law_fact_told, od__law_fact_told, .func (PySem.W.fnOf "_law_fact_told" "_law_fact_told" (defArgs s__law_fact_told) (defBody s__law_fact_told) (defScope s__law_fact_told) .none kV__law_fact_told dc__law_fact_told pm__law_fact_told an__law_fact_told cd__law_fact_told ct__law_fact_told), sl__law_fact_told⟩) (c__law_fact_told : PySem.W.codeIn K cd__law_fact_told "_law_fact_told" = true) (k__law_fact_told : PySem.W.keepIn K (.ref f__law_fact_told) = true)
    (a__law_told : PySem.W.nsIn K mainGlobals "_law_told" = some (some (.ref f__law_told))) (l__law_told : K.lookup f__law_told = some ⟨oc__law_told, od__law_told, .func (PySem.W.fnOf "_law_told" "_law_told" (defArgs s__law_told) (defBody s__law_told) (defScope s__law_told) .none kV__law_told dc__law_told pm__law_told an__law_told cd__law_told ct__law_told), sl__law_told⟩) (c__law_told : PySem.W.codeIn K cd__law_told "_law_told" = true) (k__law_told : PySem.W.keepIn K (.ref f__law_told) = true)
    (a__law_is_facts : PySem.W.nsIn K mainGlobals "_law_is_facts" = some (some (.ref f__law_is_facts))) (l__law_is_facts : K.lookup f__law_is_facts = some ⟨oc__law_is_facts, od__law_is_facts, .func (PySem.W.fnOf "_law_is_facts" "_law_is_facts" (defArgs s__law_is_facts) (defBody s__law_is_facts) (defScope s__law_is_facts) .none kV__law_is_facts dc__law_is_facts pm__law_is_facts an__law_is_facts cd__law_is_facts ct__law_is_facts), sl__law_is_facts⟩) (c__law_is_facts : PySem.W.codeIn K cd__law_is_facts "_law_is_facts" = true) (k__law_is_facts : PySem.W.keepIn K (.ref f__law_is_facts) = true)
    (a__law_right : PySem.W.nsIn K mainGlobals "_law_right" = some (some (.ref f__law_right))) (l__law_right : K.lookup f__law_right = some ⟨oc__law_right, od__law_right, .func (PySem.W.fnOf "_law_right" "_law_right" (defArgs s__law_right) (defBody s__law_right) (defScope s__law_right) .none kV__law_right dc__law_right pm__law_right an__law_right cd__law_right ct__law_right), sl__law_right⟩) (c__law_right : PySem.W.codeIn K cd__law_right "_law_right" = true) (k__law_right : PySem.W.keepIn K (.ref f__law_right) = true)
    (a_law : PySem.W.nsIn K mainGlobals "law" = some (some (.ref f_law))) (l_law : K.lookup f_law = some ⟨oc_law, od_law, .func (PySem.W.fnOf "law" "law" (defArgs s_law) (defBody s_law) (defScope s_law) .none kV_law dc_law pm_law an_law cd_law ct_law), sl_law⟩) (c_law : PySem.W.codeIn K cd_law "law" = true) (k_law : PySem.W.keepIn K (.ref f_law) = true)
    (z_ValueError : PySem.W.nsIn K mainGlobals "ValueError" = some none) (z_bool : PySem.W.nsIn K mainGlobals "bool" = some none) (z_int : PySem.W.nsIn K mainGlobals "int" = some none) (z_isinstance : PySem.W.nsIn K mainGlobals "isinstance" = some none) (z_len : PySem.W.nsIn K mainGlobals "len" = some none) (z_list : PySem.W.nsIn K mainGlobals "list" = some none) (z_min : PySem.W.nsIn K mainGlobals "min" = some none) (z_range : PySem.W.nsIn K mainGlobals "range" = some none) (z_str : PySem.W.nsIn K mainGlobals "str" = some none) (z_tuple : PySem.W.nsIn K mainGlobals "tuple" = some none)
    {tk_FIGURES : Tok} (an_g_FIGURES : PySem.W.nsIn K mainGlobals "FIGURES" = some (some (.str "0123456789" tk_FIGURES)))
    {tk_LONGEST : Tok} (an_g_LONGEST : PySem.W.nsIn K mainGlobals "LONGEST" = some (some (.int 60 tk_LONGEST)))
    {tk_WIDEST : Tok} (an_g_WIDEST : PySem.W.nsIn K mainGlobals "WIDEST" = some (some (.int 5 tk_WIDEST)))
    {tk_MOST : Tok} (an_g_MOST : PySem.W.nsIn K mainGlobals "MOST" = some (some (.int 60 tk_MOST)))
    {e_NoText e_WhenError e_NoStretch e_NoWidth e_NoTable e_NoColumn e_NoName e_NoRow : Addr}
    (an_x_NoText : PySem.W.nsIn K mainGlobals "NoText" = some (some (.ref e_NoText)))
    (an_x_WhenError : PySem.W.nsIn K mainGlobals "WhenError" = some (some (.ref e_WhenError)))
    (an_x_NoStretch : PySem.W.nsIn K mainGlobals "NoStretch" = some (some (.ref e_NoStretch)))
    (an_x_NoWidth : PySem.W.nsIn K mainGlobals "NoWidth" = some (some (.ref e_NoWidth)))
    (an_x_NoTable : PySem.W.nsIn K mainGlobals "NoTable" = some (some (.ref e_NoTable)))
    (an_x_NoColumn : PySem.W.nsIn K mainGlobals "NoColumn" = some (some (.ref e_NoColumn)))
    (an_x_NoName : PySem.W.nsIn K mainGlobals "NoName" = some (some (.ref e_NoName)))
    (an_x_NoRow : PySem.W.nsIn K mainGlobals "NoRow" = some (some (.ref e_NoRow)))
    (xf_NoText : XF K e_NoText)
    (xm_NoText_WhenError : PySem.W.exmOne K (.ref e_NoText) (.ref e_WhenError) = some true)
    (xi_NoText_NoText : PySem.W.kitOne K (.ref e_NoText) (.ref e_NoText) = some true)
    (xi_NoText_ValueError : PySem.W.kitOne K (.ref e_NoText) (.type "ValueError") = some true)
    (xt_NoText_0 : PySem.W.kitAny K (.ref e_NoText) [.ref e_NoStretch, .ref e_NoWidth, .ref e_NoTable, .ref e_NoColumn, .ref e_NoName, .ref e_NoRow] = some false)
    (hF : ∀ ns : List Int, ns.length ≤ 63 → F_law [.scr ns] = .ok (.bl true)) :
    ∃ fd : FuncData, (∀ (s : Shared) (v : Value), BindsTo s fd ⟨[v], []⟩ [("_law_script", v)]) ∧ ∀ base : Heap, K.In base → base.Ns mainGlobals mg → FnOk l.prog w K mg base (L2.CX l.prog w) 6 fa fd ["_law_script"] (spLaw K) := by
  have e := hfa.symm.trans (PySem.W.mg_of X G a_law)
  cases e
  have B : Bt mg := ⟨PySem.W.mg_none_of X G z_ValueError, PySem.W.mg_none_of X G z_bool, PySem.W.mg_none_of X G z_int, PySem.W.mg_none_of X G z_isinstance, PySem.W.mg_none_of X G z_len, PySem.W.mg_none_of X G z_list, PySem.W.mg_none_of X G z_min, PySem.W.mg_none_of X G z_range, PySem.W.mg_none_of X G z_str, PySem.W.mg_none_of X G z_tuple⟩
  have n_is_stretch := fun_mk (st := s_is_stretch) l_is_stretch c_is_stretch k_is_stretch
  have b_is_stretch := n_is_stretch.binds (ps := ["start", "end"]) fun _ _ _ _ _ _ us hl => match us, hl with | [_, _], _ => rfl
  have n_read_number := fun_mk (st := s_read_number) l_read_number c_read_number k_read_number
  have b_read_number := n_read_number.binds (ps := ["word"]) fun _ _ _ _ _ _ us hl => match us, hl with | [_], _ => rfl
  have n_read_bound := fun_mk (st := s_read_bound) l_read_bound c_read_bound k_read_bound
  have b_read_bound := n_read_bound.binds (ps := ["word"]) fun _ _ _ _ _ _ us hl => match us, hl with | [_], _ => rfl
  have n_read_fact := fun_mk (st := s_read_fact) l_read_fact c_read_fact k_read_fact
  have b_read_fact := n_read_fact.binds (ps := ["text"]) fun _ _ _ _ _ _ us hl => match us, hl with | [_], _ => rfl
  have n_read_facts := fun_mk (st := s_read_facts) l_read_facts c_read_facts k_read_facts
  have b_read_facts := n_read_facts.binds (ps := ["text"]) fun _ _ _ _ _ _ us hl => match us, hl with | [_], _ => rfl
  have n__law_whole := fun_mk (st := s__law_whole) l__law_whole c__law_whole k__law_whole
  have b__law_whole := n__law_whole.binds (ps := ["_law_found"]) fun _ _ _ _ _ _ us hl => match us, hl with | [_], _ => rfl
  have n__law_mix := fun_mk (st := s__law_mix) l__law_mix c__law_mix k__law_mix
  have b__law_mix := n__law_mix.binds (ps := ["_law_cell", "_law_j"]) fun _ _ _ _ _ _ us hl => match us, hl with | [_, _], _ => rfl
  have n__law_number := fun_mk (st := s__law_number) l__law_number c__law_number k__law_number
  have b__law_number := n__law_number.binds (ps := ["_law_cell", "_law_j"]) fun _ _ _ _ _ _ us hl => match us, hl with | [_, _], _ => rfl
  have n__law_bounds := fun_mk (st := s__law_bounds) l__law_bounds c__law_bounds k__law_bounds
  have b__law_bounds := n__law_bounds.binds (ps := ["_law_cell"]) fun _ _ _ _ _ _ us hl => match us, hl with | [_], _ => rfl
  have n__law_word := fun_mk (st := s__law_word) l__law_word c__law_word k__law_word
  have b__law_word := n__law_word.binds (ps := ["_law_bound"]) fun _ _ _ _ _ _ us hl => match us, hl with | [_], _ => rfl
  have n__law_text := fun_mk (st := s__law_text) l__law_text c__law_text k__law_text
  have b__law_text := n__law_text.binds (ps := ["_law_cells", "_law_at"]) fun _ _ _ _ _ _ us hl => match us, hl with | [_, _], _ => rfl
  have n__law_odd := fun_mk (st := s__law_odd) l__law_odd c__law_odd k__law_odd
  have b__law_odd := n__law_odd.binds (ps := ["_law_cell"]) fun _ _ _ _ _ _ us hl => match us, hl with | [_], _ => rfl
  have n__law_spoiled := fun_mk (st := s__law_spoiled) l__law_spoiled c__law_spoiled k__law_spoiled
  have b__law_spoiled := n__law_spoiled.binds (ps := ["_law_text_here", "_law_cell"]) fun _ _ _ _ _ _ us hl => match us, hl with | [_, _], _ => rfl
  have n__law_number_told := fun_mk (st := s__law_number_told) l__law_number_told c__law_number_told k__law_number_told
  have b__law_number_told := n__law_number_told.binds (ps := ["_law_word_here"]) fun _ _ _ _ _ _ us hl => match us, hl with | [_], _ => rfl
  have n__law_fact_told := fun_mk (st := s__law_fact_told) l__law_fact_told c__law_fact_told k__law_fact_told
  have b__law_fact_told := n__law_fact_told.binds (ps := ["_law_text_here"]) fun _ _ _ _ _ _ us hl => match us, hl with | [_], _ => rfl
  have n__law_told := fun_mk (st := s__law_told) l__law_told c__law_told k__law_told
  have b__law_told := n__law_told.binds (ps := ["_law_text_here"]) fun _ _ _ _ _ _ us hl => match us, hl with | [_], _ => rfl
  have n__law_is_facts := fun_mk (st := s__law_is_facts) l__law_is_facts c__law_is_facts k__law_is_facts
  have b__law_is_facts := n__law_is_facts.binds (ps := ["_law_found", "_law_due"]) fun _ _ _ _ _ _ us hl => match us, hl with | [_, _], _ => rfl
  have n__law_right := fun_mk (st := s__law_right) l__law_right c__law_right k__law_right
  have b__law_right := n__law_right.binds (ps := ["_law_text_here"]) fun _ _ _ _ _ _ us hl => match us, hl with | [_], _ => rfl
  have n_law := fun_mk (st := s_law) l_law c_law k_law
  have b_law := n_law.binds (ps := ["_law_script"]) fun _ _ _ _ _ _ us hl => match us, hl with | [_], _ => rfl
  have C : Cs K mg := ⟨⟨_, PySem.W.mg_of X G an_g_FIGURES, ⟨_, rfl⟩⟩, ⟨_, PySem.W.mg_of X G an_g_LONGEST, ⟨_, rfl⟩⟩, ⟨_, PySem.W.mg_of X G an_g_WIDEST, ⟨_, rfl⟩⟩, ⟨_, PySem.W.mg_of X G an_g_MOST, ⟨_, rfl⟩⟩⟩
  have V : Xs K mg := ⟨rz_of (PySem.W.mg_of X G an_x_NoText) xf_NoText, ⟨_, (PySem.W.mg_of X G an_x_WhenError), (caught_cons (PySem.W.mg_of X G an_x_NoText) an_x_NoText xm_NoText_WhenError caught_nil)⟩, ⟨_, (PySem.W.mg_of X G an_x_NoText), (isa_cons an_x_NoText xf_NoText xi_NoText_NoText isa_nil)⟩, ⟨B.b_ValueError, (isa_cons an_x_NoText xf_NoText xi_NoText_ValueError isa_nil)⟩, ⟨_, (mgs_cons (PySem.W.mg_of X G an_x_NoStretch) (mgs_cons (PySem.W.mg_of X G an_x_NoWidth) (mgs_cons (PySem.W.mg_of X G an_x_NoTable) (mgs_cons (PySem.W.mg_of X G an_x_NoColumn) (mgs_cons (PySem.W.mg_of X G an_x_NoName) (mgs_cons (PySem.W.mg_of X G an_x_NoRow) mgs_nil)))))), (isat_cons an_x_NoText xf_NoText xt_NoText_0 isat_nil)⟩⟩
  refine ⟨PySem.W.fnOf "law" "law" (defArgs s_law) (defBody s_law) (defScope s_law) .none kV_law dc_law pm_law an_law cd_law ct_law, fun s v => .of_eq rfl, fun base _ _ => ?_⟩
  have G_is_stretch := ok_is_stretch (P := l.prog) (w := w) (base := base) n_is_stretch (PySem.W.mg_of X G a_is_stretch) b_is_stretch B V C
  have G_read_number := ok_read_number (P := l.prog) (w := w) (base := base) n_read_number (PySem.W.mg_of X G a_read_number) b_read_number B V C
  have G_read_bound := ok_read_bound (P := l.prog) (w := w) (base := base) n_read_bound (PySem.W.mg_of X G a_read_bound) b_read_bound B V C G_read_number
  have G_read_fact := ok_read_fact (P := l.prog) (w := w) (base := base) n_read_fact (PySem.W.mg_of X G a_read_fact) b_read_fact B V C G_read_bound G_is_stretch G_read_number
  have G_read_facts := ok_read_facts (P := l.prog) (w := w) (base := base) n_read_facts (PySem.W.mg_of X G a_read_facts) b_read_facts B V C G_read_fact
  have G__law_whole := ok__law_whole (P := l.prog) (w := w) (base := base) n__law_whole (PySem.W.mg_of X G a__law_whole) b__law_whole B V C
  have G__law_mix := ok__law_mix (P := l.prog) (w := w) (base := base) n__law_mix (PySem.W.mg_of X G a__law_mix) b__law_mix B V C
  have G__law_number := ok__law_number (P := l.prog) (w := w) (base := base) n__law_number (PySem.W.mg_of X G a__law_number) b__law_number B V C G__law_mix
  have G__law_bounds := ok__law_bounds (P := l.prog) (w := w) (base := base) n__law_bounds (PySem.W.mg_of X G a__law_bounds) b__law_bounds B V C G__law_number G__law_mix
  have G__law_word := ok__law_word (P := l.prog) (w := w) (base := base) n__law_word (PySem.W.mg_of X G a__law_word) b__law_word B V C
  have G__law_text := ok__law_text (P := l.prog) (w := w) (base := base) n__law_text (PySem.W.mg_of X G a__law_text) b__law_text B V C G__law_mix G__law_bounds G__law_number G__law_word
  have G__law_odd := ok__law_odd (P := l.prog) (w := w) (base := base) n__law_odd (PySem.W.mg_of X G a__law_odd) b__law_odd B V C G__law_mix
  have G__law_spoiled := ok__law_spoiled (P := l.prog) (w := w) (base := base) n__law_spoiled (PySem.W.mg_of X G a__law_spoiled) b__law_spoiled B V C G__law_mix G__law_odd
  have G__law_number_told := ok__law_number_told (P := l.prog) (w := w) (base := base) n__law_number_told (PySem.W.mg_of X G a__law_number_told) b__law_number_told B V C
  have G__law_fact_told := ok__law_fact_told (P := l.prog) (w := w) (base := base) n__law_fact_told (PySem.W.mg_of X G a__law_fact_told) b__law_fact_told B V C G__law_number_told
  have G__law_told := ok__law_told (P := l.prog) (w := w) (base := base) n__law_told (PySem.W.mg_of X G a__law_told) b__law_told B V C G__law_fact_told
  have G__law_is_facts := ok__law_is_facts (P := l.prog) (w := w) (base := base) n__law_is_facts (PySem.W.mg_of X G a__law_is_facts) b__law_is_facts B V C G__law_whole
  have G__law_right := ok__law_right (P := l.prog) (w := w) (base := base) n__law_right (PySem.W.mg_of X G a__law_right) b__law_right B V C G__law_told G_read_facts G__law_is_facts
  exact law_ok (ok_law (P := l.prog) (w := w) (base := base) n_law (PySem.W.mg_of X G a_law) b_law B V C G__law_text G__law_right G__law_spoiled) hF
end LW

set_option maxRecDepth 100000
set_option maxHeartbeats 4000000
/-! MSe: sheets as data. -/
namespace LW
open PySem PySem.Spec PyProof.Rows L2 DL SP
noncomputable section
abbrev Sh := List (Rw × List Sg)
def eP (t : Bool) (p : Rw × List Sg) : Dat := .tup [eRow p.1, .lst t (eL p.2)]
def eSh (t : Bool) (sh : Sh) : List Dat := sh.map (eP t)
@[simp] theorem old_eP (t : Bool) (p : Rw × List Sg) : old (eP t p) = eP false p := by simp [eP]
@[simp] theorem olds_eSh (t : Bool) (sh : Sh) : olds (eSh t sh) = eSh false sh := olds_map _ _ (old_eP t) sh
@[simp] theorem fresh_eP (p : Rw × List Sg) : fresh (eP true p) = true := by simp [eP]
@[simp] theorem freshs_eSh (sh : Sh) : freshs (eSh true sh) = true := by
  induction sh with
  | nil => rfl
  | cons p sh ih => show (fresh (eP true p) && freshs (eSh true sh)) = true; rw [fresh_eP, ih]; rfl
theorem eqe_row : EqE 1 eRow := EqE.int.tupl
theorem eqe_P (t : Bool) : EqE 3 (eP t) := eqe_row.pair (eqe_S.list t)
theorem freshs_rows : ∀ R : List Rw, freshs (R.map eRow) = true
  | [] => rfl
  | r :: R => by show (fresh (eRow r) && freshs (R.map eRow)) = true; rw [fresh_eRow, freshs_rows R]; rfl
theorem olds_rows (R : List Rw) : olds (R.map eRow) = R.map eRow := olds_map _ _ old_eRow R
end
end LW

set_option maxRecDepth 100000
set_option maxHeartbeats 4000000
/-! MPs: is_stretch. -/
namespace LW
open PySem PySem.Spec PyProof.Rows L2 DL SP
noncomputable section
theorem is_stretch_eq (a b : Bd) : F_is_stretch [eB a, eB b] = .ok (.bl (SP.isS a b)) := by
  unfold F_is_stretch
  cases a <;> cases b <;> simp [startD_eq, SP.isS]
end
end LW

set_option maxRecDepth 100000
set_option maxHeartbeats 4000000
/-! MLg: what the laws draw: numbers, grids, stretches, spans of pieces. -/
namespace LW
open PySem PySem.Spec PyProof.Rows L2 DL SP
noncomputable section
theorem rng_cons (lo : Int) (n : Nat) : rng lo (n + 1) = .int lo :: rng (lo + 1) n := by
  unfold rng
  rw [List.range_succ_eq_map]
  simp [Function.comp_def]
  intro i _
  omega
theorem mix_ok (c : Int) (j : Nat) (hj : j ≤ 1000) : ∃ z : Int, F__law_mix [.int c, .int j] = .ok (.int z) ∧ 0 ≤ z ∧ z < 2147483647 := by
  have h1 : dMod (.int c) (.int 2) = some (.int (c % 2)) := dMod_int (by decide)
  have h2 : dShr (.int c) (.int 27) = some (.int (c / 134217728)) := by simpa using dShr_int (x := c) (y := 27) (by decide)
  have h3 : dMul (.int 20) (.int (j : Int)) = some (.int (20 * (j : Int))) := dMul_l (by decide) (by decide)
  have h4 : dShr (.int c) (.int (1 + 20 * (j : Int))) = some (.int (c / 2 ^ (1 + 20 * (j : Int)).toNat)) := dShr_int (by omega)
  have h5 : ∀ x : Int, dMod (.int x) (.int 1048576) = some (.int (x % 1048576)) := fun x => dMod_int (by decide)
  have h6 : dMul (.int 2) (.int (j : Int)) = some (.int (2 * (j : Int))) := dMul_l (by decide) (by decide)
  have h7 : dMul (.int c) (.int (2 * (j : Int) + 3)) = some (.int (c * (2 * (j : Int) + 3))) := dMul_r (by omega) (by omega)
  have h8 : ∀ x : Int, dMod (.int x) (.int 2147483629) = some (.int (x % 2147483629)) := fun x => dMod_int (by decide)
  have h9 : ∀ x : Int, dMod (.int x) (.int 2147483587) = some (.int (x % 2147483587)) := fun x => dMod_int (by decide)
  have h10 : ∀ x : Int, dMul (.int x) (.int 48271) = some (.int (x * 48271)) := fun x => dMul_r (by decide) (by decide)
  unfold F__law_mix
  by_cases hc : c % 2 = 1 ∧ ¬ c / 134217728 = 0
  · refine ⟨c / 2 ^ (1 + 20 * (j : Int)).toNat % 1048576, ?_, by omega, by omega⟩
    simp [startD_eq, List.replicate, h1, h2, h3, h4, h5, hc.1, hc.2]
  · generalize hn : (c * (2 * (j : Int) + 3) + j) % 2147483629 = n1
    have hm : dMul (.int n1) (.int n1) = some (.int (n1 * n1)) := dMul_l (by omega) (by omega)
    generalize hn2 : (n1 * n1 + 1) * 48271 % 2147483629 = n2
    have hm2 : dMul (.int n2) (.int n2) = some (.int (n2 * n2)) := dMul_l (by omega) (by omega)
    refine ⟨n2 * n2 % 2147483587, ?_, by omega, by omega⟩
    by_cases hd : c % 2 = 1
    · have he : c / 134217728 = 0 := by
        by_cases he : c / 134217728 = 0
        · exact he
        · exact absurd ⟨hd, he⟩ hc
      simp [startD_eq, List.replicate, h1, h2, h6, h7, h8, h9, h10, hd, he, hn, hm, hn2, hm2]
    · simp [startD_eq, List.replicate, h1, h2, h6, h7, h8, h9, h10, hd, hn, hm, hn2, hm2]
def mixV (c : Int) (j : Nat) : Int := match F__law_mix [.int c, .int j] with
  | .ok (.int z) => z
  | _ => 0
theorem mix_eq (c : Int) (j : Nat) (hj : j ≤ 1000) : F__law_mix [.int c, .int j] = .ok (.int (mixV c j)) ∧ 0 ≤ mixV c j ∧ mixV c j < 2147483647 := by
  obtain ⟨z, h, h1, h2⟩ := mix_ok c j hj
  unfold mixV
  rw [h]
  exact ⟨rfl, h1, h2⟩
end
end LW

set_option maxRecDepth 100000
set_option maxHeartbeats 4000000
/-! MKr (k71, k72, k73, k81): read_number, read_bound: what they tell. -/
namespace LW
open PySem PySem.Spec PyProof.Rows L2 DL SP TX SX
noncomputable section
/-- the figures of a word -/
def figs (w : List Nat) : List Nat := if w.take 1 = [45] then w.drop 1 else w
def badN (w : List Nat) : Prop := ¬ (1 ≤ (figs w).length ∧ (figs w).length ≤ 60) ∨ ((figs w).head? = some 48 ∧ w ≠ [48])
noncomputable instance (w : List Nat) : Decidable (badN w) := Classical.propDecidable _
def digs (l : List Nat) : Bool := l.all fun c => decide (c ∈ figL)
def rdN (w : List Nat) : Option Int := if badN w then none else if digs (figs w) = true then some (if figs w = w then (NumText.digitsVal (figs w) : Int) else -(NumText.digitsVal (figs w) : Int)) else none
def exO (o : Option Dat) : Rs Dat := match o with
  | some d => .ok d
  | none => .ex "NoText"
theorem rn_loop (s0 s1 : Option (Bool × Dat)) : ∀ l : List Nat, forD (trn (gN 2) L_read_number_1) (l.map fun c => .str ⟨#[c]⟩) [s0, s1, none] = if digs l = true then .ok (.nx [s0, s1, none]) else .ex "NoText"
  | [] => rfl
  | c :: l => by
    have h := ninS_S c figL
    have ih := rn_loop s0 s1 l
    have e : digs (c :: l) = (decide (c ∈ figL) && digs l) := rfl
    rw [← fig_eq] at h
    by_cases hc : c ∈ figL
    · rw [decide_eq_true hc] at h e
      have step : trn (gN 2) L_read_number_1 (.str ⟨#[c]⟩) [s0, s1, none] = .ok (.nx [s0, s1, none]) := by
        simp [L_read_number_1, h]
      rw [List.map_cons, forD, step, e, Bool.true_and]
      exact ih
    · rw [decide_eq_false hc] at h e
      have step : trn (gN 2) L_read_number_1 (.str ⟨#[c]⟩) [s0, s1, none] = .ex "NoText" := by
        simp [L_read_number_1, h]
      rw [List.map_cons, forD, step, e, Bool.false_and, if_neg Bool.false_ne_true]
      rfl
theorem figs_len (w : List Nat) : (figs w).length ≤ w.length := by
  unfold figs
  split
  · rw [List.length_drop]; omega
  · omega
theorem dEq_S (a b : List Nat) : dEq (.str (S a)) (.str (S b)) = some (.bl (decide (a = b))) := by
  rw [dEq_str]
  congr 2
  simp only [decide_eq_decide]
  exact ⟨S_inj, fun h => by rw [h]⟩
theorem dNe_S (a b : List Nat) : dNe (.str (S a)) (.str (S b)) = some (.bl (!decide (a = b))) := by
  rw [dNe_str]
  congr 3
  simp only [decide_eq_decide]
  exact ⟨S_inj, fun h => by rw [h]⟩
theorem int_digs {l : List Nat} (h : digs l = true) (h1 : 1 ≤ l.length) (h60 : l.length ≤ 60) : dInt [.str (S l)] = some (.int (NumText.digitsVal l : Int)) := by
  show (if cls ((S l).length ≤ 640) = true then (PySem.intText? (S l)).map Dat.int else none) = _
  rw [cls_true (by rw [S_len]; omega), if_pos rfl]
  have := int_S (a := l) (by
    rw [List.all_eq_true]
    intro c hc
    have := List.all_eq_true.mp h c hc
    have := fig_mem.mp (of_decide_eq_true this)
    simp only [Bool.and_eq_true, decide_eq_true_eq]
    exact this) (by intro e; rw [e] at h1; simp at h1) (by omega)
  rw [this]
  rfl
theorem m_eq : (Str.ofString "-") = S [45] := by decide +kernel
theorem z_eq : (Str.ofString "0") = S [48] := by decide +kernel
def rnTail : DEnv → Rs Out := (seqD (iteD (orT (notT (tst (chD dLe dLe (kst (.int 1)) (biD dLen (argsC (rdv false 1) argsN)) (kst (.int 60))))) (andT (tst (bop dEq (bop dIx (rdv false 1) (kst (.int 0))) (kst (.str "0")))) (tst (bop dNe (rdv false 0) (kst (.str "0"))))))
        (fun _ => .ex "NoText") (fun ε => .ok (.nx ε)))
        (seqD (loopD (walkS (rdv false 1)) (trn (gN 2) L_read_number_1))
        (seqD (iteD (tst (bop dNe (rdv false 1) (rdv false 0))) (retD (uop dNeg (biD dInt (argsC (rdv false 1) argsN)))) (fun ε => .ok (.nx ε)))
        (retD (biD dInt (argsC (rdv false 1) argsN))))))
theorem rd_number (w : List Nat) (hl : w.length ≤ 16000000) : F_read_number [.str (S w)] = exO ((rdN w).map .int) := by
  have hfl := figs_len w
  have s1 : dSl (.str (S w)) none (some 1) = some (.str (S (w.take 1))) := slS_to 1 (by omega)
  have s2 : dSl (.str (S w)) (some 1) none = some (.str (S (w.drop 1))) := slS_from 1 (by omega)
  have q1 := dEq_S (w.take 1) [45]
  rw [← m_eq] at q1
  have hlen : dLen [.str (S (figs w))] = some (.int ((figs w).length : Int)) := lenS (by omega)
  have q2 := dNe_S w [48]
  rw [← z_eq] at q2
  have q3 := dNe_S (figs w) w
  have hlo := fun s0 s1 => rn_loop s0 s1 (figs w)
  have hsg := signs_S (figs w)
  have c1 : dLe (.int 1) (.int ((figs w).length : Int)) = some (.bl (decide (1 ≤ (figs w).length))) := by
    have : dLe (.int 1) (.int ((figs w).length : Int)) = some (.bl (decide ((1 : Int) ≤ ((figs w).length : Int)))) := by simp
    rw [this]
    congr 2
    simp only [decide_eq_decide]
    omega
  have c2 : dLe (.int ((figs w).length : Int)) (.int 60) = some (.bl (decide ((figs w).length ≤ 60))) := by
    have : dLe (.int ((figs w).length : Int)) (.int 60) = some (.bl (decide (((figs w).length : Int) ≤ 60))) := by simp
    rw [this]
    congr 2
    simp only [decide_eq_decide]
    omega
  -- behind the first lines
  have key : ∀ ε : DEnv, ε = [some (false, .str (S w)), some (false, .str (S (figs w))), none] →
      rnTail ε = (match rdN w with
          | some i => .ok (.rt (.int i))
          | none => .ex "NoText") := by
    intro ε hε
    subst hε
    unfold rnTail
    by_cases hb : badN w
    · have hr : rdN w = none := by unfold rdN; rw [if_pos hb]
      rw [hr]
      by_cases h1 : 1 ≤ (figs w).length
      · by_cases h60 : (figs w).length ≤ 60
        · rcases hb with hb | ⟨hh, hw⟩
          · exact absurd ⟨h1, h60⟩ hb
          · have hix : dIx (.str (S (figs w))) (.int 0) = some (.str (S [48])) := ixS (k := 0) (by omega) (by rw [← hh, List.head?_eq_getElem?])
            rw [← z_eq] at hix
            rw [decide_eq_true h1] at c1
            rw [decide_eq_true h60] at c2
            rw [decide_eq_false hw] at q2
            generalize S (figs w) = Fg at *
            generalize S w = Wd at *
            simp [hlen, c1, c2, hix, q2, -dLe_int, -dNe_str]
        · rw [decide_eq_true h1] at c1
          rw [decide_eq_false h60] at c2
          generalize S (figs w) = Fg at *
          generalize S w = Wd at *
          simp [hlen, c1, c2, -dLe_int]
      · rw [decide_eq_false h1] at c1
        generalize S (figs w) = Fg at *
        generalize S w = Wd at *
        simp [hlen, c1, -dLe_int]
    · have h1 : 1 ≤ (figs w).length := Classical.byContradiction fun z => hb (.inl fun q => z q.1)
      have h60 : (figs w).length ≤ 60 := Classical.byContradiction fun z => hb (.inl fun q => z q.2)
      have h2 : ¬ ((figs w).head? = some 48 ∧ w ≠ [48]) := fun z => hb (.inr z)
      rw [decide_eq_true h1] at c1
      rw [decide_eq_true h60] at c2
      obtain ⟨c, hc⟩ : ∃ c, (figs w).head? = some c := by
        cases hf : figs w with
        | nil => rw [hf] at h1; simp at h1
        | cons c r => exact ⟨c, rfl⟩
      have hix : dIx (.str (S (figs w))) (.int 0) = some (.str (S [c])) := ixS (k := 0) (by omega) (by rw [← hc, List.head?_eq_getElem?])
      have q4 := dEq_S [c] [48]
      rw [← z_eq] at q4
      have hand : (decide ([c] = [48]) && !decide (w = [48])) = false := by
        cases hq : decide ([c] = [48]) with
        | false => rfl
        | true =>
          have e : c = 48 := by simpa using hq
          have : w = [48] := Classical.byContradiction fun z => h2 ⟨by rw [hc, e], z⟩
          rw [decide_eq_true this]
          rfl
      have hr : rdN w = if digs (figs w) = true then some (if figs w = w then (NumText.digitsVal (figs w) : Int) else -(NumText.digitsVal (figs w) : Int)) else none := by unfold rdN; rw [if_neg hb]
      rw [hr]
      cases hd : digs (figs w) with
      | false =>
        simp only [hd, if_neg Bool.false_ne_true] at hlo
        rw [if_neg Bool.false_ne_true]
        generalize (figs w).map (fun c => Dat.str ⟨#[c]⟩) = SG at *
        generalize S (figs w) = Fg at *
        generalize S w = Wd at *
        cases hq : decide ([c] = [48]) <;> rw [hq] at q4 hand <;> (try rw [Bool.true_and] at hand; rw [hand] at q2) <;> simp [hlen, c1, c2, hix, q4, q2, hsg, -trn_eq, hlo, -dLe_int, -dNe_str, -dEq_str]
      | true =>
        simp only [hd, if_pos] at hlo
        rw [if_pos rfl]
        have hint := int_digs hd h1 h60
        by_cases hw : figs w = w
        · rw [if_pos hw]
          rw [decide_eq_true hw] at q3
          generalize NumText.digitsVal (figs w) = v at *
          generalize (figs w).map (fun c => Dat.str ⟨#[c]⟩) = SG at *
          generalize S (figs w) = Fg at *
          generalize S w = Wd at *
          cases hq : decide ([c] = [48]) <;> rw [hq] at q4 hand <;> (try rw [Bool.true_and] at hand; rw [hand] at q2) <;> simp [hlen, c1, c2, hix, q4, q2, q3, hint, hsg, -trn_eq, hlo, -dLe_int, -dNe_str, -dEq_str]
        · rw [if_neg hw]
          rw [decide_eq_false hw] at q3
          generalize NumText.digitsVal (figs w) = v at *
          generalize (figs w).map (fun c => Dat.str ⟨#[c]⟩) = SG at *
          generalize S (figs w) = Fg at *
          generalize S w = Wd at *
          cases hq : decide ([c] = [48]) <;> rw [hq] at q4 hand <;> (try rw [Bool.true_and] at hand; rw [hand] at q2) <;> simp [hlen, c1, c2, hix, q4, q2, q3, hint, hsg, -trn_eq, hlo, -dLe_int, -dNe_str, -dEq_str]
  have hF : F_read_number = runF 3 (seqD (setD 1 (rdv true 0)) (seqD (iteD (tst (bop dEq (slD (rdv false 0) noO (smO (kst (.int 1)))) (kst (.str "-")))) (setD 1 (slD (rdv false 0) (smO (kst (.int 1))) noO)) (fun ε => .ok (.nx ε))) rnTail)) := rfl
  rw [hF]
  have key := key _ rfl
  by_cases h0 : w.take 1 = [45]
  · have hf : figs w = w.drop 1 := by unfold figs; rw [if_pos h0]
    rw [decide_eq_true h0] at q1
    rw [← hf] at s2
    generalize S (figs w) = Fg at *
    generalize S (w.take 1) = T1 at *
    generalize S w = Wd at *
    generalize rnTail = TL at *
    simp [startD_eq, List.replicate, s1, s2, q1, -dEq_str, key]
    cases rdN w <;> rfl
  · have hf : figs w = w := by unfold figs; rw [if_neg h0]
    rw [decide_eq_false h0] at q1
    rw [hf] at key
    generalize S (w.take 1) = T1 at *
    generalize S w = Wd at *
    generalize rnTail = TL at *
    simp [startD_eq, List.replicate, s1, q1, -dEq_str, key]
    cases rdN w <;> rfl
end
end LW

set_option maxRecDepth 100000
set_option maxHeartbeats 4000000
/-! MNa (k71, k73): read_bound, read_fact, read_facts: what they tell of any text. -/
namespace LW
open PySem PySem.Spec PyProof.Rows L2 DL SP TX SX
@[simp] theorem compDX_eq {ε : DEnv} {w : DEnv → Rs (List Dat)} {G : Dat → DEnv → Option DEnv} {c : DEnv → Rs Bool} {fe : DEnv → Rs Dat} {vs : List Nat} : compDX w G c fe vs ε =
    (w ε >>= fun ds => chk (sz ds.length && noOwn ε vs) (compL (compTX G c fe (wipeD ε vs)) ds)) := rfl
@[simp] theorem compTX_eq {ε : DEnv} {G : Dat → DEnv → Option DEnv} {c : DEnv → Rs Bool} {fe : DEnv → Rs Dat} {d : Dat} : compTX G c fe ε d =
    (Rs.of (G d ε) >>= fun ε2 => (c ε2).nox >>= fun b => if b = true then fe ε2 >>= fun z => .ok (some z) else .ok none) := rfl
noncomputable section
theorem star_eq : (Str.ofString "*") = S [42] := by decide +kernel
theorem at_sign : (Str.ofString "@") = S [64] := by decide +kernel
theorem sp_eq : (Str.ofString " ") = S [32] := by decide +kernel
theorem semi_eq : (Str.ofString "; ") = S [59, 32] := by decide +kernel
theorem nil_eq : (Str.ofString "") = S [] := by decide +kernel
def rdB (w : List Nat) : Option Bd := if w = [42] then some none else (rdN w).map some
theorem rd_bound (w : List Nat) (hl : w.length ≤ 16000000) : F_read_bound [.str (S w)] = exO ((rdB w).map eB) := by
  have q := dEq_S w [42]
  rw [← star_eq] at q
  have hr := rd_number w hl
  unfold rdB
  by_cases h : w = [42]
  · rw [if_pos h]
    rw [decide_eq_true h] at q
    unfold F_read_bound
    generalize S w = Wd at *
    simp [startD_eq, List.replicate, q, -dEq_str, exO, eB]
  · rw [if_neg h]
    rw [decide_eq_false h] at q
    unfold F_read_bound
    generalize S w = Wd at *
    cases hn : rdN w with
    | none =>
      rw [hn] at hr
      simp [startD_eq, List.replicate, q, -dEq_str, exO, hr]
    | some i =>
      rw [hn] at hr
      simp [startD_eq, List.replicate, q, -dEq_str, exO, hr, eB]
abbrev Ft := Rw × Sg
def eF (p : Ft) : Dat := .tup [eRow p.1, eB p.2.1, eB p.2.2]
theorem cut_last3 {α : Type} (a : List α) (x y z : α) : DL.cutD (a ++ [x, y, z]) none (some (-3)) = a := by
  unfold DL.cutD HT.sIx
  simp
  rw [show (-3 + ((a.length : Int) + 3)).toNat = a.length by omega, List.take_left]
def eSt (y : List Nat) : Dat := .str (S y)
/-- each of a list, where all tell something -/
def mapO {α β : Type} (k : α → Option β) : List α → Option (List β)
  | [] => some []
  | a :: l => match k a with
    | none => none
    | some b => (mapO k l).map (b :: ·)
def exL (o : Option (List Dat)) : Rs (List Dat) := match o with
  | some d => .ok d
  | none => .ex "NoText"
theorem compL_ex {α β : Type} {F : Dat → Rs (Option Dat)} {h : α → Dat} {k : α → Option β} {e : β → Dat} : ∀ l : List α, (∀ a ∈ l, F (h a) = match k a with | some b => .ok (some (e b)) | none => .ex "NoText") → compL F (l.map h) = exL ((mapO k l).map fun bs => bs.map e)
  | [], _ => rfl
  | a :: l, hh => by
    have ih := compL_ex l fun b hb => hh b (List.mem_cons_of_mem _ hb)
    have h0 := hh a List.mem_cons_self
    simp only [List.map_cons]
    unfold compL mapO
    rw [h0, ih]
    cases hk : k a with
    | none => rfl
    | some b => cases hm : mapO k l <;> rfl
theorem mapO_len {α β : Type} {k : α → Option β} : ∀ {l : List α} {m : List β}, mapO k l = some m → m.length = l.length
  | [], m, h => by cases h; rfl
  | a :: l, m, h => by
    unfold mapO at h
    cases hk : k a with
    | none => rw [hk] at h; cases h
    | some b =>
      rw [hk] at h
      cases hm : mapO k l with
      | none => rw [hm] at h; cases h
      | some r =>
        rw [hm] at h
        cases h
        rw [List.length_cons, List.length_cons, mapO_len hm]
/-- what split leaves -/
theorem spl_bd (sep : List Nat) : ∀ (l : List Nat) (k : Nat) (acc : List Nat), 1 ≤ (TL.spl sep k acc l).length ∧ (TL.spl sep k acc l).length ≤ l.length + 1 ∧ ∀ y ∈ TL.spl sep k acc l, y.length ≤ acc.length + l.length
  | [], k, acc => by rw [TL.spl_nil]; simp
  | c :: r, 0, acc => by
    cases hp : TL.pre sep (c :: r) with
    | true =>
      rw [TL.spl_hit hp]
      obtain ⟨h1, h2, h3⟩ := spl_bd sep r (sep.length - 1) []
      refine ⟨by simp, by simp only [List.length_cons]; omega, fun y hy => ?_⟩
      rcases List.mem_cons.mp hy with rfl | hy
      · omega
      · have := h3 y hy
        simp only [List.length_cons, List.length_nil] at *
        omega
    | false =>
      rw [TL.spl_miss hp]
      obtain ⟨h1, h2, h3⟩ := spl_bd sep r 0 (acc ++ [c])
      refine ⟨h1, by simp only [List.length_cons]; omega, fun y hy => ?_⟩
      have := h3 y hy
      simp only [List.length_append, List.length_cons, List.length_nil] at *
      omega
  | c :: r, k + 1, acc => by
    have e : TL.spl sep (k + 1) acc (c :: r) = TL.spl sep k acc r := rfl
    rw [e]
    obtain ⟨h1, h2, h3⟩ := spl_bd sep r k acc
    refine ⟨h1, by simp only [List.length_cons]; omega, fun y hy => ?_⟩
    have := h3 y hy
    simp only [List.length_cons]
    omega
/-- the fact that words tell: the cells', the three last -/
def rd3 (cs : List (List Nat)) (x y z : List Nat) : Option Ft :=
  if x = [64] then match mapO rdN cs with
    | none => none
    | some r => match rdB y with
      | none => none
      | some a => match rdB z with
        | none => none
        | some b => if isS a b = true then some (r, (a, b)) else none
  else none
def rdW (ws : List (List Nat)) : Option Ft := if 4 ≤ ws.length ∧ ws.length ≤ 8 then rd3 (ws.take (ws.length - 3)) (ws.getD (ws.length - 3) []) (ws.getD (ws.length - 2) []) (ws.getD (ws.length - 1) []) else none
def rdF (w : List Nat) : Option Ft := rdW (TL.spl [32] 0 [] w)
theorem last3 {α : Type} {ws : List α} (h : 3 ≤ ws.length) : ∃ cs x y z, ws = cs ++ [x, y, z] := by
  obtain ⟨x, hx⟩ := List.getElem?_eq_some_iff.mpr ⟨(by omega : ws.length - 3 < ws.length), rfl⟩ |> fun e => (⟨_, e⟩ : ∃ x, ws[ws.length - 3]? = some x)
  refine ⟨ws.take (ws.length - 3), ws[ws.length - 3], ws[ws.length - 2], ws[ws.length - 1], ?_⟩
  have e := List.take_append_drop (ws.length - 3) ws
  have d1 := List.drop_eq_getElem_cons (l := ws) (i := ws.length - 3) (by omega)
  have d2 := List.drop_eq_getElem_cons (l := ws) (i := ws.length - 3 + 1) (by omega)
  have d3 := List.drop_eq_getElem_cons (l := ws) (i := ws.length - 3 + 1 + 1) (by omega)
  have d4 : ws.drop (ws.length - 3 + 1 + 1 + 1) = [] := List.drop_eq_nil_iff.mpr (by omega)
  rw [d4] at d3
  rw [d3] at d2
  rw [d2] at d1
  rw [d1] at e
  have i2 : ws.length - 3 + 1 = ws.length - 2 := by omega
  have i3 : ws.length - 3 + 1 + 1 = ws.length - 1 := by omega
  conv => lhs; rw [← e]
  congr 2
  congr 1
  · congr 1
  · congr 1
    congr 1
theorem rdW_last {cs : List (List Nat)} {x y z : List Nat} : rdW (cs ++ [x, y, z]) = if 1 ≤ cs.length ∧ cs.length ≤ 5 then rd3 cs x y z else none := by
  unfold rdW
  have hl : (cs ++ [x, y, z]).length = cs.length + 3 := by simp
  rw [hl]
  have e1 : (cs ++ [x, y, z]).take (cs.length + 3 - 3) = cs := by rw [Nat.add_sub_cancel]; exact List.take_left
  have e2 : (cs ++ [x, y, z]).getD (cs.length + 3 - 3) [] = x := by simp
  have e3 : (cs ++ [x, y, z]).getD (cs.length + 3 - 2) [] = y := by
    rw [List.getD_eq_getElem?_getD, List.getElem?_append_right (by omega), show cs.length + 3 - 2 - cs.length = 1 by omega]; rfl
  have e4 : (cs ++ [x, y, z]).getD (cs.length + 3 - 1) [] = z := by
    rw [List.getD_eq_getElem?_getD, List.getElem?_append_right (by omega), show cs.length + 3 - 1 - cs.length = 2 by omega]; rfl
  rw [e1, e2, e3, e4]
  by_cases h : 1 ≤ cs.length ∧ cs.length ≤ 5
  · rw [if_pos h, if_pos (by omega)]
  · rw [if_neg h, if_neg (by omega)]
theorem rd_cells (s0 s1 s2 s3 s4 s5 : Option (Bool × Dat)) (cs : List (List Nat)) (h : ∀ y ∈ cs, y.length ≤ 16000000) : compL (compTX (gN 6) yesT (callD 1 F_read_number (argsC (rdv true 6) argsN)) [s0, s1, s2, s3, s4, s5, none]) (cs.map eSt) = exL ((mapO rdN cs).map fun r => r.map .int) := by
  refine compL_ex cs fun y hy => ?_
  have hr := rd_number y (h y hy)
  show compTX _ _ _ _ (Dat.str (S y)) = _
  generalize S y = Wd at *
  cases hk : rdN y with
  | none =>
    rw [hk] at hr
    simp [hr, exO]
  | some i =>
    rw [hk] at hr
    simp [hr, exO]
end
end LW

set_option maxRecDepth 100000
set_option maxHeartbeats 4000000
/-! MNb (k71, k73): read_fact tells rdF. -/
namespace LW
open PySem PySem.Spec PyProof.Rows L2 DL SP TX SX
noncomputable section
theorem cut_m3 {α : Type} (l : List α) : DL.cutD l none (some (-3)) = l.take (l.length - 3) := by
  unfold DL.cutD HT.sIx
  simp
  congr 1
  omega
theorem split_sp {w : List Nat} (hl : w.length ≤ 15000000) : dSplit (S w) (.str " ") = some ((TL.spl [32] 0 [] w).map eSt) := by
  have := dSplit_S (a := w) (b := [32]) (by simp) (by decide) (by omega)
  rw [← sp_eq] at this
  exact this
theorem split_semi {w : List Nat} (hl : w.length ≤ 15000000) : dSplit (S w) (.str "; ") = some ((TL.spl [59, 32] 0 [] w).map eSt) := by
  have := dSplit_S (a := w) (b := [59, 32]) (by simp) (by decide) (by omega)
  rw [← semi_eq] at this
  exact this
theorem rd_fact (w : List Nat) (hl : w.length ≤ 15000000) : F_read_fact [.str (S w)] = exO ((rdF w).map eF) := by
  have hsp := split_sp hl
  obtain ⟨n1, n2, hws⟩ := spl_bd [32] w 0 []
  unfold rdF
  generalize TL.spl [32] 0 [] w = ws at *
  by_cases h4 : ws.length < 4
  · have hr : rdW ws = none := by unfold rdW; rw [if_neg (by omega)]
    rw [hr]
    have hcut : DL.cutD (ws.map eSt) none (some (-3)) = [] := by rw [cut_m3]; rw [List.length_map]; simp; omega
    have c1 : dLe (.int 1) (.int 0) = some (.bl false) := by simp
    have k2 : dLen [.lst true []] = some (.int 0) := rfl
    generalize ws.map eSt = AA at *
    generalize S w = T at *
    unfold F_read_fact
    generalize C_read_fact_1 = C1 at *
    simp [startD_eq, List.replicate, hsp, hcut, k2, c1, -dLe_int, -dLen_lst, exO]
  obtain ⟨cs, x, y, z, rfl⟩ := last3 (ws := ws) (by omega)
  have hla0 : (cs ++ [x, y, z]).length = cs.length + 3 := by simp
  have h1 : 1 ≤ cs.length := by omega
  rw [rdW_last]
  have hw : (cs ++ [x, y, z]).map eSt = cs.map eSt ++ [eSt x, eSt y, eSt z] := by rw [List.map_append]; rfl
  rw [hw] at hsp
  have hcut : DL.cutD (cs.map eSt ++ [eSt x, eSt y, eSt z]) none (some (-3)) = cs.map eSt := by rw [cut_m3, List.length_append]; show List.take ((cs.map eSt).length + 3 - 3) _ = _; rw [Nat.add_sub_cancel]; exact List.take_left
  have hlc : (cs.map eSt).length = cs.length := List.length_map _
  have hla : (cs.map eSt ++ [eSt x, eSt y, eSt z]).length = cs.length + 3 := by rw [List.length_append, hlc]; rfl
  have i1 : L2.atI (cs.map eSt ++ [eSt x, eSt y, eSt z]) (cs.length : Int) = some (eSt x) := atI_nat (by
    rw [List.getElem?_append_right (by omega), hlc, Nat.sub_self]; rfl)
  have i2 : L2.atI (cs.map eSt ++ [eSt x, eSt y, eSt z]) ((cs.length : Int) + 3 - 2) = some (.str (S y)) := by
    have e : (cs.length : Int) + 3 - 2 = ((cs.length + 1 : Nat) : Int) := by omega
    rw [e]
    refine atI_nat ?_
    rw [List.getElem?_append_right (by omega), hlc, show cs.length + 1 - cs.length = 1 by omega]
    rfl
  have i3 : L2.atI (cs.map eSt ++ [eSt x, eSt y, eSt z]) ((cs.length : Int) + 3 - 1) = some (.str (S z)) := by
    have e : (cs.length : Int) + 3 - 1 = ((cs.length + 2 : Nat) : Int) := by omega
    rw [e]
    refine atI_nat ?_
    rw [List.getElem?_append_right (by omega), hlc, show cs.length + 2 - cs.length = 2 by omega]
    rfl
  have hb : ∀ q ∈ cs ++ [x, y, z], q.length ≤ 15000000 := fun q hq => by have := hws q hq; simp only [List.length_nil] at this; omega
  have hcells := fun s0 s1 s2 s3 s4 s5 => rd_cells s0 s1 s2 s3 s4 s5 cs fun q hq => by have := hb q (List.mem_append_left _ hq); omega
  have b1 := rd_bound y (by have := hb y (by simp); omega)
  have b2 := rd_bound z (by have := hb z (by simp); omega)
  have q : dNe (eSt x) (.str "@") = some (.bl (!decide (x = [64]))) := by rw [at_sign]; exact dNe_S x [64]
  have c1 : dLe (.int 1) (.int (cs.length : Int)) = some (.bl true) := by simp; omega
  have c2 : dLe (.int (cs.length : Int)) (.int 5) = some (.bl (decide (cs.length ≤ 5))) := by
    have : dLe (.int (cs.length : Int)) (.int 5) = some (.bl (decide ((cs.length : Int) ≤ 5))) := by simp
    rw [this]
    congr 2
    simp only [decide_eq_decide]
    omega
  have k1 : dLen [.lst true (cs.map eSt ++ [eSt x, eSt y, eSt z])] = some (.int ((cs.length : Int) + 3)) := by
    show some (Dat.int ((cs.map eSt ++ [eSt x, eSt y, eSt z]).length : Int)) = _
    rw [hla]
    congr 2
  have k2 : dLen [.lst true (cs.map eSt)] = some (.int (cs.length : Int)) := by
    show some (Dat.int ((cs.map eSt).length : Int)) = _
    rw [hlc]
  by_cases h5 : cs.length ≤ 5
  · rw [if_pos ⟨h1, h5⟩]
    rw [decide_eq_true h5] at c2
    have hsz : sz (cs.map eSt).length = true := by rw [hlc]; exact sz_small (by omega)
    have s3 : sz 3 = true := sz_small (by decide)
    unfold rd3
    by_cases hx : x = [64]
    · rw [if_pos hx]
      rw [decide_eq_true hx] at q
      have hst := fun a b => is_stretch_eq a b
      have oB : ∀ b : Bd, old (eB b) = eB b := fun b => by simp
      have eF_eq : ∀ (r : Rw) (a b : Bd), eF (r, (a, b)) = .tup [.tup (r.map .int), eB a, eB b] := fun _ _ _ => rfl
      cases hm : mapO rdN cs with
      | none =>
        simp only [hm] at hcells ⊢
        generalize cs.map eSt = CL at *
        generalize S w = T at *
        generalize eSt x = E1 at *
        generalize eSt y = E2 at *
        generalize eSt z = E3 at *
        generalize hn : (cs.length : Int) = n at *
        generalize CL ++ [E1, E2, E3] = AA at *
        unfold F_read_fact C_read_fact_1
        simp [startD_eq, List.replicate, hsp, hcut, k1, k2, c1, c2, i1, q, -compTX_eq, noOwn, hcells, hsz, -dLe_int, -dLen_lst, -dNe_str, exO, exL]
      | some r =>
        simp only [hm] at hcells ⊢
        cases hy : rdB y with
        | none =>
          simp only [hy] at b1 ⊢
          generalize r.map Dat.int = RI at *
          generalize cs.map eSt = CL at *
          generalize S w = T at *
          generalize eSt x = E1 at *
          generalize eSt y = E2 at *
          generalize eSt z = E3 at *
          generalize S y = W1 at *
          generalize S z = W2 at *
          generalize hn : (cs.length : Int) = n at *
          generalize CL ++ [E1, E2, E3] = AA at *
          unfold F_read_fact C_read_fact_1
          simp [startD_eq, List.replicate, hsp, hcut, k1, k2, c1, c2, i1, i2, q, -compTX_eq, noOwn, hcells, hsz, b1, -dLe_int, -dLen_lst, -dNe_str, exO, exL]
        | some a =>
          simp only [hy] at b1 ⊢
          cases hz : rdB z with
          | none =>
            simp only [hz] at b2 ⊢
            have oa := oB a
            generalize eB a = A at *
            generalize r.map Dat.int = RI at *
            generalize cs.map eSt = CL at *
            generalize S w = T at *
            generalize eSt x = E1 at *
            generalize eSt y = E2 at *
            generalize eSt z = E3 at *
            generalize S y = W1 at *
            generalize S z = W2 at *
            generalize hn : (cs.length : Int) = n at *
            generalize CL ++ [E1, E2, E3] = AA at *
            unfold F_read_fact C_read_fact_1
            simp [startD_eq, List.replicate, hsp, hcut, k1, k2, c1, c2, i1, i2, i3, q, -compTX_eq, noOwn, hcells, hsz, b1, b2, oa, -dLe_int, -dLen_lst, -dNe_str, exO, exL]
          | some b =>
            simp only [hz] at b2 ⊢
            have oa := oB a
            have ob := oB b
            have hst := hst a b
            have b1 : F_read_bound [.str (S y)] = .ok (eB a) := b1
            have b2 : F_read_bound [.str (S z)] = .ok (eB b) := b2
            have hcells : ∀ s0 s1 s2 s3 s4 s5, compL (compTX (gN 6) yesT (callD 1 F_read_number (argsC (rdv true 6) argsN)) [s0, s1, s2, s3, s4, s5, none]) (cs.map eSt) = .ok (r.map .int) := hcells
            cases hi : isS a b with
            | true =>
              rw [if_pos rfl, show exO (Option.map eF (some (r, (a, b)))) = .ok (.tup [.tup (r.map .int), eB a, eB b]) from rfl]
              rw [hi] at hst
              generalize eB a = A at *
              generalize eB b = B at *
              generalize r.map Dat.int = RI at *
              generalize cs.map eSt = CL at *
              generalize S w = T at *
              generalize eSt x = E1 at *
              generalize eSt y = E2 at *
              generalize eSt z = E3 at *
              generalize S y = W1 at *
              generalize S z = W2 at *
              generalize hn : (cs.length : Int) = n at *
              generalize CL ++ [E1, E2, E3] = AA at *
              unfold F_read_fact C_read_fact_1
              simp [startD_eq, List.replicate, hsp, hcut, k1, k2, c1, c2, i1, i2, i3, q, -compTX_eq, noOwn, hcells, hsz, b1, b2, oa, ob, hst, s3, -dLe_int, -dLen_lst, -dNe_str, exO, exL]
            | false =>
              rw [hi] at hst
              generalize eB a = A at *
              generalize eB b = B at *
              generalize r.map Dat.int = RI at *
              generalize cs.map eSt = CL at *
              generalize S w = T at *
              generalize eSt x = E1 at *
              generalize eSt y = E2 at *
              generalize eSt z = E3 at *
              generalize S y = W1 at *
              generalize S z = W2 at *
              generalize hn : (cs.length : Int) = n at *
              generalize CL ++ [E1, E2, E3] = AA at *
              unfold F_read_fact C_read_fact_1
              simp [startD_eq, List.replicate, hsp, hcut, k1, k2, c1, c2, i1, i2, i3, q, -compTX_eq, noOwn, hcells, hsz, b1, b2, oa, ob, hst, s3, -dLe_int, -dLen_lst, -dNe_str, exO, exL]
    · rw [if_neg hx]
      rw [decide_eq_false hx] at q
      generalize cs.map eSt = CL at *
      generalize S w = T at *
      generalize eSt x = E1 at *
      generalize eSt y = E2 at *
      generalize eSt z = E3 at *
      generalize hn : (cs.length : Int) = n at *
      generalize CL ++ [E1, E2, E3] = AA at *
      unfold F_read_fact
      generalize C_read_fact_1 = C1 at *
      simp [startD_eq, List.replicate, hsp, hcut, k2, c1, c2, i1, q, -dLe_int, -dLen_lst, -dNe_str, exO]
  · rw [if_neg (by omega)]
    rw [decide_eq_false h5] at c2
    generalize cs.map eSt = CL at *
    generalize S w = T at *
    generalize hn : (cs.length : Int) = n at *
    generalize CL ++ [eSt x, eSt y, eSt z] = AA at *
    unfold F_read_fact
    generalize C_read_fact_1 = C1 at *
    simp [startD_eq, List.replicate, hsp, hcut, k2, c1, c2, -dLe_int, -dLen_lst, exO]
end
end LW

set_option maxRecDepth 100000
set_option maxHeartbeats 4000000
/-! MNc (k71, k73): read_facts tells rdFs. -/
namespace LW
open PySem PySem.Spec PyProof.Rows L2 DL SP TX SX
noncomputable section
def sameW : List Ft → Bool
  | [] => true
  | f0 :: fs => (f0 :: fs).all fun f => decide (f.1.length = f0.1.length)
def rdFs (w : List Nat) : Option (List Ft) :=
  if w = [] then some [] else match mapO rdF (TL.spl [59, 32] 0 [] w) with
    | none => none
    | some fs => if fs.length ≤ 60 ∧ sameW fs = true then some fs else none
@[simp] theorem old_eF (f : Ft) : old (eF f) = eF f := by simp [eF]
theorem rf_loop (s0 s3 : Option (Bool × Dat)) (f0 : Ft) (r : List Dat) : ∀ fs : List Ft,
    forD (trn (gN 2) L_read_facts_1) (fs.map eF) [s0, some (false, .lst true (eF f0 :: r)), none, s3] = if (fs.all fun f => decide (f.1.length = f0.1.length)) = true then .ok (.nx [s0, some (false, .lst true (eF f0 :: r)), none, s3]) else .ex "NoText"
  | [] => rfl
  | f :: fs => by
    have ih := rf_loop s0 s3 f0 r fs
    have l1 : dLen [eRow f.1] = some (.int (f.1.length : Int)) := by show some (Dat.int ((f.1.map Dat.int).length : Int)) = _; rw [List.length_map]
    have l2 : dLen [eRow f0.1] = some (.int (f0.1.length : Int)) := by show some (Dat.int ((f0.1.map Dat.int).length : Int)) = _; rw [List.length_map]
    have hne : dNe (.int (f.1.length : Int)) (.int (f0.1.length : Int)) = some (.bl (!decide (f.1.length = f0.1.length))) := by
      have := EqE.int.neNe (by decide) (f.1.length : Int) (f0.1.length : Int)
      rw [this]
      congr 3
      rw [decide_eq_decide]
      omega
    rw [List.all_cons]
    cases hd : decide (f.1.length = f0.1.length) with
    | true =>
      rw [hd] at hne
      have step : trn (gN 2) L_read_facts_1 (eF f) [s0, some (false, .lst true (eF f0 :: r)), none, s3] = .ok (.nx [s0, some (false, .lst true (eF f0 :: r)), none, s3]) := by
        unfold eF
        generalize eRow f.1 = R at *
        generalize eRow f0.1 = R0 at *
        generalize (f.1.length : Int) = n at *
        generalize (f0.1.length : Int) = n0 at *
        simp [L_read_facts_1, l1, l2, hne, -dNe_int]
      rw [List.map_cons, forD, step, Bool.true_and]
      exact ih
    | false =>
      rw [hd] at hne
      have step : trn (gN 2) L_read_facts_1 (eF f) [s0, some (false, .lst true (eF f0 :: r)), none, s3] = .ex "NoText" := by
        unfold eF
        generalize eRow f.1 = R at *
        generalize eRow f0.1 = R0 at *
        generalize (f.1.length : Int) = n at *
        generalize (f0.1.length : Int) = n0 at *
        simp [L_read_facts_1, l1, l2, hne, -dNe_int]
      rw [List.map_cons, forD, step, Bool.false_and, if_neg Bool.false_ne_true]
      rfl
def exF (o : Option (List Ft)) : Rs Dat := match o with
  | some fs => .ok (.lst true (fs.map eF))
  | none => .ex "NoText"
theorem rd_facts (w : List Nat) (hl : w.length ≤ 15000000) : F_read_facts [.str (S w)] = exF (rdFs w) := by
  have hq := dEq_S w []
  rw [← nil_eq] at hq
  have s0 : sz 0 = true := sz_small (by decide)
  have hk : dIsi "str" (.str (S w)) = some (.bl true) := rfl
  unfold rdFs
  by_cases h0 : w = []
  · rw [if_pos h0]
    rw [decide_eq_true h0] at hq
    unfold F_read_facts
    generalize C_read_facts_1 = C1 at *
    generalize S w = T at *
    simp [startD_eq, List.replicate, hk, hq, s0, -dEq_str, exF]
  · rw [if_neg h0]
    rw [decide_eq_false h0] at hq
    have hsp := split_semi hl
    obtain ⟨n1, n2, hws⟩ := spl_bd [59, 32] w 0 []
    generalize TL.spl [59, 32] 0 [] w = ws at *
    have hc : ∀ s0 s1 s2, compL (compTX (gN 3) yesT (callD 1 F_read_fact (argsC (rdv true 3) argsN)) [s0, s1, s2, none]) (ws.map eSt) = exL ((mapO rdF ws).map fun fs => fs.map eF) := fun s0 s1 s2 => by
      refine compL_ex ws fun y hy => ?_
      have hr := rd_fact y (by have := hws y hy; simp only [List.length_nil] at this; omega)
      show compTX _ _ _ _ (Dat.str (S y)) = _
      generalize S y = Wd at *
      cases hk : rdF y with
      | none =>
        rw [hk] at hr
        simp [hr, exO]
      | some f =>
        rw [hk] at hr
        have hr : F_read_fact [.str Wd] = .ok (eF f) := hr
        simp [hr]
    have hsz : sz (ws.map eSt).length = true := by rw [List.length_map]; exact sz_small (by omega)
    cases hm : mapO rdF ws with
    | none =>
      simp only [hm] at hc ⊢
      have hc : ∀ s0 s1 s2, compL (compTX (gN 3) yesT (callD 1 F_read_fact (argsC (rdv true 3) argsN)) [s0, s1, s2, none]) (ws.map eSt) = .ex "NoText" := hc
      generalize ws.map eSt = CL at *
      generalize S w = T at *
      unfold F_read_facts C_read_facts_1
      simp [startD_eq, List.replicate, hk, hq, hsp, -compTX_eq, noOwn, hc, hsz, -dEq_str, exF]
    | some fs =>
      simp only [hm] at hc ⊢
      have hc : ∀ s0 s1 s2, compL (compTX (gN 3) yesT (callD 1 F_read_fact (argsC (rdv true 3) argsN)) [s0, s1, s2, none]) (ws.map eSt) = .ok (fs.map eF) := hc
      have hfl := mapO_len hm
      have kl : dLen [.lst true (fs.map eF)] = some (.int (fs.length : Int)) := by show some (Dat.int ((fs.map eF).length : Int)) = _; rw [List.length_map]
      have hg : dGt (.int (fs.length : Int)) (.int 60) = some (.bl (decide (60 < fs.length))) := by
        have : dGt (.int (fs.length : Int)) (.int 60) = some (.bl (decide ((60 : Int) < (fs.length : Int)))) := by simp
        rw [this]
        congr 2
        simp only [decide_eq_decide]
        omega
      by_cases h60 : 60 < fs.length
      · rw [if_neg (by omega)]
        rw [decide_eq_true h60] at hg
        generalize fs.map eF = FL at *
        generalize (fs.length : Int) = n at *
        generalize ws.map eSt = CL at *
        generalize S w = T at *
        unfold F_read_facts C_read_facts_1
        simp [startD_eq, List.replicate, hk, hq, hsp, -compTX_eq, noOwn, hc, hsz, kl, hg, -dEq_str, -dLen_lst, -dGt_int, exF]
      · rw [decide_eq_false h60] at hg
        obtain ⟨f0, fr, rfl⟩ : ∃ f0 fr, fs = f0 :: fr := by
          cases fs with
          | nil => simp at hfl; omega
          | cons f0 fr => exact ⟨f0, fr, rfl⟩
        have hlo := fun s0 s3 => rf_loop s0 s3 f0 (fr.map eF) (f0 :: fr)
        have hsm : sameW (f0 :: fr) = (f0 :: fr).all fun f => decide (f.1.length = f0.1.length) := rfl
        have ho : olds ((f0 :: fr).map eF) = (f0 :: fr).map eF := olds_map _ _ old_eF _
        cases hs : sameW (f0 :: fr) with
        | true =>
          rw [← hsm, hs] at hlo
          rw [if_pos ⟨by omega, rfl⟩]
          simp only [if_true] at hlo
          show _ = Rs.ok (Dat.lst true ((f0 :: fr).map eF))
          have hlo : ∀ s0 s3, forD (trn (gN 2) L_read_facts_1) ((f0 :: fr).map eF) [s0, some (false, .lst true ((f0 :: fr).map eF)), none, s3] = .ok (.nx [s0, some (false, .lst true ((f0 :: fr).map eF)), none, s3]) := hlo
          generalize (f0 :: fr).map eF = FL at *
          generalize ((f0 :: fr).length : Int) = n at *
          generalize ws.map eSt = CL at *
          generalize S w = T at *
          unfold F_read_facts C_read_facts_1
          simp [startD_eq, List.replicate, hk, hq, hsp, -compTX_eq, -trn_eq, noOwn, hc, hsz, kl, hg, hlo, ho, -dEq_str, -dLen_lst, -dGt_int]
        | false =>
          rw [← hsm, hs] at hlo
          rw [if_neg (by simp)]
          show _ = Rs.ex "NoText"
          simp only [if_neg Bool.false_ne_true] at hlo
          have hlo : ∀ s0 s3, forD (trn (gN 2) L_read_facts_1) ((f0 :: fr).map eF) [s0, some (false, .lst true ((f0 :: fr).map eF)), none, s3] = .ex "NoText" := hlo
          generalize (f0 :: fr).map eF = FL at *
          generalize ((f0 :: fr).length : Int) = n at *
          generalize ws.map eSt = CL at *
          generalize S w = T at *
          unfold F_read_facts C_read_facts_1
          simp [startD_eq, List.replicate, hk, hq, hsp, -compTX_eq, -trn_eq, noOwn, hc, hsz, kl, hg, hlo, ho, -dEq_str, -dLen_lst, -dGt_int]
end
end LW

set_option maxRecDepth 100000
set_option maxHeartbeats 4000000
/-! MNd (k71): the law's reading of a number. -/
namespace LW
open PySem PySem.Spec PyProof.Rows L2 DL SP TX SX
noncomputable section
theorem ln_loop (s0 s1 : Option (Bool × Dat)) : ∀ l : List Nat, forD (trn (gN 2) L__law_number_told_1) (l.map fun c => .str ⟨#[c]⟩) [s0, s1, none] = if digs l = true then .ok (.nx [s0, s1, none]) else .ok (.rt .non)
  | [] => rfl
  | c :: l => by
    have h := ninS_S c figL
    have ih := ln_loop s0 s1 l
    have e : digs (c :: l) = (decide (c ∈ figL) && digs l) := rfl
    rw [← fig_eq] at h
    by_cases hc : c ∈ figL
    · rw [decide_eq_true hc] at h e
      have step : trn (gN 2) L__law_number_told_1 (.str ⟨#[c]⟩) [s0, s1, none] = .ok (.nx [s0, s1, none]) := by
        simp [L__law_number_told_1, h]
      rw [List.map_cons, forD, step, e, Bool.true_and]
      exact ih
    · rw [decide_eq_false hc] at h e
      have step : trn (gN 2) L__law_number_told_1 (.str ⟨#[c]⟩) [s0, s1, none] = .ok (.rt .non) := by
        simp [L__law_number_told_1, h]
      rw [List.map_cons, forD, step, e, Bool.false_and, if_neg Bool.false_ne_true]
      rfl
def oI : Option Int → Dat
  | none => .non
  | some i => .int i
theorem int_bl (b : Bool) : dInt [.bl b] = some (.int (if b then 1 else 0)) := rfl
def lnTail : DEnv → Rs Out :=
  (seqD (iteD (orT (tst (bop dEq (rdv false 1) (kst (.str "")))) (orT (tst (bop dGt (biD dLen (argsC (rdv false 1) argsN)) (kst (.int 60)))) (andT (tst (bop dEq (bop dIx (rdv false 1) (kst (.int 0))) (kst (.str "0")))) (tst (bop dNe (rdv false 0) (kst (.str "0")))))))
  (retD (kst .non))
  (fun ε => .ok (.nx ε)))
  (seqD (loopD (walkS (rdv false 1)) (trn (gN 2) L__law_number_told_1))
  (retD (bop dMul (biD dInt (argsC (rdv false 1) argsN)) (bop dSub (kst (.int 1)) (bop dMul (kst (.int 2)) (biD dInt (argsC (bop dNe (rdv false 1) (rdv false 0)) argsN))))))))
theorem number_told (w : List Nat) (hl : w.length ≤ 16000000) : F__law_number_told [.str (S w)] = .ok (oI (rdN w)) := by
  have hfl := figs_len w
  have s1 : dSl (.str (S w)) none (some 1) = some (.str (S (w.take 1))) := slS_to 1 (by omega)
  have q1 := dEq_S (w.take 1) [45]
  rw [← m_eq] at q1
  have hlen : dLen [.str (S (figs w))] = some (.int ((figs w).length : Int)) := lenS (by omega)
  have q2 := dNe_S w [48]
  rw [← z_eq] at q2
  have q0 := dEq_S (figs w) []
  rw [← nil_eq] at q0
  have q3 := dNe_S (figs w) w
  have hlo := fun s0 s1 => ln_loop s0 s1 (figs w)
  have hsg := signs_S (figs w)
  have c2 : dGt (.int ((figs w).length : Int)) (.int 60) = some (.bl (decide (60 < (figs w).length))) := by
    have : dGt (.int ((figs w).length : Int)) (.int 60) = some (.bl (decide ((60 : Int) < ((figs w).length : Int)))) := by simp
    rw [this]
    congr 2
    simp only [decide_eq_decide]
    omega
  have key : ∀ ε : DEnv, ε = [some (false, .str (S w)), some (false, .str (S (figs w))), none] → lnTail ε = .ok (.rt (oI (rdN w))) := by
    intro ε hε
    subst hε
    unfold lnTail
    by_cases h1 : figs w = []
    · rw [decide_eq_true h1] at q0
      have hr : rdN w = none := by
        have hb : badN w := by left; rw [h1]; simp
        unfold rdN; rw [if_pos hb]
      rw [hr]
      generalize S (figs w) = Fg at *
      generalize S w = Wd at *
      simp [q0, -dEq_str, oI]
    · rw [decide_eq_false h1] at q0
      have h1' : 1 ≤ (figs w).length := by
        cases hf : figs w with
        | nil => exact absurd hf h1
        | cons c r => simp
      by_cases h60 : 60 < (figs w).length
      · rw [decide_eq_true h60] at c2
        have hr : rdN w = none := by
          have hb : badN w := .inl fun z => by omega
          unfold rdN; rw [if_pos hb]
        rw [hr]
        generalize S (figs w) = Fg at *
        generalize S w = Wd at *
        simp [q0, hlen, c2, -dEq_str, -dGt_int, oI]
      · rw [decide_eq_false h60] at c2
        obtain ⟨c, hc⟩ : ∃ c, (figs w).head? = some c := by
          cases hf : figs w with
          | nil => rw [hf] at h1'; simp at h1'
          | cons c r => exact ⟨c, rfl⟩
        have hix : dIx (.str (S (figs w))) (.int 0) = some (.str (S [c])) := ixS (k := 0) (by omega) (by rw [← hc, List.head?_eq_getElem?])
        have q4 := dEq_S [c] [48]
        rw [← z_eq] at q4
        by_cases hz : c = 48 ∧ w ≠ [48]
        · have hr : rdN w = none := by
            have hb : badN w := .inr ⟨by rw [hc, hz.1], hz.2⟩
            unfold rdN; rw [if_pos hb]
          rw [hr]
          rw [decide_eq_false hz.2] at q2
          rw [decide_eq_true (by rw [hz.1])] at q4
          generalize S (figs w) = Fg at *
          generalize S w = Wd at *
          simp [q0, hlen, c2, hix, q4, q2, -dEq_str, -dNe_str, -dGt_int, oI]
        · have hand : (decide ([c] = [48]) && !decide (w = [48])) = false := by
            cases hq : decide ([c] = [48]) with
            | false => rfl
            | true =>
              have e : c = 48 := by simpa using hq
              have : w = [48] := Classical.byContradiction fun z => hz ⟨e, z⟩
              rw [decide_eq_true this]
              rfl
          have hnb : ¬ badN w := by
            rintro (z | ⟨z, y⟩)
            · exact z ⟨h1', by omega⟩
            · rw [hc] at z
              exact hz ⟨Option.some.inj z, y⟩
          have hr : rdN w = if digs (figs w) = true then some (if figs w = w then (NumText.digitsVal (figs w) : Int) else -(NumText.digitsVal (figs w) : Int)) else none := by unfold rdN; rw [if_neg hnb]
          rw [hr]
          cases hd : digs (figs w) with
          | false =>
            simp only [hd, if_neg Bool.false_ne_true] at hlo
            rw [if_neg Bool.false_ne_true]
            generalize (figs w).map (fun c => Dat.str ⟨#[c]⟩) = SG at *
            generalize S (figs w) = Fg at *
            generalize S w = Wd at *
            cases hq : decide ([c] = [48]) <;> rw [hq] at q4 hand <;> (try rw [Bool.true_and] at hand; rw [hand] at q2) <;> simp [q0, hlen, c2, hix, q4, q2, hsg, -trn_eq, hlo, -dGt_int, -dNe_str, -dEq_str, oI]
          | true =>
            simp only [hd, if_pos] at hlo
            rw [if_pos rfl]
            have hint := int_digs hd h1' (by omega)
            by_cases hw : figs w = w
            · rw [if_pos hw]
              rw [decide_eq_true hw] at q3
              have ib := int_bl false
              generalize NumText.digitsVal (figs w) = v at *
              generalize (figs w).map (fun c => Dat.str ⟨#[c]⟩) = SG at *
              generalize S (figs w) = Fg at *
              generalize S w = Wd at *
              cases hq : decide ([c] = [48]) <;> rw [hq] at q4 hand <;> (try rw [Bool.true_and] at hand; rw [hand] at q2) <;> simp [q0, hlen, c2, hix, q4, q2, q3, hint, int_bl, dMul_l, dMul_r, hsg, -trn_eq, hlo, -dGt_int, -dNe_str, -dEq_str, oI]
            · rw [if_neg hw]
              rw [decide_eq_false hw] at q3
              generalize NumText.digitsVal (figs w) = v at *
              generalize (figs w).map (fun c => Dat.str ⟨#[c]⟩) = SG at *
              generalize S (figs w) = Fg at *
              generalize S w = Wd at *
              cases hq : decide ([c] = [48]) <;> rw [hq] at q4 hand <;> (try rw [Bool.true_and] at hand; rw [hand] at q2) <;> simp [q0, hlen, c2, hix, q4, q2, q3, hint, int_bl, dMul_l, dMul_r, hsg, -trn_eq, hlo, -dGt_int, -dNe_str, -dEq_str, oI]
  have hF : F__law_number_told = runF 3 (seqD (setD 1 (slD (rdv false 0) (smO (biD dInt (argsC (bop dEq (slD (rdv false 0) noO (smO (kst (.int 1)))) (kst (.str "-"))) argsN))) noO)) lnTail) := rfl
  rw [hF]
  have key := key _ rfl
  by_cases h0 : w.take 1 = [45]
  · have hf : figs w = w.drop 1 := by unfold figs; rw [if_pos h0]
    have s2 : dSl (.str (S w)) (some 1) none = some (.str (S (w.drop 1))) := slS_from 1 (by omega)
    rw [decide_eq_true h0] at q1
    rw [← hf] at s2
    generalize S (figs w) = Fg at *
    generalize S (w.take 1) = T1 at *
    generalize S w = Wd at *
    generalize lnTail = TL at *
    simp [startD_eq, List.replicate, s1, s2, q1, int_bl, -dEq_str, key]
  · have hf : figs w = w := by unfold figs; rw [if_neg h0]
    have s2 : dSl (.str (S w)) (some 0) none = some (.str (S (w.drop 0))) := slS_from 0 (by omega)
    rw [List.drop_zero] at s2
    rw [decide_eq_false h0] at q1
    rw [hf] at key
    generalize S (w.take 1) = T1 at *
    generalize S w = Wd at *
    generalize lnTail = TL at *
    simp [startD_eq, List.replicate, s1, s2, q1, int_bl, -dEq_str, key]
end
end LW

set_option maxRecDepth 100000
set_option maxHeartbeats 4000000
/-! MNe (k71): the law's reading of a fact. -/
namespace LW
open PySem PySem.Spec PyProof.Rows L2 DL SP TX SX
noncomputable section
def oF : Option Ft → Dat
  | none => .non
  | some f => eF f
theorem rdN_star : rdN [42] = none := by
  have hf : figs [42] = [42] := by decide
  have hd : digs [42] = false := by decide
  unfold rdN
  rw [hf, hd]
  split <;> rfl
theorem isS_oI : ∀ cs : List (List Nat), (cs.map fun y => oI (rdN y)).all DL.isS = true
  | [] => rfl
  | y :: cs => by
    rw [List.map_cons, List.all_cons, isS_oI cs, Bool.and_true]
    cases rdN y <;> rfl
theorem inF_cells (cs : List (List Nat)) : dInF .non (.tup (cs.map fun y => oI (rdN y))) = some (.bl (mapO rdN cs).isNone) := by
  show (if (DL.isS .non && (cs.map fun y => oI (rdN y)).all DL.isS) = true then some (Dat.bl (inV (fv .non) ((cs.map fun y => oI (rdN y)).map fv))) else none) = _
  rw [isS_oI, if_pos (show (DL.isS .non && true) = true from rfl)]
  congr 2
  induction cs with
  | nil => rfl
  | cons y cs ih =>
    unfold mapO
    show (eqV (fv (oI (rdN y))) .non || inV (fv .non) ((cs.map fun y => oI (rdN y)).map fv)) = _
    rw [ih]
    cases rdN y with
    | none => rfl
    | some i =>
      show (false || (mapO rdN cs).isNone) = _
      cases mapO rdN cs <;> rfl
theorem mapO_oI : ∀ {cs : List (List Nat)} {r : List Int}, mapO rdN cs = some r → (cs.map fun y => oI (rdN y)) = r.map .int
  | [], r, h => by cases h; rfl
  | y :: cs, r, h => by
    unfold mapO at h
    cases hy : rdN y with
    | none => rw [hy] at h; cases h
    | some i =>
      rw [hy] at h
      cases hm : mapO rdN cs with
      | none => rw [hm] at h; cases h
      | some q =>
        rw [hm] at h
        cases h
        rw [List.map_cons, List.map_cons, mapO_oI hm, hy]
        rfl
theorem lf_cells (s0 s1 s2 s3 s5 : Option (Bool × Dat)) (cs : List (List Nat)) (h : ∀ y ∈ cs, y.length ≤ 16000000) : compL (compT (gN 4) yesT (callD 1 F__law_number_told (argsC (rdv true 4) argsN)) [s0, s1, s2, s3, none, s5]) (cs.map eSt) = .ok (cs.map fun y => oI (rdN y)) := by
  refine compL_map fun y hy => ?_
  have hr := number_told y (h y hy)
  show compT _ _ _ _ (Dat.str (S y)) = _
  generalize S y = Wd at *
  simp [hr]
theorem star_ne (y : List Nat) : dNe (.str (S y)) (.str "*") = some (.bl (!decide (y = [42]))) := by rw [star_eq]; exact dNe_S y [42]
@[simp] theorem old_oI (o : Option Int) : old (oI o) = oI o := by cases o <;> rfl
theorem lf_step (a b c : Option (Bool × Dat)) (acc : List Dat) (ha : acc.length ≤ 4) (y : List Nat) (hy : y.length ≤ 16000000) :
    trn (gN 4) L__law_fact_told_1 (eSt y) [a, b, c, some (true, .lst true acc), none, none] = match rdB y with
      | none => .ok (.rt .non)
      | some d => .ok (.nx [a, b, c, some (true, .lst true (acc ++ [eB d])), none, none]) := by
  have hr := number_told y hy
  have hs := star_ne y
  have hz : sz (acc.length + 1) = true := sz_small (by omega)
  show trn (gN 4) L__law_fact_told_1 (Dat.str (S y)) _ = _
  unfold rdB
  by_cases h : y = [42]
  · rw [if_pos h]
    rw [decide_eq_true h] at hs
    have hn : rdN y = none := by rw [h]; exact rdN_star
    rw [hn] at hr
    generalize S y = Wd at *
    have hr : F__law_number_told [.str Wd] = .ok .non := hr
    simp [L__law_fact_told_1, hr, hs, -dNe_str, hz, eB, appD]
  · rw [if_neg h]
    rw [decide_eq_false h] at hs
    cases hn : rdN y with
    | none =>
      rw [hn] at hr
      generalize S y = Wd at *
      have hr : F__law_number_told [.str Wd] = .ok .non := hr
      simp [L__law_fact_told_1, hr, hs, -dNe_str]
    | some i =>
      rw [hn] at hr
      generalize S y = Wd at *
      have hr : F__law_number_told [.str Wd] = .ok (.int i) := hr
      simp [L__law_fact_told_1, hr, hs, -dNe_str, hz, eB, appD]
end
end LW

set_option maxRecDepth 100000
set_option maxHeartbeats 4000000
/-! MNf (k71): the law's fact is rdF. -/
namespace LW
open PySem PySem.Spec PyProof.Rows L2 DL SP TX SX
noncomputable section
theorem eqe_F : EqE 2 eF where
  eq p q := by
    show PyData.eqv (.tuple [toP (eRow p.1), toP (eB p.2.1), toP (eB p.2.2)]) (.tuple [toP (eRow q.1), toP (eB q.2.1), toP (eB q.2.2)]) = true ↔ _
    rw [PyData.eqv, PyData.eqvAll, PyData.eqvAll, PyData.eqvAll, PyData.eqvAll, Bool.and_true, Bool.and_eq_true, Bool.and_eq_true]
    have h1 := eqe_row.eq p.1 q.1
    have h2 := eqe_B.eq p.2.1 q.2.1
    have h3 := eqe_B.eq p.2.2 q.2.2
    unfold deq at h1 h2 h3
    rw [h1, h2, h3]
    exact ⟨fun z => Prod.ext z.1 (Prod.ext z.2.1 z.2.2), fun z => by rw [z]; exact ⟨rfl, rfl, rfl⟩⟩
  lay p := by
    show PyData.canLay0 (.tuple [toP (eRow p.1), toP (eB p.2.1), toP (eB p.2.2)]) = true
    rw [PyData.canLay0, PyData.canLayAll0, PyData.canLayAll0, PyData.canLayAll0, PyData.canLayAll0, eqe_row.lay, eqe_B.lay, eqe_B.lay]
    rfl
  dep p := by
    show PyData.depth (.tuple [toP (eRow p.1), toP (eB p.2.1), toP (eB p.2.2)]) ≤ _
    rw [PyData.depth, PyData.depthAll, PyData.depthAll, PyData.depthAll, PyData.depthAll]
    have h1 := eqe_row.dep p.1
    have h2 := eqe_B.dep p.2.1
    have h3 := eqe_B.dep p.2.2
    omega

def lfEnd : DEnv → Rs Out := fzD 3 (seqD (iteD (andT (tst (bop dNotN (bop dIx (rdv false 3) (kst (.int 0))) (kst .non))) (andT (tst (bop dNotN (bop dIx (rdv false 3) (kst (.int 1))) (kst .non))) (tst (bop dGe (bop dIx (rdv false 3) (kst (.int 0))) (bop dIx (rdv false 3) (kst (.int 1)))))))
  (retD (kst .non))
  (fun ε => .ok (.nx ε)))
  (retD (tupD (argsC (rdv true 2) (argsC (bop dIx (rdv false 3) (kst (.int 0))) (argsC (bop dIx (rdv false 3) (kst (.int 1))) argsN))))))
theorem lf_end (s0 s1 : Option (Bool × Dat)) (R : Rw) (a b : Bd) : lfEnd [s0, s1, some (false, eRow R), some (true, .lst true [eB a, eB b]), none, none] = .ok (.rt (oF (if isS a b = true then some (R, (a, b)) else none))) := by
  have s3 : sz 3 = true := sz_small (by decide)
  have oa : old (eB a) = eB a := by simp
  have ob : old (eB b) = eB b := by simp
  have oR : old (eRow R) = eRow R := by simp
  have na := notN_eB a
  have nb := notN_eB b
  have ge : ∀ i j : Int, dGe (.int i) (.int j) = some (.bl (decide (j ≤ i))) := fun i j => by simp
  have ef : oF (if isS a b = true then some (R, (a, b)) else none) = if isS a b = true then .tup [eRow R, eB a, eB b] else .non := by
    split <;> rfl
  rw [ef]
  unfold lfEnd
  generalize eRow R = RR at *
  cases a with
  | none =>
    have hi : isS none b = true := rfl
    rw [if_pos hi]
    generalize eB none = A at *
    generalize eB b = B at *
    simp [na, s3, oa, ob, oR]
  | some i => cases b with
    | none =>
      have hi : isS (some i) none = true := rfl
      rw [if_pos hi]
      generalize eB none = B at *
      generalize eB (some i) = A at *
      simp [na, nb, s3, oa, ob, oR]
    | some j =>
      have hi : isS (some i) (some j) = decide (i < j) := rfl
      rw [hi]
      have ge : dGe (eB (some i)) (eB (some j)) = some (.bl (decide (j ≤ i))) := ge i j
      by_cases h : i < j
      · rw [decide_eq_false (by omega)] at ge
        rw [decide_eq_true h, if_pos rfl]
        generalize eB (some i) = A at *
        generalize eB (some j) = B at *
        simp [na, nb, s3, oa, ob, oR, ge]
      · rw [decide_eq_true (by omega)] at ge
        rw [decide_eq_false h, if_neg Bool.false_ne_true]
        generalize eB (some i) = A at *
        generalize eB (some j) = B at *
        simp [na, nb, s3, oa, ob, oR, ge]
end
end LW

set_option maxRecDepth 100000
set_option maxHeartbeats 4000000
/-! MNg (k71): the law's fact, whole. -/
namespace LW
open PySem PySem.Spec PyProof.Rows L2 DL SP TX SX
noncomputable section
theorem lf_loop (a b c : Option (Bool × Dat)) (y z : List Nat) (hy : y.length ≤ 16000000) (hz : z.length ≤ 16000000) :
    forD (trn (gN 4) L__law_fact_told_1) [eSt y, eSt z] [a, b, c, some (true, .lst true []), none, none] = match rdB y with
      | none => .ok (.rt .non)
      | some d => match rdB z with
        | none => .ok (.rt .non)
        | some e => .ok (.nx [a, b, c, some (true, .lst true [eB d, eB e]), none, none]) := by
  have h1 := lf_step a b c [] (by simp) y hy
  rw [forD, h1]
  cases rdB y with
  | none => rfl
  | some d =>
    have h2 := lf_step a b c [eB d] (by simp) z hz
    show forD (trn (gN 4) L__law_fact_told_1) [eSt z] [a, b, c, some (true, .lst true [eB d]), none, none] = _
    rw [forD, h2]
    cases rdB z <;> rfl
theorem fact_told (w : List Nat) (hl : w.length ≤ 15000000) : F__law_fact_told [.str (S w)] = .ok (oF (rdF w)) := by
  have hsp := split_sp hl
  obtain ⟨n1, n2, hws⟩ := spl_bd [32] w 0 []
  unfold rdF
  generalize TL.spl [32] 0 [] w = ws at *
  have kl : dLen [.lst true (ws.map eSt)] = some (.int (ws.length : Int)) := by
    show some (Dat.int ((ws.map eSt).length : Int)) = _
    rw [List.length_map]
  have c1 : dLt (.int (ws.length : Int)) (.int 4) = some (.bl (decide (ws.length < 4))) := by
    have : dLt (.int (ws.length : Int)) (.int 4) = some (.bl (decide ((ws.length : Int) < 4))) := by simp
    rw [this]
    congr 2
    simp only [decide_eq_decide]
    omega
  have c2 : dGt (.int (ws.length : Int)) (.int 8) = some (.bl (decide (8 < ws.length))) := by
    have : dGt (.int (ws.length : Int)) (.int 8) = some (.bl (decide ((8 : Int) < (ws.length : Int)))) := by simp
    rw [this]
    congr 2
    simp only [decide_eq_decide]
    omega
  by_cases h4 : ws.length < 4
  · have hr : rdW ws = none := by unfold rdW; rw [if_neg (by omega)]
    rw [hr]
    rw [decide_eq_true h4] at c1
    generalize (ws.length : Int) = n at *
    generalize ws.map eSt = AA at *
    generalize S w = T at *
    unfold F__law_fact_told
    generalize C__law_fact_told_1 = C1 at *
    generalize L__law_fact_told_1 = L1 at *
    simp [startD_eq, List.replicate, hsp, kl, c1, -dLt_int, -dLen_lst, oF]
  rw [decide_eq_false h4] at c1
  by_cases h8 : 8 < ws.length
  · have hr : rdW ws = none := by unfold rdW; rw [if_neg (by omega)]
    rw [hr]
    rw [decide_eq_true h8] at c2
    generalize (ws.length : Int) = n at *
    generalize ws.map eSt = AA at *
    generalize S w = T at *
    unfold F__law_fact_told
    generalize C__law_fact_told_1 = C1 at *
    generalize L__law_fact_told_1 = L1 at *
    simp [startD_eq, List.replicate, hsp, kl, c1, c2, -dLt_int, -dGt_int, -dLen_lst, oF]
  rw [decide_eq_false h8] at c2
  obtain ⟨cs, x, y, z, rfl⟩ := last3 (ws := ws) (by omega)
  have hla0 : (cs ++ [x, y, z]).length = cs.length + 3 := by simp
  have h1 : 1 ≤ cs.length := by omega
  have h5 : cs.length ≤ 5 := by omega
  rw [rdW_last, if_pos ⟨h1, h5⟩]
  have hw : (cs ++ [x, y, z]).map eSt = cs.map eSt ++ [eSt x, eSt y, eSt z] := by rw [List.map_append]; rfl
  rw [hw] at hsp kl
  have hn3 : ((cs ++ [x, y, z]).length : Int) = (cs.length : Int) + 3 := by rw [hla0]; omega
  rw [hn3] at kl c1 c2
  have hlc : (cs.map eSt).length = cs.length := List.length_map _
  have hcut : DL.cutD (cs.map eSt ++ [eSt x, eSt y, eSt z]) none (some (cs.length : Int)) = cs.map eSt := by rw [cut_take, ← hlc]; exact List.take_left
  have hcut2 : DL.cutD (cs.map eSt ++ [eSt x, eSt y, eSt z]) (some ((cs.length : Int) + 3 - 2)) none = [eSt y, eSt z] := by
    have e : (cs.length : Int) + 3 - 2 = ((cs.length + 1 : Nat) : Int) := by omega
    rw [e, cut_drop, ← hlc, List.drop_append]
    rw [List.drop_eq_nil_of_le (by omega), show (cs.map eSt).length + 1 - (cs.map eSt).length = 1 by omega]
    rfl
  have i1 : L2.atI (cs.map eSt ++ [eSt x, eSt y, eSt z]) (cs.length : Int) = some (eSt x) := atI_nat (by
    rw [List.getElem?_append_right (by omega), hlc, Nat.sub_self]; rfl)
  have hb : ∀ q ∈ cs ++ [x, y, z], q.length ≤ 15000000 := fun q hq => by have := hws q hq; simp only [List.length_nil] at this; omega
  have hcells := fun s0 s1 s2 s3 s5 => lf_cells s0 s1 s2 s3 s5 cs fun q hq => by have := hb q (List.mem_append_left _ hq); omega
  have hloop := fun a b c => lf_loop a b c y z (by have := hb y (by simp); omega) (by have := hb z (by simp); omega)
  have q : dNe (eSt x) (.str "@") = some (.bl (!decide (x = [64]))) := by rw [at_sign]; exact dNe_S x [64]
  have hsz : sz (cs.map eSt).length = true := by rw [hlc]; exact sz_small (by omega)
  have s0 : sz 0 = true := sz_small (by decide)
  unfold rd3
  have hF : F__law_fact_told = runF 6 (seqD (setD 1 (lstD (spLD (rdv false 0) (kst (.str " ")))))
      (seqD (iteD (orT (tst (bop dLt (biD dLen (argsC (rdv false 1) argsN)) (kst (.int 4)))) (orT (tst (bop dGt (biD dLen (argsC (rdv false 1) argsN)) (kst (.int 8)))) (tst (bop dNe (bop dIx (rdv false 1) (bop dSub (biD dLen (argsC (rdv false 1) argsN)) (kst (.int 3)))) (kst (.str "@"))))))
      (retD (kst .non))
      (fun ε => .ok (.nx ε)))
      (seqD (setD 2 (biD dTuple (argsC (lstD C__law_fact_told_1) argsN)))
      (seqD (iteD (tst (bop dInF (kst .non) (rdv false 2)))
      (retD (kst .non))
      (fun ε => .ok (.nx ε)))
      (seqD (ownD 3 (dspD argsN))
      (seqD (loopD (walkD (slD (rdv false 1) (smO (bop dSub (biD dLen (argsC (rdv false 1) argsN)) (kst (.int 2)))) noO)) (trn (gN 4) L__law_fact_told_1))
      lfEnd)))))) := rfl
  rw [hF]
  by_cases hx : x = [64]
  · rw [if_pos hx]
    rw [decide_eq_true hx] at q
    have hin := inF_cells cs
    cases hm : mapO rdN cs with
    | none =>
      rw [hm] at hin
      generalize cs.map (fun y => oI (rdN y)) = RR at *
      generalize cs.map eSt = CL at *
      generalize S w = T at *
      generalize eSt x = E1 at *
      generalize eSt y = E2 at *
      generalize eSt z = E3 at *
      generalize hn : (cs.length : Int) = n at *
      generalize CL ++ [E1, E2, E3] = AA at *
      unfold C__law_fact_told_1
      generalize lfEnd = LE at *
      generalize L__law_fact_told_1 = L1 at *
      simp [startD_eq, List.replicate, hsp, hcut, kl, c1, c2, i1, q, -compT_eq, noOwn, hcells, hsz, hin, -dLt_int, -dGt_int, -dLen_lst, -dNe_str, oF]
    | some r =>
      rw [hm] at hin
      have hro := mapO_oI hm
      rw [hro] at hin
      simp only [hro] at hcells
      have hin2 : dInF .non (eRow r) = some (.bl false) := hin
      clear hin
      have htu : dTuple [.lst true (r.map .int)] = some (eRow r) := rfl
      have oR : old (eRow r) = eRow r := by simp
      cases hy : rdB y with
      | none =>
        simp only [hy] at hloop
        generalize eRow r = ER at *
        generalize r.map Dat.int = RI at *
        generalize cs.map eSt = CL at *
        generalize S w = T at *
        generalize eSt x = E1 at *
        generalize eSt y = E2 at *
        generalize eSt z = E3 at *
        generalize hn : (cs.length : Int) = n at *
        generalize CL ++ [E1, E2, E3] = AA at *
        unfold C__law_fact_told_1
        generalize lfEnd = LE at *
        simp [startD_eq, List.replicate, hsp, hcut, hcut2, kl, c1, c2, i1, q, -compT_eq, -trn_eq, noOwn, hcells, hsz, hin2, htu, s0, hloop, -dTuple_lst, -dLt_int, -dGt_int, -dLen_lst, -dNe_str, oF]
      | some a =>
        simp only [hy] at hloop
        cases hz : rdB z with
        | none =>
          simp only [hz] at hloop
          generalize eRow r = ER at *
          generalize r.map Dat.int = RI at *
          generalize cs.map eSt = CL at *
          generalize S w = T at *
          generalize eSt x = E1 at *
          generalize eSt y = E2 at *
          generalize eSt z = E3 at *
          generalize hn : (cs.length : Int) = n at *
          generalize CL ++ [E1, E2, E3] = AA at *
          unfold C__law_fact_told_1
          generalize lfEnd = LE at *
          simp [startD_eq, List.replicate, hsp, hcut, hcut2, kl, c1, c2, i1, q, -compT_eq, -trn_eq, noOwn, hcells, hsz, hin2, htu, s0, hloop, -dTuple_lst, -dLt_int, -dGt_int, -dLen_lst, -dNe_str, oF]
        | some b =>
          simp only [hz] at hloop
          have hend := fun s0 s1 => lf_end s0 s1 r a b
          generalize oF (if isS a b = true then some (r, (a, b)) else none) = RES at *
          generalize eRow r = ER at *
          generalize r.map Dat.int = RI at *
          generalize cs.map eSt = CL at *
          generalize S w = T at *
          generalize eSt x = E1 at *
          generalize eSt y = E2 at *
          generalize eSt z = E3 at *
          generalize hn : (cs.length : Int) = n at *
          generalize CL ++ [E1, E2, E3] = AA at *
          unfold C__law_fact_told_1
          generalize lfEnd = LE at *
          simp [startD_eq, List.replicate, hsp, hcut, hcut2, kl, c1, c2, i1, q, -compT_eq, -trn_eq, noOwn, hcells, hsz, hin2, htu, s0, hloop, hend, -dTuple_lst, -dLt_int, -dGt_int, -dLen_lst, -dNe_str]
  · rw [if_neg hx]
    rw [decide_eq_false hx] at q
    generalize cs.map eSt = CL at *
    generalize S w = T at *
    generalize eSt x = E1 at *
    generalize eSt y = E2 at *
    generalize eSt z = E3 at *
    generalize hn : (cs.length : Int) = n at *
    generalize CL ++ [E1, E2, E3] = AA at *
    generalize lfEnd = LE at *
    generalize C__law_fact_told_1 = C1 at *
    generalize L__law_fact_told_1 = L1 at *
    simp [startD_eq, List.replicate, hsp, kl, c1, c2, i1, q, -dLt_int, -dGt_int, -dLen_lst, -dNe_str, oF]
end
end LW

set_option maxRecDepth 100000
set_option maxHeartbeats 4000000
/-! MNh (k71): the law's facts are rdFs. -/
namespace LW
open PySem PySem.Spec PyProof.Rows L2 DL SP TX SX
noncomputable section
theorem eqe_oF : EqE 2 oF where
  eq a b := by
    cases a with
    | none => cases b with
      | none => exact ⟨fun _ => rfl, fun _ => by show PyData.eqv .none .none = true; rw [PyData.eqv]⟩
      | some q => exact ⟨fun z => (by
          have z : PyData.eqv .none (.tuple [toP (eRow q.1), toP (eB q.2.1), toP (eB q.2.2)]) = true := z
          rw [PyData.eqv] at z
          exact absurd z Bool.false_ne_true), fun z => (nomatch z)⟩
    | some p => cases b with
      | none => exact ⟨fun z => (by
          have z : PyData.eqv (.tuple [toP (eRow p.1), toP (eB p.2.1), toP (eB p.2.2)]) .none = true := z
          rw [PyData.eqv] at z
          exact absurd z Bool.false_ne_true), fun z => (nomatch z)⟩
      | some q => exact (eqe_F.eq p q).trans ⟨fun z => by rw [z], fun z => by cases z; rfl⟩
  lay a := by
    cases a with
    | none => show PyData.canLay0 .none = true; rw [PyData.canLay0]
    | some f => exact eqe_F.lay f
  dep a := by
    cases a with
    | none => show PyData.depth .none ≤ 2; rw [PyData.depth]; exact Nat.zero_le _
    | some f => exact eqe_F.dep f
theorem inL_facts (ws : List (List Nat)) : dIn .non (.lst true (ws.map fun y => oF (rdF y))) = some (.bl (mapO rdF ws).isNone) := by
  have e1 : SeqAt.shaped (toP .non) = true := by
    unfold SeqAt.shaped
    rw [show (toP .non).canLay0 = true from eqe_oF.lay none, Bool.true_and, decide_eq_true_eq]
    exact Nat.le_trans (eqe_oF.dep none) (by decide)
  have e2 : SeqAt.shaped (toP (.lst true (ws.map fun y => oF (rdF y)))) = true := by
    have hm : (ws.map fun y => oF (rdF y)) = (ws.map rdF).map oF := by rw [List.map_map]; rfl
    rw [hm]
    unfold SeqAt.shaped
    rw [(eqe_oF.list true).lay, Bool.true_and, decide_eq_true_eq]
    exact Nat.le_trans ((eqe_oF.list true).dep _) (by decide)
  show (if (SeqAt.shaped (toP .non) && SeqAt.shaped (toP (.lst true (ws.map fun y => oF (rdF y))))) = true then some (Dat.bl ((ws.map fun y => oF (rdF y)).any fun e => deq e .non)) else none) = _
  rw [e1, e2, if_pos (show (true && true) = true from rfl)]
  congr 2
  clear e1 e2
  induction ws with
  | nil => rfl
  | cons y ws ih =>
    unfold mapO
    rw [List.map_cons, List.any_cons, ih]
    cases hy : rdF y with
    | none =>
      have : deq (oF none) .non = true := (eqe_oF.eq none none).mpr rfl
      rw [this]
      rfl
    | some f =>
      have : deq (oF (some f)) .non = false := by
        cases h : deq (oF (some f)) .non with
        | false => rfl
        | true => exact absurd ((eqe_oF.eq (some f) none).mp h) (by simp)
      rw [this]
      show (false || (mapO rdF ws).isNone) = _
      cases mapO rdF ws <;> rfl
theorem mapO_oF : ∀ {ws : List (List Nat)} {r : List Ft}, mapO rdF ws = some r → (ws.map fun y => oF (rdF y)) = r.map eF
  | [], r, h => by cases h; rfl
  | y :: ws, r, h => by
    unfold mapO at h
    cases hy : rdF y with
    | none => rw [hy] at h; cases h
    | some i =>
      rw [hy] at h
      cases hm : mapO rdF ws with
      | none => rw [hm] at h; cases h
      | some q =>
        rw [hm] at h
        cases h
        rw [List.map_cons, List.map_cons, mapO_oF hm, hy]
        rfl
theorem ll_loop (s0 s3 : Option (Bool × Dat)) (f0 : Ft) (r : List Dat) : ∀ fs : List Ft,
    forD (trn (gN 2) L__law_told_1) (fs.map eF) [s0, some (false, .lst true (eF f0 :: r)), none, s3] = if (fs.all fun f => decide (f.1.length = f0.1.length)) = true then .ok (.nx [s0, some (false, .lst true (eF f0 :: r)), none, s3]) else .ok (.rt .non)
  | [] => rfl
  | f :: fs => by
    have ih := ll_loop s0 s3 f0 r fs
    have l1 : dLen [eRow f.1] = some (.int (f.1.length : Int)) := by show some (Dat.int ((f.1.map Dat.int).length : Int)) = _; rw [List.length_map]
    have l2 : dLen [eRow f0.1] = some (.int (f0.1.length : Int)) := by show some (Dat.int ((f0.1.map Dat.int).length : Int)) = _; rw [List.length_map]
    have hne : dNe (.int (f.1.length : Int)) (.int (f0.1.length : Int)) = some (.bl (!decide (f.1.length = f0.1.length))) := by
      have := EqE.int.neNe (by decide) (f.1.length : Int) (f0.1.length : Int)
      rw [this]
      congr 3
      rw [decide_eq_decide]
      omega
    rw [List.all_cons]
    cases hd : decide (f.1.length = f0.1.length) with
    | true =>
      rw [hd] at hne
      have step : trn (gN 2) L__law_told_1 (eF f) [s0, some (false, .lst true (eF f0 :: r)), none, s3] = .ok (.nx [s0, some (false, .lst true (eF f0 :: r)), none, s3]) := by
        unfold eF
        generalize eRow f.1 = R at *
        generalize eRow f0.1 = R0 at *
        generalize (f.1.length : Int) = n at *
        generalize (f0.1.length : Int) = n0 at *
        simp [L__law_told_1, l1, l2, hne, -dNe_int]
      rw [List.map_cons, forD, step, Bool.true_and]
      exact ih
    | false =>
      rw [hd] at hne
      have step : trn (gN 2) L__law_told_1 (eF f) [s0, some (false, .lst true (eF f0 :: r)), none, s3] = .ok (.rt .non) := by
        unfold eF
        generalize eRow f.1 = R at *
        generalize eRow f0.1 = R0 at *
        generalize (f.1.length : Int) = n at *
        generalize (f0.1.length : Int) = n0 at *
        simp [L__law_told_1, l1, l2, hne, -dNe_int]
      rw [List.map_cons, forD, step, Bool.false_and, if_neg Bool.false_ne_true]
      rfl
def oL : Option (List Ft) → Dat
  | none => .non
  | some fs => .lst true (fs.map eF)
theorem told (w : List Nat) (hl : w.length ≤ 15000000) : F__law_told [.str (S w)] = .ok (oL (rdFs w)) := by
  have hq := dEq_S w []
  rw [← nil_eq] at hq
  have s0 : sz 0 = true := sz_small (by decide)
  have hk : dIsi "str" (.str (S w)) = some (.bl true) := rfl
  unfold rdFs
  by_cases h0 : w = []
  · rw [if_pos h0]
    rw [decide_eq_true h0] at hq
    unfold F__law_told
    generalize C__law_told_1 = C1 at *
    generalize S w = T at *
    simp [startD_eq, List.replicate, hk, hq, s0, -dEq_str, oL]
  · rw [if_neg h0]
    rw [decide_eq_false h0] at hq
    have hsp := split_semi hl
    obtain ⟨n1, n2, hws⟩ := spl_bd [59, 32] w 0 []
    generalize TL.spl [59, 32] 0 [] w = ws at *
    have hc : ∀ s0 s1 s2, compL (compT (gN 3) yesT (callD 1 F__law_fact_told (argsC (rdv true 3) argsN)) [s0, s1, s2, none]) (ws.map eSt) = .ok (ws.map fun y => oF (rdF y)) := fun s0 s1 s2 => by
      refine compL_map fun y hy => ?_
      have hr := fact_told y (by have := hws y hy; simp only [List.length_nil] at this; omega)
      show compT _ _ _ _ (Dat.str (S y)) = _
      generalize S y = Wd at *
      simp [hr]
    have hsz : sz (ws.map eSt).length = true := by rw [List.length_map]; exact sz_small (by omega)
    have hin := inL_facts ws
    cases hm : mapO rdF ws with
    | none =>
      rw [hm] at hin
      generalize (ws.map fun y => oF (rdF y)) = RR at *
      generalize ws.map eSt = CL at *
      generalize S w = T at *
      unfold F__law_told C__law_told_1
      simp [startD_eq, List.replicate, hk, hq, hsp, -compT_eq, noOwn, hc, hsz, hin, -dEq_str, oL]
    | some fs =>
      rw [hm] at hin
      have hro := mapO_oF hm
      rw [hro] at hin
      simp only [hro] at hc
      clear hro
      have hfl := mapO_len hm
      have kl : dLen [.lst true (fs.map eF)] = some (.int (fs.length : Int)) := by show some (Dat.int ((fs.map eF).length : Int)) = _; rw [List.length_map]
      have hg : dGt (.int (fs.length : Int)) (.int 60) = some (.bl (decide (60 < fs.length))) := by
        have : dGt (.int (fs.length : Int)) (.int 60) = some (.bl (decide ((60 : Int) < (fs.length : Int)))) := by simp
        rw [this]
        congr 2
        simp only [decide_eq_decide]
        omega
      by_cases h60 : 60 < fs.length
      · show _ = Rs.ok (oL (if _ then _ else _))
        rw [if_neg (by omega)]
        rw [decide_eq_true h60] at hg
        generalize fs.map eF = FL at *
        generalize (fs.length : Int) = n at *
        generalize ws.map eSt = CL at *
        generalize S w = T at *
        unfold F__law_told C__law_told_1
        simp [startD_eq, List.replicate, hk, hq, hsp, -compT_eq, noOwn, hc, hsz, hin, kl, hg, -dEq_str, -dLen_lst, -dGt_int, oL]
      · rw [decide_eq_false h60] at hg
        obtain ⟨f0, fr, rfl⟩ : ∃ f0 fr, fs = f0 :: fr := by
          cases fs with
          | nil => simp at hfl; omega
          | cons f0 fr => exact ⟨f0, fr, rfl⟩
        have hlo := fun s0 s3 => ll_loop s0 s3 f0 (fr.map eF) (f0 :: fr)
        have hsm : sameW (f0 :: fr) = (f0 :: fr).all fun f => decide (f.1.length = f0.1.length) := rfl
        have ho : olds ((f0 :: fr).map eF) = (f0 :: fr).map eF := olds_map _ _ old_eF _
        cases hs : sameW (f0 :: fr) with
        | true =>
          rw [← hsm, hs] at hlo
          show _ = Rs.ok (oL (if _ then _ else _))
          rw [if_pos ⟨by omega, hs⟩]
          simp only [if_true] at hlo
          show _ = Rs.ok (Dat.lst true ((f0 :: fr).map eF))
          have hlo : ∀ s0 s3, forD (trn (gN 2) L__law_told_1) ((f0 :: fr).map eF) [s0, some (false, .lst true ((f0 :: fr).map eF)), none, s3] = .ok (.nx [s0, some (false, .lst true ((f0 :: fr).map eF)), none, s3]) := hlo
          generalize (f0 :: fr).map eF = FL at *
          generalize ((f0 :: fr).length : Int) = n at *
          generalize ws.map eSt = CL at *
          generalize S w = T at *
          unfold F__law_told C__law_told_1
          simp [startD_eq, List.replicate, hk, hq, hsp, -compT_eq, -trn_eq, noOwn, hc, hsz, hin, kl, hg, hlo, ho, -dEq_str, -dLen_lst, -dGt_int]
        | false =>
          rw [← hsm, hs] at hlo
          show _ = Rs.ok (oL (if _ then _ else _))
          rw [if_neg (by rw [hs]; simp)]
          simp only [if_neg Bool.false_ne_true] at hlo
          have hlo : ∀ s0 s3, forD (trn (gN 2) L__law_told_1) ((f0 :: fr).map eF) [s0, some (false, .lst true ((f0 :: fr).map eF)), none, s3] = .ok (.rt .non) := hlo
          generalize (f0 :: fr).map eF = FL at *
          generalize ((f0 :: fr).length : Int) = n at *
          generalize ws.map eSt = CL at *
          generalize S w = T at *
          unfold F__law_told C__law_told_1
          simp [startD_eq, List.replicate, hk, hq, hsp, -compT_eq, -trn_eq, noOwn, hc, hsz, hin, kl, hg, hlo, ho, -dEq_str, -dLen_lst, -dGt_int, oL]
end
end LW

set_option maxRecDepth 100000
set_option maxHeartbeats 4000000
/-! MNi (k71): the law finds each reading right. -/
namespace LW
open PySem PySem.Spec PyProof.Rows L2 DL SP TX SX
noncomputable section
theorem whole_eq (i : Int) : F__law_whole [.int i] = .ok (.bl true) := by
  unfold F__law_whole
  simp [startD_eq, List.replicate]
theorem li_in (a b c : Option (Bool × Dat)) : ∀ l : List Bd, forD (trn (gN 3) L__law_is_facts_1) (l.map eB) [a, b, c, none] = .ok (.nx [a, b, c, none])
  | [] => rfl
  | none :: l => by
    have ih := li_in a b c l
    have step : trn (gN 3) L__law_is_facts_1 (eB none) [a, b, c, none] = .ok (.nx [a, b, c, none]) := by
      simp [L__law_is_facts_1, eB]
    rw [List.map_cons, forD, step]
    exact ih
  | some i :: l => by
    have ih := li_in a b c l
    have hw := whole_eq i
    have step : trn (gN 3) L__law_is_facts_1 (eB (some i)) [a, b, c, none] = .ok (.nx [a, b, c, none]) := by
      simp [L__law_is_facts_1, eB, hw]
    rw [List.map_cons, forD, step]
    exact ih
theorem li_step (a b : Option (Bool × Dat)) (f : Ft) (hf : f.1.length ≤ 5) : trn (gN 2) L__law_is_facts_2 (eF f) [a, b, none, none] = .ok (.nx [a, b, none, none]) := by
  have hl : f.1.map Dat.int ++ [eB f.2.1, eB f.2.2] = (f.1.map some ++ [f.2.1, f.2.2]).map eB := by
    rw [List.map_append, List.map_map]
    rfl
  have ha : dAdd (eRow f.1) (.tup [eB f.2.1, eB f.2.2]) = some (.tup ((f.1.map some ++ [f.2.1, f.2.2]).map eB)) := by
    show (if (f.1.map Dat.int).length + 2 ≤ sizeLine then some (Dat.tup (f.1.map Dat.int ++ [eB f.2.1, eB f.2.2])) else none) = _
    rw [if_pos (by rw [List.length_map, sizeLine_eq]; omega), hl]
  have hin := fun a b c => li_in a b c (f.1.map some ++ [f.2.1, f.2.2])
  have hit : dIsi "tuple" (eRow f.1) = some (.bl true) := isi_tuple
  have hsl : DL.cutD [eRow f.1, eB f.2.1, eB f.2.2] (some 1) none = [eB f.2.1, eB f.2.2] := rfl
  have oa : old (eB f.2.1) = eB f.2.1 := by simp
  have ob : old (eB f.2.2) = eB f.2.2 := by simp
  have oR : old (eRow f.1) = eRow f.1 := by simp
  unfold eF
  generalize (f.1.map some ++ [f.2.1, f.2.2]).map eB = LL at *
  generalize eRow f.1 = RR at *
  generalize eB f.2.1 = A at *
  generalize eB f.2.2 = B at *
  rw [trn_eq]
  simp [L__law_is_facts_2, hit, hsl, ha, -trn_eq, hin, oa, ob, oR]
theorem li_loop (a b : Option (Bool × Dat)) : ∀ fs : List Ft, (∀ f ∈ fs, f.1.length ≤ 5) → forD (trn (gN 2) L__law_is_facts_2) (fs.map eF) [a, b, none, none] = .ok (.nx [a, b, none, none])
  | [], _ => rfl
  | f :: fs, h => by
    have ih := li_loop a b fs fun q hq => h q (List.mem_cons_of_mem _ hq)
    rw [List.map_cons, forD, li_step a b f (h f List.mem_cons_self)]
    exact ih
theorem is_facts (t u : Bool) (fs : List Ft) (h : ∀ f ∈ fs, f.1.length ≤ 5) : F__law_is_facts [.lst t (fs.map eF), .lst u (fs.map eF)] = .ok (.bl true) := by
  have hne := eqe_F.neL (t := t) (u := u) (by decide) fs fs
  rw [decide_eq_true rfl] at hne
  have hlo := fun a b => li_loop a b fs h
  have ho : olds (fs.map eF) = fs.map eF := olds_map _ _ old_eF _
  generalize fs.map eF = FL at *
  unfold F__law_is_facts
  simp [startD_eq, List.replicate, hne, -trn_eq, hlo, ho]
theorem rdF_len {w : List Nat} {f : Ft} (h : rdF w = some f) : f.1.length ≤ 5 := by
  unfold rdF rdW at h
  split at h
  · rename_i hc
    unfold rd3 at h
    split at h
    · split at h
      · cases h
      · rename_i r hm
        have hl := mapO_len hm
        split at h
        · cases h
        · split at h
          · cases h
          · split at h
            · cases h
              rw [hl, List.length_take]
              omega
            · cases h
    · cases h
  · cases h
theorem mapO_mem {α β : Type} {k : α → Option β} : ∀ {l : List α} {m : List β}, mapO k l = some m → ∀ b ∈ m, ∃ a ∈ l, k a = some b
  | [], m, h, b, hb => by cases h; cases hb
  | a :: l, m, h, b, hb => by
    unfold mapO at h
    cases hk : k a with
    | none => rw [hk] at h; cases h
    | some q =>
      rw [hk] at h
      cases hm : mapO k l with
      | none => rw [hm] at h; cases h
      | some r =>
        rw [hm] at h
        cases h
        rcases List.mem_cons.mp hb with e | hb
        · exact ⟨a, List.mem_cons_self, by rw [hk, e]⟩
        · obtain ⟨a', h1, h2⟩ := mapO_mem hm b hb
          exact ⟨a', List.mem_cons_of_mem _ h1, h2⟩
theorem rdFs_len {w : List Nat} {fs : List Ft} (h : rdFs w = some fs) : ∀ f ∈ fs, f.1.length ≤ 5 := by
  unfold rdFs at h
  split at h
  · cases h
    intro f hf
    cases hf
  · split at h
    · cases h
    · rename_i hm
      split at h
      · cases h
        intro f hf
        obtain ⟨a, _, h2⟩ := mapO_mem hm f hf
        exact rdF_len h2
      · cases h
theorem right_S (w : List Nat) (hl : w.length ≤ 15000000) : F__law_right [.str (S w)] = .ok (.bl true) := by
  have h1 := told w hl
  have h2 := rd_facts w hl
  cases hr : rdFs w with
  | none =>
    rw [hr] at h1 h2
    have h1 : F__law_told [.str (S w)] = .ok .non := h1
    have h2 : F_read_facts [.str (S w)] = .ex "NoText" := h2
    generalize S w = T at *
    unfold F__law_right
    simp [startD_eq, List.replicate, h1, h2, tryD, isxD, List.lookup]
  | some fs =>
    rw [hr] at h1 h2
    have h1 : F__law_told [.str (S w)] = .ok (.lst true (fs.map eF)) := h1
    have h2 : F_read_facts [.str (S w)] = .ok (.lst true (fs.map eF)) := h2
    have h3 := fun t u => is_facts t u fs (rdFs_len hr)
    have ho : olds (fs.map eF) = fs.map eF := olds_map _ _ old_eF _
    have hnn : dNotN (.lst true (fs.map eF)) .non = some (.bl true) := rfl
    generalize fs.map eF = FL at *
    generalize S w = T at *
    unfold F__law_right
    simp [startD_eq, List.replicate, h1, h2, h3, hnn, ho, tryD, sto, isxD, List.lookup]
/-- what is no text -/
theorem right_X {d : Dat} (h : dIsi "str" d = some (.bl false)) (ho : old d = d) : F__law_right [d] = .ok (.bl true) := by
  have h1 : F__law_told [d] = .ok .non := by
    unfold F__law_told
    simp [startD_eq, List.replicate, h]
  have h2 : F_read_facts [d] = .ex "NoText" := by
    unfold F_read_facts
    simp [startD_eq, List.replicate, h]
  unfold F__law_right
  simp [startD_eq, List.replicate, h1, h2, ho, tryD, isxD, List.lookup]
end
end LW

set_option maxRecDepth 100000
set_option maxHeartbeats 4000000
/-! MNj (k71): what the law draws: numbers, bounds, words. -/
namespace LW
open PySem PySem.Spec PyProof.Rows L2 DL SP TX SX
noncomputable section
theorem p60 : dPow (.int 10) (.int 60) = some (.int (10 ^ 60)) := by simpa using dPow_int (x := 10) (y := 60) (by decide) (by decide) (by decide)
theorem number_ok (c : Int) (j : Nat) (hj : j ≤ 500) : ∃ n : Int, F__law_number [.int c, .int j] = .ok (.int n) ∧ n.natAbs < 10 ^ 60 := by
  obtain ⟨m1, m2, m3⟩ := mix_eq c j (by omega)
  generalize mixV c j = d at *
  have h3 : dMod (.int d) (.int 3) = some (.int (d % 3)) := dMod_int (by decide)
  have h4 : dFdiv (.int d) (.int 3) = some (.int (d / 3)) := dFdiv_int (by decide) (by decide)
  have h5 : dMod (.int (d / 3)) (.int 5) = some (.int (d / 3 % 5)) := dMod_int (by decide)
  have h6 : dMod (.int (d / 3)) (.int 2001) = some (.int (d / 3 % 2001)) := dMod_int (by decide)
  have h7 : dMul (.int c) (.int ((j : Int) + 1)) = some (.int (c * ((j : Int) + 1))) := dMul_r (by omega) (by omega)
  have h8 : dMul (.int 2) (.int (10 ^ 60)) = some (.int (2 * 10 ^ 60)) := dMul_l (by decide) (by decide)
  have e1 : ∀ k : Int, dEq (.int (d % 3)) (.int k) = some (.bl (decide (d % 3 = k))) := fun k => by simp
  have q := p60
  unfold F__law_number
  generalize F__law_mix = FM at *
  by_cases h0 : d % 3 = 0
  · have e := e1 0
    rw [decide_eq_true h0] at e
    refine ⟨d / 3 % 5 - 2, ?_, by omega⟩
    simp [startD_eq, List.replicate, m1, h3, h4, h5, e, -dEq_int]
  · have e := e1 0
    rw [decide_eq_false h0] at e
    by_cases h1 : d % 3 = 1
    · have e' := e1 1
      rw [decide_eq_true h1] at e'
      refine ⟨d / 3 % 2001 - 1000, ?_, by omega⟩
      simp [startD_eq, List.replicate, m1, h3, h4, h6, e, e', -dEq_int]
    · have e' := e1 1
      rw [decide_eq_false h1] at e'
      generalize hP : (10 : Int) ^ 60 = P at *
      have hP1 : P = 10 ^ 60 := hP.symm
      have h9 : ∀ x : Int, dMod (.int x) (.int (2 * P - 1)) = some (.int (x % (2 * P - 1))) := fun x => dMod_int (by omega)
      generalize hx : c * ((j : Int) + 1) = x at *
      refine ⟨(x + P - 1) % (2 * P - 1) - (P - 1), ?_, ?_⟩
      · simp [startD_eq, List.replicate, m1, h3, e, e', h7, h8, q, h9, -dEq_int]
      · have a1 := Int.emod_nonneg (x + P - 1) (b := 2 * P - 1) (by omega)
        have a2 := Int.emod_lt_of_pos (x + P - 1) (b := 2 * P - 1) (by omega)
        omega
end
end LW

set_option maxRecDepth 100000
set_option maxHeartbeats 4000000
/-! MNk (k71): the law's bounds and words. -/
namespace LW
open PySem PySem.Spec PyProof.Rows L2 DL SP TX SX
noncomputable section
def numV (c : Int) (j : Nat) : Int := match F__law_number [.int c, .int j] with
  | .ok (.int z) => z
  | _ => 0
theorem number_eq (c : Int) (j : Nat) (hj : j ≤ 500) : F__law_number [.int c, .int j] = .ok (.int (numV c j)) ∧ (numV c j).natAbs < 10 ^ 60 := by
  obtain ⟨z, h, h1⟩ := number_ok c j hj
  unfold numV
  rw [h]
  exact ⟨rfl, h1⟩
def bdOk : Bd → Prop
  | none => True
  | some i => i.natAbs < 10 ^ 60
def bdZ : Bd → List Nat
  | none => [42]
  | some i => numZ i
theorem bdZ_len {b : Bd} (h : bdOk b) : (bdZ b).length ≤ 61 := by
  cases b with
  | none => show 1 ≤ 61; decide
  | some i => exact numZ_len h
theorem word_eq {b : Bd} (h : bdOk b) : F__law_word [eB b] = .ok (.str (S (bdZ b))) := by
  cases b with
  | none =>
    have e : S (bdZ none) = (Str.ofString "*") := star_eq.symm
    rw [e]
    unfold F__law_word
    simp [startD_eq, List.replicate, eB]
  | some i =>
    have h : i.natAbs < 10 ^ 60 := h
    have hs := dStr_int (i := i) (log_small (by omega))
    unfold F__law_word
    show _ = Rs.ok (Dat.str (S (numZ i)))
    generalize S (numZ i) = T at *
    simp [startD_eq, List.replicate, eB, hs]
def bT3 : DEnv → Rs Out :=
  (seqD (iteD (tst (bop dEq (bop dMod (callD 2 F__law_mix (argsC (rdv true 0) (argsC (kst (.int 23)) argsN))) (kst (.int 5))) (kst (.int 1))))
  (setD 1 (kst .non))
  (fun ε => .ok (.nx ε)))
  (seqD (iteD (tst (bop dEq (bop dMod (callD 2 F__law_mix (argsC (rdv true 0) (argsC (kst (.int 24)) argsN))) (kst (.int 5))) (kst (.int 1))))
  (setD 2 (kst .non))
  (fun ε => .ok (.nx ε)))
  (retD (tupD (argsC (rdv true 1) (argsC (rdv true 2) argsN))))))
def bT2 : DEnv → Rs Out :=
  (seqD (iteD (andT (tst (bop dEq (rdv false 1) (rdv false 2))) (tst (bop dGt (bop dMod (callD 2 F__law_mix (argsC (rdv true 0) (argsC (kst (.int 22)) argsN))) (kst (.int 6))) (kst (.int 0)))))
  (setD 1 (bop dSub (rdv false 1) (biD dInt (argsC (bop dGt (rdv false 1) (uop dNeg (bop dSub (bop dPow (kst (.int 10)) (kst (.int 60))) (kst (.int 1))))) argsN))))
  (fun ε => .ok (.nx ε)))
  bT3)
def BdR (R : Rs Out) : Prop := ∃ a b : Bd, R = .ok (.rt (.tup [eB a, eB b])) ∧ bdOk a ∧ bdOk b
theorem bT3_ok (c x y : Int) (hx : x.natAbs < 10 ^ 60) (hy : y.natAbs < 10 ^ 60) : BdR (bT3 [some (false, .int c), some (false, .int x), some (false, .int y)]) := by
  obtain ⟨m1, _, _⟩ := mix_eq c 23 (by decide)
  obtain ⟨n1, _, _⟩ := mix_eq c 24 (by decide)
  have m1 : F__law_mix [.int c, .int 23] = .ok (.int (mixV c 23)) := m1
  have n1 : F__law_mix [.int c, .int 24] = .ok (.int (mixV c 24)) := n1
  generalize mixV c 23 = u at *
  generalize mixV c 24 = v at *
  have h5 : ∀ d : Int, dMod (.int d) (.int 5) = some (.int (d % 5)) := fun d => dMod_int (by decide)
  have s2 : sz 2 = true := sz_small (by decide)
  have e1 : ∀ k : Int, dEq (.int (k % 5)) (.int 1) = some (.bl (decide (k % 5 = 1))) := fun k => by simp
  unfold bT3
  generalize F__law_mix = FM at *
  have eu := e1 u
  have ev := e1 v
  by_cases hu : u % 5 = 1
  · rw [decide_eq_true hu] at eu
    by_cases hv : v % 5 = 1
    · rw [decide_eq_true hv] at ev
      refine ⟨none, none, ?_, trivial, trivial⟩
      simp [m1, n1, h5, eu, ev, s2, eB, -dEq_int]
    · rw [decide_eq_false hv] at ev
      refine ⟨none, some y, ?_, trivial, hy⟩
      simp [m1, n1, h5, eu, ev, s2, eB, -dEq_int]
  · rw [decide_eq_false hu] at eu
    by_cases hv : v % 5 = 1
    · rw [decide_eq_true hv] at ev
      refine ⟨some x, none, ?_, hx, trivial⟩
      simp [m1, n1, h5, eu, ev, s2, eB, -dEq_int]
    · rw [decide_eq_false hv] at ev
      refine ⟨some x, some y, ?_, hx, hy⟩
      simp [m1, n1, h5, eu, ev, s2, eB, -dEq_int]
theorem bT2_ok (c x y : Int) (hx : x.natAbs < 10 ^ 60) (hy : y.natAbs < 10 ^ 60) : BdR (bT2 [some (false, .int c), some (false, .int x), some (false, .int y)]) := by
  obtain ⟨m1, _, _⟩ := mix_eq c 22 (by decide)
  have m1 : F__law_mix [.int c, .int 22] = .ok (.int (mixV c 22)) := m1
  generalize mixV c 22 = u at *
  have h6 : dMod (.int u) (.int 6) = some (.int (u % 6)) := dMod_int (by decide)
  have e1 : dEq (.int x) (.int y) = some (.bl (decide (x = y))) := by simp
  have g1 : dGt (.int (u % 6)) (.int 0) = some (.bl (decide (0 < u % 6))) := by simp
  have q := p60
  unfold bT2
  by_cases h1 : x = y
  · rw [decide_eq_true h1] at e1
    by_cases h2 : 0 < u % 6
    · rw [decide_eq_true h2] at g1
      have g2 : dGt (.int x) (.int (-(10 ^ 60 - 1))) = some (.bl (decide (-(10 ^ 60 - 1) < x))) := by simp
      have hz : ∃ z : Int, dSub (.int x) (.int (if decide (-(10 ^ 60 - 1) < x) then 1 else 0)) = some (.int z) ∧ z.natAbs < 10 ^ 60 := by
        refine ⟨_, dSub_int, ?_⟩
        by_cases hh : -(10 ^ 60 - 1) < x
        · rw [decide_eq_true hh, if_pos rfl]; omega
        · rw [decide_eq_false hh, if_neg Bool.false_ne_true]; omega
      obtain ⟨z, hz, hzb⟩ := hz
      have key := bT3_ok c z y hzb hy
      generalize hP : (10 : Int) ^ 60 = P at *
      generalize decide (-(P - 1) < x) = bb at *
      have ib := int_bl bb
      generalize (if bb = true then (1 : Int) else 0) = w at *
      generalize bT3 = T3 at *
      generalize F__law_mix = FM at *
      have : (seqD (iteD (andT (tst (bop dEq (rdv false 1) (rdv false 2))) (tst (bop dGt (bop dMod (callD 2 FM (argsC (rdv true 0) (argsC (kst (.int 22)) argsN))) (kst (.int 6))) (kst (.int 0)))))
          (setD 1 (bop dSub (rdv false 1) (biD dInt (argsC (bop dGt (rdv false 1) (uop dNeg (bop dSub (bop dPow (kst (.int 10)) (kst (.int 60))) (kst (.int 1))))) argsN))))
          (fun ε => .ok (.nx ε)))
          T3) [some (false, .int c), some (false, .int x), some (false, .int y)] = T3 [some (false, .int c), some (false, .int z), some (false, .int y)] := by
        simp [m1, h6, e1, g1, q, g2, ib, hz, -dEq_int, -dGt_int]
      rw [this]
      exact key
    · rw [decide_eq_false h2] at g1
      have key := bT3_ok c x y hx hy
      generalize bT3 = T3 at *
      generalize F__law_mix = FM at *
      have : (seqD (iteD (andT (tst (bop dEq (rdv false 1) (rdv false 2))) (tst (bop dGt (bop dMod (callD 2 FM (argsC (rdv true 0) (argsC (kst (.int 22)) argsN))) (kst (.int 6))) (kst (.int 0)))))
          (setD 1 (bop dSub (rdv false 1) (biD dInt (argsC (bop dGt (rdv false 1) (uop dNeg (bop dSub (bop dPow (kst (.int 10)) (kst (.int 60))) (kst (.int 1))))) argsN))))
          (fun ε => .ok (.nx ε)))
          T3) [some (false, .int c), some (false, .int x), some (false, .int y)] = T3 [some (false, .int c), some (false, .int x), some (false, .int y)] := by
        simp [m1, h6, e1, g1, -dEq_int, -dGt_int]
      rw [this]
      exact key
  · rw [decide_eq_false h1] at e1
    have key := bT3_ok c x y hx hy
    generalize bT3 = T3 at *
    generalize F__law_mix = FM at *
    have : (seqD (iteD (andT (tst (bop dEq (rdv false 1) (rdv false 2))) (tst (bop dGt (bop dMod (callD 2 FM (argsC (rdv true 0) (argsC (kst (.int 22)) argsN))) (kst (.int 6))) (kst (.int 0)))))
        (setD 1 (bop dSub (rdv false 1) (biD dInt (argsC (bop dGt (rdv false 1) (uop dNeg (bop dSub (bop dPow (kst (.int 10)) (kst (.int 60))) (kst (.int 1))))) argsN))))
        (fun ε => .ok (.nx ε)))
        T3) [some (false, .int c), some (false, .int x), some (false, .int y)] = T3 [some (false, .int c), some (false, .int x), some (false, .int y)] := by
      simp [e1, -dEq_int]
    rw [this]
    exact key
theorem bounds_ok (c : Int) : ∃ a b : Bd, F__law_bounds [.int c] = .ok (.tup [eB a, eB b]) ∧ bdOk a ∧ bdOk b := by
  obtain ⟨m1, _, _⟩ := mix_eq c 22 (by decide)
  have m1 : F__law_mix [.int c, .int 22] = .ok (.int (mixV c 22)) := m1
  generalize mixV c 22 = u at *
  have h6 : dMod (.int u) (.int 6) = some (.int (u % 6)) := dMod_int (by decide)
  have g1 : dGt (.int (u % 6)) (.int 0) = some (.bl (decide (0 < u % 6))) := by simp
  obtain ⟨nx, bx⟩ := number_eq c 20 (by decide)
  obtain ⟨ny, by_⟩ := number_eq c 21 (by decide)
  have nx : F__law_number [.int c, .int 20] = .ok (.int (numV c 20)) := nx
  have ny : F__law_number [.int c, .int 21] = .ok (.int (numV c 21)) := ny
  generalize numV c 20 = x at *
  generalize numV c 21 = y at *
  have ge : dGe (.int x) (.int y) = some (.bl (decide (y ≤ x))) := by simp
  have key : ∃ p q : Int, p.natAbs < 10 ^ 60 ∧ q.natAbs < 10 ^ 60 ∧ F__law_bounds [.int c] = (bT2 [some (false, .int c), some (false, .int p), some (false, .int q)] >>= fun o => match o with
      | .nx _ => .ok .non
      | .rt d => .ok d
      | _ => .no) := by
    have hF : F__law_bounds = runF 3 (seqD (setD 1 (callD 2 F__law_number (argsC (rdv true 0) (argsC (kst (.int 20)) argsN))))
      (seqD (setD 2 (callD 2 F__law_number (argsC (rdv true 0) (argsC (kst (.int 21)) argsN))))
      (seqD (iteD (andT (tst (bop dGe (rdv false 1) (rdv false 2))) (tst (bop dGt (bop dMod (callD 2 F__law_mix (argsC (rdv true 0) (argsC (kst (.int 22)) argsN))) (kst (.int 6))) (kst (.int 0)))))
      (parD 1 2 (argsC (rdv true 2) (argsC (rdv true 1) argsN)))
      (fun ε => .ok (.nx ε))) bT2))) := rfl
    rw [hF]
    generalize bT2 = T2 at *
    generalize F__law_mix = FM at *
    generalize F__law_number = FN at *
    by_cases h1 : y ≤ x
    · rw [decide_eq_true h1] at ge
      by_cases h2 : 0 < u % 6
      · rw [decide_eq_true h2] at g1
        refine ⟨y, x, by_, bx, ?_⟩
        simp [startD_eq, List.replicate, nx, ny, ge, m1, h6, g1, parD, -dGe_int, -dGt_int]
        all_goals (cases T2 [some (false, .int c), some (false, .int y), some (false, .int x)] <;> first | rfl | (rename_i o; cases o <;> rfl))
      · rw [decide_eq_false h2] at g1
        refine ⟨x, y, bx, by_, ?_⟩
        simp [startD_eq, List.replicate, nx, ny, ge, m1, h6, g1, -dGe_int, -dGt_int]
        all_goals (cases T2 [some (false, .int c), some (false, .int x), some (false, .int y)] <;> first | rfl | (rename_i o; cases o <;> rfl))
    · rw [decide_eq_false h1] at ge
      refine ⟨x, y, bx, by_, ?_⟩
      simp [startD_eq, List.replicate, nx, ny, ge, -dGe_int]
      all_goals (cases T2 [some (false, .int c), some (false, .int x), some (false, .int y)] <;> first | rfl | (rename_i o; cases o <;> rfl))
  obtain ⟨p, q, hp, hq, e⟩ := key
  obtain ⟨a, b, h, ha, hb⟩ := bT2_ok c p q hp hq
  exact ⟨a, b, by rw [e, h]; rfl, ha, hb⟩
end
end LW

set_option maxRecDepth 100000
set_option maxHeartbeats 4000000
/-! MNl (k71): the law's texts. -/
namespace LW
open PySem PySem.Spec PyProof.Rows L2 DL SP TX SX
noncomputable section
theorem atI_int {ns : List Int} {k : Int} (h : 0 ≤ k) (h2 : k < ns.length) : ∃ n, atI (ns.map Dat.int) k = some (.int n) := by
  have hk : k.toNat < ns.length := by omega
  exact ⟨ns[k.toNat], atI_map rfl Dat.int h (List.getElem?_eq_getElem hk)⟩
theorem sum_leN {L : List Nat} {b : Nat} (h : ∀ x ∈ L, x ≤ b) : L.sum ≤ L.length * b := by
  induction L with
  | nil => simp
  | cons a L ih =>
    have h1 := h a (by simp)
    have h2 := ih fun x hx => h x (by simp [hx])
    rw [List.sum_cons, List.length_cons, Nat.add_mul, Nat.one_mul]
    omega
theorem tx_cells (s0 s1 s2 s3 s4 s5 s7 s8 s9 : Option (Bool × Dat)) (c : Int) (n : Nat) (hn : n ≤ 100) :
    compL (compT (gN 10) yesT (biD dStr (argsC (callD 2 F__law_number (argsC (rdv true 6) (argsC (bop dAdd (kst (.int 5)) (rdv false 10)) argsN))) argsN)) [s0, s1, s2, s3, s4, s5, some (false, .int c), s7, s8, s9, none]) (rng 0 n) = .ok (((List.range n).map fun i => numZ (numV c (5 + i))).map eSt) := by
  rw [List.map_map]
  refine compL_rng fun i hi => ?_
  obtain ⟨h1, h2⟩ := number_eq c (5 + i) (by omega)
  have hs := dStr_int (i := numV c (5 + i)) (log_small (by omega))
  have e : ((5 + i : Nat) : Int) = 5 + (i : Int) := by omega
  rw [e] at h1
  show _ = Rs.ok (some (Dat.str (S (numZ (numV c (5 + i))))))
  generalize numV c (5 + i) = v at *
  generalize S (numZ v) = T at *
  generalize F__law_number = FN at *
  simp [h1, hs]
/-- one fact's text -/
theorem tx_step (t : Bool) (cs : List Int) (at_ n k : Nat) (s3 : Option (Bool × Dat)) (hc : 1 ≤ cs.length) (hn : n ≤ 100) (ws : List (List Nat)) (hws : ws.length ≤ 1000) :
    ∃ y : List Nat, y.length ≤ 7000 ∧ trn (gN 5) L__law_text_1 (.int (k : Int)) [some (false, .lst t (cs.map .int)), some (false, .int (at_ : Int)), some (false, .int (n : Int)), s3, some (true, .lst true (ws.map eSt)), none, none, none, none, none, none] =
      .ok (.nx [some (false, .lst t (cs.map .int)), some (false, .int (at_ : Int)), some (false, .int (n : Int)), s3, some (true, .lst true ((ws ++ [y]).map eSt)), none, none, none, none, none, none]) := by
  have hlen : dLen [.lst t (cs.map .int)] = some (.int (cs.length : Int)) := by
    show some (Dat.int ((cs.map Dat.int).length : Int)) = _
    rw [List.length_map]
  have hmod : dMod (.int ((at_ : Int) + (k : Int))) (.int (cs.length : Int)) = some (.int (((at_ : Int) + (k : Int)) % (cs.length : Int))) := dMod_int (by omega)
  obtain ⟨x, hx⟩ := atI_int (ns := cs) (k := ((at_ : Int) + (k : Int)) % (cs.length : Int)) (Int.emod_nonneg _ (by omega)) (Int.emod_lt_of_pos _ (by omega))
  have hdiv : dFdiv (.int (k : Int)) (.int 7) = some (.int ((k : Int) / 7)) := dFdiv_int (by decide) (by decide)
  generalize hce : x + (k : Int) / 7 = c at *
  obtain ⟨a, b, hb, ba, bb⟩ := bounds_ok c
  have wa := word_eq ba
  have wb := word_eq bb
  have la := bdZ_len ba
  have lb := bdZ_len bb
  have hcomp := fun s0 s1 s2 s3 s4 s5 s7 s8 s9 => tx_cells s0 s1 s2 s3 s4 s5 s7 s8 s9 c n hn
  generalize hL : ((List.range n).map fun i => numZ (numV c (5 + i))) = L at *
  have hLl : L.length = n := by rw [← hL, List.length_map, List.length_range]
  have hLb : ∀ p ∈ L, p.length ≤ 61 := fun p hp => by
    rw [← hL] at hp
    obtain ⟨i, hi, rfl⟩ := List.mem_map.mp hp
    have := List.mem_range.mp hi
    exact numZ_len (number_eq c (5 + i) (by omega)).2
  have h3 := sum_leN (L := L.map (·.length)) (b := 61) fun x hx => by
    obtain ⟨p, hp, rfl⟩ := List.mem_map.mp hx
    exact hLb p hp
  rw [List.length_map] at h3
  have hsumA : ((L ++ [[64], bdZ a, bdZ b]).map (·.length)).sum ≤ n * 61 + 123 := by
    rw [List.map_append, List.sum_append]
    simp only [List.map_cons, List.map_nil, List.sum_cons, List.sum_nil, List.length_cons, List.length_nil]
    rw [hLl] at h3
    omega
  have hlenA : (L ++ [[64], bdZ a, bdZ b]).length = n + 3 := by rw [List.length_append, hLl]; rfl
  have hj := joinS (t := true) (a := [32]) (ys := L ++ [[64], bdZ a, bdZ b]) (by
    rw [hlenA]
    simp only [List.length_cons, List.length_nil]
    omega)
  have hjl := joinL_len [32] (L ++ [[64], bdZ a, bdZ b])
  rw [hlenA] at hjl
  refine ⟨TL.joinL [32] (L ++ [[64], bdZ a, bdZ b]), by simp only [List.length_cons, List.length_nil] at hjl; omega, ?_⟩
  have hA : (L ++ [[64], bdZ a, bdZ b]).map (fun y => Dat.str (S y)) = L.map eSt ++ [.str (S [64]), .str (S (bdZ a)), .str (S (bdZ b))] := by rw [List.map_append]; rfl
  rw [hA, ← sp_eq, ← at_sign] at hj
  have hadd : dAdd (.lst true (L.map eSt)) (.lst true [.str "@", .str (S (bdZ a)), .str (S (bdZ b))]) = some (.lst true (L.map eSt ++ [.str "@", .str (S (bdZ a)), .str (S (bdZ b))])) := by
    show (if (L.map eSt).length + 3 ≤ sizeLine then _ else _) = _
    rw [if_pos (by rw [List.length_map, hLl, sizeLine_eq]; omega)]
  have hW : (ws ++ [TL.joinL [32] (L ++ [[64], bdZ a, bdZ b])]).map eSt = ws.map eSt ++ [.str (S (TL.joinL [32] (L ++ [[64], bdZ a, bdZ b])))] := by rw [List.map_append]; rfl
  rw [hW]
  have hsz : sz ((ws.map eSt).length + 1) = true := by rw [List.length_map]; exact sz_small (by omega)
  have hszn : sz n = true := sz_small (by omega)
  have s3' : sz 3 = true := sz_small (by decide)
  have oa : old (eB a) = eB a := by simp
  have ob : old (eB b) = eB b := by simp
  have htn : (n : Int).toNat = n := by omega
  have hr : DL.inR (n : Int) = true := inR_true (by omega) (by omega)
  generalize S (TL.joinL [32] (L ++ [[64], bdZ a, bdZ b])) = T at *
  generalize S (bdZ a) = TA at *
  generalize S (bdZ b) = TB at *
  generalize eB a = A at *
  generalize eB b = B at *
  generalize L.map eSt = LL at *
  generalize ws.map eSt = WS at *
  generalize cs.map Dat.int = CS at *
  generalize (cs.length : Int) = m at *
  rw [trn_eq]
  unfold L__law_text_1 C__law_text_1
  generalize F__law_number = FN at *
  generalize F__law_bounds = FB at *
  generalize F__law_word = FW at *
  simp [hlen, hmod, hx, hdiv, hce, hb, wa, wb, hcomp, -compT_eq, noOwn, asR1, hj, hadd, appD, hsz, hszn, s3', oa, ob, htn, hr, -dLen_lst]
theorem tx_loop (t : Bool) (cs : List Int) (at_ n : Nat) (s3 : Option (Bool × Dat)) (hc : 1 ≤ cs.length) (hn : n ≤ 100) : ∀ (j : Nat) (lo : Nat) (ws : List (List Nat)), ws.length + j ≤ 1000 → (∀ y ∈ ws, y.length ≤ 7000) →
    ∃ vs : List (List Nat), vs.length = ws.length + j ∧ (∀ y ∈ vs, y.length ≤ 7000) ∧ forD (trn (gN 5) L__law_text_1) (rng (lo : Int) j) [some (false, .lst t (cs.map .int)), some (false, .int (at_ : Int)), some (false, .int (n : Int)), s3, some (true, .lst true (ws.map eSt)), none, none, none, none, none, none] =
      .ok (.nx [some (false, .lst t (cs.map .int)), some (false, .int (at_ : Int)), some (false, .int (n : Int)), s3, some (true, .lst true (vs.map eSt)), none, none, none, none, none, none])
  | 0, lo, ws, _, h => ⟨ws, rfl, h, rfl⟩
  | j + 1, lo, ws, hl, h => by
    obtain ⟨y, hy, step⟩ := tx_step t cs at_ n lo s3 hc hn ws (by omega)
    obtain ⟨vs, h1, h2, h3⟩ := tx_loop t cs at_ n s3 hc hn j (lo + 1) (ws ++ [y]) (by rw [List.length_append, List.length_singleton]; omega) fun z hz => by
      rcases List.mem_append.mp hz with hz | hz
      · exact h z hz
      · rw [List.mem_singleton.mp hz]; exact hy
    refine ⟨vs, by rw [h1, List.length_append, List.length_singleton]; omega, h2, ?_⟩
    rw [rng_cons, forD, step]
    exact h3
def txT : DEnv → Rs Out :=
  (seqD (ownD 4 (dspD argsN))
  (seqD (loopD (rngD asR1 (argsC (rdv false 3) argsN)) (trn (gN 5) L__law_text_1))
  (fzD 4 (retD (joD (kst (.str "; ")) (rdv false 4))))))
theorem txT_ok (t : Bool) (cs : List Int) (at_ n m : Nat) (hc : 1 ≤ cs.length) (hn : n ≤ 100) (hm : m ≤ 100) :
    ∃ w : List Nat, w.length ≤ 800000 ∧ txT [some (false, .lst t (cs.map .int)), some (false, .int (at_ : Int)), some (false, .int (n : Int)), some (false, .int (m : Int)), none, none, none, none, none, none, none] = .ok (.rt (.str (S w))) := by
  obtain ⟨vs, h1, h2, h3⟩ := tx_loop t cs at_ n (some (false, .int (m : Int))) hc hn m 0 [] (by simp; omega) fun y hy => (nomatch hy)
  have h1 : vs.length = m := by rw [h1]; simp
  have hs := sum_leN (L := vs.map (·.length)) (b := 7000) fun x hx => by
    obtain ⟨p, hp, rfl⟩ := List.mem_map.mp hx
    exact h2 p hp
  rw [List.length_map] at hs
  have hj := joinS (t := true) (a := [59, 32]) (ys := vs) (by simp only [List.length_cons, List.length_nil]; omega)
  rw [← semi_eq] at hj
  have hjl := joinL_len [59, 32] vs
  refine ⟨TL.joinL [59, 32] vs, by simp only [List.length_cons, List.length_nil] at hjl; omega, ?_⟩
  have hj : dJoin "; " (.lst true (vs.map eSt)) = some (.str (S (TL.joinL [59, 32] vs))) := hj
  have hr : DL.inR (m : Int) = true := inR_true (by omega) (by omega)
  have htn : (m : Int).toNat = m := by omega
  have s0 : sz 0 = true := sz_small (by decide)
  have h3 : forD (trn (gN 5) L__law_text_1) (rng 0 m) [some (false, .lst t (cs.map .int)), some (false, .int (at_ : Int)), some (false, .int (n : Int)), some (false, .int (m : Int)), some (true, .lst true []), none, none, none, none, none, none] = .ok (.nx [some (false, .lst t (cs.map .int)), some (false, .int (at_ : Int)), some (false, .int (n : Int)), some (false, .int (m : Int)), some (true, .lst true (vs.map eSt)), none, none, none, none, none, none]) := h3
  unfold txT
  generalize S (TL.joinL [59, 32] vs) = T at *
  generalize vs.map eSt = VS at *
  generalize cs.map Dat.int = CS at *
  generalize L__law_text_1 = L1 at *
  simp [asR1, hr, htn, -trn_eq, h3, s0, hj]
end
end LW

set_option maxRecDepth 100000
set_option maxHeartbeats 4000000
/-! MNm (k71): the law's text, whole. -/
namespace LW
open PySem PySem.Spec PyProof.Rows L2 DL SP TX SX
noncomputable section
theorem atI_in {ns : List Int} {k : Int} (h : 0 ≤ k) (h2 : k < ns.length) : ∃ n, n ∈ ns ∧ atI (ns.map Dat.int) k = some (.int n) := by
  have hk : k.toNat < ns.length := by omega
  exact ⟨ns[k.toNat], List.getElem_mem hk, atI_map rfl Dat.int h (List.getElem?_eq_getElem hk)⟩
theorem size_at {k : Int} (h : 0 ≤ k) (h2 : k < 8) : ∃ n : Nat, n ≤ 6 ∧ atI [Dat.int 1, .int 2, .int 3, .int 4, .int 5, .int 1, .int 2, .int 6] k = some (.int (n : Int)) := by
  obtain ⟨n, hn, e⟩ := atI_in (ns := [1, 2, 3, 4, 5, 1, 2, 6]) h (by show k < 8; exact h2)
  have e : atI [Dat.int 1, .int 2, .int 3, .int 4, .int 5, .int 1, .int 2, .int 6] k = some (.int n) := e
  have hb : 1 ≤ n ∧ n ≤ 6 := by
    simp only [List.mem_cons, List.not_mem_nil, or_false] at hn
    omega
  refine ⟨n.toNat, by omega, ?_⟩
  rw [e]
  congr 2
  omega
theorem text_ok (t : Bool) (cs : List Int) (k : Nat) (hk : k < cs.length) : ∃ w : List Nat, w.length ≤ 800000 ∧ F__law_text [.lst t (cs.map .int), .int (k : Int)] = .ok (.str (S w)) := by
  obtain ⟨x, hx⟩ := atI_int (ns := cs) (k := (k : Int)) (by omega) (by omega)
  obtain ⟨a1, _, _⟩ := mix_eq x 1 (by decide)
  obtain ⟨b1, _, _⟩ := mix_eq x 2 (by decide)
  obtain ⟨c1, _, _⟩ := mix_eq x 3 (by decide)
  obtain ⟨d1, _, _⟩ := mix_eq x 4 (by decide)
  have a1 : F__law_mix [.int x, .int 1] = .ok (.int (mixV x 1)) := a1
  have b1 : F__law_mix [.int x, .int 2] = .ok (.int (mixV x 2)) := b1
  have c1 : F__law_mix [.int x, .int 3] = .ok (.int (mixV x 3)) := c1
  have d1 : F__law_mix [.int x, .int 4] = .ok (.int (mixV x 4)) := d1
  generalize mixV x 1 = u1 at *
  generalize mixV x 2 = u2 at *
  generalize mixV x 3 = u3 at *
  generalize mixV x 4 = u4 at *
  have m1 : dMod (.int u1) (.int 8) = some (.int (u1 % 8)) := dMod_int (by decide)
  have m2 : dMod (.int u2) (.int 5) = some (.int (u2 % 5)) := dMod_int (by decide)
  have m3 : dMod (.int u3) (.int 4) = some (.int (u3 % 4)) := dMod_int (by decide)
  have m4 : dMod (.int u4) (.int 2) = some (.int (u4 % 2)) := dMod_int (by decide)
  obtain ⟨n, hn, hs⟩ := size_at (k := u1 % 8) (by omega) (by omega)
  obtain ⟨q, hq⟩ : ∃ q : Nat, u2 % 5 = (q : Int) := ⟨(u2 % 5).toNat, by omega⟩
  obtain ⟨q2, hq2⟩ : ∃ q2 : Nat, 60 + u4 % 2 = (q2 : Int) := ⟨(60 + u4 % 2).toNat, by omega⟩
  have hmin : dMin2 [.int (n : Int), .int 2] = some (.int ((min n 2 : Nat) : Int)) := by
    show some (Dat.int _) = _
    congr 2
    omega
  have s8 : sz 8 = true := sz_small (by decide)
  have e1 : dEq (.int (k : Int)) (.int 0) = some (.bl (decide ((k : Int) = 0))) := by simp
  have e2 : dEq (.int (u3 % 4)) (.int 1) = some (.bl (decide (u3 % 4 = 1))) := by simp
  have hF : F__law_text = runF 11 (seqD (setD 2 (bop dIx (lstD (dspD (argsC (kst (.int 1)) (argsC (kst (.int 2)) (argsC (kst (.int 3)) (argsC (kst (.int 4)) (argsC (kst (.int 5)) (argsC (kst (.int 1)) (argsC (kst (.int 2)) (argsC (kst (.int 6)) argsN)))))))))) (bop dMod (callD 2 F__law_mix (argsC (bop dIx (rdv false 0) (rdv false 1)) (argsC (kst (.int 1)) argsN))) (kst (.int 8)))))
      (seqD (setD 3 (bop dMod (callD 2 F__law_mix (argsC (bop dIx (rdv false 0) (rdv false 1)) (argsC (kst (.int 2)) argsN))) (kst (.int 5))))
      (seqD (iteD (andT (tst (bop dEq (rdv false 1) (kst (.int 0)))) (tst (bop dEq (bop dMod (callD 2 F__law_mix (argsC (bop dIx (rdv false 0) (rdv false 1)) (argsC (kst (.int 3)) argsN))) (kst (.int 4))) (kst (.int 1)))))
      (seqD (setD 3 (bop dAdd (kst (.int 60)) (bop dMod (callD 2 F__law_mix (argsC (bop dIx (rdv false 0) (rdv false 1)) (argsC (kst (.int 4)) argsN))) (kst (.int 2)))))
      (setD 2 (biD dMin2 (argsC (rdv false 2) (argsC (kst (.int 2)) argsN)))))
      (fun ε => .ok (.nx ε))) txT))) := rfl
  rw [hF]
  generalize F__law_mix = FM at *
  by_cases h : (k : Int) = 0 ∧ u3 % 4 = 1
  · obtain ⟨w, hw, hT⟩ := txT_ok t cs k (min n 2) q2 (by omega) (by omega) (by omega)
    refine ⟨w, hw, ?_⟩
    rw [decide_eq_true h.1] at e1
    rw [decide_eq_true h.2] at e2
    generalize S w = T at *
    generalize txT = TX at *
    generalize cs.map Dat.int = CS at *
    generalize ((min n 2 : Nat) : Int) = mn at *
    generalize (k : Int) = kk at *
    generalize (n : Int) = nn at *
    simp [startD_eq, List.replicate, hx, a1, b1, c1, d1, m1, m2, m3, m4, hs, hq, hq2, hmin, s8, e1, e2, -dEq_int, hT]
  · obtain ⟨w, hw, hT⟩ := txT_ok t cs k n q (by omega) (by omega) (by omega)
    refine ⟨w, hw, ?_⟩
    generalize S w = T at *
    generalize txT = TX at *
    generalize cs.map Dat.int = CS at *
    by_cases h0 : (k : Int) = 0
    · rw [decide_eq_true h0] at e1
      rw [decide_eq_false (fun z => h ⟨h0, z⟩)] at e2
      clear h h0
      generalize (k : Int) = kk at *
      generalize (n : Int) = nn at *
      simp [startD_eq, List.replicate, hx, a1, b1, c1, d1, m1, m2, m3, m4, hs, hq, s8, e1, e2, -dEq_int, hT]
    · rw [decide_eq_false h0] at e1
      clear h h0
      generalize (k : Int) = kk at *
      generalize (n : Int) = nn at *
      simp [startD_eq, List.replicate, hx, a1, b1, c1, d1, m1, m2, m3, m4, hs, hq, s8, e1, -dEq_int, hT]
end
end LW

set_option maxRecDepth 100000
set_option maxHeartbeats 4000000
/-! MNo (k71): odd texts, and what is no text. -/
namespace LW
open PySem PySem.Spec PyProof.Rows L2 DL SP TX SX
noncomputable section
/-- the law finds the answer right -/
def Rt (d : Dat) : Prop := F__law_right [old d] = .ok (.bl true)
theorem Rt.S {w : List Nat} (h : w.length ≤ 15000000) : Rt (.str (S w)) := right_S w h
theorem Rt.str {s : Str} (h : s.cps.toList.length ≤ 15000000) : Rt (.str s) := by
  have e : SX.S s.cps.toList = s := by cases s; rfl
  have := right_S s.cps.toList h
  rw [e] at this
  exact this
def od1 : List Dat := [.str " ", .str ";", .str "; ", .str "1", .str "1 @", .str "1 @ 2", .str "1 @ 2 3 4", .str "@ 2 3", .str "1 2 3", .str "1 @ 3 2", .str "1 @ 2 2"]
def od2 : List Dat := [.str "1 @ 01 2", .str "1 @ -0 2", .str "1 @ * *;", .str "1 @ * *; ", .str "1 @ * *;1 @ * *", .str "1 @ * * ", .str " 1 @ * *"]
def od3 : List Dat := [.str "1  @ * *", .str "1 @* *", .str "1 @ ** 2", .str "* @ 1 2", .str "1 @ 1 2; 1 2 @ 1 2", .str "1 2 3 4 5 6 @ 1 2"]
def od4 : List Dat := [.str "1 @ +1 2", .str "1_0 @ 1 2", .str "+1 @ 1 2", .str "1 @ 1 2\n", .str "1\t@ 1 2", .str "x @ 1 2", .non, .int 7, .lst true [.tup [.tup [.int 1], .int 1, .int 2]]]
theorem str_ok (s : Str) (h : s.cps.toList.length ≤ 100) : Rt (.str s) := Rt.str (by omega)
theorem od_all : ∀ d ∈ od1 ++ od2 ++ od3 ++ od4, Rt d := by
  intro d hd
  unfold od1 od2 od3 od4 at hd
  simp only [List.cons_append, List.nil_append, List.mem_cons, List.not_mem_nil, or_false] at hd
  rcases hd with rfl | rfl | rfl | rfl | rfl | rfl | rfl | rfl | rfl | rfl | rfl | rfl | rfl | rfl | rfl | rfl | rfl | rfl | rfl | rfl | rfl | rfl | rfl | rfl | rfl | rfl | rfl | rfl | rfl | rfl | rfl | rfl | rfl
  all_goals first
    | exact str_ok _ (by decide +kernel)
    | exact right_X (d := .non) rfl rfl
    | exact right_X (d := .int 7) rfl rfl
    | exact right_X (d := .lst false [.tup [.tup [.int 1], .int 1, .int 2]]) rfl rfl
theorem add_lst {t u : Bool} {a b : List Dat} (h : a.length + b.length ≤ 1000) : dAdd (.lst t a) (.lst u b) = some (.lst true (a ++ b)) := by
  show (if a.length + b.length ≤ sizeLine then some (Dat.lst true (a ++ b)) else none) = _
  rw [if_pos (by rw [sizeLine_eq]; omega)]
theorem odd_ok (c : Int) : ∃ d, F__law_odd [.int c] = .ok d ∧ Rt d := by
  obtain ⟨m1, _, _⟩ := mix_eq c 30 (by decide)
  have m1 : F__law_mix [.int c, .int 30] = .ok (.int (mixV c 30)) := m1
  generalize mixV c 30 = u at *
  have h33 : dMod (.int u) (.int 33) = some (.int (u % 33)) := dMod_int (by decide)
  have hl : (od1 ++ od2 ++ od3 ++ od4).length = 33 := rfl
  have hk : (u % 33).toNat < (od1 ++ od2 ++ od3 ++ od4).length := by rw [hl]; omega
  have hix : dIx (.lst true (od1 ++ od2 ++ od3 ++ od4)) (.int (u % 33)) = some (od1 ++ od2 ++ od3 ++ od4)[(u % 33).toNat] := atI_at (by omega) (List.getElem?_eq_getElem hk)
  refine ⟨(od1 ++ od2 ++ od3 ++ od4)[(u % 33).toNat], ?_, od_all _ (List.getElem_mem hk)⟩
  generalize (od1 ++ od2 ++ od3 ++ od4)[(u % 33).toNat] = d at *
  have a2 : dAdd (.lst true od1) (.lst true od2) = some (.lst true (od1 ++ od2)) := add_lst (by decide)
  have a3 : dAdd (.lst true (od1 ++ od2)) (.lst true od3) = some (.lst true (od1 ++ od2 ++ od3)) := add_lst (by decide)
  have a4 : dAdd (.lst true (od1 ++ od2 ++ od3)) (.lst true od4) = some (.lst true (od1 ++ od2 ++ od3 ++ od4)) := add_lst (by decide)
  have s11 : sz 11 = true := sz_small (by decide)
  have s7 : sz 7 = true := sz_small (by decide)
  have s6 : sz 6 = true := sz_small (by decide)
  have s9 : sz 9 = true := sz_small (by decide)
  have s1 : sz 1 = true := sz_small (by decide)
  have s3 : sz 3 = true := sz_small (by decide)
  generalize hA : od1 ++ od2 = A at *
  generalize hB : A ++ od3 = B at *
  generalize hC : B ++ od4 = C at *
  unfold F__law_odd
  generalize F__law_mix = FM at *
  unfold od1 od2 at a2
  unfold od3 at a3
  unfold od4 at a4
  simp [startD_eq, List.replicate, m1, h33, s11, s7, s6, s9, s1, s3, a2, a3, a4, hix]
end
end LW

set_option maxRecDepth 100000
set_option maxHeartbeats 4000000
/-! MNp (k71): texts spoiled. -/
namespace LW
open PySem PySem.Spec PyProof.Rows L2 DL SP TX SX
noncomputable section
def sgL : List Nat := [32, 32, 32, 59, 59, 64, 64, 42, 42, 45, 45, 48, 49, 50, 51, 52, 53, 54, 55, 56, 57, 120, 44, 43, 95, 10, 9]
theorem sg_eq : (Str.ofString "   ;;@@**--0123456789x,+_\n\t") = S sgL := by decide +kernel
def spT : DEnv → Rs Out :=
  (seqD (iteD (tst (bop dEq (rdv false 3) (kst (.int 0))))
  (retD (bop dAdd (bop dAdd (slD (rdv false 0) noO (smO (rdv false 4))) (rdv false 5)) (slD (rdv false 0) (smO (rdv false 4)) noO)))
  (fun ε => .ok (.nx ε)))
  (seqD (iteD (tst (bop dEq (rdv false 3) (kst (.int 1))))
  (retD (bop dAdd (slD (rdv false 0) noO (smO (rdv false 4))) (slD (rdv false 0) (smO (bop dAdd (rdv false 4) (kst (.int 1)))) noO)))
  (fun ε => .ok (.nx ε)))
  (seqD (iteD (tst (bop dLt (rdv false 3) (kst (.int 5))))
  (retD (bop dAdd (bop dAdd (slD (rdv false 0) noO (smO (rdv false 4))) (rdv false 5)) (slD (rdv false 0) (smO (bop dAdd (rdv false 4) (kst (.int 1)))) noO)))
  (fun ε => .ok (.nx ε)))
  (seqD (iteD (tst (bop dEq (rdv false 3) (kst (.int 5))))
  (retD (callD 1 F__law_odd (argsC (rdv true 1) argsN)))
  (fun ε => .ok (.nx ε)))
  (retD (rdv true 0))))))
theorem spT_ok (w : List Nat) (hw : w.length ≤ 800000) (c way : Int) (at_ : Nat) (sg : Nat) (s2 : Option (Bool × Dat)) : ∃ d, spT [some (false, .str (S w)), some (false, .int c), s2, some (false, .int way), some (false, .int (at_ : Int)), some (false, .str (S [sg]))] = .ok (.rt d) ∧ Rt d := by
  have t1 : dSl (.str (S w)) none (some (at_ : Int)) = some (.str (S (w.take at_))) := slS_to at_ (by omega)
  have t2 : dSl (.str (S w)) (some (at_ : Int)) none = some (.str (S (w.drop at_))) := slS_from at_ (by omega)
  have t3 : dSl (.str (S w)) (some ((at_ : Int) + 1)) none = some (.str (S (w.drop (at_ + 1)))) := slS_from (at_ + 1) (by omega)
  have l1 : (w.take at_).length ≤ 800000 := by rw [List.length_take]; omega
  have l2 : (w.drop at_).length ≤ 800000 := by rw [List.length_drop]; omega
  have l3 : (w.drop (at_ + 1)).length ≤ 800000 := by rw [List.length_drop]; omega
  have a1 : dAdd (.str (S (w.take at_))) (.str (S [sg])) = some (.str (S (w.take at_ ++ [sg]))) := addS (by rw [List.length_singleton]; omega)
  have a2 : dAdd (.str (S (w.take at_ ++ [sg]))) (.str (S (w.drop at_))) = some (.str (S (w.take at_ ++ [sg] ++ w.drop at_))) := addS (by rw [List.length_append, List.length_singleton]; omega)
  have a3 : dAdd (.str (S (w.take at_))) (.str (S (w.drop (at_ + 1)))) = some (.str (S (w.take at_ ++ w.drop (at_ + 1)))) := addS (by omega)
  have a4 : dAdd (.str (S (w.take at_ ++ [sg]))) (.str (S (w.drop (at_ + 1)))) = some (.str (S (w.take at_ ++ [sg] ++ w.drop (at_ + 1)))) := addS (by rw [List.length_append, List.length_singleton]; omega)
  have r1 : Rt (.str (S (w.take at_ ++ [sg] ++ w.drop at_))) := Rt.S (by rw [List.length_append, List.length_append, List.length_singleton]; omega)
  have r2 : Rt (.str (S (w.take at_ ++ w.drop (at_ + 1)))) := Rt.S (by rw [List.length_append]; omega)
  have r3 : Rt (.str (S (w.take at_ ++ [sg] ++ w.drop (at_ + 1)))) := Rt.S (by rw [List.length_append, List.length_append, List.length_singleton]; omega)
  have r4 : Rt (.str (S w)) := Rt.S (by omega)
  obtain ⟨d, ho, hd⟩ := odd_ok c
  have e0 : dEq (.int way) (.int 0) = some (.bl (decide (way = 0))) := by simp
  have e1 : dEq (.int way) (.int 1) = some (.bl (decide (way = 1))) := by simp
  have e2 : dLt (.int way) (.int 5) = some (.bl (decide (way < 5))) := by simp
  have e3 : dEq (.int way) (.int 5) = some (.bl (decide (way = 5))) := by simp
  generalize S (w.take at_ ++ [sg] ++ w.drop at_) = R1 at *
  generalize S (w.take at_ ++ w.drop (at_ + 1)) = R2 at *
  generalize S (w.take at_ ++ [sg] ++ w.drop (at_ + 1)) = R3 at *
  generalize S (w.take at_ ++ [sg]) = R5 at *
  generalize S (w.take at_) = T1 at *
  generalize S (w.drop at_) = T2 at *
  generalize S (w.drop (at_ + 1)) = T3 at *
  generalize S [sg] = SG at *
  generalize S w = W at *
  generalize (at_ : Int) = k at *
  unfold spT
  generalize F__law_odd = FO at *
  by_cases h0 : way = 0
  · rw [decide_eq_true h0] at e0
    exact ⟨.str R1, by simp [e0, t1, t2, a1, a2, -dEq_int], r1⟩
  rw [decide_eq_false h0] at e0
  by_cases h1 : way = 1
  · rw [decide_eq_true h1] at e1
    exact ⟨.str R2, by simp [e0, e1, t1, t3, a3, -dEq_int], r2⟩
  rw [decide_eq_false h1] at e1
  by_cases h2 : way < 5
  · rw [decide_eq_true h2] at e2
    exact ⟨.str R3, by simp [e0, e1, e2, t1, t3, a1, a4, -dEq_int, -dLt_int], r3⟩
  rw [decide_eq_false h2] at e2
  by_cases h3 : way = 5
  · rw [decide_eq_true h3] at e3
    exact ⟨d, by simp [e0, e1, e2, e3, ho, -dEq_int, -dLt_int], hd⟩
  rw [decide_eq_false h3] at e3
  exact ⟨.str W, by simp [e0, e1, e2, e3, -dEq_int, -dLt_int], r4⟩
theorem spoiled_ok (w : List Nat) (hw : w.length ≤ 800000) (c : Int) : ∃ d, F__law_spoiled [.str (S w), .int c] = .ok d ∧ Rt d := by
  obtain ⟨a1, _, _⟩ := mix_eq c 31 (by decide)
  obtain ⟨b1, _, _⟩ := mix_eq c 32 (by decide)
  obtain ⟨c1, _, _⟩ := mix_eq c 33 (by decide)
  have a1 : F__law_mix [.int c, .int 31] = .ok (.int (mixV c 31)) := a1
  have b1 : F__law_mix [.int c, .int 32] = .ok (.int (mixV c 32)) := b1
  have c1 : F__law_mix [.int c, .int 33] = .ok (.int (mixV c 33)) := c1
  generalize mixV c 31 = u1 at *
  generalize mixV c 32 = u2 at *
  generalize mixV c 33 = u3 at *
  have m1 : dMod (.int u1) (.int 8) = some (.int (u1 % 8)) := dMod_int (by decide)
  have m2 : dMod (.int u2) (.int ((w.length : Int) + 1)) = some (.int (u2 % ((w.length : Int) + 1))) := dMod_int (by omega)
  have m3 : dMod (.int u3) (.int 27) = some (.int (u3 % 27)) := dMod_int (by decide)
  have hl : dLen [.str (S w)] = some (.int (w.length : Int)) := lenS (by omega)
  have hsl : dLen [.str (S sgL)] = some (.int 27) := lenS (a := sgL) (by decide)
  have hb1 := Int.emod_nonneg u2 (b := (w.length : Int) + 1) (by omega)
  obtain ⟨at_, hat⟩ : ∃ at_ : Nat, u2 % ((w.length : Int) + 1) = (at_ : Int) := ⟨(u2 % ((w.length : Int) + 1)).toNat, by omega⟩
  obtain ⟨k, hk⟩ : ∃ k : Nat, u3 % 27 = (k : Int) := ⟨(u3 % 27).toNat, by omega⟩
  have hk27 : k < sgL.length := by show k < 27; omega
  have hix : dIx (.str (S sgL)) (.int (k : Int)) = some (.str (S [sgL[k]])) := ixS (by decide) (List.getElem?_eq_getElem hk27)
  obtain ⟨d, hd, hr⟩ := spT_ok w hw c (u1 % 8) at_ sgL[k] (some (false, .str (S sgL)))
  refine ⟨d, ?_, hr⟩
  have hF : F__law_spoiled = runF 6 (seqD (setD 2 (kst (.str "   ;;@@**--0123456789x,+_\n\t")))
      (seqD (setD 3 (bop dMod (callD 2 F__law_mix (argsC (rdv true 1) (argsC (kst (.int 31)) argsN))) (kst (.int 8))))
      (seqD (setD 4 (bop dMod (callD 2 F__law_mix (argsC (rdv true 1) (argsC (kst (.int 32)) argsN))) (bop dAdd (biD dLen (argsC (rdv false 0) argsN)) (kst (.int 1)))))
      (seqD (setD 5 (bop dIx (rdv false 2) (bop dMod (callD 2 F__law_mix (argsC (rdv true 1) (argsC (kst (.int 33)) argsN))) (biD dLen (argsC (rdv false 2) argsN)))))
      spT)))) := rfl
  rw [hF, sg_eq]
  generalize S [sgL[k]] = SG at *
  generalize S sgL = SL at *
  generalize S w = W at *
  generalize (w.length : Int) = n at *
  generalize spT = TT at *
  generalize F__law_mix = FM at *
  simp [startD_eq, List.replicate, a1, b1, c1, m1, m2, m3, hl, hsl, hat, hk, hix, hd]
end
end LW

set_option maxRecDepth 100000
set_option maxHeartbeats 4000000
/-! MNq (k71): the law. -/
namespace LW
open PySem PySem.Spec PyProof.Rows L2 DL SP TX SX
noncomputable section
theorem law_step (s0 : Option (Bool × Dat)) (cs : List Int) (k : Nat) (hk : k < cs.length) :
    trn (gN 2) L_law_1 (.int (k : Int)) [s0, some (false, .lst true (cs.map .int)), none, none] = .ok (.nx [s0, some (false, .lst true (cs.map .int)), none, none]) := by
  obtain ⟨w, hw, ht⟩ := text_ok false cs k hk
  obtain ⟨x, hx⟩ := atI_int (ns := cs) (k := (k : Int)) (by omega) (by omega)
  obtain ⟨d, hd, hr⟩ := spoiled_ok w hw x
  have r1 := right_S w (by omega)
  unfold Rt at hr
  have ho : olds (cs.map Dat.int) = cs.map Dat.int := olds_map _ _ (fun _ => rfl) _
  generalize S w = W at *
  generalize cs.map Dat.int = CS at *
  rw [trn_eq]
  unfold L_law_1
  generalize F__law_text = FT at *
  generalize F__law_right = FR at *
  generalize F__law_spoiled = FS at *
  simp [ht, hx, hd, hr, r1, ho]
theorem law_loop (s0 : Option (Bool × Dat)) (cs : List Int) : ∀ (j lo : Nat), lo + j ≤ cs.length →
    forD (trn (gN 2) L_law_1) (rng (lo : Int) j) [s0, some (false, .lst true (cs.map .int)), none, none] = .ok (.nx [s0, some (false, .lst true (cs.map .int)), none, none])
  | 0, _, _ => rfl
  | j + 1, lo, h => by
    have step := law_step s0 cs lo (by omega)
    have ih := law_loop s0 cs j (lo + 1) (by omega)
    rw [rng_cons, forD, step]
    exact ih
theorem law_true (ns : List Int) (hl : ns.length ≤ 63) : F_law [.scr ns] = .ok (.bl true) := by
  have hcs : (DL.cutD ns none (some 63)).map Dat.int ++ [Dat.int 0] = (ns.take 63 ++ [0]).map .int := by
    have : DL.cutD ns none (some 63) = ns.take 63 := cut_take ns 63
    rw [this, List.map_append]
    rfl
  have hadd : dAdd (.lst true ((DL.cutD ns none (some 63)).map .int)) (.lst true [.int 0]) = some (.lst true ((ns.take 63 ++ [0]).map .int)) := by
    rw [← hcs]
    refine add_lst ?_
    have : DL.cutD ns none (some 63) = ns.take 63 := cut_take ns 63
    rw [this, List.length_map, List.length_take, List.length_singleton]
    omega
  have hn : (ns.take 63 ++ [0]).length ≤ 64 := by rw [List.length_append, List.length_take, List.length_singleton]; omega
  generalize hc : ns.take 63 ++ [(0 : Int)] = cs at *
  have hlo := fun s0 => law_loop s0 cs cs.length 0 (by omega)
  have hlo : ∀ s0, forD (trn (gN 2) L_law_1) (rng 0 cs.length) [s0, some (false, .lst true (cs.map .int)), none, none] = .ok (.nx [s0, some (false, .lst true (cs.map .int)), none, none]) := hlo
  have hlen : dLen [.lst true (cs.map .int)] = some (.int (cs.length : Int)) := by
    show some (Dat.int ((cs.map Dat.int).length : Int)) = _
    rw [List.length_map]
  have hr : DL.inR (cs.length : Int) = true := inR_true (by omega) (by omega)
  have htn : (cs.length : Int).toNat = cs.length := by omega
  have s1 : sz 1 = true := sz_small (by decide)
  have hsl : dSl (.scr ns) none (some 63) = some (.lst true ((DL.cutD ns none (some 63)).map .int)) := dSl_scr
  generalize cs.map Dat.int = CS at *
  generalize (DL.cutD ns none (some 63)).map Dat.int = DS at *
  unfold F_law
  generalize L_law_1 = L1 at *
  simp [startD_eq, List.replicate, hsl, hadd, hlen, -dSl_scr, asR1, hr, htn, -trn_eq, hlo, s1, -dLen_lst]
end
end LW

open PySem PySem.W PyProof.Rows
set_option maxRecDepth 100000 in
set_option maxHeartbeats 0 in
theorem PySem.Challenge.cw_whenrows_k71_facts_as_texts_holds : PySem.Challenge.rw_whenrows_k71_facts_as_texts.Holds := by
  w_on; o_law; k_head; (case hw => w_witness2)
  k_fill
  refine L2.walk_of (l := PySem.Challenge.rw_whenrows_k71_facts_as_texts) (n := 63) (k := 6) (x := "_law_script") (CX := fun w => L2.CX PySem.Challenge.rw_whenrows_k71_facts_as_texts.prog w) (sp := fun w => DL.spLaw _) rfl (by decide) rfl ⟨rfl, by decide, by decide⟩ (fun w h Y => PySem.W.kIn_of Y) ?F (fun _ _ a ns hl _ hS => ⟨a, ns, rfl, hS, hl, fun _ => rfl⟩) (fun _ _ _ _ _ h => DL.cx_false h)
  case F =>
    intro w mg fa h KX G hmg
    refine' LW.all_mk KX G hmg ?a_is_stretch ?l_is_stretch ?c_is_stretch ?k_is_stretch ?a_read_number ?l_read_number ?c_read_number ?k_read_number ?a_read_bound ?l_read_bound ?c_read_bound ?k_read_bound ?a_read_fact ?l_read_fact ?c_read_fact ?k_read_fact ?a_read_facts ?l_read_facts ?c_read_facts ?k_read_facts ?a__law_whole ?l__law_whole ?c__law_whole ?k__law_whole ?a__law_mix ?l__law_mix ?c__law_mix ?k__law_mix ?a__law_number ?l__law_number ?c__law_number ?k__law_number ?a__law_bounds ?l__law_bounds ?c__law_bounds ?k__law_bounds ?a__law_word ?l__law_word ?c__law_word ?k__law_word ?a__law_text ?l__law_text ?c__law_text ?k__law_text ?a__law_odd ?l__law_odd ?c__law_odd ?k__law_odd ?a__law_spoiled ?l__law_spoiled ?c__law_spoiled ?k__law_spoiled ?a__law_number_told ?l__law_number_told ?c__law_number_told ?k__law_number_told ?a__law_fact_told ?l__law_fact_told ?c__law_fact_told ?k__law_fact_told ?a__law_told ?l__law_told ?c__law_told ?k__law_told ?a__law_is_facts ?l__law_is_facts ?c__law_is_facts ?k__law_is_facts ?a__law_right ?l__law_right ?c__law_right ?k__law_right ?a_law ?l_law ?c_law ?k_law ?z_ValueError ?z_bool ?z_int ?z_isinstance ?z_len ?z_list ?z_min ?z_range ?z_str ?z_tuple ?an_g_FIGURES ?an_g_LONGEST ?an_g_WIDEST ?an_g_MOST ?an_x_NoText ?an_x_WhenError ?an_x_NoStretch ?an_x_NoWidth ?an_x_NoTable ?an_x_NoColumn ?an_x_NoName ?an_x_NoRow ?xf_NoText ?xm_NoText_WhenError ?xi_NoText_NoText ?xi_NoText_ValueError ?xt_NoText_0 LW.law_true
    (case a_is_stretch => k_is); (case l_is_stretch => k_is); (case c_is_stretch => k_is); (case k_is_stretch => k_is); (case a_read_number => k_is); (case l_read_number => k_is); (case c_read_number => k_is); (case k_read_number => k_is); (case a_read_bound => k_is); (case l_read_bound => k_is); (case c_read_bound => k_is); (case k_read_bound => k_is); (case a_read_fact => k_is); (case l_read_fact => k_is); (case c_read_fact => k_is); (case k_read_fact => k_is); (case a_read_facts => k_is); (case l_read_facts => k_is); (case c_read_facts => k_is); (case k_read_facts => k_is); (case a__law_whole => k_is); (case l__law_whole => k_is); (case c__law_whole => k_is); (case k__law_whole => k_is); (case a__law_mix => k_is); (case l__law_mix => k_is); (case c__law_mix => k_is); (case k__law_mix => k_is); (case a__law_number => k_is); (case l__law_number => k_is); (case c__law_number => k_is); (case k__law_number => k_is); (case a__law_bounds => k_is); (case l__law_bounds => k_is); (case c__law_bounds => k_is); (case k__law_bounds => k_is); (case a__law_word => k_is); (case l__law_word => k_is); (case c__law_word => k_is); (case k__law_word => k_is); (case a__law_text => k_is); (case l__law_text => k_is); (case c__law_text => k_is); (case k__law_text => k_is); (case a__law_odd => k_is); (case l__law_odd => k_is); (case c__law_odd => k_is); (case k__law_odd => k_is); (case a__law_spoiled => k_is); (case l__law_spoiled => k_is); (case c__law_spoiled => k_is); (case k__law_spoiled => k_is); (case a__law_number_told => k_is); (case l__law_number_told => k_is); (case c__law_number_told => k_is); (case k__law_number_told => k_is); (case a__law_fact_told => k_is); (case l__law_fact_told => k_is); (case c__law_fact_told => k_is); (case k__law_fact_told => k_is); (case a__law_told => k_is); (case l__law_told => k_is); (case c__law_told => k_is); (case k__law_told => k_is); (case a__law_is_facts => k_is); (case l__law_is_facts => k_is); (case c__law_is_facts => k_is); (case k__law_is_facts => k_is); (case a__law_right => k_is); (case l__law_right => k_is); (case c__law_right => k_is); (case k__law_right => k_is); (case a_law => k_is); (case l_law => k_is); (case c_law => k_is); (case k_law => k_is); (case z_ValueError => k_is); (case z_bool => k_is); (case z_int => k_is); (case z_isinstance => k_is); (case z_len => k_is); (case z_list => k_is); (case z_min => k_is); (case z_range => k_is); (case z_str => k_is); (case z_tuple => k_is); (case an_g_FIGURES => k_is); (case an_g_LONGEST => k_is); (case an_g_WIDEST => k_is); (case an_g_MOST => k_is); (case an_x_NoText => k_is); (case an_x_WhenError => k_is); (case an_x_NoStretch => k_is); (case an_x_NoWidth => k_is); (case an_x_NoTable => k_is); (case an_x_NoColumn => k_is); (case an_x_NoName => k_is); (case an_x_NoRow => k_is); (case xf_NoText => constructor <;> first | k_exc | k_is); (case xm_NoText_WhenError => kts_exm); (case xi_NoText_NoText => kit_is); (case xi_NoText_ValueError => kit_is); (case xt_NoText_0 => kit_is)

#print axioms PySem.Challenge.cw_whenrows_k71_facts_as_texts_holds
