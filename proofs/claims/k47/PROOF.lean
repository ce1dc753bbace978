import PyProof.Rows.All
import HandS.ForMost
import HandS.Style
import HandS.Wide
import HandS.Star
import HandS.Conv
import HandS.IsInst
import HandS.Zip
import HandS.Walk
import HandS.Flow
import KE.SortData
import HandS.Deep
import HandS.TupMul
import HandS.TupAny
import HandS.SetFor
import KE.DataFind
import HandS.Small
import HandS.WideMore
import HandS.Strs
import KE.KDictPairs
import HandS.ListItems
import KE.KItemsList
import HandS.TupLen
import KE.KDictCopyH
import KE.KDictSum
import KE.KDictDisplayH
import HandS.SetKeys
import HandS.Sort
import PySem.Challenge.RW_noroundgains_k47_whole_payments_made_ahe
set_option Elab.async false
set_option linter.all false
set_option maxRecDepth 100000
set_option maxHeartbeats 0
/-! VL0: whether tuples are told with their objects (so that a tuple's methods may be called; then no dict is keyed by tuples) -/
namespace VL
def tz : Bool := false
end VL

/-! VL: a layer of plain values over HandS. Frozen data are told by PyData; lists and dicts that are still changed are owned by one slot each. -/
namespace VL
open PySem PySem.Spec PyProof.Rows L2

def keyD : Key → PyData
  | .inl i => .int i
  | .inr x => .str x
/-- the script: a list that is known to the object, never written -/
def ScL (K : PySem.W.Frag) (H : Hp) (a : Addr) (xs : List V) : Prop :=
  (∃ o, H a = some (.frz o (.lst xs))) ∨
    ∃ (o : Obj) (its : Array Value) (n : Nat), K.lookup a = some o ∧ o.cls = .type "list" ∧ o.dict = none ∧ o.data = .seq its n ∧ its.size ≤ sizeLine ∧ Vals xs its.toList
/-- the empty tuple, told without its object (a dict's key) -/
def W0 : PyData := .dict [(.none, .none)]
/-- whether a tuple is told with its object: one that holds objects alone -/
def refV : V → Bool
  | .ref _ => true
  | _ => false
def st (xs : List V) : Bool := tz || xs.all refV
def refD : PyData → Bool
  | .tuple _ => true | .list _ => true | .dict _ => true | _ => false
def stD (ds : List PyData) : Bool := tz || ds.all refD
/-- a tuple -/
def TupAt (H : Hp) (a : Addr) (xs : List V) : Prop := if st xs = true then ∃ o, H a = some (.frz o (.tup xs)) ∧ o.dict = none else H a = some (.tup xs)
theorem TupAt.rd {H : Hp} {a : Addr} {xs : List V} (h : TupAt H a xs) : Rd H a (.tup xs) := by
  unfold TupAt at h
  split at h
  · obtain ⟨o, h, _⟩ := h; exact .inr ⟨o, h⟩
  · exact .inl h
theorem TupAt.sq {K : PySem.W.Frag} {H : Hp} {a : Addr} {xs : List V} (h : TupAt H a xs) : SqT K H a xs := .inl h.rd
theorem TupAt.strict {H : Hp} {a : Addr} {xs : List V} (h : TupAt H a xs) (z : st xs = false) : H a = some (.tup xs) := by
  unfold TupAt at h
  rwa [if_neg (by rw [z]; decide)] at h
theorem TupAt.of {H : Hp} {a : Addr} {xs : List V} (h : H a = some (.tup xs)) (z : st xs = false) : TupAt H a xs := by
  unfold TupAt
  rwa [if_neg (by rw [z]; decide)]
section
variable (K : PySem.W.Frag) (F : Addr → Prop) (H : Hp)
mutual
/-- v reads as d; the lists and dicts in it are frozen -/
def Rep : PyData → V → Prop
  | .none, v => v = .non
  | .bool b, v => v = .bl b
  | .int i, v => v = .int i
  | .str s, v => v = .str s
  | .tuple ds, v => ∃ a xs, v = .ref a ∧ TupAt H a xs ∧ RepA ds xs
  | .list ds, v => ∃ a xs, v = .ref a ∧ F a ∧ H a = some (.lst xs) ∧ RepA ds xs
  | .dict kvs, v => K = K ∧ ∃ a, v = .ref a ∧ ((F a ∧ ((∃ ks, Rd H a (.dK ks) ∧ RepK kvs ks) ∨ ∃ ks, Rd H a (.dT ks) ∧ RepT kvs ks)) ∨ (kvs = [(.none, .none)] ∧ H a = some (.tup [])))
def RepA : List PyData → List V → Prop
  | [], xs => xs = []
  | d :: ds, xs => ∃ x r, xs = x :: r ∧ Rep d x ∧ RepA ds r
def RepK : List (PyData × PyData) → List (Key × V) → Prop
  | [], ks => ks = []
  | p :: r, ks => ∃ q x t, ks = (q, x) :: t ∧ RepP p (keyD q) x ∧ RepK r t
def RepT : List (PyData × PyData) → List (List Key × V) → Prop
  | [], ks => ks = []
  | p :: r, ks => ∃ q x t, ks = (q, x) :: t ∧ RepP p (.tuple (q.map keyD)) x ∧ RepT r t
def RepP : PyData × PyData → PyData → V → Prop
  | (k, d), k', x => k = k' ∧ Rep d x
end
/-- the same, the topmost list or dict frozen or not -/
def Rdd : PyData → V → Prop
  | .list ds, v => ∃ a xs, v = .ref a ∧ H a = some (.lst xs) ∧ RepA K F H ds xs
  | .dict kvs, v => ∃ a, v = .ref a ∧ (((∃ ks, Rd H a (.dK ks) ∧ RepK K F H kvs ks) ∨ ∃ ks, Rd H a (.dT ks) ∧ RepT K F H kvs ks) ∨ (kvs = [(.none, .none)] ∧ H a = some (.tup [])))
  | d, v => Rep K F H d v
/-- the object at a is owned: a list, a dict with keys that are ints and texts (k false), with keys that are tuples (k true) -/
def RepO (k : Bool) (a : Addr) : PyData → Prop
  | .list ds => ∃ xs, H a = some (.lst xs) ∧ RepA K F H ds xs
  | .dict kvs => match k with
    | true => ∃ ks, H a = some (.dT ks) ∧ RepT K F H kvs ks
    | false => ∃ ks, H a = some (.dK ks) ∧ RepK K F H kvs ks
  | _ => False
end

/-- what read, still reads -/
structure Up (F : Addr → Prop) (H : Hp) (F' : Addr → Prop) (H' : Hp) : Prop where
  fr : ∀ a, F a → F' a
  rd : ∀ a u, F a → Rd H a u → Rd H' a u
  ls : ∀ a xs, F a → H a = some (.lst xs) → H' a = some (.lst xs)
  tu : ∀ a xs, H a = some (.tup xs) → H' a = some (.tup xs)
  sc : ∀ a o u, H a = some (.frz o u) → H' a = some (.frz o u)
theorem TupAt.up {F F' : Addr → Prop} {H H' : Hp} (u : Up F H F' H') {a : Addr} {xs : List V} (h : TupAt H a xs) : TupAt H' a xs := by
  unfold TupAt at h ⊢
  split
  · rename_i z
    rw [if_pos z] at h
    obtain ⟨o, h, d⟩ := h
    exact ⟨o, u.sc _ _ _ h, d⟩
  · rename_i z
    rw [if_neg z] at h
    exact u.tu _ _ h
theorem Up.refl {F H} : Up F H F H := ⟨fun _ h => h, fun _ _ _ h => h, fun _ _ _ h => h, fun _ _ h => h, fun _ _ _ h => h⟩
section
variable {K : PySem.W.Frag} {F F' : Addr → Prop} {H H' : Hp}
/-- the script stays -/
theorem ScL.up (u : Up F H F' H') {a : Addr} {xs : List V} (h : ScL K H a xs) : ScL K H' a xs := by
  rcases h with ⟨o, h⟩ | h
  · exact .inl ⟨o, u.sc _ _ _ h⟩
  · exact .inr h
theorem ScL.sq {a : Addr} {xs : List V} (h : ScL K H a xs) : SqL K H a xs := by
  rcases h with ⟨o, h⟩ | h
  · exact .inl (.inr ⟨o, h⟩)
  · exact .inr h
mutual
theorem Rep.up (u : Up F H F' H') : ∀ (d : PyData) (v : V), Rep K F H d v → Rep K F' H' d v
  | .none, _, h => by unfold Rep at h ⊢; exact h
  | .bool b, _, h => by unfold Rep at h ⊢; exact h
  | .int i, _, h => by unfold Rep at h ⊢; exact h
  | .str s, _, h => by unfold Rep at h ⊢; exact h
  | .tuple ds, v, h => by
    unfold Rep at h ⊢
    obtain ⟨a, xs, e, q, r⟩ := h
    exact ⟨a, xs, e, q.up u, RepA.up u ds xs r⟩
  | .list ds, v, h => by
    unfold Rep at h ⊢
    obtain ⟨a, xs, e, f, q, r⟩ := h
    exact ⟨a, xs, e, u.fr _ f, u.ls _ _ f q, RepA.up u ds xs r⟩
  | .dict kvs, v, h => by
    unfold Rep at h ⊢
    obtain ⟨_, a, e, ⟨f, q⟩ | ⟨z, q⟩⟩ := h
    · refine ⟨rfl, a, e, .inl ⟨u.fr _ f, ?_⟩⟩
      rcases q with ⟨ks, q, r⟩ | ⟨ks, q, r⟩
      · exact .inl ⟨ks, u.rd _ _ f q, RepK.up u kvs ks r⟩
      · exact .inr ⟨ks, u.rd _ _ f q, RepT.up u kvs ks r⟩
    · exact ⟨rfl, a, e, .inr ⟨z, u.tu _ _ q⟩⟩
theorem RepA.up (u : Up F H F' H') : ∀ (ds : List PyData) (xs : List V), RepA K F H ds xs → RepA K F' H' ds xs
  | [], _, h => by unfold RepA at h ⊢; exact h
  | d :: ds, xs, h => by
    unfold RepA at h ⊢
    obtain ⟨x, r, e, h1, h2⟩ := h
    exact ⟨x, r, e, Rep.up u d x h1, RepA.up u ds r h2⟩
theorem RepK.up (u : Up F H F' H') : ∀ (kvs : List (PyData × PyData)) (ks : List (Key × V)), RepK K F H kvs ks → RepK K F' H' kvs ks
  | [], _, h => by unfold RepK at h ⊢; exact h
  | p :: r, ks, h => by
    unfold RepK at h ⊢
    obtain ⟨q, x, t, e, h1, h2⟩ := h
    exact ⟨q, x, t, e, RepP.up u p _ x h1, RepK.up u r t h2⟩
theorem RepT.up (u : Up F H F' H') : ∀ (kvs : List (PyData × PyData)) (ks : List (List Key × V)), RepT K F H kvs ks → RepT K F' H' kvs ks
  | [], _, h => by unfold RepT at h ⊢; exact h
  | p :: r, ks, h => by
    unfold RepT at h ⊢
    obtain ⟨q, x, t, e, h1, h2⟩ := h
    exact ⟨q, x, t, e, RepP.up u p _ x h1, RepT.up u r t h2⟩
theorem RepP.up (u : Up F H F' H') : ∀ (p : PyData × PyData) (k : PyData) (x : V), RepP K F H p k x → RepP K F' H' p k x
  | (k, d), k', x, h => by
    unfold RepP at h ⊢
    exact ⟨h.1, Rep.up u d x h.2⟩
end
theorem Rep.rdd : ∀ {d : PyData} {v : V}, Rep K F H d v → Rdd K F H d v
  | .none, _, h => h
  | .bool _, _, h => h
  | .int _, _, h => h
  | .str _, _, h => h
  | .tuple _, _, h => h
  | .list ds, _, h => by
    unfold Rep at h
    obtain ⟨a, xs, e, _, q, r⟩ := h
    exact ⟨a, xs, e, q, r⟩
  | .dict kvs, _, h => by
    unfold Rep at h
    obtain ⟨_, a, e, ⟨_, q⟩ | q⟩ := h
    · exact ⟨a, e, .inl q⟩
    · exact ⟨a, e, .inr q⟩
theorem RepO.rdd {k : Bool} {a : Addr} : ∀ {d : PyData}, RepO K F H k a d → Rdd K F H d (.ref a)
  | .list ds, h => by
    obtain ⟨xs, h1, h2⟩ := h
    exact ⟨a, xs, rfl, h1, h2⟩
  | .dict kvs, h => by
    cases k with
    | true =>
      obtain ⟨ks, h1, h2⟩ := h
      exact ⟨a, rfl, .inl (.inr ⟨ks, .inl h1, h2⟩)⟩
    | false =>
      obtain ⟨ks, h1, h2⟩ := h
      exact ⟨a, rfl, .inl (.inl ⟨ks, .inl h1, h2⟩)⟩
  | .none, h => h.elim
  | .bool _, h => h.elim
  | .int _, h => h.elim
  | .str _, h => h.elim
  | .tuple _, h => h.elim
/-- an owned object is frozen -/
theorem RepO.fz {k : Bool} {a : Addr} (u : Up F H F' H) (f : F' a) : ∀ {d : PyData}, RepO K F H k a d → Rep K F' H d (.ref a)
  | .list ds, h => by
    obtain ⟨xs, h1, h2⟩ := h
    unfold Rep
    exact ⟨a, xs, rfl, f, h1, RepA.up u _ _ h2⟩
  | .dict kvs, h => by
    unfold Rep
    cases k with
    | true =>
      obtain ⟨ks, h1, h2⟩ := h
      exact ⟨rfl, a, rfl, .inl ⟨f, .inr ⟨ks, .inl h1, RepT.up u _ _ h2⟩⟩⟩
    | false =>
      obtain ⟨ks, h1, h2⟩ := h
      exact ⟨rfl, a, rfl, .inl ⟨f, .inl ⟨ks, .inl h1, RepK.up u _ _ h2⟩⟩⟩
  | .none, h => h.elim
  | .bool _, h => h.elim
  | .int _, h => h.elim
  | .str _, h => h.elim
  | .tuple _, h => h.elim
theorem RepO.up {k : Bool} {a : Addr} (u : Up F H F' H') (e : H' a = H a) : ∀ {d : PyData}, RepO K F H k a d → RepO K F' H' k a d
  | .list ds, h => by
    obtain ⟨xs, h1, h2⟩ := h
    exact ⟨xs, e.trans h1, RepA.up u _ _ h2⟩
  | .dict kvs, h => by
    cases k with
    | true =>
      obtain ⟨ks, h1, h2⟩ := h
      exact ⟨ks, e.trans h1, RepT.up u _ _ h2⟩
    | false =>
      obtain ⟨ks, h1, h2⟩ := h
      exact ⟨ks, e.trans h1, RepK.up u _ _ h2⟩
  | .none, h => h.elim
  | .bool _, h => h.elim
  | .int _, h => h.elim
  | .str _, h => h.elim
  | .tuple _, h => h.elim
theorem RepO.mut {k : Bool} {a : Addr} : ∀ {d : PyData}, RepO K F H k a d → Mut (H a)
  | .list ds, h => by
    obtain ⟨xs, h1, _⟩ := h
    rw [h1]; trivial
  | .dict kvs, h => by
    cases k with
    | true =>
      obtain ⟨ks, h1, _⟩ := h
      rw [h1]; trivial
    | false =>
      obtain ⟨ks, h1, _⟩ := h
      rw [h1]; trivial
  | .none, h => h.elim
  | .bool _, h => h.elim
  | .int _, h => h.elim
  | .str _, h => h.elim
  | .tuple _, h => h.elim
theorem mut_ne {o : Option HO} (h : Mut o) : o ≠ none := by
  rintro rfl; exact h
theorem Rd.mut_some {a : Addr} {u : HO} (h : Rd H a u) (m : Mut (H a)) : H a = some u := by
  rcases h with h | ⟨o, h⟩
  · exact h
  · rw [h] at m; exact m.elim
end

/-! ### slots -/
inductive SV where
  /-- frozen data (a local; a parameter's own object that was frozen in the def) -/
  | fz (d : PyData) | pz (d : PyData)
  /-- the script -/
  | sc (ns : List Int)
  /-- an object of the slot's own: made here; handed in -/
  | ow (k : Bool) (d : PyData) | pw (k : Bool) (d : PyData)
inductive R where
  | fz (d : PyData) | ow (k : Bool) (d : PyData) | br (i : Nat) | sc (ns : List Int)
abbrev EV := List (Option SV)
def SV.d : SV → PyData
  | .fz d => d | .pz d => d | .ow _ d => d | .pw _ d => d | .sc ns => .list (ns.map .int)
def SV.own : SV → Bool
  | .ow _ _ => true | .pw _ _ => true | _ => false
def Own (env : EV) (i : Nat) : Prop := ∃ s, env[i]? = some (some s) ∧ s.own = true
def OwA (σ : L2.St) (env : EV) (a : Addr) : Prop := ∃ i, Own env i ∧ σ[i]? = some (some (.ref a))
section
variable (K : PySem.W.Frag) (B F : Addr → Prop) (H : Hp)
def RepS : SV → V → Prop
  | .fz d, v => Rep K F H d v
  | .pz d, v => Rep K F H d v
  | .sc ns, v => ∃ a, v = .ref a ∧ ScL K H a (ns.map V.int)
  | .ow k d, v => ∃ a, v = .ref a ∧ ¬ F a ∧ ¬ B a ∧ RepO K F H k a d
  | .pw k d, v => ∃ a, v = .ref a ∧ ¬ F a ∧ RepO K F H k a d
structure StOk (σ : L2.St) (env : EV) : Prop where
  len : env.length = σ.length
  at_ : ∀ (i : Nat) (s : SV), env[i]? = some (some s) → ∃ v : V, σ[i]? = some (some v) ∧ RepS K B F H s v
  sep : ∀ (i j : Nat) (a : Addr), Own env i → Own env j → σ[i]? = some (some (.ref a)) → σ[j]? = some (some (.ref a)) → i = j
  fH : ∀ a, F a → H a ≠ none
  bH : ∀ a, B a → H a ≠ none
def RepR (σ : L2.St) (env : EV) : R → V → Prop
  | .fz d, v => Rep K F H d v
  | .ow k d, v => ∃ a, v = .ref a ∧ ¬ F a ∧ ¬ B a ∧ ¬ OwA σ env a ∧ RepO K F H k a d
  | .br i, v => σ[i]? = some (some v) ∧ ∃ s, env[i]? = some (some s) ∧ ∀ ns, s ≠ .sc ns
  | .sc ns, v => ∃ a, v = .ref a ∧ ScL K H a (ns.map V.int)
end
/-- what an expression may make of a slot -/
def SV.le : SV → SV → Prop
  | .fz d, s => s = .fz d
  | .pz d, s => s = .pz d
  | .sc ns, s => s = .sc ns
  | .ow k _, s => (∃ d', s = .ow k d') ∨ ∃ d', s = .fz d'
  | .pw k _, s => (∃ d', s = .pw k d') ∨ ∃ d', s = .pz d'
theorem SV.le_refl : ∀ s : SV, s.le s
  | .fz _ => rfl
  | .pz _ => rfl
  | .sc _ => rfl
  | .ow _ d => .inl ⟨d, rfl⟩
  | .pw _ d => .inl ⟨d, rfl⟩
theorem SV.le_trans : ∀ {a b c : SV}, a.le b → b.le c → a.le c
  | .fz _, _, _, h, h' => by cases h; exact h'
  | .pz _, _, _, h, h' => by cases h; exact h'
  | .sc _, _, _, h, h' => by cases h; exact h'
  | .ow _ _, _, _, h, h' => by
    rcases h with ⟨d, rfl⟩ | ⟨d, rfl⟩
    · exact h'
    · cases h'; exact .inr ⟨_, rfl⟩
  | .pw _ _, _, _, h, h' => by
    rcases h with ⟨d, rfl⟩ | ⟨d, rfl⟩
    · exact h'
    · cases h'; exact .inr ⟨_, rfl⟩
theorem SV.le_own : ∀ {a b : SV}, a.le b → b.own = true → a.own = true
  | .fz _, _, h, h' => by cases h; cases h'
  | .pz _, _, h, h' => by cases h; cases h'
  | .sc _, _, h, h' => by cases h; cases h'
  | .ow _ _, _, _, _ => rfl
  | .pw _ _, _, _, _ => rfl
structure EE (env env' : EV) : Prop where
  len : env'.length = env.length
  on : ∀ (i : Nat) s, env[i]? = some (some s) → ∃ s', env'[i]? = some (some s') ∧ s.le s'
  off : ∀ (i : Nat), env[i]? = some none → env'[i]? = some none
theorem EE.refl (env : EV) : EE env env := ⟨rfl, fun _ s h => ⟨s, h, s.le_refl⟩, fun _ h => h⟩
theorem EE.trans {a b c : EV} (h : EE a b) (h' : EE b c) : EE a c :=
  ⟨h'.len.trans h.len, fun i s e => by
    obtain ⟨s1, e1, l1⟩ := h.on i s e
    obtain ⟨s2, e2, l2⟩ := h'.on i s1 e1
    exact ⟨s2, e2, SV.le_trans l1 l2⟩, fun i e => h'.off i (h.off i e)⟩
theorem EE.back {a b : EV} (h : EE a b) {i : Nat} {s' : SV} (e : b[i]? = some (some s')) : ∃ s, a[i]? = some (some s) ∧ s.le s' := by
  have hi : i < a.length := by
    rw [← h.len]; exact (List.getElem?_eq_some_iff.mp e).1
  cases q : a[i]? with
  | none => rw [List.getElem?_eq_none_iff] at q; omega
  | some o =>
    cases o with
    | none => rw [h.off i q] at e; cases e
    | some s =>
      obtain ⟨s2, e2, l⟩ := h.on i s q
      rw [e] at e2; cases e2
      exact ⟨s, rfl, l⟩
theorem EE.own {a b : EV} (h : EE a b) {i : Nat} (o : Own b i) : Own a i := by
  obtain ⟨s', e, p⟩ := o
  obtain ⟨s, e1, l⟩ := h.back e
  exact ⟨s, e1, SV.le_own l p⟩
theorem EE.owA {a b : EV} (h : EE a b) {σ : L2.St} {x : Addr} (o : OwA σ b x) : OwA σ a x := by
  obtain ⟨i, p, e⟩ := o
  exact ⟨i, h.own p, e⟩
def IsDic : HO → Prop
  | .dK _ => True
  | .dT _ => True
  | _ => False
/-- what may have changed: the owned objects; dicts that are frozen may have been locked -/
structure Ext (σ : L2.St) (env : EV) (F : Addr → Prop) (H : Hp) (F' : Addr → Prop) (H' : Hp) : Prop where
  mono : ∀ a, F a → F' a
  there : ∀ a, H a ≠ none → H' a ≠ none
  keep : ∀ a o, H a = some o → ¬ OwA σ env a → (F' a → F a) ∧ (H' a = some o ∨ (F a ∧ IsDic o ∧ ∃ od, H' a = some (.frz od o)))
structure Post (K : PySem.W.Frag) (B : Addr → Prop) (σ : L2.St) (env : EV) (F : Addr → Prop) (H : Hp) (env' : EV) (F' : Addr → Prop) (H' : Hp) : Prop where
  st : StOk K B F' H' σ env'
  ext : Ext σ env F H F' H'
  ee : EE env env'
section
variable {K : PySem.W.Frag} {B F F' F2 : Addr → Prop} {H H' H2 : Hp} {σ : L2.St} {env env' env2 : EV}
theorem StOk.own_at (s : StOk K B F H σ env) {i : Nat} {sv : SV} (e : env[i]? = some (some sv)) (o : sv.own = true) : ∃ k a, σ[i]? = some (some (.ref a)) ∧ ¬ F a ∧ RepO K F H k a sv.d := by
  obtain ⟨v, e1, r⟩ := s.at_ i sv e
  cases sv with
  | fz d => cases o
  | pz d => cases o
  | sc ns => cases o
  | ow k d =>
    obtain ⟨a, rfl, nf, _, ro⟩ := r
    exact ⟨k, a, e1, nf, ro⟩
  | pw k d =>
    obtain ⟨a, rfl, nf, ro⟩ := r
    exact ⟨k, a, e1, nf, ro⟩
theorem StOk.owA_mut (s : StOk K B F H σ env) {a : Addr} (o : OwA σ env a) : ¬ F a ∧ Mut (H a) := by
  obtain ⟨i, ⟨sv, e, p⟩, e1⟩ := o
  obtain ⟨k, b, e2, nf, ro⟩ := s.own_at e p
  rw [e1] at e2; cases e2
  exact ⟨nf, ro.mut⟩
theorem StOk.not_new (s : StOk K B F H σ env) {p : Addr} (n : H p = none) : ¬ F p ∧ ¬ B p ∧ ¬ OwA σ env p :=
  ⟨fun f => s.fH p f n, fun b => s.bH p b n, fun o => mut_ne (s.owA_mut o).2 n⟩
theorem Ext.refl : Ext σ env F H F H := ⟨fun _ h => h, fun _ h => h, fun _ _ e _ => ⟨fun h => h, .inl e⟩⟩
theorem Ext.up (s : StOk K B F H σ env) (x : Ext σ env F H F' H') : Up F H F' H' := by
  refine ⟨x.mono, fun a u f r => ?_, fun a xs f r => ?_, fun a xs r => ?_, fun a o xs r => ?_⟩
  · have no : ¬ OwA σ env a := fun o => (s.owA_mut o).1 f
    rcases r with r | ⟨ob, r⟩
    · rcases (x.keep a _ r no).2 with e | ⟨_, _, od, e⟩
      · exact .inl e
      · exact .inr ⟨od, e⟩
    · rcases (x.keep a _ r no).2 with e | ⟨_, m, _⟩
      · exact .inr ⟨ob, e⟩
      · exact m.elim
  · have no : ¬ OwA σ env a := fun o => (s.owA_mut o).1 f
    rcases (x.keep a _ r no).2 with e | ⟨_, m, _⟩
    · exact e
    · exact m.elim
  · have no : ¬ OwA σ env a := fun o => by
      have m := (s.owA_mut o).2
      rw [r] at m; exact m
    rcases (x.keep a _ r no).2 with e | ⟨_, m, _⟩
    · exact e
    · exact m.elim
  · have no : ¬ OwA σ env a := fun z => by
      have m := (s.owA_mut z).2
      rw [r] at m; exact m
    rcases (x.keep a _ r no).2 with e | ⟨_, m, _⟩
    · exact e
    · exact m.elim
theorem Ext.trans (s : StOk K B F H σ env) (x : Ext σ env F H F' H') (ee : EE env env') (s' : StOk K B F' H' σ env') (y : Ext σ env' F' H' F2 H2) : Ext σ env F H F2 H2 := by
  refine ⟨fun a f => y.mono a (x.mono a f), fun a h => y.there a (x.there a h), fun a o e no => ?_⟩
  have no' : ¬ OwA σ env' a := fun z => no (ee.owA z)
  obtain ⟨f1, c1⟩ := x.keep a o e no
  rcases c1 with e1 | ⟨f, m, od, e1⟩
  · obtain ⟨f2, c2⟩ := y.keep a o e1 no'
    refine ⟨fun z => f1 (f2 z), ?_⟩
    rcases c2 with e2 | ⟨f', m, od, e2⟩
    · exact .inl e2
    · exact .inr ⟨f1 f', m, od, e2⟩
  · obtain ⟨f2, c2⟩ := y.keep a _ e1 no'
    refine ⟨fun z => f1 (f2 z), ?_⟩
    rcases c2 with e2 | ⟨_, m', _⟩
    · exact .inr ⟨f, m, od, e2⟩
    · exact m'.elim
theorem Post.refl (s : StOk K B F H σ env) : Post K B σ env F H env F H := ⟨s, .refl, .refl _⟩
theorem Post.trans (s : StOk K B F H σ env) (p : Post K B σ env F H env' F' H') (q : Post K B σ env' F' H' env2 F2 H2) : Post K B σ env F H env2 F2 H2 :=
  ⟨q.st, p.ext.trans s p.ee p.st q.ext, p.ee.trans q.ee⟩
theorem Post.up (s : StOk K B F H σ env) (p : Post K B σ env F H env' F' H') : Up F H F' H' := p.ext.up s
/-- a value that was told is still told behind -/
theorem RepR.post (s : StOk K B F H σ env) (p : Post K B σ env F H env' F' H') : ∀ {r : R} {v : V}, RepR K B F H σ env r v → RepR K B F' H' σ env' r v
  | .fz d, v, h => Rep.up (p.up s) d v h
  | .ow k d, v, h => by
    obtain ⟨a, rfl, nf, nb, no, ro⟩ := h
    cases e : H a with
    | none => exact (mut_ne ro.mut e).elim
    | some o =>
      obtain ⟨f1, c⟩ := p.ext.keep a o e no
      have e' : H' a = some o := by
        rcases c with c | ⟨f, _⟩
        · exact c
        · exact (nf f).elim
      exact ⟨a, rfl, fun z => nf (f1 z), nb, fun z => no (p.ee.owA z), ro.up (p.up s) (by rw [e', e])⟩
  | .br i, v, h => by
    obtain ⟨e, sv, e1, ns⟩ := h
    obtain ⟨s', e2, l⟩ := p.ee.on i sv e1
    refine ⟨e, s', e2, fun z h => ?_⟩
    subst h
    cases sv with
    | fz d => cases l
    | pz d => cases l
    | sc ms => exact ns _ rfl
    | ow k d => rcases l with ⟨_, l⟩ | ⟨_, l⟩ <;> cases l
    | pw k d => rcases l with ⟨_, l⟩ | ⟨_, l⟩ <;> cases l
  | .sc ns, v, h => by
    obtain ⟨a, e, q⟩ := h
    exact ⟨a, e, q.up (p.up s)⟩
end

/-! ### reading, freezing -/
def SV.fzd : SV → SV
  | .fz d => .fz d | .pz d => .pz d | .ow _ d => .fz d | .pw _ d => .pz d | .sc ns => .sc ns
/-- what a value reads as -/
def rd (env : EV) : R → Option PyData
  | .fz d => some d
  | .ow _ d => some d
  | .br i => match env[i]? with
    | some (some s) => some s.d
    | _ => none
  | .sc _ => none
/-- .. the script, too -/
def rdw (env : EV) : R → Option PyData
  | .sc ns => some (.list (ns.map .int))
  | r => rd env r
/-- .. is stored into another object, or told of by a second name: from now on it is frozen -/
def use (env : EV) : R → Option (PyData × EV)
  | .fz d => some (d, env)
  | .ow _ d => some (d, env)
  | .br i => match env[i]? with
    | some (some s) => some (s.d, env.set i (some s.fzd))
    | _ => none
  | .sc _ => none
section
variable {K : PySem.W.Frag} {B F F' F2 : Addr → Prop} {H H' H2 : Hp} {σ : L2.St} {env env' env2 : EV}
theorem RepS.rdd : ∀ {s : SV} {v : V}, (∀ ns, s ≠ .sc ns) → RepS K B F H s v → Rdd K F H s.d v
  | .fz _, _, _, h => Rep.rdd h
  | .pz _, _, _, h => Rep.rdd h
  | .sc ns, _, n, _ => (n ns rfl).elim
  | .ow _ _, _, _, h => by
    obtain ⟨a, rfl, _, _, r⟩ := h
    exact r.rdd
  | .pw _ _, _, _, h => by
    obtain ⟨a, rfl, _, r⟩ := h
    exact r.rdd
theorem rd_ok (s : StOk K B F H σ env) : ∀ {r : R} {v : V} {d : PyData}, RepR K B F H σ env r v → rd env r = some d → Rdd K F H d v
  | .fz d, v, d', h, e => by
    cases e; exact Rep.rdd h
  | .ow k d, v, d', h, e => by
    cases e
    obtain ⟨a, rfl, _, _, _, ro⟩ := h
    exact ro.rdd
  | .br i, v, d', h, e => by
    obtain ⟨e1, sv, e2, ns⟩ := h
    simp only [rd, e2, Option.some.injEq] at e
    subst e
    obtain ⟨v', e3, r⟩ := s.at_ i sv e2
    rw [e1] at e3; cases e3
    exact r.rdd ns
  | .sc ns, v, d', h, e => by cases e
/-- a list to be read, the script, too -/
def RdL (K : PySem.W.Frag) (F : Addr → Prop) (H : Hp) : PyData → V → Prop
  | .list ds, v => ∃ a xs, v = .ref a ∧ SqL K H a xs ∧ RepA K F H ds xs
  | d, v => Rdd K F H d v
theorem repA_ints : ∀ ns : List Int, RepA K F H (ns.map PyData.int) (ns.map V.int)
  | [] => by unfold RepA; rfl
  | n :: r => by unfold RepA; exact ⟨_, _, rfl, by unfold Rep; rfl, repA_ints r⟩
theorem rdw_ok (s : StOk K B F H σ env) : ∀ {r : R} {v : V} {d : PyData}, RepR K B F H σ env r v → rdw env r = some d → RdL K F H d v := by
  intro r v d h e
  have go : rd env r = some d → RdL K F H d v := fun e => by
    have q := rd_ok s h e
    cases d with
    | list ds =>
      obtain ⟨a, xs, e, h, r⟩ := q
      exact ⟨a, xs, e, .inl (.inl h), r⟩
    | _ => exact q
  cases r with
  | sc ns =>
    cases e
    obtain ⟨a, e, q⟩ := h
    exact ⟨a, _, e, q.sq, repA_ints ns⟩
  | fz d => exact go e
  | ow k d => exact go e
  | br i => exact go e
theorem SV.le_fzd : ∀ s : SV, s.le s.fzd
  | .fz _ => rfl
  | .pz _ => rfl
  | .sc _ => rfl
  | .ow _ d => .inr ⟨d, rfl⟩
  | .pw _ d => .inr ⟨d, rfl⟩
theorem SV.fzd_own : ∀ s : SV, s.fzd.own = false
  | .fz _ => rfl
  | .pz _ => rfl
  | .sc _ => rfl
  | .ow _ _ => rfl
  | .pw _ _ => rfl
/-- a slot gets another state -/
theorem EE.set {i : Nat} {s s' : SV} (e : env[i]? = some (some s)) (l : s.le s') : EE env (env.set i (some s')) := by
  have hi := (List.getElem?_eq_some_iff.mp e).1
  refine ⟨by simp, fun j sj ej => ?_, fun j ej => ?_⟩
  · by_cases h : i = j
    · subst h
      rw [e] at ej; cases ej
      exact ⟨s', by simp [hi], l⟩
    · exact ⟨sj, by rw [List.getElem?_set_ne h]; exact ej, sj.le_refl⟩
  · by_cases h : i = j
    · subst h; rw [e] at ej; cases ej
    · rw [List.getElem?_set_ne h]; exact ej
/-- an object that came since H₀ -/
def NewR (H : Hp) : R → V → Prop
  | .ow _ _, v => ∃ a, v = .ref a ∧ H a = none
  | _, _ => True
theorem NewR.back {r : R} {v : V} (t : ∀ a, H a ≠ none → H' a ≠ none) (n : NewR H' r v) : NewR H r v := by
  cases r with
  | fz d => trivial
  | br i => trivial
  | sc ns => trivial
  | ow k d =>
    obtain ⟨a, e, h⟩ := n
    refine ⟨a, e, ?_⟩
    cases q : H a with
    | none => rfl
    | some o => exact (t a (by rw [q]; simp) h).elim
theorem up_add {a : Addr} : Up F H (fun b => F b ∨ b = a) H := ⟨fun _ h => .inl h, fun _ _ _ h => h, fun _ _ _ h => h, fun _ _ h => h, fun _ _ _ h => h⟩
theorem RepS.up {s : SV} {v : V} (u : Up F H F' H) (h : RepS K B F H s v) (n : s.own = true → ∀ a, v = .ref a → ¬ F a → ¬ F' a) : RepS K B F' H s v := by
  cases s with
  | fz d => exact Rep.up u _ _ h
  | pz d => exact Rep.up u _ _ h
  | sc ns =>
    obtain ⟨a, e, q⟩ := h
    exact ⟨a, e, q.up u⟩
  | ow k d =>
    obtain ⟨a, e, nf, nb, r⟩ := h
    exact ⟨a, e, n rfl a e nf, nb, r.up u rfl⟩
  | pw k d =>
    obtain ⟨a, e, nf, r⟩ := h
    exact ⟨a, e, n rfl a e nf, r.up u rfl⟩
/-- from a start at H0: what was made since is frozen, or a slot's own object is -/
theorem use_ok {env0 : EV} {F0 : Addr → Prop} {H0 : Hp} (p : Post K B σ env0 F0 H0 env F H) {r : R} {v : V} {d : PyData} {env' : EV} (h : RepR K B F H σ env r v) (n : NewR H0 r v) (e : use env r = some (d, env')) :
    ∃ F', Post K B σ env0 F0 H0 env' F' H ∧ Rep K F' H d v ∧ Up F H F' H ∧ EE env env' ∧ ∀ a, F' a → F a ∨ OwA σ env a ∨ ((∃ k d, r = .ow k d) ∧ v = .ref a) := by
  have s := p.st
  cases r with
  | fz d' => cases e; exact ⟨F, p, h, .refl, .refl _, fun _ h => .inl h⟩
  | ow k d' =>
    cases e
    obtain ⟨a, rfl, nf, nb, no, ro⟩ := h
    obtain ⟨a', ea, na⟩ := n
    cases ea
    have u : Up F H (fun b => F b ∨ b = a) H := up_add
    refine ⟨fun b => F b ∨ b = a, ⟨⟨s.len, fun i sv ei => ?_, s.sep, fun b f => ?_, s.bH⟩, ⟨fun _ f => .inl (p.ext.mono _ f), p.ext.there, fun b o eb nob => ?_⟩, p.ee⟩, ro.fz u (.inr rfl), u, .refl _, fun b h => h.elim .inl fun z => .inr (.inr ⟨⟨_, _, rfl⟩, by rw [z]⟩)⟩
    · obtain ⟨v, ev, r⟩ := s.at_ i sv ei
      refine ⟨v, ev, RepS.up u r fun ow b eb nf' z => ?_⟩
      rcases z with z | z
      · exact nf' z
      · exact no ⟨i, ⟨_, ei, ow⟩, by rw [← z, ← eb]; exact ev⟩
    · rcases f with f | rfl
      · exact s.fH b f
      · exact mut_ne ro.mut
    · obtain ⟨f1, c⟩ := p.ext.keep b o eb nob
      refine ⟨fun z => ?_, c⟩
      rcases z with z | z
      · exact f1 z
      · rw [z, na] at eb; cases eb
  | sc ns => cases e
  | br i =>
    obtain ⟨e1, sv, e2, ns⟩ := h
    simp only [use, e2, Option.some.injEq, Prod.mk.injEq] at e
    obtain ⟨rfl, rfl⟩ := e
    obtain ⟨v', e3, r⟩ := s.at_ i sv e2
    rw [e1] at e3; cases e3
    have hi := (List.getElem?_eq_some_iff.mp e2).1
    have ee : EE env (env.set i (some sv.fzd)) := EE.set e2 sv.le_fzd
    by_cases ow : sv.own = true
    · obtain ⟨k, a, ea, nf, ro⟩ := s.own_at e2 ow
      rw [e1] at ea; cases ea
      have u : Up F H (fun b => F b ∨ b = a) H := up_add
      have rz : Rep K (fun b => F b ∨ b = a) H sv.d (.ref a) := ro.fz u (.inr rfl)
      refine ⟨fun b => F b ∨ b = a, ⟨⟨by rw [ee.len]; exact s.len, fun j sj ej => ?_, fun j l b oj ol => s.sep j l b (ee.own oj) (ee.own ol), fun b f => ?_, s.bH⟩, ⟨fun _ f => .inl (p.ext.mono _ f), p.ext.there, fun b o eb nob => ?_⟩, p.ee.trans ee⟩, rz, u, ee, fun b h => h.elim .inl fun z => .inr (.inl ⟨i, ⟨_, e2, ow⟩, by rw [z]; exact e1⟩)⟩
      · by_cases hj : i = j
        · subst hj
          rw [List.getElem?_set_self hi] at ej
          cases ej
          refine ⟨_, e1, ?_⟩
          cases sv with
          | fz d => cases ow
          | pz d => cases ow
          | sc ns => cases ow
          | ow k d => exact rz
          | pw k d => exact rz
        · rw [List.getElem?_set_ne hj] at ej
          obtain ⟨v, ev, r⟩ := s.at_ j sj ej
          refine ⟨v, ev, RepS.up u r fun oj b eb nf' z => ?_⟩
          rcases z with z | z
          · exact nf' z
          · exact hj (s.sep i j a ⟨_, e2, ow⟩ ⟨_, ej, oj⟩ e1 (by rw [← z, ← eb]; exact ev))
      · rcases f with f | rfl
        · exact s.fH b f
        · exact mut_ne ro.mut
      · obtain ⟨f1, c⟩ := p.ext.keep b o eb nob
        refine ⟨fun z => ?_, c⟩
        rcases z with z | z
        · exact f1 z
        · exact (nob (p.ee.owA ⟨i, ⟨_, e2, ow⟩, by rw [z]; exact e1⟩)).elim
    · have e0 : env.set i (some sv.fzd) = env := by
        have : sv.fzd = sv := by
          cases sv with
          | fz d => rfl
          | pz d => rfl
          | sc ns => rfl
          | ow k d => exact (ow rfl).elim
          | pw k d => exact (ow rfl).elim
        rw [this]
        apply List.ext_getElem? 
        intro j
        by_cases hj : i = j
        · subst hj; rw [List.getElem?_set_self hi, e2]
        · rw [List.getElem?_set_ne hj]
      rw [e0]
      refine ⟨F, p, ?_, .refl, .refl _, fun _ h => .inl h⟩
      cases sv with
      | fz d => exact r
      | pz d => exact r
      | sc ms => exact (ns ms rfl).elim
      | ow k d => exact (ow rfl).elim
      | pw k d => exact (ow rfl).elim
/-- a new object -/
theorem Post.new {env0 : EV} {F0 : Addr → Prop} {H0 : Hp} (q : Post K B σ env0 F0 H0 env F H) (same : ∀ a o, H a = some o → H' a = some o) : Post K B σ env0 F0 H0 env F H' := by
  have s := q.st
  have th : ∀ a, H a ≠ none → H' a ≠ none := fun a h => by
    cases e : H a with
    | none => exact (h e).elim
    | some o => rw [same a o e]; simp
  have x : Ext σ env F H F H' := ⟨fun _ h => h, th, fun a o e _ => ⟨fun z => z, .inl (same a o e)⟩⟩
  have u : Up F H F H' := x.up s
  refine ⟨⟨s.len, fun i sv ei => ?_, s.sep, fun a f => th a (s.fH a f), fun a b => th a (s.bH a b)⟩, ⟨q.ext.mono, fun a h => th a (q.ext.there a h), fun a o e no => ?_⟩, q.ee⟩
  · obtain ⟨v, ev, r⟩ := s.at_ i sv ei
    refine ⟨v, ev, ?_⟩
    have up : ∀ {k : Bool} {a : Addr} {d : PyData}, RepO K F H k a d → RepO K F H' k a d := fun {k a d} ro => by
      cases e : H a with
      | none => exact (mut_ne ro.mut e).elim
      | some o => exact ro.up u (by rw [same a o e, e])
    cases sv with
    | fz d => exact Rep.up u _ _ r
    | pz d => exact Rep.up u _ _ r
    | sc ns =>
      obtain ⟨a, e, q⟩ := r
      exact ⟨a, e, q.up u⟩
    | ow k d =>
      obtain ⟨a, e, nf, nb, ro⟩ := r
      exact ⟨a, e, nf, nb, up ro⟩
    | pw k d =>
      obtain ⟨a, e, nf, ro⟩ := r
      exact ⟨a, e, nf, up ro⟩
  · obtain ⟨f1, c⟩ := q.ext.keep a o e no
    refine ⟨f1, ?_⟩
    rcases c with c | ⟨f, m, od, c⟩
    · exact .inl (same a o c)
    · exact .inr ⟨f, m, od, same a _ c⟩
end
end VL

/-! VL2: expressions -/
namespace VL
open PySem PySem.Spec PyProof.Rows L2

abbrev VE := EV → Option (R × EV)
abbrev VT := EV → Option (Bool × EV)
abbrev VA := EV → Option (List R × EV)
section
variable (K : PySem.W.Frag)
/-- a value that came of a run from (env, F, H) to (env', F', H') -/
def TV (f : VE) : TE := fun σ H Q => ∃ B F env r env', StOk K B F H σ env ∧ f env = some (r, env') ∧
  ∀ v F' H', Post K B σ env F H env' F' H' → RepR K B F' H' σ env' r v → NewR H r v → Q v H'
def TT' (f : VT) : TT := fun σ H Q => ∃ B F env b env', StOk K B F H σ env ∧ f env = some (b, env') ∧
  ∀ F' H', Post K B σ env F H env' F' H' → Q b H'
/-- several values, the fresh ones apart from one another -/
def RepRs (B F : Addr → Prop) (H : Hp) (σ : L2.St) (env : EV) : List R → List V → Prop
  | [], vs => vs = []
  | r :: rs, vs => ∃ v ws, vs = v :: ws ∧ RepR K B F H σ env r v ∧ (∀ k d, r = .ow k d → ∀ (j : Nat) k' d', rs[j]? = some (.ow k' d') → ws[j]? ≠ some v) ∧ RepRs B F H σ env rs ws
def NewRs (H : Hp) : List R → List V → Prop
  | r :: rs, v :: vs => NewR H r v ∧ NewRs H rs vs
  | _, _ => True
def TVA (f : VA) : TA := fun σ H Q => ∃ B F env rs env', StOk K B F H σ env ∧ f env = some (rs, env') ∧
  ∀ vs F' H', Post K B σ env F H env' F' H' → RepRs K B F' H' σ env' rs vs → NewRs H rs vs → Q vs H'
end
abbrev VEx (X : Cx) (e : Expr) (f : VE) : Prop := PE X e (TV X.K f)
abbrev VTx (X : Cx) (e : Expr) (f : VT) : Prop := PT X e (TT' X.K f)
abbrev VWx (X : Cx) (e : Expr) (f : VT) : Prop := PW X e (TT' X.K f)
abbrev VAx (X : Cx) (es : List Expr) (f : VA) : Prop := PA X es (TVA X.K f)
theorem PE.imp {X : Cx} {e : Expr} {t t' : TE} (h : PE X e t) (i : ∀ σ H Q, t' σ H Q → t σ H Q) : PE X e t' := ⟨fun pins s σ H Q I q => h.run pins s σ H Q I (i σ H Q q)⟩
theorem PT.imp {X : Cx} {e : Expr} {t t' : TT} (h : PT X e t) (i : ∀ σ H Q, t' σ H Q → t σ H Q) : PT X e t' := ⟨fun pins s σ H Q I q => h.run pins s σ H Q I (i σ H Q q)⟩
theorem PW.imp {X : Cx} {e : Expr} {t t' : TT} (h : PW X e t) (i : ∀ σ H Q, t' σ H Q → t σ H Q) : PW X e t' := ⟨fun w pins s σ H Q I q => h.run w pins s σ H Q I (i σ H Q q)⟩
theorem PA.imp {X : Cx} {es : List Expr} {t t' : TA} (h : PA X es t) (i : ∀ σ H Q, t' σ H Q → t σ H Q) : PA X es t' := ⟨fun p pins s σ H Q I q => h.run p pins s σ H Q I (i σ H Q q)⟩
theorem PS.imp {X : Cx} {s : Stmt} {t t' : TS} (h : PS X s t) (i : ∀ D σ H, t' D σ H → t D σ H) : PS X s t' := ⟨fun pins s σ H D I q => h.run pins s σ H D I (i D σ H q)⟩
theorem PSs.imp {X : Cx} {s : List Stmt} {t t' : TS} (h : PSs X s t) (i : ∀ D σ H, t' D σ H → t D σ H) : PSs X s t' := ⟨fun pins s σ H D I q => h.run pins s σ H D I (i D σ H q)⟩

/-! ### results of operations by values -/
/-- what an operation hands back: data, or a new object -/
def Res (K : PySem.W.Frag) (F : Addr → Prop) (H H' : Hp) (r : R) (v : V) : Prop :=
  (∀ a o, H a = some o → H' a = some o) ∧ match r with
    | .fz d => Rep K F H' d v
    | .ow k d => ∃ a, v = .ref a ∧ H a = none ∧ RepO K F H' k a d
    | _ => False
section
variable {K : PySem.W.Frag} {B F F0 : Addr → Prop} {H H' H0 : Hp} {σ : L2.St} {env env0 : EV}
theorem Post.res (p : Post K B σ env0 F0 H0 env F H) {r : R} {v : V} (h : Res K F H H' r v) : Post K B σ env0 F0 H0 env F H' ∧ RepR K B F H' σ env r v ∧ NewR H0 r v := by
  obtain ⟨same, h⟩ := h
  refine ⟨p.new same, ?_⟩
  cases r with
  | fz d => exact ⟨h, trivial⟩
  | br i => exact h.elim
  | sc ns => exact h.elim
  | ow k d =>
    obtain ⟨a, rfl, n, ro⟩ := h
    obtain ⟨nf, nb, no⟩ := p.st.not_new n
    exact ⟨⟨a, rfl, nf, nb, no, ro⟩, NewR.back p.ext.there ⟨a, rfl, n⟩⟩
theorem Res.lst {a : Addr} {ds : List PyData} {xs : List V} (n : H a = none) (r : RepA K F H ds xs) (p : ∀ b, F b → H b ≠ none) : Res K F H (upd H a (.lst xs)) (.ow false (.list ds)) (.ref a) := by
  have same : ∀ b o, H b = some o → upd H a (.lst xs) b = some o := fun b o e => by rw [upd_ne (ne_of_none e n)]; exact e
  refine ⟨same, a, rfl, n, xs, upd_same, RepA.up ⟨fun _ h => h, fun b u f r => ?_, fun b ys f e => same b _ e, fun b ys r => same _ _ r, fun b o ys e => same _ _ e⟩ _ _ r⟩
  · rcases r with r | ⟨o, r⟩
    · exact .inl (same _ _ r)
    · exact .inr ⟨o, same _ _ r⟩
theorem up_same' {H H' : Hp} (same : ∀ b o, H b = some o → H' b = some o) : Up F H F H' := by
  refine ⟨fun _ h => h, fun b u f r => ?_, fun b ys f e => same b _ e, fun b ys r => same _ _ r, fun b o ys e => same _ _ e⟩
  · rcases r with r | ⟨o, r⟩
    · exact .inl (same _ _ r)
    · exact .inr ⟨o, same _ _ r⟩
theorem same_upd {a : Addr} {o : HO} (n : H a = none) : ∀ b u, H b = some u → upd H a o b = some u := fun b u e => by rw [upd_ne (ne_of_none e n)]; exact e
theorem Rep.isRef : ∀ {d : PyData} {v : V}, Rep K F H d v → refV v = refD d
  | .none, v, h => by rw [Rep] at h; subst h; rfl
  | .bool b, v, h => by rw [Rep] at h; subst h; rfl
  | .int b, v, h => by rw [Rep] at h; subst h; rfl
  | .str b, v, h => by rw [Rep] at h; subst h; rfl
  | .tuple ds, v, h => by rw [Rep] at h; obtain ⟨a, xs, rfl, _⟩ := h; rfl
  | .list ds, v, h => by rw [Rep] at h; obtain ⟨a, xs, rfl, _⟩ := h; rfl
  | .dict ds, v, h => by rw [Rep] at h; obtain ⟨_, a, rfl, _⟩ := h; rfl
theorem RepA.all : ∀ {ds : List PyData} {xs : List V}, RepA K F H ds xs → xs.all refV = ds.all refD
  | [], xs, h => by rw [RepA] at h; subst h; rfl
  | d :: ds, xs, h => by
    rw [RepA] at h
    obtain ⟨x, r, rfl, h1, h2⟩ := h
    rw [List.all_cons, List.all_cons, h1.isRef, h2.all]
theorem RepA.st {ds : List PyData} {xs : List V} (h : RepA K F H ds xs) : VL.st xs = VL.stD ds := by unfold VL.st VL.stD; rw [h.all]
theorem Res.tup {a : Addr} {ds : List PyData} {xs : List V} (z : stD ds = false) (n : H a = none) (r : RepA K F H ds xs) : Res K F H (upd H a (.tup xs)) (.fz (.tuple ds)) (.ref a) := by
  refine ⟨same_upd n, ?_⟩
  unfold Rep
  exact ⟨a, xs, rfl, .of upd_same (by rw [r.st]; exact z), RepA.up (up_same' (same_upd n)) _ _ r⟩
theorem Res.tupZ {a : Addr} {o : HO} {ds : List PyData} {xs : List V} (n : H a = none) (t : TupAt (upd H a o) a xs) (r : RepA K F H ds xs) : Res K F H (upd H a o) (.fz (.tuple ds)) (.ref a) := by
  refine ⟨same_upd n, ?_⟩
  unfold Rep
  exact ⟨a, xs, rfl, t, RepA.up (up_same' (same_upd n)) _ _ r⟩
theorem Res.fz {d : PyData} {v : V} (r : Rep K F H d v) : Res K F H H (.fz d) v := ⟨fun _ _ h => h, r⟩
end
theorem rep_int {K F H} {i : Int} {v : V} : Rep K F H (.int i) v ↔ v = .int i := by unfold Rep; exact Iff.rfl
theorem rep_bool {K F H} {i : Bool} {v : V} : Rep K F H (.bool i) v ↔ v = .bl i := by unfold Rep; exact Iff.rfl
theorem rep_str {K F H} {i : Str} {v : V} : Rep K F H (.str i) v ↔ v = .str i := by unfold Rep; exact Iff.rfl
theorem rep_none {K F H} {v : V} : Rep K F H .none v ↔ v = .non := by unfold Rep; exact Iff.rfl
theorem rdd_int {K F H} {i : Int} {v : V} : Rdd K F H (.int i) v ↔ v = .int i := rep_int (K := K) (F := F) (H := H)
theorem rdd_bool {K F H} {i : Bool} {v : V} : Rdd K F H (.bool i) v ↔ v = .bl i := rep_bool (K := K) (F := F) (H := H)
theorem rdd_str {K F H} {i : Str} {v : V} : Rdd K F H (.str i) v ↔ v = .str i := rep_str (K := K) (F := F) (H := H)
theorem rdd_none {K F H} {v : V} : Rdd K F H .none v ↔ v = .non := rep_none (K := K) (F := F) (H := H)
theorem rdd_tup {K F H} {ds} {v : V} : Rdd K F H (.tuple ds) v ↔ ∃ a xs, v = .ref a ∧ TupAt H a xs ∧ RepA K F H ds xs := by
  show Rep K F H (.tuple ds) v ↔ _
  rw [Rep]

theorem rR_bool {K B F H σ env b v} (h : RepR K B F H σ env (.fz (.bool b)) v) : v = .bl b := by
  have h' : Rep K F H (.bool b) v := h
  rw [Rep] at h'; exact h'
theorem rR_mkB {K B F H σ env b} : RepR K B F H σ env (.fz (.bool b)) (.bl b) := by
  show Rep K F H (.bool b) (.bl b)
  rw [Rep]
theorem rep_boolI {K F H} {b : Bool} : Rep K F H (.bool b) (.bl b) := by rw [Rep]
theorem rep_intI {K F H} {b : Int} : Rep K F H (.int b) (.int b) := by rw [Rep]
theorem rep_strI {K F H} {b : Str} : Rep K F H (.str b) (.str b) := by rw [Rep]
theorem rep_noneI {K F H} : Rep K F H .none .non := by rw [Rep]
/-! ### names and constants -/
def vVar (i : Nat) : VE := fun env => match env[i]? with
  | some (some (.fz d)) => some (.fz d, env)
  | some (some (.pz d)) => some (.fz d, env)
  | some (some (.sc ns)) => some (.sc ns, env)
  | some (some (.ow _ _)) => some (.br i, env)
  | some (some (.pw _ _)) => some (.br i, env)
  | _ => none
theorem ve_var {X : Cx} {i : Nat} {x : Str} {pos : Pos} (hN : X.N[i]? = some x := by rfl) (hv : Vis X.env.scope x := by first | exact Or.inl rfl | exact Or.inr (Or.inl rfl) | exact Or.inr (Or.inr rfl))
    (hd : (x == ("__debug__" : Str)) = false := by decide) (hcd : (x == ("__classdict__" : Str)) = false := by decide) : VEx X (.Name x pos) (vVar i) := by
  refine PE.imp (pe_var hN hv hd hcd) fun σ H Q h => ?_
  obtain ⟨B, F, env, r, env', st, e, k⟩ := h
  unfold vVar at e
  cases q : env[i]? with
  | none => simp [q] at e
  | some o =>
    cases o with
    | none => simp [q] at e
    | some s =>
      obtain ⟨v, ev, rs⟩ := st.at_ i s q
      refine ⟨v, ev, ?_⟩
      cases s with
      | fz d => simp only [q, Option.some.injEq, Prod.mk.injEq] at e; obtain ⟨rfl, rfl⟩ := e; exact k v F H (.refl st) rs trivial
      | pz d => simp only [q, Option.some.injEq, Prod.mk.injEq] at e; obtain ⟨rfl, rfl⟩ := e; exact k v F H (.refl st) rs trivial
      | sc d => simp only [q, Option.some.injEq, Prod.mk.injEq] at e; obtain ⟨rfl, rfl⟩ := e; exact k v F H (.refl st) rs trivial
      | ow a d => simp only [q, Option.some.injEq, Prod.mk.injEq] at e; obtain ⟨rfl, rfl⟩ := e; exact k v F H (.refl st) ⟨ev, _, q, fun _ z => nomatch z⟩ trivial
      | pw a d => simp only [q, Option.some.injEq, Prod.mk.injEq] at e; obtain ⟨rfl, rfl⟩ := e; exact k v F H (.refl st) ⟨ev, _, q, fun _ z => nomatch z⟩ trivial
def vC (d : PyData) : VE := fun env => some (.fz d, env)
theorem ve_c {X : Cx} {e : Expr} {v : V} {d : PyData} (h : PE X e (tC v)) (r : ∀ F H, Rep X.K F H d v) : VEx X e (vC d) := by
  refine PE.imp h fun σ H Q h => ?_
  obtain ⟨B, F, env, r', env', st, e, k⟩ := h
  simp only [vC, Option.some.injEq, Prod.mk.injEq] at e; obtain ⟨rfl, rfl⟩ := e
  exact k v F H (.refl st) (r F H) trivial
theorem ve_int {X : Cx} {i j pos} : VEx X (.Constant (.int i) j pos) (vC (.int i)) := ve_c pe_int fun _ _ => rep_intI
theorem ve_bl {X : Cx} {i j pos} : VEx X (.Constant (.bool i) j pos) (vC (.bool i)) := ve_c pe_bl fun _ _ => rep_boolI
theorem ve_str {X : Cx} {i j pos} : VEx X (.Constant (.str i) j pos) (vC (.str i)) := ve_c pe_str fun _ _ => rep_strI
theorem ve_non {X : Cx} {j pos} : VEx X (.Constant .none j pos) (vC .none) := ve_c pe_non fun _ _ => rep_noneI
theorem ve_gint {X : Cx} {x : Str} {i : Int} {t pos} (hm : X.mg x = some (.int i t)) (hg : Gl X x := by rfl) (hd : (x == ("__debug__" : Str)) = false := by decide) : VEx X (.Name x pos) (vC (.int i)) :=
  ve_c (pe_glob (v := .int i) hg hm ⟨t, rfl⟩ hd) fun _ _ => rep_intI
theorem ve_gstr {X : Cx} {x : Str} {i : Str} {t pos} (hm : X.mg x = some (.str i t)) (hg : Gl X x := by rfl) (hd : (x == ("__debug__" : Str)) = false := by decide) : VEx X (.Name x pos) (vC (.str i)) :=
  ve_c (pe_glob (v := .str i) hg hm ⟨t, rfl⟩ hd) fun _ _ => rep_strI

/-! ### operations of two values -/
abbrev F2 := PyData → PyData → Option R
def rOp2 (K : PySem.W.Frag) (Fo : F2) : R2 := fun x y H Q => ∃ F a b r, (∀ c, F c → H c ≠ none) ∧ Rdd K F H a x ∧ Rdd K F H b y ∧ Fo a b = some r ∧ ∀ v H', Res K F H H' r v → Q v H'
def vOp2 (Fo : F2) (f g : VE) : VE := fun env => (f env).bind fun p => (g p.2).bind fun q => (rd q.2 p.1).bind fun a => (rd q.2 q.1).bind fun b => (Fo a b).map fun r => (r, q.2)
theorem bind_some_iff {α β : Type} {o : Option α} {f : α → Option β} {b : β} : o.bind f = some b ↔ ∃ a, o = some a ∧ f a = some b := by
  cases o <;> simp
/-- two operands, one after another -/
theorem two {X : Cx} {f g : VE} {Fo : F2} {σ : L2.St} {H : Hp} {Q : VK} (h : TV X.K (vOp2 Fo f g) σ H Q) : TV X.K f σ H fun x H1 => TV X.K g σ H1 fun y H2 => rOp2 X.K Fo x y H2 Q := by
  obtain ⟨B, F, env, r, env', st, e, k⟩ := h
  unfold vOp2 at e
  simp only [bind_some_iff, Option.map_eq_some_iff] at e
  obtain ⟨⟨r1, e1⟩, hf, ⟨r2, e2⟩, hg, a, ha, b, hb, r', hr, he⟩ := e
  cases he
  refine ⟨B, F, env, r1, e1, st, hf, fun v1 F1 H1 P1 R1 N1 => ⟨B, F1, e1, r2, _, P1.st, hg, fun v2 F2 H2 P2 R2 N2 => ?_⟩⟩
  refine ⟨F2, a, b, _, P2.st.fH, rd_ok P2.st (R1.post P1.st P2) ha, rd_ok P2.st R2 hb, hr, fun v H' rs => ?_⟩
  obtain ⟨p, q, n⟩ := (P1.trans st P2).res rs
  exact k v F2 H' p q n
theorem ve_op {X : Cx} {a b : Expr} {f g : VE} {Fo : F2} {op : Operator} {pos : Pos} (ho : OpR X (binaryOp op) (rOp2 X.K Fo)) (ha : VEx X a f) (hb : VEx X b g) : VEx X (.BinOp a op b pos) (vOp2 Fo f g) :=
  PE.imp (pe_op ho ha hb) fun _ _ _ h => two h
theorem ve_cmp {X : Cx} {a b : Expr} {f g : VE} {Fo : F2} {op : CmpOp} {pos : Pos} (ho : OpR X (compareOp op) (rOp2 X.K Fo)) (ha : VEx X a f) (hb : VEx X b g) (hm : behindInMarks op b = false := by first | exact nomark _ | rfl) :
    VEx X (.Compare a [op] [b] pos) (vOp2 Fo f g) :=
  PE.imp (pe_cmpR ho ha hb hm) fun _ _ _ h => two h
theorem OpR.imp {X : Cx} {f : Value → Value → Sem Value} {r r' : R2} (h : OpR X f r) (i : ∀ x y H Q, r' x y H Q → r x y H Q) : OpR X f r' :=
  fun pins s σ H x y v u Q I rx ry q => h pins s σ H x y v u Q I rx ry (i _ _ _ _ q)

/-! ### tests -/
def vB (f : VE) : VT := fun env => (f env).bind fun p => match p.1 with
  | .fz (.bool b) => some (b, p.2)
  | _ => none
theorem vb_ok {K : PySem.W.Frag} {f : VE} {σ : L2.St} {H : Hp} {Q : Bool → Hp → Prop} (h : TT' K (vB f) σ H Q) : TV K f σ H fun x H1 => ∃ c, x = .bl c ∧ Q c H1 := by
  obtain ⟨B, F, env, b, env', st, e, k⟩ := h
  unfold vB at e
  simp only [bind_some_iff] at e
  obtain ⟨⟨r, e1⟩, hf, e⟩ := e
  refine ⟨B, F, env, r, e1, st, hf, fun v F' H' P R N => ?_⟩
  cases r with
  | fz d =>
    cases d with
    | bool c =>
      cases e
      exact ⟨b, rR_bool R, k F' H' P⟩
    | _ => cases e
  | _ => cases e
theorem vt_cmp {X : Cx} {a b : Expr} {f g : VE} {Fo : F2} {op : CmpOp} {pos : Pos} (ho : OpR X (compareOp op) (rOp2 X.K Fo)) (ha : VEx X a f) (hb : VEx X b g) (hm : behindInMarks op b = false := by first | exact nomark _ | rfl) :
    VTx X (.Compare a [op] [b] pos) (vB (vOp2 Fo f g)) :=
  PT.imp (pt_cmpR ho ha hb hm) fun σ H Q h => by
    have h := vb_ok h
    exact two h
theorem vt_val {X : Cx} {e : Expr} {f : VE} (h : VEx X e f) (he : ∀ whole, isTrue e X.env whole = (do let v ← whole; standAt e.pos; holding [v] (truthy v)) := by intro _; rfl) : VTx X e (vB f) :=
  PT.imp (pt_val h he) fun σ H Q h => vb_ok h
def vAnd (f g : VT) : VT := fun env => (f env).bind fun p => if p.1 = true then g p.2 else some (false, p.2)
def vOr (f g : VT) : VT := fun env => (f env).bind fun p => if p.1 = true then some (true, p.2) else g p.2
def vNot (f : VT) : VT := fun env => (f env).map fun p => (!p.1, p.2)
section
variable {X : Cx} {a b : Expr} {rest : List Expr} {f g : VT} {pos : Pos}
theorem tt_seq {K : PySem.W.Frag} {f : VT} {g : Bool → VT} {σ : L2.St} {H : Hp} {Q : Bool → Hp → Prop} {h : VT} (eq : ∀ env, h env = (f env).bind fun p => g p.1 p.2) (q : TT' K h σ H Q) : TT' K f σ H fun c H1 => TT' K (g c) σ H1 Q := by
  obtain ⟨B, F, env, b, env', st, e, k⟩ := q
  rw [eq, bind_some_iff] at e
  obtain ⟨⟨c, e1⟩, hf, hg⟩ := e
  exact ⟨B, F, env, c, e1, st, hf, fun F1 H1 P1 => ⟨B, F1, e1, b, env', P1.st, hg, fun F2 H2 P2 => k F2 H2 (P1.trans st P2)⟩⟩
theorem tt_ret {K : PySem.W.Frag} {c : Bool} {σ : L2.St} {H : Hp} {Q : Bool → Hp → Prop} (q : TT' K (fun env => some (c, env)) σ H Q) : Q c H := by
  obtain ⟨B, F, env, b, env', st, e, k⟩ := q
  cases e
  exact k F H (.refl st)
theorem vw_and1 (ha : VTx X a f) : VWx X (.BoolOp .And [a] pos) f := pw_and1 ha
theorem vw_or1 (ha : VTx X a f) : VWx X (.BoolOp .Or [a] pos) f := pw_or1 ha
theorem vw_and (ha : VTx X a f) (hb : VWx X (.BoolOp .And (b :: rest) pos) g) : VWx X (.BoolOp .And (a :: b :: rest) pos) (vAnd f g) :=
  PW.imp (pw_and ha hb) fun σ H Q h => by
    obtain ⟨B, F, env, b, env', st, e, k⟩ := tt_seq (g := fun c env => if c = true then g env else some (false, env)) (fun env => rfl) h
    refine ⟨B, F, env, b, env', st, e, fun F1 H1 P1 => ?_⟩
    have q := k F1 H1 P1
    cases b with
    | true => exact iteT q
    | false => exact iteF (tt_ret q)
theorem vw_or (ha : VTx X a f) (hb : VWx X (.BoolOp .Or (b :: rest) pos) g) : VWx X (.BoolOp .Or (a :: b :: rest) pos) (vOr f g) :=
  PW.imp (pw_or ha hb) fun σ H Q h => by
    obtain ⟨B, F, env, b, env', st, e, k⟩ := tt_seq (g := fun c env => if c = true then some (true, env) else g env) (fun env => rfl) h
    refine ⟨B, F, env, b, env', st, e, fun F1 H1 P1 => ?_⟩
    have q := k F1 H1 P1
    cases b with
    | true => exact iteT (tt_ret q)
    | false => exact iteF q
theorem vt_w (h : VWx X a f) : VTx X a f := h.pt
theorem vt_not (ha : VTx X a f) : VTx X (.UnaryOp .Not a pos) (vNot f) :=
  PT.imp (pt_not ha) fun σ H Q h => by
    obtain ⟨B, F, env, b, env', st, e, k⟩ := h
    unfold vNot at e
    rw [Option.map_eq_some_iff] at e
    obtain ⟨⟨c, e1⟩, hf, he⟩ := e
    cases he
    exact ⟨B, F, env, c, e1, st, hf, k⟩
end

/-! ### and, or, not as values; a if t else b -/
def vAndV (f g : VE) : VE := fun env => (vB f env).bind fun p => if p.1 = true then g p.2 else some (.fz (.bool false), p.2)
def vOrV (f g : VE) : VE := fun env => (vB f env).bind fun p => if p.1 = true then some (.fz (.bool true), p.2) else g p.2
def vNotV (f : VE) : VE := fun env => (vB f env).map fun p => (.fz (.bool (!p.1)), p.2)
def vIfE (t : VT) (f g : VE) : VE := fun env => (t env).bind fun p => if p.1 = true then f p.2 else g p.2
section
variable {X : Cx} {a b c : Expr} {rest : List Expr} {t : VT} {f g : VE} {pos : Pos}
theorem NewR.trans {H H1 : Hp} {K : PySem.W.Frag} {B : Addr → Prop} {σ : L2.St} {env env' : EV} {F F' : Addr → Prop} {r : R} {v : V} (p : Post K B σ env F H env' F' H1) (n : NewR H1 r v) : NewR H r v := n.back p.ext.there
theorem tv_if {K : PySem.W.Frag} {t : VT} {f g : VE} {h : VE} {σ : L2.St} {H : Hp} {Q : VK} (eq : ∀ env, h env = (t env).bind fun p => if p.1 = true then f p.2 else g p.2) (q : TV K h σ H Q) :
    TT' K t σ H fun c H1 => if c = true then TV K f σ H1 Q else TV K g σ H1 Q := by
  obtain ⟨B, F, env, r, env', st, e, k⟩ := q
  rw [eq, bind_some_iff] at e
  obtain ⟨⟨c, e1⟩, hf, hg⟩ := e
  refine ⟨B, F, env, c, e1, st, hf, fun F1 H1 P1 => ?_⟩
  cases c with
  | true => exact iteT ⟨B, F1, e1, r, env', P1.st, hg, fun v F2 H2 P2 R2 N2 => k v F2 H2 (P1.trans st P2) R2 (N2.trans P1)⟩
  | false => exact iteF ⟨B, F1, e1, r, env', P1.st, hg, fun v F2 H2 P2 R2 N2 => k v F2 H2 (P1.trans st P2) R2 (N2.trans P1)⟩
theorem tv_ret {K : PySem.W.Frag} {d : PyData} {σ : L2.St} {H : Hp} {Q : VK} (q : TV K (fun env => some (.fz d, env)) σ H Q) (v : V) (h : ∀ F, Rep K F H d v) : Q v H := by
  obtain ⟨B, F, env, r, env', st, e, k⟩ := q
  cases e
  exact k v F H (.refl st) (h F) trivial
theorem ve_ifE (hc : VTx X c t) (ha : VEx X a f) (hb : VEx X b g) : VEx X (.IfExp c a b pos) (vIfE t f g) :=
  PE.imp (pe_ifExp hc ha hb) fun σ H Q h => tv_if (fun _ => rfl) h
theorem tv_b {K : PySem.W.Frag} {f : VE} {σ : L2.St} {H : Hp} {Q : Bool → Hp → Prop} (h : TT' K (vB f) σ H Q) : TV K f σ H fun x H1 => ∃ c, x = .bl c ∧ Q c H1 := vb_ok h
theorem ve_and (ha : VEx X a f) (hb : VEx X (.BoolOp .And (b :: rest) pos) g) : VEx X (.BoolOp .And (a :: b :: rest) pos) (vAndV f g) :=
  PE.imp (pe_and ha hb) fun σ H Q h => by
    have q := tv_if (t := vB f) (f := g) (g := fun env => some (.fz (.bool false), env)) (fun _ => rfl) h
    obtain ⟨B, F, env, r, env', st, e, k⟩ := tv_b q
    refine ⟨B, F, env, r, env', st, e, fun v F' H' P R N => ?_⟩
    obtain ⟨c, e, q⟩ := k v F' H' P R N
    refine ⟨c, e, ?_⟩
    cases c with
    | true => exact iteT (by simpa using q)
    | false => exact iteF (tv_ret (by simpa using q) _ fun _ => rep_boolI)
theorem ve_or (ha : VEx X a f) (hb : VEx X (.BoolOp .Or (b :: rest) pos) g) : VEx X (.BoolOp .Or (a :: b :: rest) pos) (vOrV f g) :=
  PE.imp (pe_or ha hb) fun σ H Q h => by
    have q := tv_if (t := vB f) (g := g) (f := fun env => some (.fz (.bool true), env)) (fun _ => rfl) h
    obtain ⟨B, F, env, r, env', st, e, k⟩ := tv_b q
    refine ⟨B, F, env, r, env', st, e, fun v F' H' P R N => ?_⟩
    obtain ⟨c, e, q⟩ := k v F' H' P R N
    refine ⟨c, e, ?_⟩
    cases c with
    | true => exact iteT (tv_ret (by simpa using q) _ fun _ => rep_boolI)
    | false => exact iteF (by simpa using q)
theorem ve_one {op} (ha : VEx X a f) : VEx X (.BoolOp op [a] pos) f := pe_one ha
theorem ve_not (ha : VEx X a f) : VEx X (.UnaryOp .Not a pos) (vNotV f) :=
  PE.imp (pe_not ha) fun σ H Q h => by
    obtain ⟨B, F, env, r, env', st, e, k⟩ := h
    unfold vNotV at e
    rw [Option.map_eq_some_iff] at e
    obtain ⟨⟨c, e1⟩, hf, he⟩ := e
    cases he
    have q : TT' X.K (vB f) σ H fun c H1 => Q (.bl (!c)) H1 := ⟨B, F, env, c, e1, st, hf, fun F' H' P => k (.bl (!c)) F' H' P (rR_mkB) trivial⟩
    exact tv_b q
end

/-! ### a < b < c -/
def vChain (Fo Go : F2) (f g h : VE) : VE := fun env => (f env).bind fun p => (g p.2).bind fun q => (rd q.2 p.1).bind fun a => (rd q.2 q.1).bind fun b => (Fo a b).bind fun r => match r with
  | .fz (.bool true) => (h q.2).bind fun u => (rd u.2 q.1).bind fun b' => (rd u.2 u.1).bind fun c => (Go b' c).map fun z => (z, u.2)
  | .fz (.bool false) => some (.fz (.bool false), q.2)
  | _ => none
section
variable {X : Cx} {a b c : Expr} {f g h : VE} {Fo Go : F2} {op op' : CmpOp} {pos : Pos}
theorem three {σ : L2.St} {H : Hp} {Q : VK} (q : TV X.K (vChain Fo Go f g h) σ H Q) : tChain (rOp2 X.K Fo) (rOp2 X.K Go) (TV X.K f) (TV X.K g) (TV X.K h) σ H Q := by
  obtain ⟨B, F, env, r, env', st, e, k⟩ := q
  unfold vChain at e
  simp only [bind_some_iff] at e
  obtain ⟨⟨r1, e1⟩, hf, ⟨r2, e2⟩, hg, a, ha, b, hb, r', hr, he⟩ := e
  refine ⟨B, F, env, r1, e1, st, hf, fun v1 F1 H1 P1 R1 N1 => ⟨B, F1, e1, r2, e2, P1.st, hg, fun v2 F2 H2 P2 R2 N2 => ?_⟩⟩
  refine ⟨F2, a, b, r', P2.st.fH, rd_ok P2.st (R1.post P1.st P2) ha, rd_ok P2.st R2 hb, hr, fun v H' rs => ?_⟩
  obtain ⟨p, q, n⟩ := (P1.trans st P2).res rs
  have P3 : Post X.K B σ e1 F1 H1 e2 F2 H' := (P2.res rs).1
  have R2' : RepR X.K B F2 H' σ e2 r2 v2 := R2.post P2.st ((Post.refl P2.st).res rs).1
  cases r' with
  | fz d =>
    cases d with
    | bool c =>
      refine ⟨c, rR_bool q, ?_⟩
      cases c with
      | true =>
        refine iteT ?_
        simp only [bind_some_iff, Option.map_eq_some_iff] at he
        obtain ⟨⟨r3, e3⟩, hh, b', hb', c', hc', z, hz, hee⟩ := he
        cases hee
        refine ⟨B, F2, e2, r3, e3, p.st, hh, fun v3 F3 H3 P4 R3 N3 => ?_⟩
        refine ⟨F3, b', c', _, P4.st.fH, rd_ok P4.st (R2'.post p.st P4) hb', rd_ok P4.st R3 hc', hz, fun v4 H4 rs4 => ?_⟩
        obtain ⟨p4, q4, n4⟩ := (p.trans st P4).res rs4
        exact k v4 F3 H4 p4 q4 n4
      | false =>
        refine iteF ?_
        cases he
        exact k _ F2 H' p (rR_mkB) trivial
    | _ => simp at he
  | _ => simp at he
end
end VL

/-! VL3: arguments, displays, calls of built-ins, subscripts, slices -/
namespace VL
open PySem PySem.Spec PyProof.Rows L2

/-! ### lists of data -/
section
variable {K : PySem.W.Frag} {F F' : Addr → Prop} {H H' : Hp}
theorem repA_iff : ∀ {ds : List PyData} {xs : List V}, RepA K F H ds xs ↔ ds.length = xs.length ∧ ∀ (i : Nat) d x, ds[i]? = some d → xs[i]? = some x → Rep K F H d x
  | [], xs => by
    rw [RepA]
    constructor
    · rintro rfl; exact ⟨rfl, fun i d x h => by simp at h⟩
    · rintro ⟨h, _⟩; exact List.length_eq_zero_iff.mp h.symm
  | d :: ds, xs => by
    rw [RepA]
    constructor
    · rintro ⟨x, r, rfl, h1, h2⟩
      obtain ⟨l, g⟩ := repA_iff.mp h2
      refine ⟨by simp [l], fun i d' x' e1 e2 => ?_⟩
      cases i with
      | zero => simp at e1 e2; subst e1; subst e2; exact h1
      | succ i => simp at e1 e2; exact g i d' x' e1 e2
    · rintro ⟨l, g⟩
      cases xs with
      | nil => simp at l
      | cons x r =>
        refine ⟨x, r, rfl, g 0 d x rfl rfl, repA_iff.mpr ⟨by simpa using l, fun i d' x' e1 e2 => g (i + 1) d' x' (by simpa using e1) (by simpa using e2)⟩⟩
theorem RepA.len {ds : List PyData} {xs : List V} (h : RepA K F H ds xs) : ds.length = xs.length := (repA_iff.mp h).1
theorem RepA.get {ds : List PyData} {xs : List V} (h : RepA K F H ds xs) {i : Nat} {d : PyData} (e : ds[i]? = some d) : ∃ x, xs[i]? = some x ∧ Rep K F H d x := by
  obtain ⟨l, g⟩ := repA_iff.mp h
  have hi : i < xs.length := by rw [← l]; exact (List.getElem?_eq_some_iff.mp e).1
  exact ⟨xs[i], by simp [hi], g i d _ e (by simp [hi])⟩
theorem RepA.getV {ds : List PyData} {xs : List V} (h : RepA K F H ds xs) {i : Nat} {x : V} (e : xs[i]? = some x) : ∃ d, ds[i]? = some d ∧ Rep K F H d x := by
  obtain ⟨l, g⟩ := repA_iff.mp h
  have hi : i < ds.length := by rw [l]; exact (List.getElem?_eq_some_iff.mp e).1
  exact ⟨ds[i], by simp [hi], g i _ x (by simp [hi]) e⟩
theorem RepA.append {ds es : List PyData} {xs ys : List V} (h : RepA K F H ds xs) (h' : RepA K F H es ys) : RepA K F H (ds ++ es) (xs ++ ys) := by
  obtain ⟨l, g⟩ := repA_iff.mp h
  obtain ⟨l', g'⟩ := repA_iff.mp h'
  refine repA_iff.mpr ⟨by simp [l, l'], fun i d x e1 e2 => ?_⟩
  by_cases hi : i < ds.length
  · rw [List.getElem?_append_left hi] at e1
    rw [List.getElem?_append_left (by omega)] at e2
    exact g i d x e1 e2
  · rw [List.getElem?_append_right (by omega)] at e1
    rw [List.getElem?_append_right (by omega), ← l] at e2
    exact g' _ d x e1 e2
theorem RepA.take {ds : List PyData} {xs : List V} (n : Nat) (h : RepA K F H ds xs) : RepA K F H (ds.take n) (xs.take n) := by
  obtain ⟨l, g⟩ := repA_iff.mp h
  refine repA_iff.mpr ⟨by simp [l], fun i d x e1 e2 => ?_⟩
  rw [List.getElem?_take] at e1 e2
  split at e1
  · exact g i d x e1 (by split at e2 <;> first | exact e2 | contradiction)
  · cases e1
theorem RepA.drop {ds : List PyData} {xs : List V} (n : Nat) (h : RepA K F H ds xs) : RepA K F H (ds.drop n) (xs.drop n) := by
  obtain ⟨l, g⟩ := repA_iff.mp h
  refine repA_iff.mpr ⟨by simp [l], fun i d x e1 e2 => ?_⟩
  rw [List.getElem?_drop] at e1 e2
  exact g _ d x e1 e2
theorem RepA.reverse {ds : List PyData} {xs : List V} (h : RepA K F H ds xs) : RepA K F H ds.reverse xs.reverse := by
  obtain ⟨l, g⟩ := repA_iff.mp h
  refine repA_iff.mpr ⟨by simp [l], fun i d x e1 e2 => ?_⟩
  have hi : i < ds.length := by have := (List.getElem?_eq_some_iff.mp e1).1; simpa using this
  rw [List.getElem?_reverse hi] at e1
  rw [List.getElem?_reverse (by omega), ← l] at e2
  exact g _ d x e1 e2
theorem RepA.set {ds : List PyData} {xs : List V} (j : Nat) {d : PyData} {v : V} (h : RepA K F H ds xs) (r : Rep K F H d v) : RepA K F H (ds.set j d) (xs.set j v) := by
  obtain ⟨l, g⟩ := repA_iff.mp h
  refine repA_iff.mpr ⟨by simp [l], fun i d' x' e1 e2 => ?_⟩
  by_cases hj : j = i
  · subst hj
    by_cases hl : j < ds.length
    · rw [List.getElem?_set_self hl] at e1; rw [List.getElem?_set_self (by omega)] at e2
      cases e1; cases e2; exact r
    · rw [List.getElem?_eq_none (by simpa using hl)] at e1; cases e1
  · rw [List.getElem?_set_ne hj] at e1 e2
    exact g i d' x' e1 e2
theorem RepA.erase {ds : List PyData} {xs : List V} (j : Nat) (h : RepA K F H ds xs) : RepA K F H (ds.eraseIdx j) (xs.eraseIdx j) := by
  rw [List.eraseIdx_eq_take_drop_succ, List.eraseIdx_eq_take_drop_succ]
  exact (h.take j).append (h.drop (j + 1))
theorem repA_nil : RepA K F H [] [] := by rw [RepA]
theorem RepA.one {d : PyData} {v : V} (r : Rep K F H d v) : RepA K F H [d] [v] := by
  rw [RepA]; exact ⟨v, [], rfl, r, repA_nil⟩
theorem RepA.cons {d : PyData} {v : V} {ds : List PyData} {xs : List V} (r : Rep K F H d v) (h : RepA K F H ds xs) : RepA K F H (d :: ds) (v :: xs) := by
  rw [RepA]; exact ⟨v, xs, rfl, r, h⟩
theorem RepA.rep {d : PyData} {v : V} (r : Rep K F H d v) (n : Nat) : RepA K F H (List.replicate n d) (List.replicate n v) :=
  repA_iff.mpr ⟨by simp, fun i d' x' e1 e2 => by
    by_cases h : i < n
    · simp [List.getElem?_replicate, h] at e1 e2
      subst e1; subst e2; exact r
    · simp [List.getElem?_replicate, h] at e1⟩
theorem ixN_lt {n : Nat} {i : Int} {j : Nat} (h : ixN n i = some j) : j < n := (ixN_seq h).2.1
theorem RepA.atI {ds : List PyData} {xs : List V} (h : RepA K F H ds xs) {i : Int} {d : PyData} (e : L2.atI ds i = some d) : ∃ x, L2.atI xs i = some x ∧ Rep K F H d x := by
  unfold L2.atI at e ⊢
  rw [← h.len]
  rw [bind_some_iff] at e
  obtain ⟨j, hj, e⟩ := e
  obtain ⟨x, ex, r⟩ := h.get e
  exact ⟨x, by rw [hj]; exact ex, r⟩
/-- lists of ints read as such -/
theorem repA_int_inv : ∀ {ns : List Int} {xs : List V}, RepA K F H (ns.map PyData.int) xs → xs = ns.map V.int
  | [], xs, h => by rw [List.map_nil, RepA] at h; exact h
  | n :: ns, xs, h => by
    rw [List.map_cons, RepA] at h
    obtain ⟨x, r, rfl, h1, h2⟩ := h
    rw [Rep] at h1
    rw [repA_int_inv h2, h1]; rfl
theorem repA_bool_inv : ∀ {ns : List Bool} {xs : List V}, RepA K F H (ns.map PyData.bool) xs → xs = ns.map V.bl
  | [], xs, h => by rw [List.map_nil, RepA] at h; exact h
  | n :: ns, xs, h => by
    rw [List.map_cons, RepA] at h
    obtain ⟨x, r, rfl, h1, h2⟩ := h
    rw [Rep] at h1
    rw [repA_bool_inv h2, h1]; rfl
end
/-- the ints of data, where they are such -/
def ints? : List PyData → Option (List Int)
  | [] => some []
  | .int i :: r => (ints? r).map (i :: ·)
  | _ => none
theorem ints?_eq : ∀ {ds : List PyData} {ns : List Int}, ints? ds = some ns → ds = ns.map .int
  | [], ns, h => by cases h; rfl
  | .int i :: r, ns, h => by
    simp only [ints?, Option.map_eq_some_iff] at h
    obtain ⟨ms, h, rfl⟩ := h
    rw [ints?_eq h]; rfl
@[simp] theorem ints?_map : ∀ ns : List Int, ints? (ns.map .int) = some ns
  | [] => rfl
  | n :: ns => by simp [ints?, ints?_map ns]
def bools? : List PyData → Option (List Bool)
  | [] => some []
  | .bool i :: r => (bools? r).map (i :: ·)
  | _ => none
theorem bools?_eq : ∀ {ds : List PyData} {ns : List Bool}, bools? ds = some ns → ds = ns.map .bool
  | [], ns, h => by cases h; rfl
  | .bool i :: r, ns, h => by
    simp only [bools?, Option.map_eq_some_iff] at h
    obtain ⟨ms, h, rfl⟩ := h
    rw [bools?_eq h]; rfl
@[simp] theorem bools?_map : ∀ ns : List Bool, bools? (ns.map .bool) = some ns
  | [] => rfl
  | n :: ns => by simp [bools?, bools?_map ns]

/-! ### arguments -/
def vaNil : VA := fun env => some ([], env)
def vaCons (f : VE) (as : VA) : VA := fun env => (f env).bind fun p => (as p.2).map fun q => (p.1 :: q.1, q.2)
section
variable {K : PySem.W.Frag} {B F F' : Addr → Prop} {H H' : Hp} {σ : L2.St} {env env' : EV}
theorem RepRs.post (s : StOk K B F H σ env) (p : Post K B σ env F H env' F' H') : ∀ {rs : List R} {vs : List V}, RepRs K B F H σ env rs vs → RepRs K B F' H' σ env' rs vs
  | [], vs, h => h
  | r :: rs, vs, h => by
    obtain ⟨v, ws, e, h1, h2, h3⟩ := h
    exact ⟨v, ws, e, h1.post s p, h2, RepRs.post s p h3⟩
theorem NewRs.back (t : ∀ a, H a ≠ none → H' a ≠ none) : ∀ {rs : List R} {vs : List V}, NewRs H' rs vs → NewRs H rs vs
  | [], _, _ => trivial
  | _ :: _, [], _ => trivial
  | r :: rs, v :: vs, h => ⟨h.1.back t, NewRs.back t h.2⟩
theorem NewRs.at_ : ∀ {rs : List R} {vs : List V} {j : Nat} {k d} {v : V}, NewRs H rs vs → rs[j]? = some (.ow k d) → vs[j]? = some v → ∃ a, v = .ref a ∧ H a = none
  | [], _, _, _, _, _, _, h, _ => by simp at h
  | _ :: _, [], _, _, _, _, _, _, h => by simp at h
  | r :: rs, v :: vs, 0, _, _, _, n, h1, h2 => by
    simp at h1 h2; subst h1; subst h2; exact n.1
  | r :: rs, v :: vs, j + 1, _, _, _, n, h1, h2 => NewRs.at_ n.2 (by simpa using h1) (by simpa using h2)
end
section
variable {X : Cx} {e : Expr} {es : List Expr} {f : VE} {as : VA}
theorem va_nil : VAx X [] vaNil := PA.imp pa_nil fun σ H Q h => by
  obtain ⟨B, F, env, rs, env', st, e, k⟩ := h
  cases e
  exact k [] F H (.refl st) rfl trivial
theorem va_cons (ha : VEx X e f) (hr : VAx X es as) (hs : starEach (e :: es) X.env = (false, eval e X.env) :: starEach es X.env := by rfl) : VAx X (e :: es) (vaCons f as) :=
  PA.imp (pa_cons ha hr hs) fun σ H Q h => by
    obtain ⟨B, F, env, rs, env', st, e, k⟩ := h
    unfold vaCons at e
    simp only [bind_some_iff, Option.map_eq_some_iff] at e
    obtain ⟨⟨r, e1⟩, hf, ⟨rs', e2⟩, hg, he⟩ := e
    cases he
    refine ⟨B, F, env, r, e1, st, hf, fun v F1 H1 P1 R1 N1 => ⟨B, F1, e1, rs', _, P1.st, hg, fun vs F2 H2 P2 R2 N2 => ?_⟩⟩
    refine k (v :: vs) F2 H2 (P1.trans st P2) ⟨v, vs, rfl, R1.post P1.st P2, fun k' d' er j k2 d2 ej ev => ?_, R2⟩ ⟨N1, N2.back P1.ext.there⟩
    subst er
    obtain ⟨a, rfl, nf, nb, no, ro⟩ := R1
    obtain ⟨a', ea, na⟩ := N2.at_ ej ev
    cases ea
    exact mut_ne ro.mut na
end
/-- arguments that are stored: data from now on -/
abbrev VU := EV → Option (List PyData × EV)
def TVU (K : PySem.W.Frag) (f : VU) : TA := fun σ H Q => ∃ B F env ds env', StOk K B F H σ env ∧ f env = some (ds, env') ∧
  ∀ vs F' H', Post K B σ env F H env' F' H' → RepA K F' H' ds vs → Q vs H'
abbrev VUx (X : Cx) (es : List Expr) (f : VU) : Prop := PA X es (TVU X.K f)
def vuNil : VU := fun env => some ([], env)
def vUse (f : VE) : EV → Option (PyData × EV) := fun env => (f env).bind fun p => use p.2 p.1
def vuCons (f : VE) (as : VU) : VU := fun env => (vUse f env).bind fun p => (as p.2).map fun q => (p.1 :: q.1, q.2)
/-- *e -/
def seq? : PyData → Option (List PyData)
  | .list xs => some xs
  | .tuple xs => some xs
  | _ => none
def vuStar (f : VE) (as : VU) : VU := fun env => (vUse f env).bind fun p => (seq? p.1).bind fun xs => (as p.2).map fun q => (xs ++ q.1, q.2)
/-- a value that is frozen at once -/
def TU (K : PySem.W.Frag) (f : EV → Option (PyData × EV)) : TE := fun σ H Q => ∃ B F env d env', StOk K B F H σ env ∧ f env = some (d, env') ∧
  ∀ v F' H', Post K B σ env F H env' F' H' → Rep K F' H' d v → Q v H'
theorem tu_of {K : PySem.W.Frag} {f : VE} {σ : L2.St} {H : Hp} {Q : VK} (h : TU K (vUse f) σ H Q) : TV K f σ H Q := by
  obtain ⟨B, F, env, d, env', st, e, k⟩ := h
  unfold vUse at e
  rw [bind_some_iff] at e
  obtain ⟨⟨r, e1⟩, hf, hu⟩ := e
  refine ⟨B, F, env, r, e1, st, hf, fun v F1 H1 P1 R1 N1 => ?_⟩
  obtain ⟨F2, P2, r2, _⟩ := use_ok P1 R1 N1 hu
  exact k v F2 H1 P2 r2
section
variable {X : Cx} {e : Expr} {es : List Expr} {f : VE} {as : VU}
theorem vu_nil : VUx X [] vuNil := PA.imp pa_nil fun σ H Q h => by
  obtain ⟨B, F, env, rs, env', st, e, k⟩ := h
  cases e
  exact k [] F H (.refl st) repA_nil
theorem vu_cons (ha : VEx X e f) (hr : VUx X es as) (hs : starEach (e :: es) X.env = (false, eval e X.env) :: starEach es X.env := by rfl) : VUx X (e :: es) (vuCons f as) :=
  PA.imp (pa_cons ha hr hs) fun σ H Q h => by
    obtain ⟨B, F, env, ds, env', st, e, k⟩ := h
    unfold vuCons at e
    simp only [bind_some_iff, Option.map_eq_some_iff] at e
    obtain ⟨⟨d, e1⟩, hf, ⟨ds', e2⟩, hg, he⟩ := e
    cases he
    refine tu_of ⟨B, F, env, d, e1, st, hf, fun v F1 H1 P1 R1 => ⟨B, F1, e1, ds', _, P1.st, hg, fun vs F2 H2 P2 R2 => ?_⟩⟩
    exact k (v :: vs) F2 H2 (P1.trans st P2) (.cons (Rep.up (P2.up P1.st) _ _ R1) R2)
theorem vu_star {p : Pos} (ha : VEx X e f) (hr : VUx X es as) (hs : starEach (.Starred e p :: es) X.env = (true, eval e X.env) :: starEach es X.env := by rfl) : VUx X (.Starred e p :: es) (vuStar f as) :=
  PA.imp (StX.pa_star ha hr hs) fun σ H Q h => by
    obtain ⟨B, F, env, ds, env', st, e, k⟩ := h
    unfold vuStar at e
    simp only [bind_some_iff, Option.map_eq_some_iff] at e
    obtain ⟨⟨d, e1⟩, hf, xs, hx, ⟨ds', e2⟩, hg, he⟩ := e
    cases he
    refine tu_of ⟨B, F, env, d, e1, st, hf, fun v F1 H1 P1 R1 => ?_⟩
    have key : ∃ a ys, v = .ref a ∧ (SqT X.K H1 a ys ∨ SqL X.K H1 a ys) ∧ RepA X.K F1 H1 xs ys := by
      cases d with
      | list zs =>
        cases hx
        rw [Rep] at R1
        obtain ⟨a, ys, ev, _, hl, r⟩ := R1
        exact ⟨a, ys, ev, .inr (.inl (.inl hl)), r⟩
      | tuple zs =>
        cases hx
        rw [Rep] at R1
        obtain ⟨a, ys, ev, hl, r⟩ := R1
        exact ⟨a, ys, ev, .inl hl.sq, r⟩
      | _ => cases hx
    obtain ⟨a, ys, ev, hq, r⟩ := key
    refine ⟨a, ys, ev, hq, B, F1, e1, ds', _, P1.st, hg, fun vs F2 H2 P2 R2 => ?_⟩
    exact k (ys ++ vs) F2 H2 (P1.trans st P2) ((RepA.up (P2.up P1.st) _ _ r).append R2)
/-- a tuple is laid -/
theorem lay_tup {X : Cx} {pins : List (Addr × Obj)} {σ : L2.St} {H : Hp} {s : Shared} {xs : List V} {us : List Value} (I : Inv X pins σ H s) (hv : Vals xs us) (hz : xs.length ≤ sizeLine) (t' : Nat) :
    ∃ o', Inv X pins σ (upd H s.heap.objs.size o') { s with heap := s.heap.push { cls := .type "tuple", data := .seq us.toArray }, toks := t' } ∧ TupAt (upd H s.heap.objs.size o') s.heap.objs.size xs := by
  by_cases z : st xs = true
  · refine ⟨.frz { cls := .type "tuple", data := .seq us.toArray } (.tup xs), I.laid (t' := t') (fun b u e => Heap.get?_push_of_some _ e) (Nat.le_refl _) ⟨Heap.get?_push_size _ rfl, hz, us, hv, ⟨_, Heap.get?_push_size _ rfl, rfl, _, rfl⟩⟩, ?_⟩
    unfold TupAt
    rw [if_pos z]
    exact ⟨_, upd_same, rfl⟩
  · refine ⟨.tup xs, I.laid (t' := t') (fun b u e => Heap.get?_push_of_some _ e) (Nat.le_refl _) ⟨hz, us, hv, ⟨_, Heap.get?_push_size _ rfl, rfl, _, rfl⟩⟩, ?_⟩
    unfold TupAt
    rw [if_neg z]
    exact upd_same
def tTupZ (t : TA) : TE := fun σ H Q => t σ H fun xs H1 => xs.length ≤ sizeLine ∧ ∀ p o', H1 p = none → TupAt (upd H1 p o') p xs → Q (.ref p) (upd H1 p o')
theorem pe_tupZ {X : Cx} {es : List Expr} {t : TA} {x1 pos} (h : PA X es t) : PE X (.Tuple es x1 pos) (tTupZ t) := by
  refine ⟨fun pins s σ H Q I hq => ?_⟩
  refine wpAny_Tuple_spliced (thn (h.run pos pins s σ H _ I hq) fun us s1 ⟨xs, H1, I1, r, z, q⟩ => ⟨by rw [← r.length]; exact z, ?_⟩)
  obtain ⟨o', I2, t⟩ := lay_tup I1 r z s1.toks
  exact ⟨.ref s1.heap.objs.size, _, I2, rfl, q _ _ (I1.hok.fresh (Nat.le_refl _)) t⟩
/-- (a, b, ..), [a, b, ..] -/
def vTup (as : VU) : VE := fun env => (as env).bind fun p => if p.1.length ≤ sizeLine then some (.fz (.tuple p.1), p.2) else none
def vLst (as : VU) : VE := fun env => (as env).bind fun p => if p.1.length ≤ sizeLine then some (.ow false (.list p.1), p.2) else none
theorem ve_tup {x1 pos} (h : VUx X es as) : VEx X (.Tuple es x1 pos) (vTup as) := PE.imp (pe_tupZ h) fun σ H Q h => by
  obtain ⟨B, F, env, r, env', st, e, k⟩ := h
  unfold vTup at e
  rw [bind_some_iff] at e
  obtain ⟨⟨ds, e1⟩, hf, e⟩ := e
  dsimp only at e
  split at e
  · cases e
    rename_i hl
    refine ⟨B, F, env, ds, _, st, hf, fun vs F1 H1 P1 R1 => ⟨by rw [← R1.len]; exact hl, fun p o' np ta => ?_⟩⟩
    obtain ⟨q, r, n⟩ := P1.res (Res.tupZ np ta R1)
    exact k _ F1 _ q r n
  · cases e
theorem ve_lst {pos} (h : VUx X es as) : VEx X (.List es pos) (vLst as) := PE.imp (pe_lst h) fun σ H Q h => by
  obtain ⟨B, F, env, r, env', st, e, k⟩ := h
  unfold vLst at e
  rw [bind_some_iff] at e
  obtain ⟨⟨ds, e1⟩, hf, e⟩ := e
  dsimp only at e
  split at e
  · cases e
    rename_i hl
    refine ⟨B, F, env, ds, _, st, hf, fun vs F1 H1 P1 R1 => ⟨by rw [← R1.len]; exact hl, fun p np => ?_⟩⟩
    obtain ⟨q, r, n⟩ := P1.res (Res.lst np R1 P1.st.fH)
    exact k _ F1 _ q r n
  · cases e
end

/-! ### calls of built-ins -/
def rdAll (env : EV) : List R → Option (List PyData)
  | [] => some []
  | r :: rs => (rdw env r).bind fun d => (rdAll env rs).map fun ds => d :: ds
def RdLA (K : PySem.W.Frag) (F : Addr → Prop) (H : Hp) : List PyData → List V → Prop
  | [], vs => vs = []
  | d :: ds, vs => ∃ v ws, vs = v :: ws ∧ RdL K F H d v ∧ RdLA K F H ds ws
theorem rdAll_ok {K : PySem.W.Frag} {B F : Addr → Prop} {H : Hp} {σ : L2.St} {env : EV} (s : StOk K B F H σ env) : ∀ {rs : List R} {vs : List V} {ds : List PyData}, RepRs K B F H σ env rs vs → rdAll env rs = some ds → RdLA K F H ds vs
  | [], vs, ds, h, e => by cases e; exact h
  | r :: rs, vs, ds, h, e => by
    simp only [rdAll, bind_some_iff, Option.map_eq_some_iff] at e
    obtain ⟨d, e1, ds', e2, rfl⟩ := e
    obtain ⟨v, ws, rfl, h1, _, h2⟩ := h
    exact ⟨v, ws, rfl, rdw_ok s h1 e1, rdAll_ok s h2 e2⟩
abbrev FB := List PyData → Option R
def rB (K : PySem.W.Frag) (bf : FB) : List V → Hp → VK → Prop := fun vs H Q => ∃ F ds r, (∀ c, F c → H c ≠ none) ∧ RdLA K F H ds vs ∧ bf ds = some r ∧ ∀ v H', Res K F H H' r v → Q v H'
def vBlt (bf : FB) (as : VA) : VE := fun env => (as env).bind fun p => (rdAll p.2 p.1).bind fun ds => (bf ds).map fun r => (r, p.2)
theorem blt_ok {K : PySem.W.Frag} {bf : FB} {as : VA} {σ : L2.St} {H : Hp} {Q : VK} (h : TV K (vBlt bf as) σ H Q) : TVA K as σ H fun vs H1 => rB K bf vs H1 Q := by
  obtain ⟨B, F, env, r, env', st, e, k⟩ := h
  unfold vBlt at e
  simp only [bind_some_iff, Option.map_eq_some_iff] at e
  obtain ⟨⟨rs, e1⟩, hf, ds, hd, r', hr, he⟩ := e
  cases he
  refine ⟨B, F, env, rs, _, st, hf, fun vs F1 H1 P1 R1 N1 => ⟨F1, ds, _, P1.st.fH, rdAll_ok P1.st R1 hd, hr, fun v H' rs => ?_⟩⟩
  obtain ⟨p, q, n⟩ := P1.res rs
  exact k v F1 H' p q n
section
variable {X : Cx} {e : Expr} {es : List Expr} {as : VA} {bf : FB} {x : Str} {p pos : Pos}
theorem ve_blt {id : String} (hc : CallR X (.builtin id) (rB X.K bf)) (hm : X.mg x = none) (hv : bootBuiltins x = some (.builtin id)) (ha : VAx X (e :: es) as) (hg : Gl X x := by rfl) (hn : x ≠ "__name__" := by decide) (hd : (x == ("__debug__" : Str)) = false := by decide)
    (hs : starEach (e :: es) X.env = (false, eval e X.env) :: starEach es X.env := by rfl) (hp : ((backTo pos (starEach es X.env)).any (·.1)) = false := by rfl) : VEx X (.Call (.Name x p) (e :: es) [] pos) (vBlt bf as) :=
  PE.imp (pe_callB hc hg hm hv ha hn hd hs hp) fun σ H Q h => blt_ok h
theorem ve_bty {T : String} (hc : CallR X (.type T) (rB X.K bf)) (hm : X.mg x = none) (hv : bootBuiltins x = some (.type T)) (ha : VAx X (e :: es) as) (hg : Gl X x := by rfl) (hn : x ≠ "__name__" := by decide) (hd : (x == ("__debug__" : Str)) = false := by decide)
    (hs : starEach (e :: es) X.env = (false, eval e X.env) :: starEach es X.env := by rfl) (hp : ((backTo pos (starEach es X.env)).any (·.1)) = false := by rfl) : VEx X (.Call (.Name x p) (e :: es) [] pos) (vBlt bf as) :=
  PE.imp (pe_callTy hc hg hm hv ha hn hd hs hp) fun σ H Q h => blt_ok h
theorem CallR.imp {f : Value} {r r' : List V → Hp → VK → Prop} (h : CallR X f r) (i : ∀ vs H Q, r' vs H Q → r vs H Q) : CallR X f r' :=
  fun pins s σ H xs us Q I rv q => h pins s σ H xs us Q I rv (i _ _ _ q)
end
end VL

/-! VL4: the built-ins' rules -/
namespace VL
open PySem PySem.Spec PyProof.Rows L2
section
variable {K : PySem.W.Frag} {F : Addr → Prop} {H : Hp}
theorem rdL_list {ds : List PyData} {v : V} : RdL K F H (.list ds) v ↔ ∃ a xs, v = .ref a ∧ SqL K H a xs ∧ RepA K F H ds xs := Iff.rfl
theorem rdL_tup {ds : List PyData} {v : V} : RdL K F H (.tuple ds) v ↔ ∃ a xs, v = .ref a ∧ TupAt H a xs ∧ RepA K F H ds xs := rdd_tup
theorem rdL_int {i : Int} {v : V} : RdL K F H (.int i) v ↔ v = .int i := rdd_int (K := K) (F := F) (H := H)
theorem rdL_bool {i : Bool} {v : V} : RdL K F H (.bool i) v ↔ v = .bl i := rdd_bool (K := K) (F := F) (H := H)
theorem rdL_str {i : Str} {v : V} : RdL K F H (.str i) v ↔ v = .str i := rdd_str (K := K) (F := F) (H := H)
/-- one argument -/
theorem rdLA_one {d : PyData} {vs : List V} (h : RdLA K F H [d] vs) : ∃ v, vs = [v] ∧ RdL K F H d v := by
  obtain ⟨v, ws, rfl, h1, h2⟩ := h
  obtain rfl : ws = [] := h2
  exact ⟨v, rfl, h1⟩
theorem rdLA_two {d e : PyData} {vs : List V} (h : RdLA K F H [d, e] vs) : ∃ v w, vs = [v, w] ∧ RdL K F H d v ∧ RdL K F H e w := by
  obtain ⟨v, ws, rfl, h1, h2⟩ := h
  obtain ⟨w, rfl, h3⟩ := rdLA_one h2
  exact ⟨v, w, rfl, h1, h3⟩
end
section
variable {X : Cx}
/-- len -/
def lenF : FB
  | [.list ds] => some (.fz (.int ds.length))
  | [.tuple ds] => some (.fz (.int ds.length))
  | _ => none
theorem b_len : CallR X (.builtin "len") (rB X.K lenF) := CallR.imp call_len_seq fun vs H Q h => by
  obtain ⟨F, ds, r, fH, rd, e, q⟩ := h
  unfold lenF at e
  split at e
  · cases e
    obtain ⟨v, rfl, h⟩ := rdLA_one rd
    obtain ⟨a, xs, rfl, hs, ra⟩ := rdL_list.mp h
    exact ⟨a, xs, rfl, .inl hs, q _ _ (Res.fz (by rw [ra.len]; exact rep_intI))⟩
  · cases e
    obtain ⟨v, rfl, h⟩ := rdLA_one rd
    obtain ⟨a, xs, rfl, hs, ra⟩ := rdL_tup.mp h
    exact ⟨a, xs, rfl, .inr (hs.sq), q _ _ (Res.fz (by rw [ra.len]; exact rep_intI))⟩
  · cases e
/-- int(n), int(flag); abs -/
def intF : FB
  | [.int i] => some (.fz (.int i))
  | [.bool b] => some (.fz (.int (if b then 1 else 0)))
  | _ => none
theorem b_int : CallR X (.type "int") (rB X.K intF) := CallR.imp call_int1 fun vs H Q h => by
  obtain ⟨F, ds, r, fH, rd, e, q⟩ := h
  unfold intF at e
  split at e
  · cases e
    obtain ⟨v, rfl, h⟩ := rdLA_one rd
    exact .inl ⟨_, by rw [rdL_int.mp h], q _ _ (Res.fz rep_intI)⟩
  · cases e
    obtain ⟨v, rfl, h⟩ := rdLA_one rd
    exact .inr ⟨_, by rw [rdL_bool.mp h], q _ _ (Res.fz rep_intI)⟩
  · cases e
def absF : FB
  | [.int i] => some (.fz (.int (if i < 0 then -i else i)))
  | _ => none
theorem b_abs : CallR X (.builtin "abs") (rB X.K absF) := CallR.imp call_abs fun vs H Q h => by
  obtain ⟨F, ds, r, fH, rd, e, q⟩ := h
  unfold absF at e
  split at e
  · cases e
    obtain ⟨v, rfl, h⟩ := rdLA_one rd
    exact ⟨_, by rw [rdL_int.mp h], q _ _ (Res.fz rep_intI)⟩
  · cases e
/-- max(a, b), min(a, b) -/
def max2F : FB
  | [.int i, .int j] => some (.fz (.int (if j > i then j else i)))
  | _ => none
theorem b_max2 (hc : X.calm = true) : CallR X (.builtin "max") (rB X.K max2F) := CallR.imp (call_max2 hc) fun vs H Q h => by
  obtain ⟨F, ds, r, fH, rd, e, q⟩ := h
  unfold max2F at e
  split at e
  · cases e
    obtain ⟨v, w, rfl, h1, h2⟩ := rdLA_two rd
    exact ⟨_, _, by rw [rdL_int.mp h1, rdL_int.mp h2], q _ _ (Res.fz rep_intI)⟩
  · cases e
def min2F : FB
  | [.int i, .int j] => some (.fz (.int (if j < i then j else i)))
  | _ => none
theorem b_min2 (hc : X.calm = true) : CallR X (.builtin "min") (rB X.K min2F) := CallR.imp (call_min2 hc) fun vs H Q h => by
  obtain ⟨F, ds, r, fH, rd, e, q⟩ := h
  unfold min2F at e
  split at e
  · cases e
    obtain ⟨v, w, rfl, h1, h2⟩ := rdLA_two rd
    exact ⟨_, _, by rw [rdL_int.mp h1, rdL_int.mp h2], q _ _ (Res.fz rep_intI)⟩
  · cases e
/-- max(xs), min(xs) of ints -/
def lmax : List Int → Int
  | [] => 0
  | [x] => x
  | x :: r => max x (lmax r)
def lmin : List Int → Int
  | [] => 0
  | [x] => x
  | x :: r => min x (lmin r)
theorem lmax_mem : ∀ {ns : List Int}, ns ≠ [] → lmax ns ∈ ns
  | [x], _ => by simp [lmax]
  | x :: y :: r, _ => by
    have h := lmax_mem (ns := y :: r) (by simp)
    show max x (lmax (y :: r)) ∈ _
    by_cases c : x ≤ lmax (y :: r)
    · rw [Int.max_eq_right c]; exact List.mem_cons_of_mem _ h
    · rw [Int.max_eq_left (by omega)]; exact List.mem_cons_self
theorem lmax_ge : ∀ {ns : List Int} {y : Int}, y ∈ ns → y ≤ lmax ns
  | [x], y, h => by simp at h; simp [lmax, h]
  | x :: z :: r, y, h => by
    show y ≤ max x (lmax (z :: r))
    rcases List.mem_cons.mp h with rfl | h
    · exact Int.le_max_left _ _
    · exact Int.le_trans (lmax_ge h) (Int.le_max_right _ _)
theorem lmin_mem : ∀ {ns : List Int}, ns ≠ [] → lmin ns ∈ ns
  | [x], _ => by simp [lmin]
  | x :: y :: r, _ => by
    have h := lmin_mem (ns := y :: r) (by simp)
    show min x (lmin (y :: r)) ∈ _
    by_cases c : x ≤ lmin (y :: r)
    · rw [Int.min_eq_left c]; exact List.mem_cons_self
    · rw [Int.min_eq_right (by omega)]; exact List.mem_cons_of_mem _ h
theorem lmin_le : ∀ {ns : List Int} {y : Int}, y ∈ ns → lmin ns ≤ y
  | [x], y, h => by simp at h; simp [lmin, h]
  | x :: z :: r, y, h => by
    show min x (lmin (z :: r)) ≤ y
    rcases List.mem_cons.mp h with rfl | h
    · exact Int.min_le_left _ _
    · exact Int.le_trans (Int.min_le_right _ _) (lmin_le h)
def maxLF : FB
  | [.list ds] => (ints? ds).bind fun ns => if ns = [] then none else some (.fz (.int (lmax ns)))
  | _ => none
theorem b_maxL (hc : X.calm = true) : CallR X (.builtin "max") (rB X.K maxLF) := CallR.imp (cr_max hc) fun vs H Q h => by
  obtain ⟨F, ds, r, fH, rd, e, q⟩ := h
  unfold maxLF at e
  split at e
  · rw [bind_some_iff] at e
    obtain ⟨ns, hn, e⟩ := e
    split at e
    · cases e
    · rename_i ne
      cases e
      obtain ⟨v, rfl, h⟩ := rdLA_one rd
      obtain ⟨a, xs, rfl, hs, ra⟩ := rdL_list.mp h
      rw [ints?_eq hn] at ra
      rw [repA_int_inv ra] at hs
      refine ⟨a, ns, rfl, hs, List.length_pos_iff.mpr ne, fun m h1 h2 => ?_⟩
      have : m = lmax ns := Int.le_antisymm (lmax_ge h1) (h2 _ (lmax_mem ne))
      rw [this]
      exact q _ _ (Res.fz rep_intI)
  · cases e
def minLF : FB
  | [.list ds] => (ints? ds).bind fun ns => if ns = [] then none else some (.fz (.int (lmin ns)))
  | _ => none
theorem b_minL (hc : X.calm = true) : CallR X (.builtin "min") (rB X.K minLF) := CallR.imp (cr_min hc) fun vs H Q h => by
  obtain ⟨F, ds, r, fH, rd, e, q⟩ := h
  unfold minLF at e
  split at e
  · rw [bind_some_iff] at e
    obtain ⟨ns, hn, e⟩ := e
    split at e
    · cases e
    · rename_i ne
      cases e
      obtain ⟨v, rfl, h⟩ := rdLA_one rd
      obtain ⟨a, xs, rfl, hs, ra⟩ := rdL_list.mp h
      rw [ints?_eq hn] at ra
      rw [repA_int_inv ra] at hs
      refine ⟨a, ns, rfl, hs, List.length_pos_iff.mpr ne, fun m h1 h2 => ?_⟩
      have : m = lmin ns := Int.le_antisymm (h2 _ (lmin_mem ne)) (lmin_le h1)
      rw [this]
      exact q _ _ (Res.fz rep_intI)
  · cases e
/-- all, any of a list of bools -/
def allF : FB
  | [.list ds] => (bools? ds).bind fun bs => some (.fz (.bool (bs.all id)))
  | _ => none
theorem b_all (hc : X.calm = true) : CallR X (.builtin "all") (rB X.K allF) := CallR.imp (cr_all hc) fun vs H Q h => by
  obtain ⟨F, ds, r, fH, rd, e, q⟩ := h
  unfold allF at e
  split at e
  · rw [bind_some_iff] at e
    obtain ⟨ns, hn, e⟩ := e
    cases e
    obtain ⟨v, rfl, h⟩ := rdLA_one rd
    obtain ⟨a, xs, rfl, hs, ra⟩ := rdL_list.mp h
    rw [bools?_eq hn] at ra
    rw [repA_bool_inv ra] at hs
    exact ⟨a, ns, rfl, hs, q _ _ (Res.fz rep_boolI)⟩
  · cases e
def anyF : FB
  | [.list ds] => (bools? ds).bind fun bs => some (.fz (.bool (bs.any id)))
  | _ => none
theorem b_any (hc : X.calm = true) : CallR X (.builtin "any") (rB X.K anyF) := CallR.imp (cr_any hc) fun vs H Q h => by
  obtain ⟨F, ds, r, fH, rd, e, q⟩ := h
  unfold anyF at e
  split at e
  · rw [bind_some_iff] at e
    obtain ⟨ns, hn, e⟩ := e
    cases e
    obtain ⟨v, rfl, h⟩ := rdLA_one rd
    obtain ⟨a, xs, rfl, hs, ra⟩ := rdL_list.mp h
    rw [bools?_eq hn] at ra
    rw [repA_bool_inv ra] at hs
    exact ⟨a, ns, rfl, hs, q _ _ (Res.fz rep_boolI)⟩
  · cases e
/-- tuple(xs), list(xs) -/
def tupleF : FB
  | [.list ds] => some (.fz (.tuple ds))
  | [.tuple ds] => some (.fz (.tuple ds))
  | _ => none
theorem call_tupZ : CallR X (.type "tuple") (fun xs H Q => ∃ p ys, xs = [.ref p] ∧ ((SqL X.K H p ys ∧ ∀ l o', H l = none → TupAt (upd H l o') l ys → Q (.ref l) (upd H l o')) ∨ (SqT X.K H p ys ∧ Q (.ref p) H))) := by
  intro pins s σ H xs us Q I r h
  obtain ⟨p, ys, rfl, h⟩ := h
  obtain ⟨u, rfl, rx⟩ := vals1 r
  cases rx
  rcases h with ⟨hq, q⟩ | ⟨hq, q⟩
  · obtain ⟨its, r', pl, hz⟩ := I.list hq
    have hlen := r'.length
    refine call_tuple_list pl.isList (fun h' kp => ?_) (by simp only [List.size_toArray] <;> omega)
    have I1 : Inv X pins σ H { s with heap := h' } := I.kept (t' := s.toks) kp
    obtain ⟨o', I2, t⟩ := lay_tup I1 r' hz s.toks
    exact ⟨.ref h'.objs.size, _, I2, rfl, q _ _ (I1.hok.fresh (Nat.le_refl _)) t⟩
  · obtain ⟨its, r', pl, hz⟩ := I.tuple hq
    exact call_tuple_same pl ⟨.ref p, H, I, rfl, q⟩
theorem b_tuple : CallR X (.type "tuple") (rB X.K tupleF) := CallR.imp call_tupZ fun vs H Q h => by
  obtain ⟨F, ds, r, fH, rd, e, q⟩ := h
  unfold tupleF at e
  split at e
  · cases e
    obtain ⟨v, rfl, h⟩ := rdLA_one rd
    obtain ⟨a, xs, rfl, hs, ra⟩ := rdL_list.mp h
    exact ⟨a, xs, rfl, .inl ⟨hs, fun l o' n t => q _ _ (Res.tupZ n t ra)⟩⟩
  · cases e
    obtain ⟨v, rfl, h⟩ := rdLA_one rd
    obtain ⟨a, xs, rfl, hs, ra⟩ := rdL_tup.mp h
    exact ⟨a, xs, rfl, .inr ⟨hs.sq, q _ _ (Res.fz (by rw [Rep]; exact ⟨a, xs, rfl, hs, ra⟩))⟩⟩
  · cases e
def listF : FB
  | [.list ds] => some (.ow false (.list ds))
  | [.tuple ds] => some (.ow false (.list ds))
  | _ => none
theorem b_list : CallR X (.type "list") (rB X.K listF) := CallR.imp call_list_of fun vs H Q h => by
  obtain ⟨F, ds, r, fH, rd, e, q⟩ := h
  unfold listF at e
  split at e
  · cases e
    obtain ⟨v, rfl, h⟩ := rdLA_one rd
    obtain ⟨a, xs, rfl, hs, ra⟩ := rdL_list.mp h
    exact ⟨a, xs, rfl, .inl hs, fun l n => q _ _ (Res.lst n ra fH)⟩
  · cases e
    obtain ⟨v, rfl, h⟩ := rdLA_one rd
    obtain ⟨a, xs, rfl, hs, ra⟩ := rdL_tup.mp h
    exact ⟨a, xs, rfl, .inr (hs.sq), fun l n => q _ _ (Res.lst n ra fH)⟩
  · cases e
end

/-! ### sum -/
section
variable {prog : Program} {w : World} {A : Around} {E : Value → Shared → Prop} {s : Shared} {l : Addr} {its : List Value} {ns : List Int} {Q : Value → Shared → Prop}
theorem old_keptT {n a : Addr} {h h' : Heap} {ob : Obj} (hn : n = h.objs.size) (k : ∀ b o, b ∉ [n] → (h.push ob).get? b = some o → h'.get? b = some o) : ∀ b o, h.get? b = some o → h'.get? b = some o := fun b o e =>
  k b o (by intro hm; rw [List.mem_singleton, hn] at hm; have q := Heap.lt_size e; rw [hm] at q; exact Nat.lt_irrefl _ q) (Heap.get?_push_of_some _ e)
theorem sum_rawT (hh : A.handled = none) (ht : IsTup s.heap l its.toArray) (hi : IntsAre its ns)
    (h : ∀ h' tk t', (∀ b o, s.heap.get? b = some o → h'.get? b = some o) → Q (.int ns.sum t') { s with heap := h', toks := tk }) : wpAny (model prog w) A (call (.builtin "sum") [.ref l]) Q E s := by
  obtain ⟨xs, e⟩ := hi.allInts.items
  have hn : numsOf (intItems xs).toList = ns := by rw [← e]; exact hi.numsOf
  rw [nums_intItems] at hn
  rw [e] at ht
  have hlt : l < s.heap.objs.size := ht.lt
  refine call_sum_walkG (wpAny_pyIter_tuple (show s.heap.IsTuple l (intItems xs) from ht) ?_)
  refine ⟨_, [_, l], [_], _, _, _, numAt xs, rfl, Walks.tuple (A := A.in1) hh _ l (Nat.ne_of_lt hlt) (intItems xs), ⟨⟨_, Heap.get?_push_size _ rfl, rfl, rfl⟩, (show s.heap.IsTuple l (intItems xs) from ht).push _⟩, fun b hb => ?_, (fun _ _ => intItems_at), fun h' tk t' hk => ?_⟩
  · show b < (s.heap.push _).objs.size
    rw [Heap.size_push]
    rcases List.mem_cons.mp hb with rfl | hb
    · exact Nat.lt_succ_self _
    · rcases List.mem_cons.mp hb with rfl | hb
      · exact Nat.lt_succ_of_lt hlt
      · cases hb
  · have := h h' tk t' (old_keptT rfl (a := l) hk)
    have e2 : preSum (numAt xs) (intItems xs).size = ns.sum := by
      rw [show (intItems xs).size = xs.size by simp [intItems], preSum_eq, List.take_of_length_le (by simp), hn]
    rw [e2]; exact this
end
def sumF : FB
  | [.list ds] => (ints? ds).bind fun ns => some (.fz (.int ns.sum))
  | [.tuple ds] => (ints? ds).bind fun ns => some (.fz (.int ns.sum))
  | _ => none
theorem b_sum {X : Cx} (hc : X.calm = true) : CallR X (.builtin "sum") (rB X.K sumF) := by
  intro pins s σ H vs us Q I rv h
  obtain ⟨F, ds, r, fH, rd, e, q⟩ := h
  unfold sumF at e
  split at e
  · rw [bind_some_iff] at e
    obtain ⟨ns, hn, e⟩ := e
    cases e
    obtain ⟨v, rfl, h⟩ := rdLA_one rd
    obtain ⟨a, xs, rfl, hs, ra⟩ := rdL_list.mp h
    rw [ints?_eq hn] at ra
    rw [repA_int_inv ra] at hs
    exact cr_sum hc pins s σ H _ us Q I rv ⟨a, ns, rfl, hs, q _ _ (Res.fz rep_intI)⟩
  · rw [bind_some_iff] at e
    obtain ⟨ns, hn, e⟩ := e
    cases e
    obtain ⟨v, rfl, h⟩ := rdLA_one rd
    obtain ⟨a, xs, rfl, hs, ra⟩ := rdL_tup.mp h
    rw [ints?_eq hn] at ra
    rw [repA_int_inv ra] at hs
    obtain ⟨its, rv', ht, _⟩ := I.tuple (hs.sq)
    rw [Vals.ref1 rv]
    exact sum_rawT (I.ok.hd hc) ht rv'.ints fun h' tk t' hk => ⟨.int _, H, I.kept hk, ⟨_, rfl⟩, q _ _ (Res.fz rep_intI)⟩
  · cases e

/-! ### sorted -/
section
variable {prog : Program} {w : World} {A : Around} {E : Value → Shared → Prop} {s : Shared} {l : Addr} {vs : List Value} {Q : Value → Shared → Prop}
open PySem.W in
/-- sorted(xs) of a list or a tuple that reads as alike data: a new list -/
theorem sorted_seq {T : String} {o : Obj} {n : Nat} {ds : List PyData} {R : Value → PyData → Prop} (hT : T = "list" ∨ T = "tuple") (ho : s.heap.get? l = some o) (hc : o.cls = .type T) (hd : o.data = .seq vs.toArray n)
    (er : EachIs (fun v d => ∃ as, Reads s.heap v d as) vs ds) (eR : EachIs R vs ds) (hal : AllAlike ds) (hk : Sortable ds) (hL : vs.length ≤ sizeLine) (hu : ∀ d ∈ ds, A.units + 2 + d.depth < cLine)
    (h : ∀ (h1 h' : Heap) p ep out, (∀ b o, s.heap.get? b = some o → h1.get? b = some o) → (∀ b o, h1.get? b = some o → h'.get? b = some o) → h1.objs.size ≤ p → h'.get? p = some { cls := .type "list", data := .seq (List.toArray out) ep } → EachIs R out (ds.mergeSort (dataLe false id)) → Q (.ref p) { s with heap := h' }) :
    wpAny (model prog w) A (call (.builtin "sorted") [.ref l]) Q E s := by
  refine call_function_entry_kw kind_sorted plain_sorted entry_sorted (args_sorted1 _) ?_
  unfold Builtin.«sorted»
  refine wpAny_bind (m := checkCount "sorted" 1 1 _) (wpAny_pure ?_)
  refine wpAny_bind (wpAny_collect_seq l hT ho hc hd (fun h1 k1 => ?_) (by simpa using hL))
  refine wpAny_bind (wpAny_newList ?_ (by simpa using hL))
  have hat : (h1.push (seqObj "list" vs.toArray 0)).get? h1.objs.size = some (seqObj "list" vs.toArray 0) := Heap.get?_push_size _ rfl
  have k2 : ∀ b o, h1.get? b = some o → (h1.push (seqObj "list" vs.toArray 0)).get? b = some o := fun b o e => Heap.get?_push_of_some _ e
  have e1 : vs.toArray.toList = vs := by simp
  have e2 : (vs.toArray.toList).toArray = vs.toArray := by simp
  show wpAny _ _ _ _ _ { s with heap := h1.push (seqObj "list" vs.toArray.toList.toArray 0) }
  rw [e2]
  have ek : EachIs (fun v d => ∃ as, Reads (sortingHeap (h1.push (seqObj "list" vs.toArray 0)) h1.objs.size vs) v d as) vs ds := er.mono fun _ _ ⟨as, r⟩ => ⟨as, PyProof.Rows.Reads.keeps (fun b o e => sortingHeap_old (Nat.ne_of_lt (Heap.lt_size (k1 b o e))) (k2 b o (k1 b o e))) r⟩
  have hal' : AllAlike (ds.map id) := by rw [List.map_id]; exact hal
  refine wpAny_bind (wpAny_holding (wpAny_call_entry_kw slot_list_sort ⟨_, hat, rfl⟩ entry_list_sort ?body (args_list_sort _)))
  case body =>
    refine list_sort_vals (s := { s with heap := h1.push (seqObj "list" vs.toArray 0) }) (κ := dataKind (sortingHeap (h1.push (seqObj "list" vs.toArray 0)) h1.objs.size vs) ds) hat
      (SortsAt.data (s := { s with heap := sortingHeap (h1.push (seqObj "list" vs.toArray 0)) h1.objs.size vs }) ek hal hk hu) hL ⟨_, rfl, wpAny_pure ⟨_, rfl, ?_⟩⟩
    obtain ⟨c, hc'⟩ := sortedHeap_at (vs := vs) (out := (sortVals (dataKind (sortingHeap (h1.push (seqObj "list" vs.toArray 0)) h1.objs.size vs) ds) false vs vs).toArray) hat
    refine h h1 _ _ c _ k1 (fun b o e => (sortedHeap_old (Nat.ne_of_lt (Heap.lt_size e)) (Heap.lt_size (k2 b o e))).trans (k2 b o e)) (Nat.le_refl _) hc' ?_
    have q := sortVals_data (h' := sortingHeap (h1.push (seqObj "list" vs.toArray 0)) h1.objs.size vs) (R := R) (enc := id) (vs := vs) (bs := ds) false eR ek hal'
    rw [List.map_id] at q
    exact q
end
mutual
theorem Rep.dp {K : PySem.W.Frag} {F : Addr → Prop} {H : Hp} : ∀ (d : PyData) (v : V), d.canLay0 = true → Rep K F H d v → Dp K H v d
  | .none, v, _, h => by rw [Rep] at h; subst h; exact .non
  | .bool b, v, _, h => by rw [Rep] at h; subst h; exact .bl b
  | .int b, v, _, h => by rw [Rep] at h; subst h; exact .int b
  | .str b, v, _, h => by rw [Rep] at h; subst h; exact .str b
  | .tuple ds, v, c, h => by
    rw [Rep] at h
    obtain ⟨a, xs, rfl, hs, r⟩ := h
    exact .tup hs.sq (RepA.dp ds xs (by simpa [PyData.canLay0] using c) r)
  | .list ds, v, c, h => by
    rw [Rep] at h
    obtain ⟨a, xs, rfl, _, hs, r⟩ := h
    exact .lst (.inl (.inl hs)) (RepA.dp ds xs (by simpa [PyData.canLay0] using c) r)
  | .dict kvs, v, c, h => by simp [PyData.canLay0] at c
theorem RepA.dp {K : PySem.W.Frag} {F : Addr → Prop} {H : Hp} : ∀ (ds : List PyData) (xs : List V), PyData.canLayAll0 ds = true → RepA K F H ds xs → DpAll K H xs ds
  | [], xs, _, h => by rw [RepA] at h; subst h; exact .nil
  | d :: ds, xs, c, h => by
    rw [RepA] at h
    obtain ⟨x, r, rfl, h1, h2⟩ := h
    have c' : d.canLay0 = true ∧ PyData.canLayAll0 ds = true := by simpa [PyData.canLayAll0] using c
    exact .cons (Rep.dp d x c'.1 h1) (RepA.dp ds r c'.2 h2)
end

/-- what sorted takes: alike data without dicts -/
def sortOk (ds : List PyData) : Bool :=
  decide (ds.length ≤ sizeLine) && ds.all PyData.canLay0 && (ds.all fun d => ds.all fun e => PySem.W.alike d e) && (ds.all fun d => decide (d.depth ≤ 60)) &&
    ((ds.all fun d => match d with | .tuple (_ :: _) => true | _ => false) || (ds.all fun d => match d with | .tuple _ => false | .none => false | _ => true))
def sortD (ds : List PyData) : List PyData := ds.mergeSort (PySem.W.dataLe false id)
def sortedF : FB
  | [.list ds] => if sortOk ds = true then some (.ow false (.list (sortD ds))) else none
  | [.tuple ds] => if sortOk ds = true then some (.ow false (.list (sortD ds))) else none
  | _ => none
theorem sortOk_all {ds : List PyData} (h : sortOk ds = true) : ds.length ≤ sizeLine ∧ PyData.canLayAll0 ds = true ∧ PySem.W.AllAlike ds ∧ (∀ d ∈ ds, d.depth ≤ 60) ∧ PySem.W.Sortable ds := by
  unfold sortOk at h
  simp only [Bool.and_eq_true, decide_eq_true_eq, List.all_eq_true] at h
  obtain ⟨⟨⟨⟨h1, h2⟩, h3⟩, h4⟩, h5⟩ := h
  refine ⟨h1, ?_, fun d hd e he => h3 d hd e he, h4, ?_⟩
  · clear h1 h3 h4 h5
    induction ds with
    | nil => rfl
    | cons d ds ih =>
      rw [PyData.canLayAll0, h2 d List.mem_cons_self, ih fun x hx => h2 x (List.mem_cons_of_mem _ hx)]; rfl
  · rw [Bool.or_eq_true, List.all_eq_true, List.all_eq_true] at h5
    rcases h5 with h | h
    · refine .inl fun d hd => ?_
      have := h d hd
      split at this
      · exact ⟨_, _, rfl⟩
      · cases this
    · refine .inr fun d hd => ?_
      have := h d hd
      split at this
      · cases this
      · cases this
      · rename_i n1 n2
        exact ⟨n2, fun xs z => n1 xs z⟩
theorem readsAll_each {h : Heap} : ∀ {us : List Value} {ds : List PyData} {as : List Addr}, ReadsAll h us ds as → PySem.W.EachIs (fun v d => ∃ as, Reads h v d as) us ds
  | _, _, _, .nil => .nil
  | _, _, _, .cons r t => .cons ⟨_, r⟩ (readsAll_each t)
theorem each_rep {K : PySem.W.Frag} {F : Addr → Prop} {H : Hp} : ∀ {us : List Value} {xs : List V} {ds : List PyData}, Vals xs us → RepA K F H ds xs → PySem.W.EachIs (fun v d => ∃ x, RelV x v ∧ Rep K F H d x) us ds
  | _, _, [], rv, r => by rw [RepA] at r; subst r; cases rv; exact .nil
  | _, _, d :: ds, rv, r => by
    rw [RepA] at r
    obtain ⟨x, t, rfl, h1, h2⟩ := r
    cases rv with
    | cons rv rt => exact .cons ⟨x, rv, h1⟩ (each_rep rt h2)
theorem rep_each {K : PySem.W.Frag} {F : Addr → Prop} {H : Hp} : ∀ {us : List Value} {ds : List PyData}, PySem.W.EachIs (fun v d => ∃ x, RelV x v ∧ Rep K F H d x) us ds → ∃ xs, Vals xs us ∧ RepA K F H ds xs
  | _, _, .nil => ⟨[], .nil, repA_nil⟩
  | _, _, .cons ⟨x, rv, r⟩ t => by
    obtain ⟨xs, h1, h2⟩ := rep_each t
    exact ⟨x :: xs, .cons rv h1, .cons r h2⟩
theorem b_sorted {X : Cx} (hu : X.A.units + 64 < cLine) : CallR X (.builtin "sorted") (rB X.K sortedF) := by
  intro pins s σ H vs us Q I rv h
  obtain ⟨F, ds, r, fH, rd, e, q⟩ := h
  have go : ∀ {a : Addr} {zs : List PyData} {xs : List V} {its : List Value} {T : String} {o : Obj} {n : Nat}, T = "list" ∨ T = "tuple" → s.heap.get? a = some o → o.cls = .type T → o.data = .seq its.toArray n → Vals xs its → RepA X.K F H zs xs → sortOk zs = true →
      (∀ v H', Res X.K F H H' (.ow false (.list (sortD zs))) v → Q v H') → wpAny (model X.prog X.w) X.A (call (.builtin "sorted") [.ref a]) (EP X pins σ Q) X.xe s := by
    intro a zs xs its T o n hT ho hc hd hv ra ok q
    obtain ⟨h1, h2, h3, h4, h5⟩ := sortOk_all ok
    obtain ⟨as, hr⟩ := Dp.readsAll I zs xs its (RepA.dp zs xs h2 ra) hv
    have hl : its.length = zs.length := by rw [← hv.length, ra.len]
    refine sorted_seq hT ho hc hd (readsAll_each hr) (each_rep hv ra) h3 h5 (by rw [hl]; exact h1) (fun d hd => by have := h4 d hd; omega) fun h1 h' p ep out k1 k2 hp hat eo => ?_
    obtain ⟨ys, hv', ra'⟩ := rep_each eo
    have I1 : Inv X pins σ H { s with heap := h1 } := I.kept (t' := s.toks) k1
    have np : H p = none := I1.hok.fresh hp
    have hlen : ys.length ≤ sizeLine := by
      have := ra'.len
      rw [List.length_mergeSort] at this
      omega
    refine ⟨.ref p, upd H p (.lst ys), I1.laid (t' := s.toks) (o := .lst ys) k2 hp ⟨hlen, out, ep, hv', hat⟩, rfl, q _ _ (Res.lst np ra' fH)⟩
  unfold sortedF at e
  split at e
  · split at e
    · rename_i ok
      cases e
      obtain ⟨v, rfl, h⟩ := rdLA_one rd
      obtain ⟨a, xs, rfl, hs, ra⟩ := rdL_list.mp h
      obtain ⟨its, hv, pl, hz⟩ := I.list hs
      obtain ⟨o, ho, hc, n, hd⟩ := pl.isList
      rw [Vals.ref1 rv]
      exact go (.inl rfl) ho hc hd hv ra ok q
    · cases e
  · split at e
    · rename_i ok
      cases e
      obtain ⟨v, rfl, h⟩ := rdLA_one rd
      obtain ⟨a, xs, rfl, hs, ra⟩ := rdL_tup.mp h
      obtain ⟨its, hv, ⟨o, ho, hc, n, hd⟩, hz⟩ := I.tuple (hs.sq)
      rw [Vals.ref1 rv]
      exact go (.inr rfl) ho hc hd hv ra ok q
    · cases e
  · cases e
end VL

/-! VL5: operators, comparisons, subscripts, slices -/
namespace VL
open PySem PySem.Spec PyProof.Rows L2
section
variable {K : PySem.W.Frag} {F : Addr → Prop} {H : Hp}
theorem rdd_list {ds : List PyData} {v : V} : Rdd K F H (.list ds) v ↔ ∃ a xs, v = .ref a ∧ H a = some (.lst xs) ∧ RepA K F H ds xs := Iff.rfl
/-- data without dicts, for == -/
theorem Rdd.dp : ∀ {d : PyData} {v : V}, d.canLay0 = true → Rdd K F H d v → Dp K H v d := by
  intro d v c h
  cases d with
  | list ds =>
    obtain ⟨a, xs, rfl, hs, r⟩ := h
    exact .lst (.inl (.inl hs)) (RepA.dp ds xs (by simpa [PyData.canLay0] using c) r)
  | dict kvs => simp [PyData.canLay0] at c
  | _ => exact Rep.dp (F := F) _ v c h
end
/-! ### arithmetic -/
def mulOk (i j : Int) : Bool := decide (i.natAbs < 2 ^ 64) || decide (j.natAbs < 2 ^ 64) || decide (i.natAbs.log2 + j.natAbs.log2 < 1000000)
def addF : F2
  | .int i, .int j => some (.fz (.int (i + j)))
  | .list xs, .list ys => if xs.length + ys.length ≤ sizeLine then some (.ow false (.list (xs ++ ys))) else none
  | .tuple xs, .tuple ys => if decide (xs.length + ys.length ≤ sizeLine) && !stD (xs ++ ys) then some (.fz (.tuple (xs ++ ys))) else none
  | _, _ => none
def subF : F2
  | .int i, .int j => some (.fz (.int (i - j)))
  | _, _ => none
def mulF : F2
  | .int i, .int j => if mulOk i j = true then some (.fz (.int (i * j))) else none
  | .list [x], .int n => if decide (n < 2 ^ 63) && decide (-(2 ^ 63) ≤ n) && decide (n.toNat ≤ sizeLine) then some (.ow false (.list (List.replicate n.toNat x))) else none
  | .tuple [x], .int n => if decide (2 ≤ n) && decide (n ≤ 1000) && !stD (List.replicate n.toNat x) then some (.fz (.tuple (List.replicate n.toNat x))) else none
  | _, _ => none
def fdivF : F2
  | .int i, .int j => if decide (0 < j) && decide (j.natAbs.log2 < 9000) then some (.fz (.int (i / j))) else none
  | _, _ => none
def modF : F2
  | .int i, .int j => if 0 < j then some (.fz (.int (i % j))) else none
  | _, _ => none
def powF : F2
  | .int i, .int j => if decide (0 ≤ j) && decide ((Builtin.Int.intBits i : Int) * j ≤ 2 ^ 27) then some (.fz (.int (i ^ j.toNat))) else none
  | _, _ => none
section
variable {X : Cx}
theorem CMul.of {i j : Int} (h : mulOk i j = true) : IntMulOk i j := by
  unfold mulOk at h
  simp only [Bool.or_eq_true, decide_eq_true_eq] at h
  rcases h with (h | h) | h
  · exact CMul.ok (.inl (by omega))
  · exact CMul.ok (.inr (by omega))
  · exact CMulW.ok h
theorem flat_one {α : Type} (x : α) : ∀ n : Nat, (List.replicate n [x]).flatten = List.replicate n x
  | 0 => rfl
  | n + 1 => by rw [List.replicate_succ, List.flatten_cons, flat_one x n, List.replicate_succ]; rfl
theorem o_add : OpR X (binaryOp .Add) (rOp2 X.K addF) := OpR.imp (op_add.or (op_cat.or op_catA)) fun x y H Q h => by
  obtain ⟨F, a, b, r, fH, ha, hb, e, q⟩ := h
  unfold addF at e
  split at e
  · cases e
    exact .inl ⟨_, _, rdd_int.mp ha, rdd_int.mp hb, q _ _ (Res.fz rep_intI)⟩
  · split at e
    · cases e
      rename_i hl
      obtain ⟨p, xs, rfl, h1, r1⟩ := ha
      obtain ⟨p', ys, rfl, h2, r2⟩ := hb
      refine .inr (.inl ⟨p, p', xs, ys, rfl, rfl, h1, h2, by rw [← r1.len, ← r2.len]; exact hl, fun l n => q _ _ (Res.lst n (r1.append r2) fH)⟩)
    · cases e
  · split at e
    · cases e
      rename_i xs' ys' hl
      simp only [Bool.and_eq_true, decide_eq_true_eq, Bool.not_eq_true'] at hl
      obtain ⟨hl, z0⟩ := hl
      obtain ⟨p, xs, rfl, h1, r1⟩ := rdd_tup.mp ha
      obtain ⟨p', ys, rfl, h2, r2⟩ := rdd_tup.mp hb
      refine .inr (.inr ⟨p, p', xs, ys, rfl, rfl, h1.sq, h2.sq, by rw [← r1.len, ← r2.len]; exact hl, fun z => ?_, fun _ z => ?_, fun _ _ l n => q _ _ (Res.tup z0 n (r1.append r2))⟩)
      · subst z
        have z' : xs' = [] := List.length_eq_zero_iff.mp r1.len
        subst z'
        exact q _ _ (Res.fz (by rw [Rep]; exact ⟨p', ys, rfl, h2, r2⟩))
      · subst z
        have z' : ys' = [] := List.length_eq_zero_iff.mp r2.len
        subst z'
        exact q _ _ (Res.fz (by rw [Rep, List.append_nil]; exact ⟨p, xs, rfl, h1, r1⟩))
    · cases e
  · cases e
theorem o_sub : OpR X (binaryOp .Sub) (rOp2 X.K subF) := OpR.imp op_sub fun x y H Q h => by
  obtain ⟨F, a, b, r, fH, ha, hb, e, q⟩ := h
  unfold subF at e
  split at e
  · cases e
    exact ⟨_, _, rdd_int.mp ha, rdd_int.mp hb, q _ _ (Res.fz rep_intI)⟩
  · cases e
theorem op_mulA : OpR X (binaryOp .Mult) (rI (fun i j => mulOk i j = true) fun i j => .int (i * j)) := opI fun _ _ _ _ _ _ _ hc q => mul_int q (CMul.of hc)
theorem o_mul : OpR X (binaryOp .Mult) (rOp2 X.K mulF) := OpR.imp (op_mulA.or (op_rep.or op_repT)) fun x y H Q h => by
  obtain ⟨F, a, b, r, fH, ha, hb, e, q⟩ := h
  unfold mulF at e
  split at e
  · split at e
    · rename_i ok
      cases e
      exact .inl ⟨_, _, rdd_int.mp ha, rdd_int.mp hb, ok, q _ _ (Res.fz rep_intI)⟩
    · cases e
  · split at e
    · rename_i ok
      cases e
      simp only [Bool.and_eq_true, decide_eq_true_eq] at ok
      obtain ⟨p, xs, rfl, h1, r1⟩ := ha
      rw [RepA] at r1
      obtain ⟨v, t, rfl, rv, r2⟩ := r1
      rw [RepA] at r2; subst r2
      refine .inr (.inl ⟨p, _, [v], rfl, rdd_int.mp hb, h1, ok.1.2, ok.1.1, by simpa using ok.2, fun l n => ?_⟩)
      rw [flat_one]
      exact q _ _ (Res.lst n (RepA.rep rv _) fH)
    · cases e
  · split at e
    · rename_i ok
      cases e
      simp only [Bool.and_eq_true, decide_eq_true_eq, Bool.not_eq_true'] at ok
      obtain ⟨ok, z0⟩ := ok
      obtain ⟨p, xs, rfl, h1, r1⟩ := rdd_tup.mp ha
      rw [RepA] at r1
      obtain ⟨v, t, rfl, rv, r2⟩ := r1
      rw [RepA] at r2; subst r2
      refine .inr (.inr ⟨p, _, [v], rfl, rdd_int.mp hb, h1.sq, by simp, ok.1, ok.2, by simp, fun l n => ?_⟩)
      rw [flat_one]
      exact q _ _ (Res.tup z0 n (RepA.rep rv _))
    · cases e
  · cases e
theorem o_fdiv : OpR X (binaryOp .FloorDiv) (rOp2 X.K fdivF) := OpR.imp op_fdivW fun x y H Q h => by
  obtain ⟨F, a, b, r, fH, ha, hb, e, q⟩ := h
  unfold fdivF at e
  split at e
  · split at e
    · rename_i ok
      cases e
      simp only [Bool.and_eq_true, decide_eq_true_eq] at ok
      exact ⟨_, _, rdd_int.mp ha, rdd_int.mp hb, ok, q _ _ (Res.fz rep_intI)⟩
    · cases e
  · cases e
theorem o_mod : OpR X (binaryOp .Mod) (rOp2 X.K modF) := OpR.imp op_mod fun x y H Q h => by
  obtain ⟨F, a, b, r, fH, ha, hb, e, q⟩ := h
  unfold modF at e
  split at e
  · split at e
    · rename_i ok
      cases e
      exact ⟨_, _, rdd_int.mp ha, rdd_int.mp hb, ok, q _ _ (Res.fz rep_intI)⟩
    · cases e
  · cases e
theorem op_powA : OpR X (binaryOp .Pow) (rI (fun i j => 0 ≤ j ∧ (Builtin.Int.intBits i : Int) * j ≤ 2 ^ 27) fun i j => .int (i ^ j.toNat)) := opI fun _ _ _ _ _ _ _ hc q => pow_int hc.1 hc.2 q
theorem o_pow : OpR X (binaryOp .Pow) (rOp2 X.K powF) := OpR.imp op_powA fun x y H Q h => by
  obtain ⟨F, a, b, r, fH, ha, hb, e, q⟩ := h
  unfold powF at e
  split at e
  · split at e
    · rename_i ok
      cases e
      simp only [Bool.and_eq_true, decide_eq_true_eq] at ok
      exact ⟨_, _, rdd_int.mp ha, rdd_int.mp hb, ok, q _ _ (Res.fz rep_intI)⟩
    · cases e
  · cases e
/-- -a -/
def vNeg (f : VE) : VE := fun env => (f env).bind fun p => match p.1 with
  | .fz (.int i) => some (.fz (.int (-i)), p.2)
  | _ => none
theorem ve_neg {a : Expr} {f : VE} {pos : Pos} (ha : VEx X a f) : VEx X (.UnaryOp .USub a pos) (vNeg f) := PE.imp (pe_un un_neg ha) fun σ H Q h => by
  obtain ⟨B, F, env, r, env', st, e, k⟩ := h
  unfold vNeg at e
  rw [bind_some_iff] at e
  obtain ⟨⟨r1, e1⟩, hf, e⟩ := e
  refine ⟨B, F, env, r1, e1, st, hf, fun v F1 H1 P R N => ?_⟩
  cases r1 with
  | fz d =>
    cases d with
    | int i =>
      cases e
      have R' : Rep X.K F1 H1 (.int i) v := R
      rw [Rep] at R'
      exact ⟨i, R', k _ F1 H1 P (show Rep X.K F1 H1 (.int (-i)) _ from rep_intI) trivial⟩
    | _ => cases e
  | _ => cases e

/-! ### comparisons -/
def eqF : F2 := fun a b => if SeqAt.shaped a && SeqAt.shaped b then some (.fz (.bool (PyData.eqv a b))) else none
def neF : F2 := fun a b => if SeqAt.shaped a && SeqAt.shaped b then some (.fz (.bool (!PyData.eqv a b))) else none
theorem o_eq (hu : X.A.units + 64 < cLine) : OpR X (compareOp .Eq) (rOp2 X.K eqF) := OpR.imp (op_eqD hu) fun x y H Q h => by
  obtain ⟨F, a, b, r, fH, ha, hb, e, q⟩ := h
  unfold eqF at e
  split at e
  · rename_i ok
    cases e
    rw [Bool.and_eq_true] at ok
    exact ⟨a, b, Rdd.dp (SeqAt.canLay_of_shaped ok.1) ha, Rdd.dp (SeqAt.canLay_of_shaped ok.2) hb, ok.1, ok.2, q _ _ (Res.fz rep_boolI)⟩
  · cases e
theorem o_ne (hu : X.A.units + 64 < cLine) : OpR X (compareOp .NotEq) (rOp2 X.K neF) := OpR.imp (op_neD hu) fun x y H Q h => by
  obtain ⟨F, a, b, r, fH, ha, hb, e, q⟩ := h
  unfold neF at e
  split at e
  · rename_i ok
    cases e
    rw [Bool.and_eq_true] at ok
    exact ⟨a, b, Rdd.dp (SeqAt.canLay_of_shaped ok.1) ha, Rdd.dp (SeqAt.canLay_of_shaped ok.2) hb, ok.1, ok.2, q _ _ (Res.fz rep_boolI)⟩
  · cases e
def ltF : F2
  | .int i, .int j => some (.fz (.bool (decide (i < j))))
  | _, _ => none
def leF : F2
  | .int i, .int j => some (.fz (.bool (decide (i ≤ j))))
  | _, _ => none
def gtF : F2
  | .int i, .int j => some (.fz (.bool (decide (j < i))))
  | _, _ => none
def geF : F2
  | .int i, .int j => some (.fz (.bool (decide (j ≤ i))))
  | _, _ => none
theorem o_lt : OpR X (compareOp .Lt) (rOp2 X.K ltF) := OpR.imp op_lt fun x y H Q h => by
  obtain ⟨F, a, b, r, fH, ha, hb, e, q⟩ := h
  unfold ltF at e
  split at e
  · cases e; exact ⟨_, _, rdd_int.mp ha, rdd_int.mp hb, q _ _ (Res.fz rep_boolI)⟩
  · cases e
theorem o_le : OpR X (compareOp .LtE) (rOp2 X.K leF) := OpR.imp op_le fun x y H Q h => by
  obtain ⟨F, a, b, r, fH, ha, hb, e, q⟩ := h
  unfold leF at e
  split at e
  · cases e; exact ⟨_, _, rdd_int.mp ha, rdd_int.mp hb, q _ _ (Res.fz rep_boolI)⟩
  · cases e
theorem o_gt : OpR X (compareOp .Gt) (rOp2 X.K gtF) := OpR.imp op_gt fun x y H Q h => by
  obtain ⟨F, a, b, r, fH, ha, hb, e, q⟩ := h
  unfold gtF at e
  split at e
  · cases e; exact ⟨_, _, rdd_int.mp ha, rdd_int.mp hb, q _ _ (Res.fz rep_boolI)⟩
  · cases e
theorem o_ge : OpR X (compareOp .GtE) (rOp2 X.K geF) := OpR.imp op_ge fun x y H Q h => by
  obtain ⟨F, a, b, r, fH, ha, hb, e, q⟩ := h
  unfold geF at e
  split at e
  · cases e; exact ⟨_, _, rdd_int.mp ha, rdd_int.mp hb, q _ _ (Res.fz rep_boolI)⟩
  · cases e
/-- is None; is True, is False -/
def isN : PyData → Bool
  | .none => true
  | _ => false
def isF : F2
  | a, .none => some (.fz (.bool (isN a)))
  | .bool a, .bool b => some (.fz (.bool (decide (a = b))))
  | _, _ => none
def isntF : F2
  | a, .none => some (.fz (.bool (!isN a)))
  | .bool a, .bool b => some (.fz (.bool (!decide (a = b))))
  | _, _ => none
theorem rdd_isN {K : PySem.W.Frag} {F : Addr → Prop} {H : Hp} {a : PyData} {x : V} (h : Rdd K F H a x) : decide (x = .non) = isN a := by
  cases a with
  | none => rw [rdd_none.mp h]; rfl
  | bool b => rw [rdd_bool.mp h]; rfl
  | int b => rw [rdd_int.mp h]; rfl
  | str b => rw [rdd_str.mp h]; rfl
  | list ds => obtain ⟨p, xs, rfl, _⟩ := h; rfl
  | tuple ds => obtain ⟨p, xs, rfl, _⟩ := rdd_tup.mp h; rfl
  | dict kvs => obtain ⟨p, rfl, _⟩ := h; rfl
theorem o_is : OpR X (compareOp .Is) (rOp2 X.K isF) := OpR.imp (op_isN.or op_isBl) fun x y H Q h => by
  obtain ⟨F, a, b, r, fH, ha, hb, e, q⟩ := h
  unfold isF at e
  split at e
  · cases e; exact .inl ⟨rdd_none.mp hb, by rw [rdd_isN ha]; exact q _ _ (Res.fz rep_boolI)⟩
  · cases e; exact .inr ⟨_, _, rdd_bool.mp ha, rdd_bool.mp hb, q _ _ (Res.fz rep_boolI)⟩
  · cases e
theorem o_isnt : OpR X (compareOp .IsNot) (rOp2 X.K isntF) := OpR.imp (op_notN.or op_notBl) fun x y H Q h => by
  obtain ⟨F, a, b, r, fH, ha, hb, e, q⟩ := h
  unfold isntF at e
  split at e
  · cases e; exact .inl ⟨rdd_none.mp hb, by rw [rdd_isN ha]; exact q _ _ (Res.fz rep_boolI)⟩
  · cases e; exact .inr ⟨_, _, rdd_bool.mp ha, rdd_bool.mp hb, q _ _ (Res.fz rep_boolI)⟩
  · cases e
end
end VL

/-! VL6: dicts read, in, subscripts, slices, count -/
namespace VL
open PySem PySem.Spec PyProof.Rows L2

/-! ### keys -/
def key? : PyData → Option Key
  | .int i => some (.inl i)
  | .str x => some (.inr x)
  | _ => none
def keys? : List PyData → Option (List Key)
  | [] => some []
  | d :: r => (key? d).bind fun k => (keys? r).map fun ks => k :: ks
def tkeys? (ds : List PyData) : Option (List Key) := if stD ds = true then none else keys? ds
theorem key?_eq {d : PyData} {k : Key} (h : key? d = some k) : d = keyD k := by
  cases d <;> simp [key?] at h <;> subst h <;> rfl
theorem keys?_eq : ∀ {ds : List PyData} {ks : List Key}, keys? ds = some ks → ds = ks.map keyD
  | [], ks, h => by cases h; rfl
  | d :: r, ks, h => by
    simp only [keys?, bind_some_iff, Option.map_eq_some_iff] at h
    obtain ⟨k, h1, ks', h2, rfl⟩ := h
    rw [key?_eq h1, keys?_eq h2]; rfl
theorem tkeys?_eq {ds : List PyData} {ks : List Key} (h : tkeys? ds = some ks) : ds = ks.map keyD ∧ stD ds = false := by
  unfold tkeys? at h
  split at h
  · cases h
  · rename_i z; exact ⟨keys?_eq h, by simpa using z⟩
theorem eqv_keyD : ∀ a b : Key, PyData.eqv (keyD a) (keyD b) = decide (a = b)
  | .inl a, .inl b => by rw [key_ll]; simp only [keyD, PyData.eqv]
  | .inr a, .inr b => by rw [key_rr]; simp only [keyD, PyData.eqv]; exact Bool.beq_eq_decide_eq a b
  | .inl a, .inr b => by rw [key_lr]; simp only [keyD, PyData.eqv]
  | .inr a, .inl b => by rw [key_rl]; simp only [keyD, PyData.eqv]
theorem eqvAll_keyD : ∀ as bs : List Key, PyData.eqvAll (as.map keyD) (bs.map keyD) = decide (as = bs)
  | [], [] => by simp [PyData.eqvAll]
  | [], b :: bs => by simp [PyData.eqvAll]
  | a :: as, [] => by simp [PyData.eqvAll]
  | a :: as, b :: bs => by
    rw [List.map_cons, List.map_cons, PyData.eqvAll, eqv_keyD, eqvAll_keyD as bs]
    by_cases h1 : a = b <;> by_cases h2 : as = bs <;> simp [h1, h2]
theorem eqv_tupD (as bs : List Key) : PyData.eqv (.tuple (as.map keyD)) (.tuple (bs.map keyD)) = decide (as = bs) := by
  simp only [PyData.eqv]; exact eqvAll_keyD as bs
section
variable {K : PySem.W.Frag} {F : Addr → Prop} {H : Hp}
theorem rep_key {k : Key} {v : V} (h : Rep K F H (keyD k) v) : v = kV k := by
  cases k with
  | inl i => exact rep_int.mp h
  | inr x => exact rep_str.mp h
theorem repA_keys : ∀ {ks : List Key} {xs : List V}, RepA K F H (ks.map keyD) xs → xs = ks.map kV
  | [], xs, h => by rw [List.map_nil, RepA] at h; exact h
  | k :: ks, xs, h => by
    rw [List.map_cons, RepA] at h
    obtain ⟨x, r, rfl, h1, h2⟩ := h
    rw [rep_key h1, repA_keys h2]; rfl
def isW0 : PyData → Bool
  | .dict [(.none, .none)] => true
  | _ => false
theorem isW0_eq {d : PyData} (h : isW0 d = true) : d = W0 := by
  unfold isW0 at h
  split at h
  · rfl
  · cases h
/-- a dict's key that is a tuple -/
def keyT? (d : PyData) : Option (List Key) := if isW0 d = true then some [] else match d with
  | .tuple ds => tkeys? ds
  | _ => none
theorem keyT?_ok {d : PyData} {y : V} {ks : List Key} (hd : Rdd K F H d y) (e : keyT? d = some ks) : ∃ b, y = .ref b ∧ H b = some (.tup (ks.map kV)) := by
  unfold keyT? at e
  split at e
  · rename_i z
    have := isW0_eq z
    subst this
    cases e
    obtain ⟨b, rfl, hb⟩ := hd
    refine ⟨b, rfl, ?_⟩
    rcases hb with hb | ⟨_, hb⟩
    · rcases hb with ⟨zs, _, hb⟩ | ⟨zs, _, hb⟩
      · rw [RepK] at hb
        obtain ⟨q, x, t, _, h1, _⟩ := hb
        rw [RepP] at h1
        have := h1.1
        cases q <;> simp [keyD] at this
      · rw [RepT] at hb
        obtain ⟨q, x, t, _, h1, _⟩ := hb
        rw [RepP] at h1
        have := h1.1
        simp at this
    · exact hb
  · cases d with
    | tuple ds =>
      obtain ⟨b, xs, rfl, hb, ra⟩ := rdd_tup.mp hd
      obtain ⟨hk', z0⟩ := tkeys?_eq e
      subst hk'
      rw [← ra.st] at z0
      rw [repA_keys ra] at hb z0
      exact ⟨b, rfl, hb.strict z0⟩
    | _ => cases e
theorem keyT?_tup {ks : List Key} (h : stD (ks.map keyD) = false) : keyT? (.tuple (ks.map keyD)) = some ks := by
  have : ∀ ks : List Key, keys? (ks.map keyD) = some ks := by
    intro ks
    induction ks with
    | nil => rfl
    | cons k ks ih => cases k <;> simp [keys?, keyD, key?, ih]
  simp [keyT?, isW0, tkeys?, h, this]
/-- what a dict holds at a key -/
def dget (kvs : List (PyData × PyData)) (k : PyData) : Option PyData := (kvs.find? fun p => PyData.eqv p.1 k).map (·.2)
def RelD (K : PySem.W.Frag) (F : Addr → Prop) (H : Hp) : Option PyData → Option V → Prop
  | some d, some v => Rep K F H d v
  | none, none => True
  | _, _ => False
theorem dget_K : ∀ {kvs : List (PyData × PyData)} {ks : List (Key × V)} (k : Key), RepK K F H kvs ks → RelD K F H (dget kvs (keyD k)) (valV ks k)
  | [], ks, k, h => by rw [RepK] at h; subst h; exact trivial
  | p :: r, ks, k, h => by
    rw [RepK] at h
    obtain ⟨q, x, t, rfl, h1, h2⟩ := h
    obtain ⟨pk, pd⟩ := p
    rw [RepP] at h1
    obtain ⟨rfl, h1⟩ := h1
    have ih := dget_K k h2
    unfold dget at ih ⊢
    rw [List.find?_cons]
    simp only [eqv_keyD]
    by_cases e : q = k
    · rw [decide_eq_true e, valV_pos (p := (q, x)) e]; exact h1
    · rw [decide_eq_false e, valV_neg (p := (q, x)) e]; exact ih
theorem dget_T : ∀ {kvs : List (PyData × PyData)} {ks : List (List Key × V)} (k : List Key), RepT K F H kvs ks → RelD K F H (dget kvs (.tuple (k.map keyD))) (valV ks k)
  | [], ks, k, h => by rw [RepT] at h; subst h; exact trivial
  | p :: r, ks, k, h => by
    rw [RepT] at h
    obtain ⟨q, x, t, rfl, h1, h2⟩ := h
    obtain ⟨pk, pd⟩ := p
    rw [RepP] at h1
    obtain ⟨rfl, h1⟩ := h1
    have ih := dget_T k h2
    unfold dget at ih ⊢
    rw [List.find?_cons]
    simp only [eqv_tupD]
    by_cases e : q = k
    · rw [decide_eq_true e, valV_pos (p := (q, x)) e]; exact h1
    · rw [decide_eq_false e, valV_neg (p := (q, x)) e]; exact ih
end
/-- a dict as a value: which keys, what -/
def isTupD : PyData → Bool
  | .tuple _ => true
  | _ => false
def okK : PyData → Bool
  | .none => false
  | _ => true
def dkOf : PyData → Option (Bool × List (PyData × PyData))
  | .dict (p :: r) => if okK p.1 = true then some (isTupD p.1, p :: r) else none
  | _ => none
def dkOw (k : Bool) : PyData → Option (Bool × List (PyData × PyData))
  | .dict kvs => some (k, kvs)
  | _ => none
def dk (env : EV) : R → Option (Bool × List (PyData × PyData))
  | .fz d => dkOf d
  | .ow k d => dkOw k d
  | .br i => match env[i]? with
    | some (some (.fz d)) => dkOf d
    | some (some (.pz d)) => dkOf d
    | some (some (.ow k d)) => dkOw k d
    | some (some (.pw k d)) => dkOw k d
    | _ => none
  | .sc _ => none
def RepDk (K : PySem.W.Frag) (F : Addr → Prop) (H : Hp) (k : Bool) (kvs : List (PyData × PyData)) (v : V) : Prop :=
  ∃ a, v = .ref a ∧ match k with
    | true => ∃ ks, Rd H a (.dT ks) ∧ RepT K F H kvs ks
    | false => ∃ ks, Rd H a (.dK ks) ∧ RepK K F H kvs ks
section
variable {K : PySem.W.Frag} {B F : Addr → Prop} {H : Hp} {σ : L2.St} {env : EV}
theorem dkOf_ok {d : PyData} {v : V} {k : Bool} {kvs : List (PyData × PyData)} (h : Rep K F H d v) (e : dkOf d = some (k, kvs)) : RepDk K F H k kvs v := by
  cases d with
  | dict zs =>
    cases zs with
    | nil => simp [dkOf] at e
    | cons p r =>
      simp only [dkOf] at e
      split at e
      case isFalse => cases e
      rename_i hk0
      simp only [Option.some.injEq, Prod.mk.injEq] at e
      obtain ⟨rfl, rfl⟩ := e
      rw [Rep] at h
      obtain ⟨_, a, rfl, ⟨_, q⟩ | ⟨z, _⟩⟩ := h
      case inr => cases z; cases hk0
      refine ⟨a, rfl, ?_⟩
      obtain ⟨pk, pd⟩ := p
      rcases q with ⟨ks, h1, h2⟩ | ⟨ks, h1, h2⟩
      · have hk : isTupD pk = false := by
          rw [RepK] at h2
          obtain ⟨q, x, t, rfl, h2, _⟩ := h2
          rw [RepP] at h2
          rw [h2.1]
          cases q <;> rfl
        show match isTupD pk with | true => _ | false => _
        rw [hk]
        exact ⟨ks, h1, h2⟩
      · have hk : isTupD pk = true := by
          rw [RepT] at h2
          obtain ⟨q, x, t, rfl, h2, _⟩ := h2
          rw [RepP] at h2
          rw [h2.1]; rfl
        show match isTupD pk with | true => _ | false => _
        rw [hk]
        exact ⟨ks, h1, h2⟩
  | _ => simp [dkOf] at e
theorem dkOw_ok {d : PyData} {a : Addr} {k k' : Bool} {kvs : List (PyData × PyData)} (h : RepO K F H k' a d) (e : dkOw k' d = some (k, kvs)) : RepDk K F H k kvs (.ref a) := by
  cases d with
  | dict zs =>
    simp only [dkOw, Option.some.injEq, Prod.mk.injEq] at e
    obtain ⟨rfl, rfl⟩ := e
    refine ⟨a, rfl, ?_⟩
    cases k' with
    | true => obtain ⟨ks, h1, h2⟩ := h; exact ⟨ks, .inl h1, h2⟩
    | false => obtain ⟨ks, h1, h2⟩ := h; exact ⟨ks, .inl h1, h2⟩
  | _ => simp [dkOw] at e
theorem dk_ok (s : StOk K B F H σ env) {r : R} {v : V} {k : Bool} {kvs : List (PyData × PyData)} (h : RepR K B F H σ env r v) (e : dk env r = some (k, kvs)) : RepDk K F H k kvs v := by
  cases r with
  | fz d => exact dkOf_ok h e
  | ow k' d =>
    obtain ⟨a, rfl, _, _, _, ro⟩ := h
    exact dkOw_ok ro e
  | sc ns => cases e
  | br i =>
    obtain ⟨e1, sv, e2, ns⟩ := h
    obtain ⟨v', e3, r⟩ := s.at_ i sv e2
    rw [e1] at e3; cases e3
    simp only [dk, e2] at e
    cases sv with
    | fz d => exact dkOf_ok r e
    | pz d => exact dkOf_ok r e
    | sc ns => cases e
    | ow k' d => obtain ⟨a, rfl, _, _, ro⟩ := r; exact dkOw_ok ro e
    | pw k' d => obtain ⟨a, rfl, _, ro⟩ := r; exact dkOw_ok ro e
end
def dgetF (k : Bool) (kvs : List (PyData × PyData)) (d : PyData) : Option (Option PyData) :=
  match k, d with
  | true, d => (keyT? d).map fun ks => dget kvs (.tuple (ks.map keyD))
  | false, d => (key? d).map fun _ => dget kvs d
theorem dget_ok {K : PySem.W.Frag} {F : Addr → Prop} {H : Hp} {k : Bool} {kvs : List (PyData × PyData)} {d : PyData} {v y : V} {o : Option PyData} (h : RepDk K F H k kvs v) (hd : Rdd K F H d y) (e : dgetF k kvs d = some o) :
    ∃ a o', v = .ref a ∧ DGet H a y o' ∧ RelD K F H o o' := by
  obtain ⟨a, rfl, h⟩ := h
  cases k with
  | true =>
    simp only [dgetF, Option.map_eq_some_iff] at e
    obtain ⟨ks, hk, rfl⟩ := e
    obtain ⟨b, rfl, hb⟩ := keyT?_ok hd hk
    obtain ⟨zs, h1, h2⟩ := h
    exact ⟨a, _, rfl, .inr ⟨zs, ks, b, h1, rfl, hb, rfl⟩, dget_T ks h2⟩
  | false =>
    simp only [dgetF, Option.map_eq_some_iff] at e
    obtain ⟨q, hk, rfl⟩ := e
    have hk' := key?_eq hk
    subst hk'
    obtain ⟨zs, h1, h2⟩ := h
    have hy : y = kV q := by
      cases q with
      | inl i => exact rdd_int.mp hd
      | inr i => exact rdd_str.mp hd
    exact ⟨a, _, rfl, .inl ⟨zs, q, h1, hy, rfl⟩, dget_K q h2⟩

/-! ### in -/
def inD (neg : Bool) (d : PyData) (xs : List PyData) : PyData := .bool (if neg then !(xs.any fun z => PyData.eqv z d) else xs.any fun z => PyData.eqv z d)
def vIn (neg : Bool) (f g : VE) : VE := fun env => (f env).bind fun p => (g p.2).bind fun q => (rd q.2 p.1).bind fun d => match dk q.2 q.1 with
  | some (k, kvs) => (dgetF k kvs d).map fun o => (.fz (.bool (if neg then !o.isSome else o.isSome)), q.2)
  | none => (rd q.2 q.1).bind fun c => (seq? c).bind fun xs => if SeqAt.shaped d && SeqAt.shaped c then some (.fz (inD neg d xs), q.2) else none
section
variable {X : Cx}
def rInT (K : PySem.W.Frag) (neg : Bool) : R2 := fun x y H Q => ∃ d ds, Dp K H x d ∧ Dp K H y (.tuple ds) ∧ SeqAt.shaped d = true ∧ SeqAt.shaped (.tuple ds) = true ∧ Q (.bl (if neg then !(ds.any fun z => PyData.eqv z d) else ds.any fun z => PyData.eqv z d)) H
def rInDc (neg : Bool) : R2 := fun x y H Q => ∃ a o, y = .ref a ∧ DGet H a x o ∧ Q (.bl (if neg then !o.isSome else o.isSome)) H
theorem op_inT (hu : X.A.units + 65 < cLine) : OpR X (compareOp .In) (rInT X.K false) := by
  intro pins s σ H x y v u Q I rx ry h
  obtain ⟨d, ds, hd, hy, sd, sy, q⟩ := h
  obtain ⟨as, r1⟩ := Dp.reads I _ _ _ hd rx
  obtain ⟨bs, r2⟩ := Dp.reads I _ _ _ hy ry
  exact SeqAt.in_tuple_reads r2 r1 (SeqAt.canLay_of_shaped sy) (SeqAt.canLay_of_shaped sd) (PyProof.Rows.room_in_shaped sd hu) ⟨.bl _, H, I, rfl, q⟩
theorem op_notInT (hu : X.A.units + 65 < cLine) : OpR X (compareOp .NotIn) (rInT X.K true) := by
  intro pins s σ H x y v u Q I rx ry h
  obtain ⟨d, ds, hd, hy, sd, sy, q⟩ := h
  obtain ⟨as, r1⟩ := Dp.reads I _ _ _ hd rx
  obtain ⟨bs, r2⟩ := Dp.reads I _ _ _ hy ry
  exact SeqAt.notIn_tuple_reads r2 r1 (SeqAt.canLay_of_shaped sy) (SeqAt.canLay_of_shaped sd) (PyProof.Rows.room_in_shaped sd hu) ⟨.bl _, H, I, rfl, q⟩
theorem op_inDc (hu : X.A.units + 1 < cLine) : OpR X (compareOp .In) (rInDc false) := by
  intro pins s σ H x y v u Q I rx ry h
  obtain ⟨a, o, rfl, g, q⟩ := h
  cases ry
  exact d_in hu I g rx fun s3 I3 => ⟨.bl _, H, I3, rfl, q⟩
theorem op_notInDc (hu : X.A.units + 1 < cLine) : OpR X (compareOp .NotIn) (rInDc true) := by
  intro pins s σ H x y v u Q I rx ry h
  obtain ⟨a, o, rfl, g, q⟩ := h
  cases ry
  exact d_notIn hu I g rx fun s3 I3 => ⟨.bl _, H, I3, rfl, q⟩
theorem RelD.isSome {K : PySem.W.Frag} {F : Addr → Prop} {H : Hp} {o : Option PyData} {o' : Option V} (h : RelD K F H o o') : o.isSome = o'.isSome := by
  cases o <;> cases o' <;> first | rfl | exact h.elim
theorem in_two {f g : VE} {neg : Bool} {σ : L2.St} {H : Hp} {Q : VK} {r : R2} (hl : ∀ x y H Q d ds, Dp X.K H x d → Dp X.K H y (.list ds) → SeqAt.shaped d = true → SeqAt.shaped (.list ds) = true → Q (.bl (if neg then !(ds.any fun z => PyData.eqv z d) else ds.any fun z => PyData.eqv z d)) H → r x y H Q)
    (ht : ∀ x y H Q, rInT X.K neg x y H Q → r x y H Q) (hd : ∀ x y H Q, rInDc neg x y H Q → r x y H Q) (h : TV X.K (vIn neg f g) σ H Q) : TV X.K f σ H fun x H1 => TV X.K g σ H1 fun y H2 => r x y H2 Q := by
  obtain ⟨B, F, env, r0, env', st, e, k⟩ := h
  unfold vIn at e
  simp only [bind_some_iff] at e
  obtain ⟨⟨r1, e1⟩, hf, ⟨r2, e2⟩, hg, a, ha, e⟩ := e
  refine ⟨B, F, env, r1, e1, st, hf, fun v1 F1 H1 P1 R1 N1 => ⟨B, F1, e1, r2, e2, P1.st, hg, fun v2 F2 H2 P2 R2 N2 => ?_⟩⟩
  have P := P1.trans st P2
  have D1 := rd_ok P2.st (R1.post P1.st P2) ha
  cases q : dk e2 r2 with
  | some p =>
    obtain ⟨kk, kvs⟩ := p
    simp only [q, Option.map_eq_some_iff] at e
    obtain ⟨o, ho, he⟩ := e
    cases he
    obtain ⟨b, o', ev, g, rel⟩ := dget_ok (dk_ok P2.st R2 q) D1 ho
    refine hd _ _ _ _ ⟨b, o', ev, g, ?_⟩
    rw [← rel.isSome]
    exact k _ F2 H2 P rR_mkB trivial
  | none =>
    simp only [q, bind_some_iff] at e
    obtain ⟨c, hc, xs, hx, e⟩ := e
    split at e
    · rename_i ok
      cases e
      rw [Bool.and_eq_true] at ok
      have D2 := rd_ok P2.st R2 hc
      cases c with
      | list ds =>
        cases hx
        exact hl _ _ _ _ a xs (Rdd.dp (SeqAt.canLay_of_shaped ok.1) D1) (Rdd.dp (SeqAt.canLay_of_shaped ok.2) D2) ok.1 ok.2 (k _ F2 H2 P rR_mkB trivial)
      | tuple ds =>
        cases hx
        exact ht _ _ _ _ ⟨a, xs, Rdd.dp (SeqAt.canLay_of_shaped ok.1) D1, Rdd.dp (SeqAt.canLay_of_shaped ok.2) D2, ok.1, ok.2, k _ F2 H2 P rR_mkB trivial⟩
      | _ => cases hx
    · cases e
theorem ve_in {a b : Expr} {f g : VE} {pos : Pos} (hu : X.A.units + 65 < cLine) (ha : VEx X a f) (hb : VEx X b g) (hm : behindInMarks .In b = false := by rfl) : VEx X (.Compare a [.In] [b] pos) (vIn false f g) :=
  PE.imp (pe_cmpR ((op_inD hu).or ((op_inT hu).or (op_inDc (by omega)))) ha hb hm) fun _ _ _ h => in_two (neg := false) (r := fun x y H Q => rInD X.K x y H Q ∨ rInT X.K false x y H Q ∨ rInDc false x y H Q) (fun _ _ _ _ d ds h1 h2 h3 h4 q => .inl ⟨d, ds, h1, h2, h3, h4, q⟩) (fun _ _ _ _ h => .inr (.inl h)) (fun _ _ _ _ h => .inr (.inr h)) h
theorem vt_in {a b : Expr} {f g : VE} {pos : Pos} (hu : X.A.units + 65 < cLine) (ha : VEx X a f) (hb : VEx X b g) (hm : behindInMarks .In b = false := by rfl) : VTx X (.Compare a [.In] [b] pos) (vB (vIn false f g)) :=
  PT.imp (pt_cmpR ((op_inD hu).or ((op_inT hu).or (op_inDc (by omega)))) ha hb hm) fun _ _ _ h => in_two (neg := false) (r := fun x y H Q => rInD X.K x y H Q ∨ rInT X.K false x y H Q ∨ rInDc false x y H Q) (fun _ _ _ _ d ds h1 h2 h3 h4 q => .inl ⟨d, ds, h1, h2, h3, h4, q⟩) (fun _ _ _ _ h => .inr (.inl h)) (fun _ _ _ _ h => .inr (.inr h)) (vb_ok h)
theorem ve_notIn {a b : Expr} {f g : VE} {pos : Pos} (hu : X.A.units + 65 < cLine) (ha : VEx X a f) (hb : VEx X b g) (hm : behindInMarks .NotIn b = false := by rfl) : VEx X (.Compare a [.NotIn] [b] pos) (vIn true f g) :=
  PE.imp (pe_cmpR ((op_notInD hu).or ((op_notInT hu).or (op_notInDc (by omega)))) ha hb hm) fun _ _ _ h => in_two (neg := true) (r := fun x y H Q => rNotInD X.K x y H Q ∨ rInT X.K true x y H Q ∨ rInDc true x y H Q) (fun _ _ _ _ d ds h1 h2 h3 h4 q => .inl ⟨d, ds, h1, h2, h3, h4, q⟩) (fun _ _ _ _ h => .inr (.inl h)) (fun _ _ _ _ h => .inr (.inr h)) h
theorem vt_notIn {a b : Expr} {f g : VE} {pos : Pos} (hu : X.A.units + 65 < cLine) (ha : VEx X a f) (hb : VEx X b g) (hm : behindInMarks .NotIn b = false := by rfl) : VTx X (.Compare a [.NotIn] [b] pos) (vB (vIn true f g)) :=
  PT.imp (pt_cmpR ((op_notInD hu).or ((op_notInT hu).or (op_notInDc (by omega)))) ha hb hm) fun _ _ _ h => in_two (neg := true) (r := fun x y H Q => rNotInD X.K x y H Q ∨ rInT X.K true x y H Q ∨ rInDc true x y H Q) (fun _ _ _ _ d ds h1 h2 h3 h4 q => .inl ⟨d, ds, h1, h2, h3, h4, q⟩) (fun _ _ _ _ h => .inr (.inl h)) (fun _ _ _ _ h => .inr (.inr h)) (vb_ok h)

/-! ### subscripts -/
theorem ix_dict (hu : X.A.units + 1 < cLine) : IxR X (fun x y H Q => ∃ a v, x = .ref a ∧ DGet H a y (some v) ∧ Q v H) := by
  intro value slice pins s σ H x y v u Q I rx ry h hs
  obtain ⟨a, z, rfl, g, q⟩ := h
  cases rx
  exact tail_any (dict_typeIs I g) PySem.F.slot_dict_getitem.lookup (d_getItem hu I g ry fun w' s3 I3 rw' => ⟨z, H, I3, rw', q⟩) hs
def vIdx (f g : VE) : VE := fun env => (f env).bind fun p => (g p.2).bind fun q => (rd q.2 q.1).bind fun i => match dk q.2 p.1 with
  | some (k, kvs) => (dgetF k kvs i).bind fun o => o.map fun d => (.fz d, q.2)
  | none => (rdw q.2 p.1).bind fun c => (seq? c).bind fun xs => match i with
    | .int j => (L2.atI xs j).map fun d => (.fz d, q.2)
    | _ => none
theorem ve_idx {a b : Expr} {f g : VE} {pos : Pos} (hu : X.A.units + 65 < cLine) (ha : VEx X a f) (hb : VEx X b g) (hs : PlainIx b := by exact fun _ _ => rfl) : VEx X (.Subscript a b pos) (vIdx f g) :=
  PE.imp (pe_ix (ix_list.or (ix_tup.or (ix_dict (by omega)))) ha hb hs) fun σ H Q h => by
    obtain ⟨B, F, env, r0, env', st, e, k⟩ := h
    unfold vIdx at e
    simp only [bind_some_iff] at e
    obtain ⟨⟨r1, e1⟩, hf, ⟨r2, e2⟩, hg, i, hi, e⟩ := e
    refine ⟨B, F, env, r1, e1, st, hf, fun v1 F1 H1 P1 R1 N1 => ⟨B, F1, e1, r2, e2, P1.st, hg, fun v2 F2 H2 P2 R2 N2 => ?_⟩⟩
    have P := P1.trans st P2
    have R1' := R1.post P1.st P2
    have D2 := rd_ok P2.st R2 hi
    cases q : dk e2 r1 with
    | some p =>
      obtain ⟨kk, kvs⟩ := p
      simp only [q, bind_some_iff, Option.map_eq_some_iff] at e
      obtain ⟨o, ho, d, hd, he⟩ := e
      cases he
      obtain ⟨b, o', ev, g, rel⟩ := dget_ok (dk_ok P2.st R1' q) D2 ho
      subst hd
      cases o' with
      | none => exact rel.elim
      | some x => exact .inr (.inr ⟨b, x, ev, g, k _ F2 H2 P rel trivial⟩)
    | none =>
      simp only [q, bind_some_iff] at e
      obtain ⟨c, hc, xs, hx, e⟩ := e
      have D1 := rdw_ok P2.st R1' hc
      cases i with
      | int j =>
        simp only [Option.map_eq_some_iff] at e
        obtain ⟨d, hd, he⟩ := e
        cases he
        cases c with
        | list ds =>
          cases hx
          obtain ⟨p, ys, rfl, hs, ra⟩ := rdL_list.mp D1
          obtain ⟨x, hx, rx⟩ := ra.atI hd
          exact .inl ⟨p, ys, j, x, rfl, rdd_int.mp D2, hs, hx, k _ F2 H2 P rx trivial⟩
        | tuple ds =>
          cases hx
          obtain ⟨p, ys, rfl, hs, ra⟩ := rdL_tup.mp D1
          obtain ⟨x, hx, rx⟩ := ra.atI hd
          exact .inr (.inl ⟨p, ys, j, x, rfl, rdd_int.mp D2, hs.sq, hx, k _ F2 H2 P rx trivial⟩)
        | _ => cases hx
      | _ => cases e

/-! ### slices -/
def cutD (xs : List PyData) (lo hi : Option Int) : List PyData := (xs.drop (HT.sIx xs.length 0 lo)).take (HT.sIx xs.length xs.length hi - HT.sIx xs.length 0 lo)
theorem repA_cut {K : PySem.W.Frag} {F : Addr → Prop} {H : Hp} {ds : List PyData} {xs : List V} (h : RepA K F H ds xs) (lo hi : Option Int) : RepA K F H (cutD ds lo hi) (cutV xs lo hi) := by
  unfold cutD cutV
  rw [h.len]
  exact (h.drop _).take _
abbrev VO := EV → Option (Option Int × EV)
def TVO (K : PySem.W.Frag) (f : VO) : TO := fun σ H Q => ∃ B F env o env', StOk K B F H σ env ∧ f env = some (o, env') ∧ ∀ F' H', Post K B σ env F H env' F' H' → Q o H'
def voNone : VO := fun env => some (none, env)
def voSome (f : VE) : VO := fun env => (f env).bind fun p => match p.1 with
  | .fz (.int i) => some (some i, p.2)
  | _ => none
abbrev VOx (X : Cx) (e : Option Expr) (f : VO) : Prop := PO X e (TVO X.K f)
theorem PO.imp {e : Option Expr} {t t' : TO} (h : PO X e t) (i : ∀ σ H Q, t' σ H Q → t σ H Q) : PO X e t' := ⟨fun pins s σ H Q I q => h.run pins s σ H Q I (i σ H Q q)⟩
theorem vo_none : VOx X none voNone := PO.imp po_none fun σ H Q h => by
  obtain ⟨B, F, env, o, env', st, e, k⟩ := h
  cases e
  exact k F H (.refl st)
theorem vo_some {e : Expr} {f : VE} (h : VEx X e f) : VOx X (some e) (voSome f) := PO.imp (po_some h) fun σ H Q h => by
  obtain ⟨B, F, env, o, env', st, e, k⟩ := h
  unfold voSome at e
  rw [bind_some_iff] at e
  obtain ⟨⟨r, e1⟩, hf, e⟩ := e
  refine ⟨B, F, env, r, e1, st, hf, fun v F1 H1 P R N => ?_⟩
  cases r with
  | fz d =>
    cases d with
    | int i =>
      cases e
      have R' : Rep X.K F1 H1 (.int i) v := R
      rw [Rep] at R'
      exact ⟨i, R', k F1 H1 P⟩
    | _ => cases e
  | _ => cases e
def rSlZ (K : PySem.W.Frag) : V → Option Int → Option Int → Hp → VK → Prop := fun x lo hi H Q => ∃ a xs, x = .ref a ∧ SqT K H a xs ∧
  (HT.sIx xs.length 0 lo = 0 ∧ HT.sIx xs.length xs.length hi = xs.length → Q (.ref a) H) ∧ (¬ (HT.sIx xs.length 0 lo = 0 ∧ HT.sIx xs.length xs.length hi = xs.length) → ∀ p o', H p = none → TupAt (upd H p o') p (cutV xs lo hi) → Q (.ref p) (upd H p o'))
theorem sl_tupZ {X : Cx} : SlR X (rSlZ X.K) := by
  intro pins s σ H x v vl vu lo hi sl Q I rx hs pl pu h
  obtain ⟨a, xs, rfl, hx, q1, q2⟩ := h
  cases rx
  obtain ⟨its, r, ht, hz⟩ := I.tuple hx
  have hlen : its.toArray.size = xs.length := by rw [List.size_toArray]; exact r.length.symm
  refine ⟨"tuple", _, PyProof.Rows.slot_tuple_getitem.lookup, ht.typeIs, ?_⟩
  by_cases hw : HT.sIx xs.length 0 lo = 0 ∧ HT.sIx xs.length xs.length hi = xs.length
  · exact getItem_tuple_whole ht hs pl pu (by rw [hlen]; exact hw) ⟨.ref a, H, I, rfl, q1 hw⟩
  · refine HT.getItem_tuple_cut ht hs pl pu (by rw [hlen]; exact hw) ?_ (by rw [hlen]; exact hz)
    rw [hlen]
    obtain ⟨o', I2, t⟩ := lay_tup I ((r.drop (HT.sIx xs.length 0 lo)).take (HT.sIx xs.length xs.length hi - HT.sIx xs.length 0 lo)) (Nat.le_trans (cutV_length xs lo hi) hz) s.toks
    exact ⟨.ref s.heap.objs.size, _, I2, rfl, q2 hw _ _ (I.hok.fresh (Nat.le_refl _)) t⟩
def vSlice (f : VE) (lo hi : VO) : VE := fun env => (f env).bind fun p => (lo p.2).bind fun l => (hi l.2).bind fun u => (rdw u.2 p.1).bind fun c => match c with
  | .list ds => some (.ow false (.list (cutD ds l.1 u.1)), u.2)
  | .tuple ds => some (.fz (.tuple (cutD ds l.1 u.1)), u.2)
  | _ => none
theorem ve_slice {a : Expr} {lo hi : Option Expr} {f : VE} {l u : VO} {p2 pos : Pos} (ha : VEx X a f) (hl : VOx X lo l) (hh : VOx X hi u) : VEx X (.Subscript a (.Slice lo hi none p2) pos) (vSlice f l u) :=
  PE.imp (pe_slice (sl_list.or sl_tupZ) ha hl hh) fun σ H Q h => by
    obtain ⟨B, F, env, r0, env', st, e, k⟩ := h
    unfold vSlice at e
    simp only [bind_some_iff] at e
    obtain ⟨⟨r1, e1⟩, hf, ⟨o1, e2⟩, h1, ⟨o2, e3⟩, h2, c, hc, e⟩ := e
    refine ⟨B, F, env, r1, e1, st, hf, fun v1 F1 H1 P1 R1 N1 => ⟨B, F1, e1, o1, e2, P1.st, h1, fun F2 H2 P2 => ⟨B, F2, e2, o2, e3, P2.st, h2, fun F3 H3 P3 => ?_⟩⟩⟩
    have P := (P1.trans st P2).trans st P3
    have D := rdw_ok P3.st ((R1.post P1.st P2).post P2.st P3) hc
    cases c with
    | list ds =>
      cases e
      obtain ⟨p, ys, rfl, hs, ra⟩ := rdL_list.mp D
      refine .inl ⟨p, ys, rfl, hs, fun q n => ?_⟩
      obtain ⟨p', q', n'⟩ := P.res (Res.lst n (repA_cut ra o1 o2) P.st.fH)
      exact k _ F3 _ p' q' n'
    | tuple ds =>
      cases e
      obtain ⟨p, ys, rfl, hs, ra⟩ := rdL_tup.mp D
      refine .inr ⟨p, ys, rfl, hs.sq, fun w => ?_, fun _ q o' n t => ?_⟩
      · have ed : cutD ds o1 o2 = ds := by
          unfold cutD
          rw [ra.len, w.1, w.2, List.drop_zero, Nat.sub_zero, ← ra.len, List.take_length]
        rw [ed] at k
        exact k _ F3 H3 P (show Rep X.K F3 H3 (.tuple ds) _ by rw [Rep]; exact ⟨p, ys, rfl, hs, ra⟩) trivial
      · obtain ⟨p', q', n'⟩ := P.res (Res.tupZ n t (repA_cut ra o1 o2))
        exact k _ F3 _ p' q' n'
    | _ => cases e
end
end VL

/-! VL7: statements -/
namespace VL
open PySem PySem.Spec PyProof.Rows L2

inductive Fl where
  | nx | bk | ct | rt (r : R)
abbrev VS := EV → Option (Fl × EV)
def SV.isP : SV → Bool
  | .pw _ _ => true | .pz _ => true | _ => false
/-- from one state of the def's run to a later one -/
structure Go (K : PySem.W.Frag) (B : Addr → Prop) (σ : L2.St) (env : EV) (F : Addr → Prop) (H : Hp) (σ' : L2.St) (env' : EV) (F' : Addr → Prop) (H' : Hp) : Prop where
  st : StOk K B F' H' σ' env'
  mono : ∀ a, F a → F' a
  there : ∀ a, H a ≠ none → H' a ≠ none
  keep : ∀ a o, H a = some o → ¬ OwA σ env a → (F' a → F a) ∧ (H' a = some o ∨ (F a ∧ IsDic o ∧ ∃ od, H' a = some (.frz od o)))
  own : ∀ a, OwA σ' env' a → OwA σ env a ∨ H a = none
  par : ∀ (i : Nat) (s : SV), env[i]? = some (some s) → s.isP = true → σ'[i]? = σ[i]? ∧ ∃ s', env'[i]? = some (some s') ∧ s.le s'
  len : env'.length = env.length
section
variable {K : PySem.W.Frag} {B F F' F2 : Addr → Prop} {H H' H2 : Hp} {σ σ' σ2 : L2.St} {env env' env2 : EV}
theorem Go.ext (g : Go K B σ env F H σ' env' F' H') : Ext σ env F H F' H' := ⟨g.mono, g.there, g.keep⟩
theorem Go.up (s : StOk K B F H σ env) (g : Go K B σ env F H σ' env' F' H') : Up F H F' H' := g.ext.up s
theorem Go.of (p : Post K B σ env F H env' F' H') : Go K B σ env F H σ env' F' H' :=
  ⟨p.st, p.ext.mono, p.ext.there, p.ext.keep, fun a o => .inl (p.ee.owA o), fun i s e _ => ⟨rfl, p.ee.on i s e⟩, p.ee.len⟩
theorem Go.refl (s : StOk K B F H σ env) : Go K B σ env F H σ env F H := .of (.refl s)
theorem SV.le_isP : ∀ {a b : SV}, a.le b → a.isP = true → b.isP = true
  | .fz _, _, _, h => by cases h
  | .sc _, _, _, h => by cases h
  | .ow _ _, _, _, h => by cases h
  | .pz _, _, l, _ => by cases l; rfl
  | .pw _ _, _, l, _ => by rcases l with ⟨_, rfl⟩ | ⟨_, rfl⟩ <;> rfl
theorem Go.trans (g : Go K B σ env F H σ' env' F' H') (h : Go K B σ' env' F' H' σ2 env2 F2 H2) : Go K B σ env F H σ2 env2 F2 H2 := by
  refine ⟨h.st, fun a f => h.mono a (g.mono a f), fun a e => h.there a (g.there a e), fun a o e no => ?_, fun a o => ?_, fun i s e p => ?_, h.len.trans g.len⟩
  · have no' : ¬ OwA σ' env' a := fun z => by
      rcases g.own a z with z | z
      · exact no z
      · rw [e] at z; cases z
    obtain ⟨f1, c1⟩ := g.keep a o e no
    rcases c1 with e1 | ⟨f, m, od, e1⟩
    · obtain ⟨f2, c2⟩ := h.keep a o e1 no'
      refine ⟨fun z => f1 (f2 z), ?_⟩
      rcases c2 with e2 | ⟨f', m, od, e2⟩
      · exact .inl e2
      · exact .inr ⟨f1 f', m, od, e2⟩
    · obtain ⟨f2, c2⟩ := h.keep a _ e1 no'
      refine ⟨fun z => f1 (f2 z), ?_⟩
      rcases c2 with e2 | ⟨_, m', _⟩
      · exact .inr ⟨f, m, od, e2⟩
      · exact m'.elim
  · rcases h.own a o with z | z
    · exact g.own a z
    · right
      cases e : H a with
      | none => rfl
      | some u => exact (g.there a (by rw [e]; simp) z).elim
  · obtain ⟨e1, s1, e2, l1⟩ := g.par i s e p
    obtain ⟨e3, s2, e4, l2⟩ := h.par i s1 e2 (SV.le_isP l1 p)
    exact ⟨e3.trans e1, s2, e4, SV.le_trans l1 l2⟩
end
def TVS (K : PySem.W.Frag) (s : VS) : TS := fun D σ H => ∃ B F env fl env', StOk K B F H σ env ∧ s env = some (fl, env') ∧ ∀ σ' F' H', Go K B σ env F H σ' env' F' H' → match fl with
  | .nx => D.nx σ' H'
  | .bk => D.bk σ' H'
  | .ct => D.ct σ' H'
  | .rt r => ∀ v, RepR K B F' H' σ' env' r v → D.rt v H'
abbrev VSx (X : Cx) (s : Stmt) (f : VS) : Prop := PS X s (TVS X.K f)
abbrev VSsx (X : Cx) (s : List Stmt) (f : VS) : Prop := PSs X s (TVS X.K f)
section
variable {K : PySem.W.Frag} {B F F' : Addr → Prop} {H H' : Hp} {σ σ' : L2.St} {env env1 env' : EV} {s : VS} {fl : Fl} {D : Ends}
theorem tvs_from (g : Go K B σ env F H σ' env1 F' H') (e : s env1 = some (fl, env'))
    (k : ∀ σ2 F2 H2, Go K B σ env F H σ2 env' F2 H2 → match (motive := Fl → Prop) fl with | .nx => D.nx σ2 H2 | .bk => D.bk σ2 H2 | .ct => D.ct σ2 H2 | .rt r => ∀ v, RepR K B F2 H2 σ2 env' r v → D.rt v H2) : TVS K s D σ' H' :=
  ⟨B, F', env1, fl, env', g.st, e, fun σ2 F2 H2 g2 => by
    have q := k σ2 F2 H2 (g.trans g2)
    cases fl <;> exact q⟩
end
/-! ### blocks -/
def vsNil : VS := fun env => some (.nx, env)
def vSeq (s t : VS) : VS := fun env => (s env).bind fun p => match p.1 with
  | .nx => t p.2
  | fl => some (fl, p.2)
section
variable {X : Cx} {st : Stmt} {rest : List Stmt} {f g : VS} {pos : Pos}
theorem vss_nil : VSsx X [] vsNil := PSs.imp pss_nil fun D σ H h => by
  obtain ⟨B, F, env, fl, env', s, e, k⟩ := h
  cases e
  exact k σ F H (.refl s)
theorem vss_one (h : VSx X st f) : VSsx X [st] f := pss_one h
theorem vss_cons (h1 : VSx X st f) (h2 : VSsx X rest g) : VSsx X (st :: rest) (vSeq f g) := PSs.imp (pss_cons h1 h2) fun D σ H h => by
  obtain ⟨B, F, env, fl, env', s, e, k⟩ := h
  unfold vSeq at e
  rw [bind_some_iff] at e
  obtain ⟨⟨fl1, env1⟩, e1, e2⟩ := e
  refine ⟨B, F, env, fl1, env1, s, e1, fun σ1 F1 H1 g1 => ?_⟩
  cases fl1 with
  | nx => exact tvs_from g1 e2 k
  | bk => cases e2; exact k σ1 F1 H1 g1
  | ct => cases e2; exact k σ1 F1 H1 g1
  | rt r => cases e2; exact k σ1 F1 H1 g1
def vPass : VS := fun env => some (.nx, env)
def vBk : VS := fun env => some (.bk, env)
def vCt : VS := fun env => some (.ct, env)
def vNever : VS := fun _ => none
theorem vs_pass : VSx X (.Pass pos) vPass := PS.imp ps_pass fun D σ H h => by
  obtain ⟨B, F, env, fl, env', s, e, k⟩ := h
  cases e; exact k σ F H (.refl s)
theorem vs_break : VSx X (.Break pos) vBk := PS.imp ps_break fun D σ H h => by
  obtain ⟨B, F, env, fl, env', s, e, k⟩ := h
  cases e; exact k σ F H (.refl s)
theorem vs_continue : VSx X (.Continue pos) vCt := PS.imp ps_continue fun D σ H h => by
  obtain ⟨B, F, env, fl, env', s, e, k⟩ := h
  cases e; exact k σ F H (.refl s)
theorem vs_never : VSx X st vNever := PS.imp ps_never fun D σ H h => by
  obtain ⟨B, F, env, fl, env', s, e, k⟩ := h
  cases e
/-! ### an expression alone, if, return -/
def vExpr (f : VE) : VS := fun env => (f env).map fun p => (.nx, p.2)
theorem vs_expr {e : Expr} {f : VE} (he : VEx X e f) (hs : swapsWith e none pos.line X.env = pure false := by rfl) : VSx X (.Expr e pos) (vExpr f) := PS.imp (ps_expr he hs) fun D σ H h => by
  obtain ⟨B, F, env, fl, env', s, e, k⟩ := h
  unfold vExpr at e
  rw [Option.map_eq_some_iff] at e
  obtain ⟨⟨r, e1⟩, hf, he⟩ := e
  cases he
  exact ⟨B, F, env, r, e1, s, hf, fun v F1 H1 P _ _ => k σ F1 H1 (.of P)⟩
def vIf (t : VT) (a b : VS) : VS := fun env => (t env).bind fun p => if p.1 = true then a p.2 else b p.2
theorem vs_if {c : Expr} {a b : List Stmt} {t : VT} (hc : VTx X c t) (ha : VSsx X a f) (hb : VSsx X b g) : VSx X (.If c a b pos) (vIf t f g) := PS.imp (ps_if hc ha hb) fun D σ H h => by
  obtain ⟨B, F, env, fl, env', s, e, k⟩ := h
  unfold vIf at e
  rw [bind_some_iff] at e
  obtain ⟨⟨c, e1⟩, hf, he⟩ := e
  refine ⟨B, F, env, c, e1, s, hf, fun F1 H1 P => ?_⟩
  cases c with
  | true => exact iteT (tvs_from (.of P) he k)
  | false => exact iteF (tvs_from (.of P) he k)
/-- what leaves the def: a slot's own object moves, a parameter's is frozen -/
def moved (env : EV) : R → Option (R × EV)
  | .fz d => some (.fz d, env)
  | .ow k d => some (.ow k d, env)
  | .br i => match env[i]? with
    | some (some (.ow k d)) => some (.ow k d, env.set i none)
    | some (some (.pw k d)) => some (.fz d, env.set i (some (.pz d)))
    | some (some (.fz d)) => some (.fz d, env)
    | some (some (.pz d)) => some (.fz d, env)
    | _ => none
  | .sc _ => none
def vRet (f : VE) : VS := fun env => (f env).bind fun p => (moved p.2 p.1).map fun q => (.rt q.1, q.2)
def vRetN : VS := fun env => some (.rt (.fz .none), env)
theorem vs_retN : VSx X (.Return none pos) vRetN := PS.imp ps_retN fun D σ H h => by
  obtain ⟨B, F, env, fl, env', s, e, k⟩ := h
  cases e; exact k σ F H (.refl s) _ (show Rep X.K F H .none .non from rep_noneI)
/-- a slot is forgotten -/
theorem Go.forget {K : PySem.W.Frag} {B F F0 : Addr → Prop} {H H0 : Hp} {σ σ0 : L2.St} {env env0 : EV} (g : Go K B σ0 env0 F0 H0 σ env F H) {i : Nat} {s : SV} (e : env[i]? = some (some s)) (np : s.isP = false) : Go K B σ0 env0 F0 H0 σ (env.set i none) F H := by
  have hi := (List.getElem?_eq_some_iff.mp e).1
  have ow : ∀ {j : Nat}, Own (env.set i none) j → Own env j := fun {j} o => by
    obtain ⟨s', e', p⟩ := o
    by_cases h : i = j
    · subst h; rw [List.getElem?_set_self hi] at e'; cases e'
    · rw [List.getElem?_set_ne h] at e'; exact ⟨s', e', p⟩
  refine ⟨⟨by simpa using g.st.len, fun j sj ej => ?_, fun j l a oj ol => g.st.sep j l a (ow oj) (ow ol), g.st.fH, g.st.bH⟩, g.mono, g.there, g.keep, fun a o => ?_, fun j sj ej p => ?_, by simpa using g.len⟩
  · by_cases h : i = j
    · subst h; rw [List.getElem?_set_self hi] at ej; cases ej
    · rw [List.getElem?_set_ne h] at ej; exact g.st.at_ j sj ej
  · obtain ⟨j, oj, ej⟩ := o
    exact g.own a ⟨j, ow oj, ej⟩
  · obtain ⟨h1, s', h2, l⟩ := g.par j sj ej p
    refine ⟨h1, s', ?_, l⟩
    by_cases h : i = j
    · subst h
      rw [e] at h2; cases h2
      rw [SV.le_isP l p] at np; cases np
    · rw [List.getElem?_set_ne h]; exact h2
theorem vs_ret {e : Expr} {f : VE} (he : VEx X e f) : VSx X (.Return (some e) pos) (vRet f) := PS.imp (ps_ret he) fun D σ H h => by
  obtain ⟨B, F, env, fl, env', s, e, k⟩ := h
  unfold vRet at e
  simp only [bind_some_iff, Option.map_eq_some_iff] at e
  obtain ⟨⟨r, e1⟩, hf, ⟨r', e2⟩, hm, he⟩ := e
  cases he
  refine ⟨B, F, env, r, e1, s, hf, fun v F1 H1 P R N => ?_⟩
  have k' : ∀ σ' F' H', Go X.K B σ env F H σ' e2 F' H' → ∀ v, RepR X.K B F' H' σ' e2 r' v → D.rt v H' := k
  cases r with
  | fz d => cases hm; exact k' σ F1 H1 (.of P) v R
  | ow k d => cases hm; exact k' σ F1 H1 (.of P) v R
  | sc ns => cases hm
  | br i =>
    obtain ⟨ev, sv, esv, ns⟩ := R
    obtain ⟨v', e3, rs⟩ := P.st.at_ i sv esv
    rw [ev] at e3; cases e3
    simp only [moved, esv] at hm
    cases sv with
    | fz d => cases hm; exact k' σ F1 H1 (.of P) v rs
    | pz d => cases hm; exact k' σ F1 H1 (.of P) v rs
    | sc ns => cases hm
    | ow kk d =>
      cases hm
      have g := (Go.of P).forget esv rfl
      obtain ⟨a, rfl, nf, nb, ro⟩ := rs
      refine k' σ F1 H1 g _ ⟨a, rfl, nf, nb, fun o => ?_, ro⟩
      obtain ⟨j, ⟨s', ej, p⟩, ea⟩ := o
      have hi := (List.getElem?_eq_some_iff.mp esv).1
      by_cases h : i = j
      · subst h; rw [List.getElem?_set_self hi] at ej; cases ej
      · rw [List.getElem?_set_ne h] at ej
        exact h (P.st.sep i j a ⟨_, esv, rfl⟩ ⟨_, ej, p⟩ ev ea)
    | pw kk d =>
      cases hm
      obtain ⟨F2, P2, rep, _⟩ := use_ok (r := .br i) (d := d) (env' := e1.set i (some (.pz d))) P ⟨ev, _, esv, ns⟩ trivial (by simp [use, esv, SV.d, SV.fzd])
      exact k' σ F2 H1 (.of P2) v rep
end
/-! ### a name is stored -/
/-- what a slot holds of a value -/
def held (env : EV) : R → Option (SV × EV)
  | .fz d => some (.fz d, env)
  | .ow k d => some (.ow k d, env)
  | .sc ns => some (.sc ns, env)
  | .br i => (use env (.br i)).map fun p => (.fz p.1, p.2)
def free? (env : EV) (i : Nat) : Bool := match env[i]? with
  | some (some s) => !s.isP
  | some none => true
  | none => false
def vSet (i : Nat) (f : VE) : VS := fun env => (f env).bind fun p => (held p.2 p.1).bind fun q => if free? q.2 i = true then some (.nx, q.2.set i (some q.1)) else none
section
variable {K : PySem.W.Frag} {B F F0 : Addr → Prop} {H H0 : Hp} {σ σ0 : L2.St} {env env0 : EV}
/-- slot i gets a new state -/
theorem Go.put (g : Go K B σ0 env0 F0 H0 σ env F H) {i : Nat} {sv : SV} {v : V} (fr : free? env i = true) (r : RepS K B F H sv v) (np : sv.isP = false)
    (new : sv.own = true → ∀ a, v = .ref a → ¬ OwA σ env a ∧ H0 a = none) : Go K B σ0 env0 F0 H0 (σ.set i (some v)) (env.set i (some sv)) F H := by
  have hi : i < env.length := by
    unfold free? at fr
    cases q : env[i]? with
    | none => rw [q] at fr; cases fr
    | some o => exact (List.getElem?_eq_some_iff.mp q).1
  have hσ : i < σ.length := by rw [← g.st.len]; exact hi
  have ow : ∀ {j : Nat}, j ≠ i → Own (env.set i (some sv)) j → Own env j := fun {j} h o => by
    obtain ⟨s', e', p⟩ := o
    rw [List.getElem?_set_ne (Ne.symm h)] at e'; exact ⟨s', e', p⟩
  have owi : Own (env.set i (some sv)) i → sv.own = true := fun o => by
    obtain ⟨s', e', p⟩ := o
    rw [List.getElem?_set_self hi] at e'; cases e'; exact p
  have va : ∀ {a : Addr}, (σ.set i (some v))[i]? = some (some (.ref a)) → v = .ref a := fun {a} h => by
    rw [List.getElem?_set_self hσ] at h; cases h; rfl
  refine ⟨⟨by simpa using g.st.len, fun j sj ej => ?_, fun j l a oj ol ej el => ?_, g.st.fH, g.st.bH⟩, g.mono, g.there, g.keep, fun a o => ?_, fun j sj ej p => ?_, by simpa using g.len⟩
  · by_cases h : i = j
    · subst h
      rw [List.getElem?_set_self hi] at ej; cases ej
      exact ⟨v, List.getElem?_set_self hσ, r⟩
    · rw [List.getElem?_set_ne h] at ej
      obtain ⟨v', e1, r'⟩ := g.st.at_ j sj ej
      exact ⟨v', by rw [List.getElem?_set_ne h]; exact e1, r'⟩
  · by_cases hj : j = i
    · subst hj
      by_cases hl : l = j
      · exact hl.symm
      · rw [List.getElem?_set_ne (Ne.symm hl)] at el
        exact ((new (owi oj) a (va ej)).1 ⟨l, ow hl ol, el⟩).elim
    · by_cases hl : l = i
      · subst hl
        rw [List.getElem?_set_ne (Ne.symm hj)] at ej
        exact ((new (owi ol) a (va el)).1 ⟨j, ow hj oj, ej⟩).elim
      · rw [List.getElem?_set_ne (Ne.symm hj)] at ej
        rw [List.getElem?_set_ne (Ne.symm hl)] at el
        exact g.st.sep j l a (ow hj oj) (ow hl ol) ej el
  · obtain ⟨j, oj, ej⟩ := o
    by_cases hj : j = i
    · subst hj
      exact .inr (new (owi oj) a (va ej)).2
    · rw [List.getElem?_set_ne (Ne.symm hj)] at ej
      exact g.own a ⟨j, ow hj oj, ej⟩
  · obtain ⟨h1, s', h2, l⟩ := g.par j sj ej p
    have hj : i ≠ j := fun h => by
      subst h
      unfold free? at fr
      rw [h2] at fr
      simp [SV.le_isP l p] at fr
    exact ⟨by rw [List.getElem?_set_ne hj]; exact h1, s', by rw [List.getElem?_set_ne hj]; exact h2, l⟩
theorem held_ok (p : Post K B σ env0 F0 H0 env F H) {r : R} {v : V} {sv : SV} {env' : EV} (R : RepR K B F H σ env r v) (N : NewR H0 r v) (e : held env r = some (sv, env')) :
    ∃ F', Post K B σ env0 F0 H0 env' F' H ∧ RepS K B F' H sv v ∧ sv.isP = false ∧ (sv.own = true → ∀ a, v = .ref a → ¬ OwA σ env' a ∧ H0 a = none) := by
  cases r with
  | fz d => cases e; exact ⟨F, p, R, rfl, fun z => nomatch z⟩
  | sc ns => cases e; exact ⟨F, p, R, rfl, fun z => nomatch z⟩
  | ow k d =>
    cases e
    obtain ⟨a, rfl, nf, nb, no, ro⟩ := R
    obtain ⟨a', ea, na⟩ := N
    cases ea
    exact ⟨F, p, ⟨a, rfl, nf, nb, ro⟩, rfl, fun _ b eb => by cases eb; exact ⟨no, na⟩⟩
  | br i =>
    simp only [held, Option.map_eq_some_iff] at e
    obtain ⟨⟨d, e2⟩, hu, he⟩ := e
    cases he
    obtain ⟨F', P, rep, u, _, fr⟩ := use_ok p R N hu
    exact ⟨F', P, rep, rfl, fun z => nomatch z⟩
end
section
variable {X : Cx} {pos : Pos}
theorem vs_set {i : Nat} {x : Str} {e : Expr} {f : VE} {pos' : Pos} (hN : X.N.Nodup) (he : VEx X e f) (hi : X.N[i]? = some x := by rfl) (hx : Loc X.env.scope x := by first | exact Or.inl rfl | exact Or.inr rfl) (hs : swapsWith e (some (.Name x pos')) pos.line X.env = pure false := by rfl)
    (hf : X.fn x = true ∨ X.env.scope.names.lookup x = some .local := by first | exact .inl rfl | exact .inr rfl) : VSx X (.Assign [.Name x pos'] e pos) (vSet i f) := PS.imp (ps_set hN hi hx he hs hf) fun D σ H h => by
  obtain ⟨B, F, env, fl, env', s, e, k⟩ := h
  unfold vSet at e
  simp only [bind_some_iff] at e
  obtain ⟨⟨r, e1⟩, hf, ⟨sv, e2⟩, hh, e⟩ := e
  split at e
  · rename_i fr
    cases e
    refine ⟨B, F, env, r, e1, s, hf, fun v F1 H1 P R N => ?_⟩
    obtain ⟨F2, P2, rs, np, new⟩ := held_ok P R N hh
    exact k _ F2 H1 ((Go.of P2).put fr rs np new)
  · cases e
end
end VL

/-! VL8: targets, several names at once, while, for, comprehensions -/
namespace VL
open PySem PySem.Spec PyProof.Rows L2

/-! ### targets -/
abbrev VG := PyData → EV → Option EV
def Off (ts : List Nat) (σ : L2.St) (env : EV) (σ' : L2.St) (env' : EV) : Prop := ∀ i, i ∉ ts → σ'[i]? = σ[i]? ∧ env'[i]? = env[i]?
def TVG (K : PySem.W.Frag) (ts : List Nat) (g : VG) : TG := fun v σ H Q => ∃ B F d env env', StOk K B F H σ env ∧ Rep K F H d v ∧ g d env = some env' ∧ ∀ σ', Go K B σ env F H σ' env' F H → Off ts σ env σ' env' → Q σ' H
abbrev VGs := List PyData → EV → Option EV
def TVGs (K : PySem.W.Frag) (ts : List Nat) (g : VGs) : TGs := fun vs σ H Q => ∃ B F ds env env', StOk K B F H σ env ∧ RepA K F H ds vs ∧ g ds env = some env' ∧ ∀ σ', Go K B σ env F H σ' env' F H → Off ts σ env σ' env' → Q σ' H
abbrev VGx (X : Cx) (e : Expr) (ts : List Nat) (g : VG) : Prop := PG X e (TVG X.K ts g)
abbrev VGsx (X : Cx) (es : List Expr) (ts : List Nat) (g : VGs) : Prop := PGs X es (TVGs X.K ts g)
def gN (i : Nat) : VG := fun d env => if free? env i = true then some (env.set i (some (.fz d))) else none
def gsNil : VGs := fun ds env => match ds with
  | [] => some env
  | _ => none
def gsCons (g : VG) (gs : VGs) : VGs := fun ds env => match ds with
  | d :: r => (g d env).bind fun e => gs r e
  | [] => none
def gT (n : Nat) (gs : VGs) : VG := fun d env => match d with
  | .tuple ds => if ds.length = n then gs ds env else none
  | _ => none
theorem PG.imp {X : Cx} {e : Expr} {t t' : TG} (h : PG X e t) (i : ∀ v σ H Q, t' v σ H Q → t v σ H Q) : PG X e t' := ⟨fun pins s σ H v u Q I r q => h.run pins s σ H v u Q I r (i v σ H Q q)⟩
theorem PGs.imp {X : Cx} {e : List Expr} {t t' : TGs} (h : PGs X e t) (i : ∀ v σ H Q, t' v σ H Q → t v σ H Q) : PGs X e t' := ⟨fun pins s σ H v u Q I r q => h.run pins s σ H v u Q I r (i v σ H Q q)⟩
section
variable {X : Cx} {pos : Pos}
theorem vg_name {i : Nat} {x : Str} (hN : X.N.Nodup) (hi : X.N[i]? = some x := by rfl) (hx : Loc X.env.scope x := by first | exact Or.inl rfl | exact Or.inr rfl) (hf : X.fn x = true ∨ X.env.scope.names.lookup x = some .local := by first | exact .inl rfl | exact .inr rfl) :
    VGx X (.Name x pos) [i] (gN i) := PG.imp (pg_name hN hi hx hf) fun v σ H Q h => by
  obtain ⟨B, F, d, env, env', s, r, e, k⟩ := h
  unfold gN at e
  split at e
  · rename_i fr
    cases e
    exact k _ ((Go.refl s).put (sv := .fz d) fr r rfl fun z => nomatch z) fun j hj => by
      have hj' : i ≠ j := fun z => hj (by simp [z])
      exact ⟨List.getElem?_set_ne hj', List.getElem?_set_ne hj'⟩
  · cases e
theorem vgs_nil : VGsx X [] [] gsNil := PGs.imp pgs_nil fun v σ H Q h => by
  obtain ⟨B, F, ds, env, env', s, r, e, k⟩ := h
  cases ds with
  | nil =>
    cases e
    rw [RepA] at r
    exact ⟨r, k σ (.refl s) fun _ _ => ⟨rfl, rfl⟩⟩
  | cons d ds => cases e
theorem vgs_cons {e : Expr} {es : List Expr} {g : VG} {gs : VGs} {ts us : List Nat} (h1 : VGx X e ts g) (h2 : VGsx X es us gs) (hs : (assignEach (e :: es) X.env).map (·.2) = assign e X.env :: (assignEach es X.env).map (·.2) := by rfl) : VGsx X (e :: es) (ts ++ us) (gsCons g gs) :=
  PGs.imp (pgs_cons h1 h2 hs) fun v σ H Q h => by
    obtain ⟨B, F, ds, env, env', s, r, e, k⟩ := h
    cases ds with
    | nil => cases e
    | cons d ds =>
      simp only [gsCons, bind_some_iff] at e
      obtain ⟨env1, e1, e2⟩ := e
      rw [RepA] at r
      obtain ⟨x, t, rfl, r1, r2⟩ := r
      exact ⟨x, t, rfl, B, F, d, env, env1, s, r1, e1, fun σ1 g1 o1 => ⟨B, F, ds, env1, env', g1.st, r2, e2, fun σ2 g2 o2 => k σ2 (g1.trans g2) fun i hi => by
        rw [List.mem_append, not_or] at hi
        exact ⟨(o2 i hi.2).1.trans (o1 i hi.1).1, (o2 i hi.2).2.trans (o1 i hi.1).2⟩⟩⟩
theorem vg_tup {es : List Expr} {k n : Nat} {gs : VGs} {ts : List Nat} (hc : X.calm = true) (h : VGsx X es ts gs) (hn : (assignEach es X.env).length = n := by rfl) (hst : (assignEach es X.env).findIdx? (·.1) = none := by rfl) : VGx X (.Tuple es k pos) ts (gT n gs) :=
  PG.imp (pg_tup hc h hn hst) fun v σ H Q h => by
    obtain ⟨B, F, d, env, env', s, r, e, k⟩ := h
    cases d with
    | tuple ds =>
      simp only [gT] at e
      split at e
      · rename_i hl
        rw [Rep] at r
        obtain ⟨a, xs, rfl, hs, ra⟩ := r
        exact ⟨a, xs, rfl, hs.sq, by rw [← ra.len]; exact hl, B, F, ds, env, env', s, ra, e, k⟩
      · cases e
    | _ => cases e
/-- target = value, the value from now on frozen -/
def vAsg (g : VG) (f : VE) : VS := fun env => (vUse f env).bind fun p => (g p.1 p.2).map fun e => (.nx, e)
theorem vs_asg {tg e : Expr} {f : VE} {g : VG} {ts : List Nat} (he : VEx X e f) (hg : VGx X tg ts g) (hs : swapsWithSole [tg] e pos.line X.env = pure false := by rfl) (hw : swappedStores [tg] e X.env = pure none := by rfl)
    (h1 : (assignEach [tg] X.env).map (·.2) = [assign tg X.env] := by rfl) : VSx X (.Assign [tg] e pos) (vAsg g f) := PS.imp (ps_asg he hg hs hw h1) fun D σ H h => by
  obtain ⟨B, F, env, fl, env', s, e, k⟩ := h
  unfold vAsg at e
  simp only [bind_some_iff, Option.map_eq_some_iff] at e
  obtain ⟨⟨d, e1⟩, hf, e2, hg, he⟩ := e
  cases he
  refine tu_of (f := f) ⟨B, F, env, d, e1, s, hf, fun v F1 H1 P R => ⟨B, F1, d, e1, _, P.st, R, hg, fun σ' g' _ => k σ' F1 H1 ((Go.of P).trans g')⟩⟩
end

/-! ### a, b = x, y with plain names -/
def heldAll (env : EV) : List R → Option (List SV × EV)
  | [] => some ([], env)
  | r :: rs => (held env r).bind fun p => (heldAll p.2 rs).map fun q => (p.1 :: q.1, q.2)
def putAll : List Nat → List SV → EV → Option EV
  | [], [], env => some env
  | i :: is, s :: ss, env => if free? env i = true then putAll is ss (env.set i (some s)) else none
  | _, _, _ => none
def vPar (is : List Nat) (as : VA) : VS := fun env => (as env).bind fun p => (heldAll p.2 p.1).bind fun q => (putAll is q.1 q.2).map fun e => (.nx, e)
def Held (K : PySem.W.Frag) (B F : Addr → Prop) (H H0 : Hp) (σ : L2.St) (env : EV) : List SV → List V → Prop
  | [], vs => vs = []
  | s :: ss, vs => ∃ v ws, vs = v :: ws ∧ RepS K B F H s v ∧ s.isP = false ∧ (s.own = true → ∀ a, v = .ref a → ¬ OwA σ env a ∧ H0 a = none ∧ ∀ (j : Nat) sj, ss[j]? = some sj → sj.own = true → ws[j]? ≠ some v) ∧ Held K B F H H0 σ env ss ws
section
variable {K : PySem.W.Frag} {B F F' F0 : Addr → Prop} {H H0 : Hp} {σ σ0 : L2.St} {env env0 env' : EV}
theorem RepS.fzmore {s : SV} {v : V} (u : Up F H F' H) (fr : ∀ a, F' a → F a ∨ OwA σ env a) (h : RepS K B F H s v) (n : s.own = true → ∀ a, v = .ref a → ¬ OwA σ env a) : RepS K B F' H s v :=
  h.up u fun o a e nf z => (fr a z).elim nf (n o a e)
theorem held_fr (p : Post K B σ env0 F0 H0 env F H) {r : R} {v : V} {sv : SV} (R : RepR K B F H σ env r v) (N : NewR H0 r v) (e : held env r = some (sv, env')) :
    ∃ F', Post K B σ env0 F0 H0 env' F' H ∧ RepS K B F' H sv v ∧ sv.isP = false ∧ (sv.own = true → (∃ k d, r = .ow k d) ∧ ∀ a, v = .ref a → ¬ OwA σ env' a ∧ H0 a = none) ∧ Up F H F' H ∧ EE env env' ∧ ∀ a, F' a → F a ∨ OwA σ env a := by
  cases r with
  | fz d => cases e; exact ⟨F, p, R, rfl, (fun z => nomatch z), .refl, .refl _, fun _ h => .inl h⟩
  | sc ns => cases e; exact ⟨F, p, R, rfl, (fun z => nomatch z), .refl, .refl _, fun _ h => .inl h⟩
  | ow k d =>
    cases e
    obtain ⟨a, rfl, nf, nb, no, ro⟩ := R
    obtain ⟨a', ea, na⟩ := N
    cases ea
    exact ⟨F, p, ⟨a, rfl, nf, nb, ro⟩, rfl, (fun _ => ⟨⟨_, _, rfl⟩, fun b eb => by cases eb; exact ⟨no, na⟩⟩), .refl, .refl _, fun _ h => .inl h⟩
  | br i =>
    simp only [held, Option.map_eq_some_iff] at e
    obtain ⟨⟨d, e2⟩, hu, he⟩ := e
    cases he
    obtain ⟨F', P, rep, u, ee, fr⟩ := use_ok p R N hu
    refine ⟨F', P, rep, rfl, (fun z => nomatch z), u, ee, fun a h => ?_⟩
    rcases fr a h with z | z | ⟨⟨k, d, z⟩, _⟩
    · exact .inl z
    · exact .inr z
    · cases z
theorem RepRs.more (u : Up F H F' H) (ee : EE env env') (st : StOk K B F H σ env) (fr : ∀ a, F' a → F a ∨ OwA σ env a) : ∀ {rs : List R} {vs : List V}, RepRs K B F H σ env rs vs → RepRs K B F' H σ env' rs vs
  | [], _, h => h
  | r :: rs, vs, h => by
    obtain ⟨v, ws, e, h1, h2, h3⟩ := h
    refine ⟨v, ws, e, ?_, h2, RepRs.more u ee st fr h3⟩
    cases r with
    | fz d => exact Rep.up u _ _ h1
    | sc ns => obtain ⟨a, e, q⟩ := h1; exact ⟨a, e, q.up u⟩
    | ow k d =>
      obtain ⟨a, rfl, nf, nb, no, ro⟩ := h1
      exact ⟨a, rfl, fun z => (fr a z).elim nf no, nb, fun z => no (ee.owA z), ro.up u rfl⟩
    | br i =>
      obtain ⟨e, sv, e1, ns⟩ := h1
      obtain ⟨s', e2, l⟩ := ee.on i sv e1
      refine ⟨e, s', e2, fun z h => ?_⟩
      subst h
      cases sv with
      | fz d => cases l
      | pz d => cases l
      | sc ms => exact ns _ rfl
      | ow k d => rcases l with ⟨_, l⟩ | ⟨_, l⟩ <;> cases l
      | pw k d => rcases l with ⟨_, l⟩ | ⟨_, l⟩ <;> cases l
theorem heldAll_own : ∀ {rs : List R} {env env' : EV} {ss : List SV}, heldAll env rs = some (ss, env') → ∀ (j : Nat) s, ss[j]? = some s → s.own = true → ∃ k d, rs[j]? = some (.ow k d)
  | [], env, env', ss, e, j, s, h, _ => by cases e; simp at h
  | r :: rs, env, env', ss, e, j, s, h, o => by
    simp only [heldAll, bind_some_iff, Option.map_eq_some_iff] at e
    obtain ⟨⟨s1, e1⟩, h1, ⟨ss', e2⟩, h2, he⟩ := e
    cases he
    cases j with
    | zero =>
      simp at h; subst h
      cases r with
      | fz d => cases h1; cases o
      | sc ns => cases h1; cases o
      | ow k d => exact ⟨k, d, rfl⟩
      | br i =>
        simp only [held, Option.map_eq_some_iff] at h1
        obtain ⟨q, _, he⟩ := h1
        cases he; cases o
    | succ j =>
      obtain ⟨k, d, q⟩ := heldAll_own h2 j s (by simpa using h) o
      exact ⟨k, d, by simpa using q⟩
theorem heldAll_ok : ∀ {rs : List R} {env env' : EV} {F : Addr → Prop} {vs : List V} {ss : List SV}, Post K B σ env0 F0 H0 env F H → RepRs K B F H σ env rs vs → NewRs H0 rs vs → heldAll env rs = some (ss, env') →
    ∃ F', Post K B σ env0 F0 H0 env' F' H ∧ Held K B F' H H0 σ env' ss vs ∧ Up F H F' H ∧ EE env env' ∧ ∀ a, F' a → F a ∨ OwA σ env a
  | [], env, env', F, vs, ss, p, R, N, e => by cases e; exact ⟨F, p, R, .refl, .refl _, fun _ h => .inl h⟩
  | r :: rs, env, env', F, vs, ss, p, R, N, e => by
    simp only [heldAll, bind_some_iff, Option.map_eq_some_iff] at e
    obtain ⟨⟨s1, e1⟩, h1, ⟨ss', e2⟩, h2, he⟩ := e
    cases he
    obtain ⟨v, ws, rfl, r1, dis, rr⟩ := R
    obtain ⟨n1, nn⟩ := N
    obtain ⟨F1, P1, rs1, np, ow1, u1, ee1, fr1⟩ := held_fr p r1 n1 h1
    obtain ⟨F2, P2, hh, u2, ee2, fr2⟩ := heldAll_ok P1 (rr.more u1 ee1 p.st fr1) nn h2
    refine ⟨F2, P2, ⟨v, ws, rfl, RepS.fzmore u2 fr2 rs1 (fun o a ea => ((ow1 o).2 a ea).1), np, fun o a ea => ⟨fun z => ((ow1 o).2 a ea).1 (ee2.owA z), ((ow1 o).2 a ea).2, fun j sj ej oj => ?_⟩, hh⟩, ⟨fun a f => u2.fr a (u1.fr a f), fun a u f r => u2.rd a u (u1.fr a f) (u1.rd a u f r), fun a xs f r => u2.ls a xs (u1.fr a f) (u1.ls a xs f r), fun a xs r => u2.tu _ _ (u1.tu _ _ r), fun a o u r => u2.sc _ _ _ (u1.sc _ _ _ r)⟩, ee1.trans ee2, fun a z => ?_⟩
    · obtain ⟨k, d, er⟩ := (ow1 o).1
      obtain ⟨k2, d2, ej2⟩ := heldAll_own h2 j sj ej oj
      exact dis k d er j k2 d2 ej2
    · rcases fr2 a z with z | z
      · exact fr1 a z
      · exact .inr (ee1.owA z)
theorem putAll_ok : ∀ {is : List Nat} {ss : List SV} {vs : List V} {σ : L2.St} {env env' : EV}, Go K B σ0 env0 F0 H0 σ env F H → Held K B F H H0 σ env ss vs → putAll is ss env = some env' →
    Go K B σ0 env0 F0 H0 ((is.zip vs).foldl (fun s p => s.set p.1 (some p.2)) σ) env' F H ∧ vs.length = is.length
  | [], [], vs, σ, env, env', g, h, e => by
    cases e
    obtain rfl : vs = [] := h
    exact ⟨g, rfl⟩
  | i :: is, s :: ss, vs, σ, env, env', g, h, e => by
    obtain ⟨v, ws, rfl, r, np, ow, hh⟩ := h
    simp only [putAll] at e
    split at e
    · rename_i fr
      have g1 := g.put fr r np fun o a ea => ⟨(ow o a ea).1, (ow o a ea).2.1⟩
      have hi : i < env.length := by
        unfold free? at fr
        cases q : env[i]? with
        | none => rw [q] at fr; cases fr
        | some o => exact (List.getElem?_eq_some_iff.mp q).1
      have hσ : i < σ.length := by rw [← g.st.len]; exact hi
      -- the others are still apart
      have key : ∀ {ss : List SV} {ws : List V}, Held K B F H H0 σ env ss ws → (s.own = true → ∀ (j : Nat) sj, ss[j]? = some sj → sj.own = true → ws[j]? ≠ some v) → Held K B F H H0 (σ.set i (some v)) (env.set i (some s)) ss ws := by
        intro ss
        induction ss with
        | nil => intro ws h _; exact h
        | cons t ts ih =>
          intro ws h dis
          obtain ⟨w, us, rfl, r', np', ow', hh'⟩ := h
          refine ⟨w, us, rfl, r', np', fun o a ea => ⟨fun z => ?_, (ow' o a ea).2⟩, ih hh' fun o j sj ej oj => by simpa using dis o (j + 1) sj (by simpa using ej) oj⟩
          obtain ⟨j, ⟨s', e', p⟩, ej⟩ := z
          by_cases hj : i = j
          · subst hj
            rw [List.getElem?_set_self hi] at e'; cases e'
            rw [List.getElem?_set_self hσ] at ej
            have ev : v = .ref a := by cases ej; rfl
            exact dis p 0 t rfl o (by rw [ev, ea]; rfl)
          · rw [List.getElem?_set_ne hj] at e' ej
            exact (ow' o a ea).1 ⟨j, ⟨s', e', p⟩, ej⟩
      obtain ⟨q, hl⟩ := putAll_ok g1 (key hh fun o j sj ej oj => by
        cases v with
        | ref a => exact (ow o a rfl).2.2 j sj ej oj
        | _ =>
          cases s with
          | fz d => cases o
          | pz d => cases o
          | sc d => cases o
          | ow k d => obtain ⟨a, z, _⟩ := r; cases z
          | pw k d => obtain ⟨a, z, _⟩ := r; cases z) e
      exact ⟨q, by simp [hl]⟩
    · cases e
  | [], _ :: _, _, _, _, _, _, _, e => by cases e
  | _ :: _, [], _, _, _, _, _, _, e => by cases e
/-- the parallel store, whatever the rule's own form -/
theorem par_go {is : List Nat} {as : VA} {D : Ends} {σ : L2.St} {H : Hp} (h : TVS K (vPar is as) D σ H) : TVA K as σ H fun vs H1 => vs.length = is.length ∧ D.nx ((is.zip vs).foldl (fun s p => s.set p.1 (some p.2)) σ) H1 := by
  obtain ⟨B, F, env, fl, env', s, e, k⟩ := h
  unfold vPar at e
  simp only [bind_some_iff, Option.map_eq_some_iff] at e
  obtain ⟨⟨rs, e1⟩, ha, ⟨ss, e2⟩, hh, e3, hp, he⟩ := e
  cases he
  refine ⟨B, F, env, rs, e1, s, ha, fun vs F1 H1 P R N => ?_⟩
  obtain ⟨F2, P2, hd, _, _, _⟩ := heldAll_ok P R N hh
  obtain ⟨g, hl⟩ := putAll_ok (Go.of P2) hd hp
  exact ⟨hl, k _ F2 H1 g⟩
end
section
variable {X : Cx}
theorem vs_par {i j : Nat} {x y : Str} {a b : Expr} {as : VA} {px py pt pos : Pos} {kt k2 pt2} (hc : X.calm = true) (hN : X.N.Nodup) (ha : VAx X [a, b] as) (hi : X.N[i]? = some x := by rfl) (hj : X.N[j]? = some y := by rfl) (hij : i ≠ j := by decide)
    (hx : X.env.scope.names.lookup x = some .local := by rfl) (hy : X.env.scope.names.lookup y = some .local := by rfl)
    (hw : swappedStores [.Tuple [.Name x px, .Name y py] kt pt] (.Tuple [a, b] k2 pt2) X.env = pure (some [x, y]) := by rfl)
    (hs : swapsWithSole [.Tuple [.Name x px, .Name y py] kt pt] (.Tuple [a, b] k2 pt2) pos.line X.env = pure false := by rfl) :
    VSx X (.Assign [.Tuple [.Name x px, .Name y py] kt pt] (.Tuple [a, b] k2 pt2) pos) (vPar [i, j] as) := PS.imp (ps_par hc hN hi hj hij hx hy ha hw hs) fun D σ H h => by
  obtain ⟨B, F, env, rs, env', s, e, k⟩ := par_go h
  refine ⟨B, F, env, rs, env', s, e, fun vs F' H' P R N => ?_⟩
  obtain ⟨hl, q⟩ := k vs F' H' P R N
  match vs, hl, q with
  | [v, w], _, q => exact ⟨v, w, rfl, q⟩
theorem vs_par3 {i j l : Nat} {x y z : Str} {a b c : Expr} {as : VA} {px py pz pt pos : Pos} {kt k2 pt2} (hc : X.calm = true) (hN : X.N.Nodup) (ha : VAx X [a, b, c] as) (hi : X.N[i]? = some x := by rfl) (hj : X.N[j]? = some y := by rfl) (hl : X.N[l]? = some z := by rfl)
    (hij : i ≠ j := by decide) (hil : i ≠ l := by decide) (hjl : j ≠ l := by decide)
    (hx : X.env.scope.names.lookup x = some .local := by rfl) (hy : X.env.scope.names.lookup y = some .local := by rfl) (hz : X.env.scope.names.lookup z = some .local := by rfl)
    (hw : swappedStores [.Tuple [.Name x px, .Name y py, .Name z pz] kt pt] (.Tuple [a, b, c] k2 pt2) X.env = pure (some [x, y, z]) := by rfl)
    (hs : swapsWithSole [.Tuple [.Name x px, .Name y py, .Name z pz] kt pt] (.Tuple [a, b, c] k2 pt2) pos.line X.env = pure false := by rfl) :
    VSx X (.Assign [.Tuple [.Name x px, .Name y py, .Name z pz] kt pt] (.Tuple [a, b, c] k2 pt2) pos) (vPar [i, j, l] as) := PS.imp (ps_par3 hc hN hi hj hl hij hil hjl hx hy hz ha hw hs) fun D σ H h => by
  obtain ⟨B, F, env, rs, env', s, e, k⟩ := par_go h
  refine ⟨B, F, env, rs, env', s, e, fun vs F' H' P R N => ?_⟩
  obtain ⟨hl, q⟩ := k vs F' H' P R N
  match vs, hl, q with
  | [u, v, w], _, q => exact ⟨u, v, w, rfl, q⟩
end

/-! ### while -/
def whileL (t : VT) (b : VS) : Nat → EV → Option (Fl × EV)
  | 0, _ => none
  | n + 1, env => (t env).bind fun p => if p.1 = true then (b p.2).bind fun q => match q.1 with
      | .nx => whileL t b n q.2
      | .ct => whileL t b n q.2
      | .bk => some (.nx, q.2)
      | .rt r => some (.rt r, q.2)
    else some (.nx, p.2)
def vWhile (n : Nat) (t : VT) (b : VS) : VS := fun env => whileL t b n env
section
variable {X : Cx} {pos : Pos}
theorem vs_while {c : Expr} {body : List Stmt} {t : VT} {b : VS} {n : Nat} (hc : VTx X c t) (hb : VSsx X body b) (hp : PassesOwn (model X.prog X.w) X.A X.env X.xe := by exact PassesOwn.never) : VSx X (.While c body [] pos) (vWhile n t b) :=
  PS.imp (ps_while hp hc hb) fun D σ H h => by
    obtain ⟨B, F, env, fl, env', s, e, k⟩ := h
    unfold vWhile at e
    refine ⟨fun m σ1 H1 => ∃ F1 env1, Go X.K B σ env F H σ1 env1 F1 H1 ∧ whileL t b m env1 = some (fl, env'), ⟨n, F, env, .refl s, e⟩, fun m σ1 H1 w => ?_⟩
    obtain ⟨F1, env1, g1, e1⟩ := w
    cases m with
    | zero => cases e1
    | succ m =>
      simp only [whileL, bind_some_iff] at e1
      obtain ⟨⟨c, env2⟩, ht, e2⟩ := e1
      refine ⟨B, F1, env1, c, env2, g1.st, ht, fun F2 H2 P2 => ?_⟩
      have g2 := g1.trans (Go.of P2)
      cases c with
      | false =>
        simp only [Bool.false_eq_true, if_false] at e2 ⊢
        cases e2
        exact k σ1 F2 H2 g2
      | true =>
        simp only [if_true, bind_some_iff] at e2 ⊢
        obtain ⟨⟨fl2, env3⟩, hb2, e3⟩ := e2
        refine ⟨fun σ3 H3 => ∃ F3 env1, Go X.K B σ env F H σ3 env1 F3 H3 ∧ whileL t b m env1 = some (fl, env'), fun σ3 H3 ⟨F3, env4, g3, e4⟩ => ⟨m, Nat.lt_succ_self _, F3, env4, g3, e4⟩, B, F2, env2, fl2, env3, P2.st, hb2, fun σ3 F3 H3 g3 => ?_⟩
        have g := g2.trans g3
        cases fl2 with
        | nx => exact ⟨F3, env3, g, e3⟩
        | ct => exact ⟨F3, env3, g, e3⟩
        | bk => cases e3; exact k σ3 F3 H3 g
        | rt r => cases e3; exact k σ3 F3 H3 g
end

/-! ### what is walked -/
abbrev VI := EV → Option (List PyData × EV)
structure ItsAt (K : PySem.W.Frag) (F : Addr → Prop) (H : Hp) (items : List PyData) (J : It) : Prop where
  go : ∀ (i : Nat) F2 H2, Up F H F2 H2 → i < items.length → J.go i H2
  yld : ∀ (i : Nat) F2 H2 x H3, Up F H F2 H2 → i < items.length → J.yld i H2 x H3 → (∀ a o, H2 a = some o → H3 a = some o) ∧ ∃ d, items[i]? = some d ∧ Rep K F2 H3 d x
  stop : ∀ F2 H2, Up F H F2 H2 → J.stop items.length H2
def TVI (K : PySem.W.Frag) (f : VI) : TI := fun σ H R => ∃ B F env items env', StOk K B F H σ env ∧ f env = some (items, env') ∧ ∀ J F' H', Post K B σ env F H env' F' H' → ItsAt K F' H' items J → R J H'
abbrev VIx (X : Cx) (tg e : Expr) (f : VI) : Prop := PI X tg e (TVI X.K f)
theorem PI.imp {X : Cx} {tg e : Expr} {t t' : TI} (h : PI X tg e t) (i : ∀ σ H R, t' σ H R → t σ H R) : PI X tg e t' := ⟨fun pins s σ H R I q => h.run pins s σ H R I (i σ H R q)⟩
def forL (g : VG) (b : VS) : List PyData → EV → Option (Fl × EV)
  | [], env => some (.nx, env)
  | d :: ds, env => (g d env).bind fun e => (b e).bind fun q => match q.1 with
      | .nx => forL g b ds q.2
      | .ct => forL g b ds q.2
      | .bk => some (.nx, q.2)
      | .rt r => some (.rt r, q.2)
def vFor (it : VI) (g : VG) (b : VS) : VS := fun env => (it env).bind fun p => forL g b p.1 p.2
theorem Up.trans {F F' F2 : Addr → Prop} {H H' H2 : Hp} (u1 : Up F H F' H') (u2 : Up F' H' F2 H2) : Up F H F2 H2 :=
  ⟨fun a f => u2.fr a (u1.fr a f), fun a u f r => u2.rd a u (u1.fr a f) (u1.rd a u f r), fun a xs f r => u2.ls a xs (u1.fr a f) (u1.ls a xs f r), fun a xs r => u2.tu _ _ (u1.tu _ _ r), fun a o u r => u2.sc _ _ _ (u1.sc _ _ _ r)⟩
section
variable {X : Cx} {pos : Pos}
theorem vs_for {tg iter : Expr} {body : List Stmt} {it : VI} {g : VG} {b : VS} {ts : List Nat} (hc : X.calm = true) (hi : VIx X tg iter it) (hg : VGx X tg ts g) (hb : VSsx X body b) (hp : PassesOwn (model X.prog X.w) X.A X.env X.xe := by exact PassesOwn.never)
    (hs : ∀ x, foldedSetIterable iter X.env x = pure x := by intro _; rfl) : VSx X (.For tg iter body [] pos) (vFor it g b) := PS.imp (ps_for hp hc hi hg hb hs) fun D σ H h => by
  obtain ⟨B, F, env, fl, env', s, e, k⟩ := h
  unfold vFor at e
  rw [bind_some_iff] at e
  obtain ⟨⟨items, env1⟩, hi, e⟩ := e
  refine ⟨B, F, env, items, env1, s, hi, fun J F1 H1 P1 its => ?_⟩
  refine ⟨fun i m σ2 H2 => ∃ F2 env2, m = items.length - i ∧ i ≤ items.length ∧ Go X.K B σ env1 F1 H1 σ2 env2 F2 H2 ∧ forL g b (items.drop i) env2 = some (fl, env'), ⟨_, F1, env1, rfl, Nat.zero_le _, .refl P1.st, e⟩, ?_⟩
  rintro i m σ2 H2 ⟨F2, env2, rfl, hle, g2, e2⟩
  have u := g2.up P1.st
  by_cases hlt : i < items.length
  · have hd : items.drop i = items[i] :: items.drop (i + 1) := (List.getElem_cons_drop hlt).symm
    rw [hd] at e2
    simp only [forL, bind_some_iff] at e2
    obtain ⟨env3, hgg, ⟨fl3, env4⟩, hbb, e3⟩ := e2
    refine .inr ⟨its.go i F2 H2 u hlt, fun σ' H' => ∃ F2 env2, Go X.K B σ env1 F1 H1 σ' env2 F2 H' ∧ forL g b (items.drop (i + 1)) env2 = some (fl, env'), fun σ' H' ⟨F5, env5, g5, e5⟩ => ⟨items.length - (i + 1), by omega, F5, env5, rfl, hlt, g5, e5⟩, fun x H3 y => ?_⟩
    obtain ⟨same, d, ed, rep⟩ := its.yld i F2 H2 x H3 u hlt y
    have ed' : d = items[i] := by
      rw [List.getElem?_eq_getElem hlt] at ed; exact (Option.some.inj ed).symm
    subst ed'
    have p3 : Post X.K B σ2 env2 F2 H2 env2 F2 H3 := (Post.refl g2.st).new same
    refine ⟨B, F2, _, env2, env3, p3.st, rep, hgg, fun σ4 g4 _ => ?_⟩
    have g34 := (g2.trans (Go.of p3)).trans g4
    refine ⟨B, F2, env3, fl3, env4, g4.st, hbb, fun σ5 F5 H5 g5 => ?_⟩
    have g6 := g34.trans g5
    cases fl3 with
    | nx => exact ⟨F5, env4, g6, e3⟩
    | ct => exact ⟨F5, env4, g6, e3⟩
    | bk => cases e3; exact k σ5 F5 H5 ((Go.of P1).trans g6)
    | rt r => cases e3; exact k σ5 F5 H5 ((Go.of P1).trans g6)
  · have ei : i = items.length := by omega
    subst ei
    rw [List.drop_length] at e2
    cases e2
    exact .inl ⟨its.stop F2 H2 u, k σ2 F2 H2 ((Go.of P1).trans g2)⟩
end
end VL

/-! VL9: comprehensions; what is walked -/
namespace VL
open PySem PySem.Spec PyProof.Rows L2

/-! ### comprehensions -/
def wipeE (env : EV) : List Nat → EV
  | [] => env
  | v :: vs => (wipeE env vs).set v none
/-- the own slots as they were, the others as they are now -/
def backE (env0 env : EV) (vs : List Nat) : EV := env.mapIdx fun i s => if i ∈ vs then (env0[i]?).getD none else s
def lcL (g : VG) (t : VT) (f : VE) (vs : List Nat) : List PyData → EV → List PyData → Option (List PyData × EV)
  | [], env, acc => some (acc, env)
  | d :: ds, env, acc => (g d env).bind fun e1 => (t e1).bind fun p => if p.1 = true then (vUse f p.2).bind fun q => if acc.length < sizeLine then lcL g t f vs ds (wipeE q.2 vs) (acc ++ [q.1]) else none
      else lcL g t f vs ds (wipeE p.2 vs) acc
def vLc (it : VI) (g : VG) (t : VT) (f : VE) (vs : List Nat) : VE := fun env => (it env).bind fun p => (lcL g t f vs p.1 (wipeE p.2 vs) []).map fun q => (.ow false (.list q.1), backE p.2 q.2 vs)
theorem wipeE_len (env : EV) : ∀ vs, (wipeE env vs).length = env.length
  | [] => rfl
  | v :: vs => by unfold wipeE; rw [List.length_set, wipeE_len env vs]
theorem wipeE_in {env : EV} {i : Nat} : ∀ {vs}, i ∈ vs → i < env.length → (wipeE env vs)[i]? = some none
  | v :: vs, h, hl => by
    unfold wipeE
    by_cases e : v = i
    · subst e; rw [List.getElem?_set_self (by rw [wipeE_len]; exact hl)]
    · rw [List.getElem?_set_ne e]
      exact wipeE_in (by simpa [Ne.symm e] using h) hl
theorem wipeE_out {env : EV} {i : Nat} : ∀ {vs}, i ∉ vs → (wipeE env vs)[i]? = env[i]?
  | [], _ => rfl
  | v :: vs, h => by
    rw [List.mem_cons, not_or] at h
    unfold wipeE
    rw [List.getElem?_set_ne (Ne.symm h.1)]
    exact wipeE_out h.2
theorem wipe_in {σ : L2.St} {i : Nat} : ∀ {vs}, i ∈ vs → i < σ.length → (wipe σ vs)[i]? = some none
  | v :: vs, h, hl => by
    unfold wipe
    by_cases e : v = i
    · subst e; rw [List.getElem?_set_self (by rw [wipe_length]; exact hl)]
    · rw [List.getElem?_set_ne e]
      exact wipe_in (by simpa [Ne.symm e] using h) hl
theorem wipe_idem {σ σ2 : L2.St} {vs : List Nat} (hl : σ2.length = σ.length) (h : ∀ i, i ∉ vs → σ2[i]? = σ[i]?) : wipe σ2 vs = wipe σ vs := by
  apply List.ext_getElem?
  intro i
  by_cases hi : i ∈ vs
  · by_cases hlt : i < σ.length
    · rw [wipe_in hi hlt, wipe_in hi (by omega)]
    · rw [List.getElem?_eq_none (by rw [wipe_length]; omega), List.getElem?_eq_none (by rw [wipe_length]; omega)]
  · rw [wipe_out hi, wipe_out hi, h i hi]
theorem backE_len (env0 env : EV) (vs : List Nat) : (backE env0 env vs).length = env.length := by unfold backE; simp
theorem backE_in {env0 env : EV} {vs : List Nat} {i : Nat} (h : i ∈ vs) (hl : env0.length = env.length) : (backE env0 env vs)[i]? = env0[i]? := by
  unfold backE
  rw [List.getElem?_mapIdx]
  by_cases hi : i < env.length
  · rw [List.getElem?_eq_getElem hi, List.getElem?_eq_getElem (by omega)]; simp [h]
  · rw [List.getElem?_eq_none (by omega), List.getElem?_eq_none (by omega)]; rfl
theorem backE_out {env0 env : EV} {vs : List Nat} {i : Nat} (h : i ∉ vs) : (backE env0 env vs)[i]? = env[i]? := by
  unfold backE
  rw [List.getElem?_mapIdx]
  cases env[i]? <;> simp [h]
section
variable {K : PySem.W.Frag} {B F F' : Addr → Prop} {H H' : Hp} {σ : L2.St} {env env' : EV}
theorem own_wipe {vs : List Nat} {i : Nat} (h : Own (wipeE env vs) i) : Own env i ∧ i ∉ vs := by
  obtain ⟨s, e, p⟩ := h
  have hi : i < env.length := by rw [← wipeE_len env vs]; exact (List.getElem?_eq_some_iff.mp e).1
  by_cases hv : i ∈ vs
  · rw [wipeE_in hv hi] at e; cases e
  · rw [wipeE_out hv] at e; exact ⟨⟨s, e, p⟩, hv⟩
theorem owA_wipe {vs : List Nat} {a : Addr} (h : OwA (wipe σ vs) (wipeE env vs) a) : OwA σ env a := by
  obtain ⟨i, o, e⟩ := h
  obtain ⟨o', hv⟩ := own_wipe o
  rw [wipe_out hv] at e
  exact ⟨i, o', e⟩
theorem StOk.wipe (s : StOk K B F H σ env) (vs : List Nat) : StOk K B F H (L2.wipe σ vs) (wipeE env vs) := by
  refine ⟨by rw [wipeE_len, wipe_length]; exact s.len, fun i sv e => ?_, fun i j a oi oj ei ej => ?_, s.fH, s.bH⟩
  · have hi : i < env.length := by rw [← wipeE_len env vs]; exact (List.getElem?_eq_some_iff.mp e).1
    by_cases hv : i ∈ vs
    · rw [wipeE_in hv hi] at e; cases e
    · rw [wipeE_out hv] at e
      obtain ⟨v, e1, r⟩ := s.at_ i sv e
      exact ⟨v, by rw [wipe_out hv]; exact e1, r⟩
  · obtain ⟨oi, hi⟩ := own_wipe oi
    obtain ⟨oj, hj⟩ := own_wipe oj
    rw [wipe_out hi] at ei
    rw [wipe_out hj] at ej
    exact s.sep i j a oi oj ei ej
/-- an object that no slot owns, that is not frozen, is changed -/
theorem Post.poke {env0 : EV} {F0 : Addr → Prop} {H0 : Hp} (p : Post K B σ env0 F0 H0 env F H) {D : Addr} {o : HO} (nf : ¬ F D) (no : ¬ OwA σ env D) (n0 : H0 D = none) (m : Mut (H D)) : Post K B σ env0 F0 H0 env F (upd H D o) ∧ Up F H F (upd H D o) := by
  have s := p.st
  have u : Up F H F (upd H D o) := by
    refine ⟨fun _ h => h, fun b w f r => ?_, fun b xs f r => ?_, fun b xs r => ?_, fun b o' w r => ?_⟩
    · have : b ≠ D := fun z => nf (z ▸ f)
      rcases r with r | ⟨o', r⟩
      · exact .inl (by rw [upd_ne this]; exact r)
      · exact .inr ⟨o', by rw [upd_ne this]; exact r⟩
    · have : b ≠ D := fun z => nf (z ▸ f)
      rw [upd_ne this]; exact r
    · have : b ≠ D := fun z => by rw [← z, r] at m; exact m
      rw [upd_ne this]; exact r
    · have : b ≠ D := fun z => by rw [← z, r] at m; exact m
      rw [upd_ne this]; exact r
  have th : ∀ a, H a ≠ none → upd H D o a ≠ none := fun a h => by
    by_cases z : a = D
    · subst z; rw [upd_same]; simp
    · rw [upd_ne z]; exact h
  refine ⟨⟨⟨s.len, fun i sv e => ?_, s.sep, fun a f => th a (s.fH a f), fun a b => th a (s.bH a b)⟩, ⟨p.ext.mono, fun a h => th a (p.ext.there a h), fun a o' e na => ?_⟩, p.ee⟩, u⟩
  · obtain ⟨v, ev, r⟩ := s.at_ i sv e
    refine ⟨v, ev, ?_⟩
    have up : sv.own = true → ∀ {k : Bool} {a : Addr} {d : PyData}, v = .ref a → RepO K F H k a d → RepO K F (upd H D o) k a d := fun ow {k a d} ea ro => by
      refine ro.up u (upd_ne ?_)
      rintro rfl
      exact no ⟨i, ⟨sv, e, ow⟩, by rw [ev, ea]⟩
    cases sv with
    | fz d => exact Rep.up u _ _ r
    | pz d => exact Rep.up u _ _ r
    | sc ns => obtain ⟨a, e, q⟩ := r; exact ⟨a, e, q.up u⟩
    | ow k d =>
      obtain ⟨a, e, nf, nb, ro⟩ := r
      exact ⟨a, e, nf, nb, up rfl e ro⟩
    | pw k d =>
      obtain ⟨a, e, nf, ro⟩ := r
      exact ⟨a, e, nf, up rfl e ro⟩
  · have hD : a ≠ D := fun z => by rw [z, n0] at e; cases e
    obtain ⟨f1, c⟩ := p.ext.keep a o' e na
    refine ⟨f1, ?_⟩
    rcases c with c | ⟨f, md, od, c⟩
    · exact .inl (by rw [upd_ne hD]; exact c)
    · exact .inr ⟨f, md, od, by rw [upd_ne hD]; exact c⟩
/-- the block is left -/
theorem Post.back {vs : List Nat} (s : StOk K B F H σ env) (p : Post K B (L2.wipe σ vs) (wipeE env vs) F H env' F' H') : Post K B σ env F H (backE env env' vs) F' H' := by
  have u := p.up (s.wipe vs)
  have hlen : env'.length = env.length := by rw [p.ee.len, wipeE_len]
  have keep : ∀ a o, H a = some o → ¬ OwA σ env a → (F' a → F a) ∧ (H' a = some o ∨ (F a ∧ IsDic o ∧ ∃ od, H' a = some (.frz od o))) := fun a o e no => p.ext.keep a o e fun z => no (owA_wipe z)
  -- a hidden owned object is as it was
  have hid : ∀ {i : Nat} {sv : SV} {a : Addr}, i ∈ vs → env[i]? = some (some sv) → sv.own = true → σ[i]? = some (some (.ref a)) → ¬ OwA (L2.wipe σ vs) (wipeE env vs) a := fun {i sv a} hv e ow ea z => by
    obtain ⟨j, o, ej⟩ := z
    obtain ⟨o', hj⟩ := own_wipe o
    rw [wipe_out hj] at ej
    have := s.sep i j a ⟨sv, e, ow⟩ o' ea ej
    exact hj (this ▸ hv)
  have ownb : ∀ {i : Nat}, Own (backE env env' vs) i → Own env i ∧ (i ∉ vs → Own env' i) := fun {i} o => by
    obtain ⟨sv, e, ow⟩ := o
    by_cases hv : i ∈ vs
    · rw [backE_in hv hlen.symm] at e; exact ⟨⟨sv, e, ow⟩, fun h => (h hv).elim⟩
    · rw [backE_out hv] at e
      exact ⟨(own_wipe (p.ee.own ⟨sv, e, ow⟩)).1, fun _ => ⟨sv, e, ow⟩⟩
  refine ⟨⟨by rw [backE_len, hlen]; exact s.len, fun i sv e => ?_, fun i j a oi oj ei ej => s.sep i j a (ownb oi).1 (ownb oj).1 ei ej, p.st.fH, p.st.bH⟩, ⟨p.ext.mono, p.ext.there, keep⟩, ⟨by rw [backE_len, hlen], fun i sv e => ?_, fun i e => ?_⟩⟩
  · by_cases hv : i ∈ vs
    · rw [backE_in hv hlen.symm] at e
      obtain ⟨v, ev, r⟩ := s.at_ i sv e
      refine ⟨v, ev, ?_⟩
      have kp : sv.own = true → ∀ {k : Bool} {a : Addr} {d : PyData}, v = .ref a → ¬ F a → RepO K F H k a d → ¬ F' a ∧ RepO K F' H' k a d := fun ow {k a d} ea nf ro => by
        have no := hid hv e ow (by rw [ev, ea])
        cases q : H a with
        | none => exact (mut_ne ro.mut q).elim
        | some o =>
          obtain ⟨f1, c⟩ := p.ext.keep a o q no
          refine ⟨fun z => nf (f1 z), ro.up u ?_⟩
          rcases c with c | ⟨f, _⟩
          · rw [c, q]
          · exact (nf f).elim
      cases sv with
      | fz d => exact Rep.up u _ _ r
      | pz d => exact Rep.up u _ _ r
      | sc ns => obtain ⟨a, e, q⟩ := r; exact ⟨a, e, q.up u⟩
      | ow k d =>
        obtain ⟨a, ea, nf, nb, ro⟩ := r
        obtain ⟨h1, h2⟩ := kp rfl ea nf ro
        exact ⟨a, ea, h1, nb, h2⟩
      | pw k d =>
        obtain ⟨a, ea, nf, ro⟩ := r
        obtain ⟨h1, h2⟩ := kp rfl ea nf ro
        exact ⟨a, ea, h1, h2⟩
    · rw [backE_out hv] at e
      obtain ⟨v, ev, r⟩ := p.st.at_ i sv e
      rw [wipe_out hv] at ev
      exact ⟨v, ev, r⟩
  · by_cases hv : i ∈ vs
    · exact ⟨sv, by rw [backE_in hv hlen.symm]; exact e, sv.le_refl⟩
    · obtain ⟨s', e', l⟩ := p.ee.on i sv (by rw [wipeE_out hv]; exact e)
      exact ⟨s', by rw [backE_out hv]; exact e', l⟩
  · by_cases hv : i ∈ vs
    · rw [backE_in hv hlen.symm]; exact e
    · rw [backE_out hv]
      exact p.ee.off i (by rw [wipeE_out hv]; exact e)
end
abbrev VTsx (X : Cx) (es : List Expr) (t : VT) : Prop := PTs X es (TT' X.K t)
def tTrue : VT := fun env => some (true, env)
theorem vts_nil {X : Cx} : VTsx X [] tTrue := ⟨fun pins s σ H Q I h => pts_nil.run pins s σ H Q I (by
  obtain ⟨B, F, env, b, env', st, e, k⟩ := h
  cases e
  exact k F H (.refl st))⟩
theorem vts_one {X : Cx} {c : Expr} {t : VT} (h : VTx X c t) : VTsx X [c] t := pts_one h
/-- the comprehension's reading -/
theorem lc_read {K : PySem.W.Frag} {it : VI} {g : VG} {t : VT} {f : VE} {vs ts : List Nat} {σ : L2.St} {H : Hp} {Q : VK} (sub : ∀ i ∈ ts, i ∈ vs) (h : TV K (vLc it g t f vs) σ H Q) : tLc (TVI K it) (TVG K ts g) (TT' K t) (TV K f) vs σ H Q := by
  obtain ⟨B, F, env, r, env', s, e, k⟩ := h
  unfold vLc at e
  simp only [bind_some_iff, Option.map_eq_some_iff] at e
  obtain ⟨⟨items, env1⟩, hi, ⟨res, env2⟩, hl, he⟩ := e
  cases he
  refine ⟨B, F, env, items, env1, s, hi, fun J F1 H1 P1 its D hD => ?_⟩
  have s1 := P1.st
  obtain ⟨nfD, nbD, noD⟩ := s1.not_new hD
  refine ⟨fun i m H2 => ∃ F2 env3 acc accV, m = items.length - i ∧ i ≤ items.length ∧ Post K B (L2.wipe σ vs) (wipeE env1 vs) F1 H1 env3 F2 H2 ∧ H2 D = some (.lst accV) ∧ RepA K F2 H2 acc accV ∧ ¬ F2 D ∧ wipeE env3 vs = env3 ∧ lcL g t f vs (items.drop i) env3 acc = some (res, env2),
    ⟨_, F1, wipeE env1 vs, [], [], rfl, Nat.zero_le _, ?_, upd_same, repA_nil, nfD, ?_, hl⟩, ?_⟩
  · exact (Post.refl (s1.wipe vs)).new (same_upd hD)
  · apply List.ext_getElem?
    intro i
    by_cases hv : i ∈ vs
    · by_cases hlt : i < env1.length
      · rw [wipeE_in hv (by rw [wipeE_len]; exact hlt), wipeE_in hv hlt]
      · rw [List.getElem?_eq_none (by rw [wipeE_len, wipeE_len]; omega), List.getElem?_eq_none (by rw [wipeE_len]; omega)]
    · rw [wipeE_out hv]
  rintro i m H2 ⟨F2, env3, acc, accV, rfl, hle, p2, eD, ra, nf2, we, el⟩
  have u2 := p2.up (s1.wipe vs)
  have noD2 : ¬ OwA (L2.wipe σ vs) env3 D := fun z => (s1.wipe vs).not_new hD |>.2.2 (p2.ee.owA z)
  by_cases hlt : i < items.length
  · have hd : items.drop i = items[i] :: items.drop (i + 1) := (List.getElem_cons_drop hlt).symm
    rw [hd] at el
    simp only [lcL, bind_some_iff] at el
    obtain ⟨e4, hg, ⟨c, e5⟩, ht, el⟩ := el
    refine .inr ⟨its.go i F2 H2 u2 hlt, fun H' => ∃ F2 env3 acc accV, Post K B (L2.wipe σ vs) (wipeE env1 vs) F1 H1 env3 F2 H' ∧ H' D = some (.lst accV) ∧ RepA K F2 H' acc accV ∧ ¬ F2 D ∧ wipeE env3 vs = env3 ∧ lcL g t f vs (items.drop (i + 1)) env3 acc = some (res, env2),
      fun H' ⟨F5, env5, acc5, accV5, p5, a1, a2, a3, a4, a5⟩ => ⟨items.length - (i + 1), by omega, F5, env5, acc5, accV5, rfl, hlt, p5, a1, a2, a3, a4, a5⟩, fun x H3 y => ?_⟩
    obtain ⟨same, d, ed, rep⟩ := its.yld i F2 H2 x H3 u2 hlt y
    have ed' : d = items[i] := by
      rw [List.getElem?_eq_getElem hlt] at ed; exact (Option.some.inj ed).symm
    subst ed'
    have p3 := p2.new same
    refine ⟨B, F2, _, env3, e4, p3.st, rep, hg, fun σ4 g4 off => ⟨?_, ?_⟩⟩
    · exact wipe_idem (by
        have h1 := g4.st.len
        have h2 := p3.st.len
        have h3 := g4.len
        rw [wipe_length] at h2
        rw [← h1, h3, h2]) fun i hi => (off i fun z => hi (sub i z)).1.trans (wipe_out hi)
    have hl4 : σ4.length = σ.length := by
      have h1 := g4.st.len
      have h2 := p3.st.len
      have h3 := g4.len
      rw [wipe_length] at h2
      rw [← h1, h3, h2]
    have hw : L2.wipe σ4 vs = L2.wipe σ vs := wipe_idem hl4 fun i hi => (off i fun z => hi (sub i z)).1.trans (wipe_out hi)
    -- back at the turn's start
    have fin : ∀ {env6 : EV} {F6 : Addr → Prop} {H6 : Hp}, Post K B σ4 e4 F2 H3 env6 F6 H6 → Post K B (L2.wipe σ vs) (wipeE env1 vs) F1 H1 (wipeE env6 vs) F6 H6 ∧ ¬ F6 D ∧ ¬ OwA (L2.wipe σ vs) (wipeE env6 vs) D ∧ H6 D = some (.lst accV) := by
      intro env6 F6 H6 p6
      have g6 : Go K B (L2.wipe σ vs) (wipeE env1 vs) F1 H1 σ4 env6 F6 H6 := ((Go.of p3).trans g4).trans (Go.of p6)
      have st6 : StOk K B F6 H6 (L2.wipe σ vs) (wipeE env6 vs) := by rw [← hw]; exact g6.st.wipe vs
      have ee6 : EE (wipeE env1 vs) (wipeE env6 vs) := by
        refine p3.ee.trans ⟨?_, fun j sj ej => ?_, fun j ej => ?_⟩
        · rw [wipeE_len, p6.ee.len, g4.len]
        · have hj : j ∉ vs := fun z => by
            rw [← we] at ej
            have hlj : j < env3.length := by rw [← wipeE_len env3 vs]; exact (List.getElem?_eq_some_iff.mp ej).1
            rw [wipeE_in z hlj] at ej; cases ej
          have e4j : e4[j]? = some (some sj) := (off j fun z => hj (sub j z)).2.trans ej
          obtain ⟨s', e', l⟩ := p6.ee.on j sj e4j
          exact ⟨s', by rw [wipeE_out hj]; exact e', l⟩
        · by_cases hj : j ∈ vs
          · have hlj : j < env3.length := (List.getElem?_eq_some_iff.mp ej).1
            exact wipeE_in hj (by rw [p6.ee.len, g4.len]; exact hlj)
          · rw [wipeE_out hj]
            exact p6.ee.off j ((off j fun z => hj (sub j z)).2.trans ej)
      have noD4 : ¬ OwA σ4 e4 D := fun z => by
        rcases g4.own D z with z | z
        · exact noD2 z
        · rw [same D _ eD] at z; cases z
      obtain ⟨f1, c1⟩ := p6.ext.keep D _ (same D _ eD) noD4
      refine ⟨⟨st6, ⟨g6.mono, g6.there, g6.keep⟩, ee6⟩, fun z => nf2 (f1 z), fun z => (s1.wipe vs).not_new hD |>.2.2 (ee6.owA z), ?_⟩
      rcases c1 with c | ⟨_, m, _⟩
      · exact c
      · exact m.elim
    have wid : ∀ {env6 : EV}, wipeE (wipeE env6 vs) vs = wipeE env6 vs := by
      intro env6
      apply List.ext_getElem?
      intro i
      by_cases hv : i ∈ vs
      · by_cases hlt : i < env6.length
        · rw [wipeE_in hv (by rw [wipeE_len]; exact hlt), wipeE_in hv hlt]
        · rw [List.getElem?_eq_none (by rw [wipeE_len, wipeE_len]; omega), List.getElem?_eq_none (by rw [wipeE_len]; omega)]
      · rw [wipeE_out hv]
    refine ⟨B, F2, e4, c, e5, g4.st, ht, fun F5 H5 p5 => ?_⟩
    cases c with
    | false =>
      simp only [Bool.false_eq_true, if_false] at el ⊢
      obtain ⟨q1, q2, q3, q4⟩ := fin p5
      exact ⟨F5, wipeE e5 vs, acc, accV, q1, q4, RepA.up ((up_same' same).trans (p5.up g4.st)) _ _ ra, q2, wid, el⟩
    | true =>
      simp only [if_true, bind_some_iff] at el ⊢
      obtain ⟨⟨dd, e6⟩, hf, el⟩ := el
      split at el
      · rename_i hacc
        refine tu_of ⟨B, F5, e5, dd, e6, p5.st, hf, fun v F6 H6 p6 rv => ?_⟩
        have p56 := p5.trans g4.st p6
        obtain ⟨q1, q2, q3, q4⟩ := fin p56
        have ra6 : RepA K F6 H6 acc accV := RepA.up ((up_same' same).trans (p56.up g4.st)) _ _ ra
        refine ⟨accV, q4, by rw [← ra6.len]; exact hacc, F6, wipeE e6 vs, acc ++ [dd], accV ++ [v], ?_⟩
        obtain ⟨p7, u7⟩ := q1.poke (o := .lst (accV ++ [v])) q2 q3 hD (by rw [q4]; trivial)
        exact ⟨p7, upd_same, (RepA.up u7 _ _ ra6).append (.one (Rep.up u7 _ _ rv)), q2, wid, el⟩
      · cases el
  · have ei : i = items.length := by omega
    subst ei
    rw [List.drop_length] at el
    cases el
    refine .inl ⟨its.stop F2 H2 u2, k _ F2 H2 (P1.trans s (p2.back s1)) ⟨D, rfl, nf2, nbD, fun z => noD (((p2.back s1).ee).owA z), accV, eD, ra⟩ ⟨D, rfl, ?_⟩⟩
    cases q : H D with
    | none => rfl
    | some o => exact (P1.ext.there D (by rw [q]; simp) hD).elim
section
variable {X : Cx} {elt tg iter : Expr} {ifs : List Expr} {scope : Scope} {own : List (Str × Nat)} {pos : Pos} {it : VI} {g : VG} {t : VT} {f : VE} {ts : List Nat}
theorem ve_lc (own : List (Str × Nat)) (hc : X.calm = true) (hN : X.N.Nodup) (hi : VIx X tg iter it) (ok : BlkOk X.N X.env.scope scope own)
    (hg : ∀ (s : Shared) (H : Hp) (C : Addr) (cl : List (Str × Addr)) (fp : List Addr), VGx (X.blk s H scope (compEnvC scope cl C X.env) fp) tg ts g) (ht : ∀ (s : Shared) (H : Hp) (C : Addr) (cl : List (Str × Addr)) (fp : List Addr), VTsx (X.blk s H scope (compEnvC scope cl C X.env) fp) ifs t)
    (he : ∀ (s : Shared) (H : Hp) (C : Addr) (cl : List (Str × Addr)) (fp : List Addr), VEx (X.blk s H scope (compEnvC scope cl C X.env) fp) elt f) (sub : ∀ i ∈ ts, i ∈ own.map (·.2) := by decide) (hs : ∀ x, foldedSetIterable iter X.env x = pure x := by intro _; rfl) :
    VEx X (.ListComp elt [⟨tg, iter, ifs, 0⟩] scope pos) (vLc it g t f (own.map (·.2))) :=
  PE.imp (pe_lc hc hN hi ok hg ht he hs) fun σ H Q h => lc_read sub h
theorem vs_setLc {i : Nat} {y : Str} {py spos : Pos} (own : List (Str × Nat)) (hc : X.calm = true) (hN : X.N.Nodup) (hi : VIx X tg iter it) (ok : BlkOk X.N X.env.scope scope own)
    (hg : ∀ (s : Shared) (H : Hp) (C : Addr) (cl : List (Str × Addr)) (fp : List Addr), VGx (X.blk s H scope (compEnvC scope cl C X.env) fp) tg ts g) (ht : ∀ (s : Shared) (H : Hp) (C : Addr) (cl : List (Str × Addr)) (fp : List Addr), VTsx (X.blk s H scope (compEnvC scope cl C X.env) fp) ifs t)
    (he : ∀ (s : Shared) (H : Hp) (C : Addr) (cl : List (Str × Addr)) (fp : List Addr), VEx (X.blk s H scope (compEnvC scope cl C X.env) fp) elt f) (sub : ∀ i ∈ ts, i ∈ own.map (·.2) := by decide) (hy : X.N[i]? = some y := by rfl) (hyl : X.env.scope.names.lookup y = some .local := by rfl)
    (hsw : swapsWith (.ListComp elt [⟨tg, iter, ifs, 0⟩] scope pos) (some (.Name y py)) spos.line X.env = pure true := by exact sw_true rfl rfl rfl (by decide +kernel)) (hs : ∀ x, foldedSetIterable iter X.env x = pure x := by intro _; rfl) :
    VSx X (.Assign [.Name y py] (.ListComp elt [⟨tg, iter, ifs, 0⟩] scope pos) spos) (vSet i (vLc it g t f (own.map (·.2)))) := PS.imp (ps_setLc hc hN hy hyl hsw hi ok hg ht he hs) fun D σ H h => by
  obtain ⟨B, F, env, fl, env', s, e, k⟩ := h
  unfold vSet at e
  simp only [bind_some_iff] at e
  obtain ⟨⟨r, e1⟩, hf, ⟨sv, e2⟩, hh, e⟩ := e
  split at e
  · rename_i fr
    cases e
    refine lc_read sub ⟨B, F, env, r, e1, s, hf, fun v F1 H1 P R N => ?_⟩
    obtain ⟨F2, P2, rs, np, new⟩ := held_ok P R N hh
    exact k _ F2 H1 ((Go.of P2).put fr rs np new)
  · cases e
end
end VL

/-! VL10: what loops walk -/
namespace VL
open PySem PySem.Spec PyProof.Rows L2

section
variable {K : PySem.W.Frag} {B F F' : Addr → Prop} {H H' : Hp} {σ : L2.St} {env env' : EV}
theorem same_rep {d : PyData} {v : V} (same : ∀ a o, H a = some o → H' a = some o) (r : Rep K F H d v) : Rep K F H' d v := Rep.up (up_same' same) _ _ r
theorem its_list {a : Addr} {xs : List V} {ds : List PyData} (f : F a) (h : H a = some (.lst xs)) (r : RepA K F H ds xs) : ItsAt K F H ds (Itl K a) := by
  refine ⟨fun i F2 H2 u hi => ?_, fun i F2 H2 x H3 u hi y => ?_, fun F2 H2 u => ?_⟩
  · have q : SqL K H2 a xs := .of (u.ls _ _ f h)
    rw [r.len] at hi
    exact ⟨xs, xs[i], q, by simp [hi]⟩
  · have q : SqL K H2 a xs := .of (u.ls _ _ f h)
    obtain ⟨rfl, y⟩ := y
    obtain ⟨d, ed, rd⟩ := r.getV (y xs q)
    exact ⟨fun _ _ e => e, d, ed, Rep.up u _ _ rd⟩
  · exact ⟨xs, .of (u.ls _ _ f h), by rw [r.len]; exact Nat.le_refl _⟩
theorem its_tup {a : Addr} {xs : List V} {ds : List PyData} (h : TupAt H a xs) (r : RepA K F H ds xs) : ItsAt K F H ds (Itt K a) := by
  refine ⟨fun i F2 H2 u hi => ?_, fun i F2 H2 x H3 u hi y => ?_, fun F2 H2 u => ?_⟩
  · have q : SqT K H2 a xs := (h.up u).sq
    rw [r.len] at hi
    exact ⟨xs, xs[i], q, by simp [hi]⟩
  · have q : SqT K H2 a xs := (h.up u).sq
    obtain ⟨rfl, y⟩ := y
    obtain ⟨d, ed, rd⟩ := r.getV (y xs q)
    exact ⟨fun _ _ e => e, d, ed, Rep.up u _ _ rd⟩
  · exact ⟨xs, (h.up u).sq, by rw [r.len]; exact Nat.le_refl _⟩
theorem repK_get : ∀ {kvs : List (PyData × PyData)} {ks : List (Key × V)}, RepK K F H kvs ks → kvs.length = ks.length ∧ ∀ (i : Nat) k v, ks[i]? = some (k, v) → ∃ d, kvs[i]? = some (keyD k, d) ∧ Rep K F H d v
  | [], ks, h => by rw [RepK] at h; subst h; exact ⟨rfl, fun i k v e => by simp at e⟩
  | (pk, pd) :: r, ks, h => by
    rw [RepK] at h
    obtain ⟨q, x, t, rfl, h1, h2⟩ := h
    rw [RepP] at h1
    obtain ⟨rfl, h1⟩ := h1
    obtain ⟨l, g⟩ := repK_get h2
    refine ⟨by simp [l], fun i k v e => ?_⟩
    cases i with
    | zero => simp at e; obtain ⟨rfl, rfl⟩ := e; exact ⟨pd, rfl, h1⟩
    | succ i => exact g i k v (by simpa using e)
theorem repT_get : ∀ {kvs : List (PyData × PyData)} {ks : List (List Key × V)}, RepT K F H kvs ks → kvs.length = ks.length ∧ ∀ (i : Nat) k v, ks[i]? = some (k, v) → ∃ d, kvs[i]? = some (.tuple (k.map keyD), d) ∧ Rep K F H d v
  | [], ks, h => by rw [RepT] at h; subst h; exact ⟨rfl, fun i k v e => by simp at e⟩
  | (pk, pd) :: r, ks, h => by
    rw [RepT] at h
    obtain ⟨q, x, t, rfl, h1, h2⟩ := h
    rw [RepP] at h1
    obtain ⟨rfl, h1⟩ := h1
    obtain ⟨l, g⟩ := repT_get h2
    refine ⟨by simp [l], fun i k v e => ?_⟩
    cases i with
    | zero => simp at e; obtain ⟨rfl, rfl⟩ := e; exact ⟨pd, rfl, h1⟩
    | succ i => exact g i k v (by simpa using e)
theorem rep_keyI {k : Key} : Rep K F H (keyD k) (kV k) := by
  cases k with
  | inl i => exact rep_intI
  | inr x => exact rep_strI
theorem repA_keyI : ∀ ks : List Key, RepA K F H (ks.map keyD) (ks.map kV)
  | [] => repA_nil
  | k :: ks => .cons rep_keyI (repA_keyI ks)
def badK : PyData → Bool
  | .tuple (d :: ds) => stD (d :: ds)
  | .none => true
  | _ => false
/-- a key, as it is walked -/
def keyW : PyData → PyData
  | .tuple [] => W0
  | d => d
theorem rep_W0 {q : Addr} (h : H q = some (.tup [])) : Rep K F H W0 (.ref q) := by
  unfold W0; rw [Rep]; exact ⟨rfl, q, rfl, .inr ⟨rfl, h⟩⟩
theorem keyW_keyD (k : Key) : keyW (keyD k) = keyD k := by cases k <;> rfl
theorem its_keys {a : Addr} {o : Obj} {ks : List (Key × V)} {kvs : List (PyData × PyData)} (h : H a = some (.frz o (.dK ks))) (r : RepK K F H kvs ks) : ItsAt K F H (kvs.map fun p => keyW p.1) (Itk a o ks) := by
  obtain ⟨l, g⟩ := repK_get r
  refine ⟨fun i F2 H2 u hi => ⟨u.sc _ _ _ h, by simpa [← l] using hi⟩, fun i F2 H2 x H3 u hi y => ?_, fun F2 H2 u => ⟨u.sc _ _ _ h, by simp [l]⟩⟩
  obtain ⟨rfl, k, v, e, rfl⟩ := y
  obtain ⟨d, ed, _⟩ := g i k v e
  exact ⟨fun _ _ e => e, keyD k, by rw [List.getElem?_map, ed, Option.map_some, keyW_keyD], rep_keyI⟩
theorem its_keysT {a : Addr} {o : Obj} {ks : List (List Key × V)} {kvs : List (PyData × PyData)} (h : H a = some (.frz o (.dT ks))) (r : RepT K F H kvs ks) (z0 : ∀ (i : Nat) k v, ks[i]? = some (k, v) → k ≠ [] → st (k.map kV) = false) : ItsAt K F H (kvs.map fun p => keyW p.1) (Itkt a o ks) := by
  obtain ⟨l, g⟩ := repT_get r
  refine ⟨fun i F2 H2 u hi => ⟨u.sc _ _ _ h, by simpa [← l] using hi⟩, fun i F2 H2 x H3 u hi y => ?_, fun F2 H2 u => ⟨u.sc _ _ _ h, by simp [l]⟩⟩
  obtain ⟨rfl, k, v, q, e, rfl, hq⟩ := y
  obtain ⟨d, ed, _⟩ := g i k v e
  cases k with
  | nil => exact ⟨fun _ _ e => e, W0, by rw [List.getElem?_map, ed]; rfl, rep_W0 hq⟩
  | cons k0 k =>
    have z1 := z0 i _ v e (by simp)
    exact ⟨fun _ _ e => e, .tuple ((k0 :: k).map keyD), by rw [List.getElem?_map, ed]; rfl, by rw [Rep]; exact ⟨q, _, rfl, .of hq z1, repA_keyI (k0 :: k)⟩⟩
/-- a frozen dict is locked -/
theorem Post.lock {env0 : EV} {F0 : Addr → Prop} {H0 : Hp} (p : Post K B σ env0 F0 H0 env F H) {d : Addr} {u : HO} {od : Obj} (f : F d) (h : H d = some u) (hu : IsDic u) : Post K B σ env0 F0 H0 env F (upd H d (.frz od u)) ∧ Up F H F (upd H d (.frz od u)) := by
  have s := p.st
  have md : Mut (some u) := by cases u <;> first | trivial | exact hu.elim
  have up : Up F H F (upd H d (.frz od u)) := by
    refine ⟨fun _ h => h, fun b w f r => ?_, fun b xs f r => ?_, fun b xs r => ?_, fun b o' w r => ?_⟩
    · by_cases z : b = d
      · subst z
        rcases r with r | ⟨o', r⟩
        · rw [h] at r; cases r
          exact .inr ⟨od, upd_same⟩
        · rw [h] at r; cases r; exact md.elim
      · rcases r with r | ⟨o', r⟩
        · exact .inl (by rw [upd_ne z]; exact r)
        · exact .inr ⟨o', by rw [upd_ne z]; exact r⟩
    · have : b ≠ d := fun z => by rw [z, h] at r; cases r; exact hu
      rw [upd_ne this]; exact r
    · have : b ≠ d := fun z => by rw [z, h] at r; cases r; exact hu
      rw [upd_ne this]; exact r
    · have : b ≠ d := fun z => by rw [z, h] at r; cases r; exact hu
      rw [upd_ne this]; exact r
  have nod : ¬ OwA σ env d := fun z => (s.owA_mut z).1 f
  have th : ∀ a, H a ≠ none → upd H d (.frz od u) a ≠ none := fun a h => by
    by_cases z : a = d
    · subst z; rw [upd_same]; simp
    · rw [upd_ne z]; exact h
  refine ⟨⟨⟨s.len, fun i sv e => ?_, s.sep, fun a f => th a (s.fH a f), fun a b => th a (s.bH a b)⟩, ⟨p.ext.mono, fun a h => th a (p.ext.there a h), fun a o' e na => ?_⟩, p.ee⟩, up⟩
  · obtain ⟨v, ev, r⟩ := s.at_ i sv e
    refine ⟨v, ev, ?_⟩
    have up' : sv.own = true → ∀ {k : Bool} {a : Addr} {dd : PyData}, v = .ref a → RepO K F H k a dd → RepO K F (upd H d (.frz od u)) k a dd := fun ow {k a dd} ea ro => by
      refine ro.up up (upd_ne ?_)
      rintro rfl
      exact nod ⟨i, ⟨sv, e, ow⟩, by rw [ev, ea]⟩
    cases sv with
    | fz d => exact Rep.up up _ _ r
    | pz d => exact Rep.up up _ _ r
    | sc ns => obtain ⟨a, e, q⟩ := r; exact ⟨a, e, q.up up⟩
    | ow k d =>
      obtain ⟨a, e, nf, nb, ro⟩ := r
      exact ⟨a, e, nf, nb, up' rfl e ro⟩
    | pw k d =>
      obtain ⟨a, e, nf, ro⟩ := r
      exact ⟨a, e, nf, up' rfl e ro⟩
  · obtain ⟨f1, c⟩ := p.ext.keep a o' e na
    refine ⟨f1, ?_⟩
    by_cases z : a = d
    · subst z
      rcases c with c | ⟨f0, md', od', c⟩
      · rw [h] at c; cases c
        exact .inr ⟨f1 f, hu, od, upd_same⟩
      · rw [h] at c; cases c; exact md.elim
    · rcases c with c | ⟨f0, md', od', c⟩
      · exact .inl (by rw [upd_ne z]; exact c)
      · exact .inr ⟨f0, md', od', by rw [upd_ne z]; exact c⟩
end

/-! ### a list, a tuple, a dict's keys -/
def iAny (K : PySem.W.Frag) (tl : TE) : TI := fun σ H R => tl σ H fun x H1 => ∃ a, x = .ref a ∧ ((∃ xs, SqL K H1 a xs ∧ R (Itl K a) H1) ∨ (∃ xs, SqT K H1 a xs ∧ R (Itt K a) H1) ∨
  (∃ ks, H1 a = some (.dK ks) ∧ ∀ od, R (Itk a od ks) (upd H1 a (.frz od (.dK ks)))) ∨ (∃ od ks, H1 a = some (.frz od (.dK ks)) ∧ R (Itk a od ks) H1) ∨
  (∃ ks, H1 a = some (.dT ks) ∧ ∀ od, R (Itkt a od ks) (upd H1 a (.frz od (.dT ks)))) ∨ (∃ od ks, H1 a = some (.frz od (.dT ks)) ∧ R (Itkt a od ks) H1))
section
variable {X : Cx} {tg : Expr}
theorem keys_pie {pins : List (Addr × Obj)} {σ : L2.St} {H1 : Hp} {s1 : Shared} {R : It → Hp → Prop} {E : Value → Shared → Prop} {d : Addr} {o : Obj} {kvs : List (Key × V)} (I1 : Inv X pins σ H1 s1) (hd : H1 d = some (.frz o (.dK kvs))) (q : R (Itk d o kvs) H1) :
    wpAny (model X.prog X.w) X.A (pyIter (.ref d)) (PIE X pins σ tg R) E s1 := by
  obtain ⟨hs, hgd, hx, es, ep, vs, hdt, hsz, kv, hm⟩ := I1.frzK hd
  refine iter_keys hs hgd hx hdt (pi_one (tk := s1.toks) I1 _ (turn_keys _ hdt) ⟨_, Heap.get?_push_size _ rfl, rfl, ?_⟩ q)
  rw [hsz] <;> rfl
theorem keysT_pie {pins : List (Addr × Obj)} {σ : L2.St} {H1 : Hp} {s1 : Shared} {R : It → Hp → Prop} {E : Value → Shared → Prop} {d : Addr} {o : Obj} {kvs : List (List Key × V)} (I1 : Inv X pins σ H1 s1) (hd : H1 d = some (.frz o (.dT kvs))) (q : R (Itkt d o kvs) H1) :
    wpAny (model X.prog X.w) X.A (pyIter (.ref d)) (PIE X pins σ tg R) E s1 := by
  obtain ⟨hs, hgd, hx, es, ep, hdt, hsz, ent⟩ := I1.frzT hd
  refine iter_keys hs hgd hx hdt (pi_one (tk := s1.toks) I1 _ (turn_keysT _ hdt) ⟨_, Heap.get?_push_size _ rfl, rfl, ?_⟩ q)
  rw [hsz] <;> rfl
theorem pi_any {l : Expr} {tl : TE} (hl : PE X l tl) : PI X tg l (iAny X.K tl) := by
  refine ⟨fun pins s σ H R I h => ?_⟩
  refine thn (hl.run pins s σ H _ I h) fun v s1 ⟨x, H1, I1, r1, q1⟩ => ?_
  obtain ⟨a, e, q⟩ := q1
  subst e
  cases r1
  rcases q with ⟨xs, hq, q⟩ | ⟨xs, hq, q⟩ | ⟨ks, hq, q⟩ | ⟨od, ks, hq, q⟩ | ⟨ks, hq, q⟩ | ⟨od, ks, hq, q⟩
  · obtain ⟨its, rv, p, hz⟩ := I1.list hq
    refine wpAny_pyIter_list p.isList ?_
    refine ⟨s1.heap.objs.size, [s1.heap.objs.size], _, _, H1, rfl, I1.kept (t' := s1.toks) fun b o e => Heap.get?_push_of_some _ e, turn_list a _, ⟨_, Heap.get?_push_size _ rfl, rfl, rfl⟩, fun b hb => ?_, q⟩
    have e : b = s1.heap.objs.size := by simpa using hb
    subst e
    exact I1.fpOk (Nat.le_refl _) (I1.hok.fresh (Nat.le_refl _))
  · obtain ⟨its, rv, p, hz⟩ := I1.tuple hq
    refine wpAny_pyIter_tuple (show s1.heap.IsTuple a its.toArray from p) ?_
    refine ⟨s1.heap.objs.size, [s1.heap.objs.size], _, _, H1, rfl, I1.kept (t' := s1.toks) fun b o e => Heap.get?_push_of_some _ e, turn_tuple a _, ⟨_, Heap.get?_push_size _ rfl, rfl, rfl⟩, fun b hb => ?_, q⟩
    have e : b = s1.heap.objs.size := by simpa using hb
    subst e
    exact I1.fpOk (Nat.le_refl _) (I1.hok.fresh (Nat.le_refl _))
  · obtain ⟨od, I2⟩ := I1.lock hq trivial
    exact keys_pie I2 upd_same (q od)
  · exact keys_pie I1 hq q
  · obtain ⟨od, I2⟩ := I1.lock hq trivial
    exact keysT_pie I2 upd_same (q od)
  · exact keysT_pie I1 hq q
def items? : PyData → Option (List PyData)
  | .list ds => some ds
  | .tuple ds => some ds
  | .dict kvs => if kvs.any (fun p => badK p.1) then none else some (kvs.map fun p => keyW p.1)
  | _ => none
def vIter (f : VE) : VI := fun env => (vUse f env).bind fun p => (items? p.1).map fun ds => (ds, p.2)
theorem vi_any {l : Expr} {f : VE} (h : VEx X l f) : VIx X tg l (vIter f) := PI.imp (pi_any h) fun σ H R h => by
  obtain ⟨B, F, env, items, env', s, e, k⟩ := h
  unfold vIter at e
  simp only [bind_some_iff, Option.map_eq_some_iff] at e
  obtain ⟨⟨d, e1⟩, hf, ds, hd, he⟩ := e
  cases he
  refine tu_of ⟨B, F, env, d, e1, s, hf, fun v F1 H1 P R => ?_⟩
  cases d with
  | list zs =>
    cases hd
    rw [Rep] at R
    obtain ⟨a, xs, rfl, f, hs, ra⟩ := R
    exact ⟨a, rfl, .inl ⟨xs, .of hs, k _ F1 H1 P (its_list f hs ra)⟩⟩
  | tuple zs =>
    cases hd
    rw [Rep] at R
    obtain ⟨a, xs, rfl, hs, ra⟩ := R
    exact ⟨a, rfl, .inr (.inl ⟨xs, hs.sq, k _ F1 H1 P (its_tup hs ra)⟩)⟩
  | dict kvs =>
    simp only [items?] at hd
    split at hd
    · cases hd
    rename_i hz
    cases hd
    rw [Rep] at R
    obtain ⟨_, a, rfl, ⟨f, ra⟩ | ⟨z, _⟩⟩ := R
    case inr => subst z; simp [badK] at hz
    have z0 : ∀ {H' : Hp} {ks}, RepT X.K F1 H' kvs ks → ∀ (i : Nat) k v, ks[i]? = some (k, v) → k ≠ [] → st (k.map kV) = false := fun {H' ks} r i k v e kn => by
      obtain ⟨l, g⟩ := repT_get r
      obtain ⟨d, ed, _⟩ := g i k v e
      have hz' : (kvs.any fun p => badK p.1) = false := by simpa using hz
      rw [List.any_eq_false] at hz'
      have := hz' _ (List.mem_of_getElem? ed)
      rw [RepA.st (K := X.K) (F := F1) (H := H') (repA_keyI k)]
      cases k with
      | nil => exact absurd rfl kn
      | cons k0 k => simpa [badK] using this
    refine ⟨a, rfl, .inr (.inr ?_)⟩
    rcases ra with ⟨ks, hr, ra⟩ | ⟨ks, hr, ra⟩
    · rcases hr with hr | ⟨od, hr⟩
      · refine .inl ⟨ks, hr, fun od => ?_⟩
        obtain ⟨P2, u⟩ := P.lock (od := od) f hr trivial
        exact k _ F1 _ P2 (its_keys upd_same (RepK.up u _ _ ra))
      · exact .inr (.inl ⟨od, ks, hr, k _ F1 H1 P (its_keys hr ra)⟩)
    · rcases hr with hr | ⟨od, hr⟩
      · refine .inr (.inr (.inl ⟨ks, hr, fun od => ?_⟩))
        obtain ⟨P2, u⟩ := P.lock (od := od) f hr trivial
        exact k _ F1 _ P2 (its_keysT upd_same (RepT.up u _ _ ra) (z0 ra))
      · exact .inr (.inr (.inr ⟨od, ks, hr, k _ F1 H1 P (its_keysT hr ra (z0 ra))⟩))
  | _ => cases hd

/-! ### ranges -/
def rangeD (lo c : Int) (n : Nat) : List PyData := (List.range n).map fun i => PyData.int (lo + (i : Nat) * c)
theorem its_range {K : PySem.W.Frag} {F : Addr → Prop} {H : Hp} {lo : Int} {n : Nat} : ItsAt K F H (rangeD lo 1 n) (Itr lo n) := by
  refine ⟨fun i F2 H2 u hi => show i < n by simpa [rangeD] using hi, fun i F2 H2 x H3 u hi y => ?_, fun F2 H2 u => by simp [rangeD, Itr]⟩
  obtain ⟨rfl, rfl⟩ := y
  have hi' : i < n := by simpa [rangeD] using hi
  exact ⟨fun _ _ e => e, .int (lo + i), by simp [rangeD, hi'], rep_intI⟩
theorem its_rangeC {K : PySem.W.Frag} {F : Addr → Prop} {H : Hp} {lo c : Int} {n : Nat} : ItsAt K F H (rangeD lo c n) (Itc lo c n) := by
  refine ⟨fun i F2 H2 u hi => show i < n by simpa [rangeD] using hi, fun i F2 H2 x H3 u hi y => ?_, fun F2 H2 u => by simp [rangeD, Itc]⟩
  obtain ⟨rfl, rfl⟩ := y
  have hi' : i < n := by simpa [rangeD] using hi
  exact ⟨fun _ _ e => e, .int (lo + (i : Nat) * c), by simp [rangeD, hi'], rep_intI⟩
def in62 (i : Int) : Bool := decide (-(2 ^ 62) ≤ i) && decide (i < 2 ^ 62)
def vRng (as : VA) : VI := fun env => (as env).bind fun p => (rdAll p.2 p.1).bind fun ds => match ds with
  | [.int j] => if in62 j = true then some (rangeD 0 1 j.toNat, p.2) else none
  | [.int i, .int j] => if in62 i && in62 j then some (rangeD i 1 (j - i).toNat, p.2) else none
  | [.int i, .int j, .int c] => if c = -1 then (if in62 i && in62 j then some (rangeD i (-1) (i - j).toNat, p.2) else none)
      else if decide (0 < c) && decide (c.natAbs < 1073741824) && Builtin.Range.small i j c && decide (0 ≤ Builtin.Range.rangeSize i j c) then some (rangeD i c (Builtin.Range.rangeSize i j c).toNat, p.2) else none
  | _ => none
theorem rng_open {as : VA} {σ : L2.St} {H : Hp} {R : It → Hp → Prop} (h : TVI X.K (vRng as) σ H R) : TVA X.K as σ H fun vs H1 => (∃ j, vs = [.int j] ∧ in62 j = true ∧ R (Itr 0 j.toNat) H1) ∨ (∃ i j, vs = [.int i, .int j] ∧ in62 i = true ∧ in62 j = true ∧ R (Itr i (j - i).toNat) H1) ∨
    ∃ i j c n, vs = [.int i, .int j, .int c] ∧ RgC i j c n ∧ R (Itc i c n) H1 := by
  obtain ⟨B, F, env, items, env', s, e, k⟩ := h
  unfold vRng at e
  simp only [bind_some_iff] at e
  obtain ⟨⟨rs, e1⟩, ha, ds, hd, e⟩ := e
  refine ⟨B, F, env, rs, e1, s, ha, fun vs F1 H1 P R1 N => ?_⟩
  have rl := rdAll_ok P.st R1 hd
  split at e
  · split at e
    · rename_i hj
      cases e
      obtain ⟨v, rfl, h⟩ := rdLA_one rl
      exact .inl ⟨_, by rw [rdL_int.mp h], hj, k _ F1 H1 P its_range⟩
    · cases e
  · split at e
    · rename_i hj
      cases e
      rw [Bool.and_eq_true] at hj
      obtain ⟨v, w, rfl, h1, h2⟩ := rdLA_two rl
      exact .inr (.inl ⟨_, _, by rw [rdL_int.mp h1, rdL_int.mp h2], hj.1, hj.2, k _ F1 H1 P its_range⟩)
    · cases e
  · obtain ⟨v, ws, rfl, h1, h2⟩ := rl
    obtain ⟨w, z, rfl, h2, h3⟩ := rdLA_two h2
    rw [rdL_int.mp h1, rdL_int.mp h2, rdL_int.mp h3]
    split at e
    · rename_i hc
      split at e
      · rename_i hj
        cases e
        subst hc
        simp only [Bool.and_eq_true, in62, decide_eq_true_eq] at hj
        exact .inr (.inr ⟨_, _, _, _, rfl, RgC.neg hj.1.1 hj.1.2 hj.2.1 hj.2.2, k _ F1 H1 P its_rangeC⟩)
      · cases e
    · split at e
      · rename_i hj
        cases e
        simp only [Bool.and_eq_true, decide_eq_true_eq] at hj
        exact .inr (.inr ⟨_, _, _, _, rfl, ⟨by omega, hj.1.1.2, hj.1.2, by omega⟩, k _ F1 H1 P its_rangeC⟩)
      · cases e
  · cases e
theorem in62_iff {i : Int} (h : in62 i = true) : -(2 ^ 62) ≤ i ∧ i < 2 ^ 62 := by
  simpa [in62] using h
theorem tva_len : ∀ {B F : Addr → Prop} {H : Hp} {σ : L2.St} {env : EV} {rs : List R} {vs : List V} {K : PySem.W.Frag}, RepRs K B F H σ env rs vs → rs.length = vs.length
  | _, _, _, _, _, [], _, _, h => by obtain rfl := (show _ = [] from h); rfl
  | _, _, _, _, _, r :: rs, _, _, h => by obtain ⟨v, ws, rfl, _, _, h⟩ := h; simp [tva_len h]
theorem TVA.len {as : VA} {n : Nat} (hn : ∀ env rs env', as env = some (rs, env') → rs.length = n) {σ : L2.St} {H : Hp} {Q : List V → Hp → Prop} (h : TVA X.K as σ H Q) : TVA X.K as σ H fun vs H1 => vs.length = n ∧ Q vs H1 := by
  obtain ⟨B, F, env, rs, env', s, e, k⟩ := h
  exact ⟨B, F, env, rs, env', s, e, fun vs F' H' P R N => ⟨by rw [← tva_len R]; exact hn _ _ _ e, k vs F' H' P R N⟩⟩
theorem vaNil_len : ∀ env rs env', vaNil env = some (rs, env') → rs.length = 0 := fun env rs env' e => by cases e; rfl
theorem vaCons_len {f : VE} {as : VA} {n : Nat} (hn : ∀ env rs env', as env = some (rs, env') → rs.length = n) : ∀ env rs env', vaCons f as env = some (rs, env') → rs.length = n + 1 := fun env rs env' e => by
  simp only [vaCons, bind_some_iff, Option.map_eq_some_iff] at e
  obtain ⟨p, _, q, h, he⟩ := e
  cases he
  simp [hn _ _ _ h]
theorem vi_range1 {a : Expr} {f : VE} {p pos : Pos} (ha : VEx X a f) (hm : X.mg "range" = none) (hg : Gl X "range" := by rfl) (hs : starEach [a] X.env = [(false, eval a X.env)] := by rfl) (hs' : starEach (a :: []) X.env = (false, eval a X.env) :: starEach [] X.env := by rfl) :
    VIx X tg (.Call (.Name "range" p) [a] [] pos) (vRng (vaCons f vaNil)) := PI.imp (pi_range1 hg hm (va_cons ha va_nil hs') hs) fun σ H R h => by
  obtain ⟨B, F, env, rs, env', s, e, k⟩ := TVA.len (vaCons_len vaNil_len) (rng_open h)
  refine ⟨B, F, env, rs, env', s, e, fun vs F' H' P R N => ?_⟩
  obtain ⟨hl, q⟩ := k vs F' H' P R N
  rcases q with ⟨j, rfl, hj, q⟩ | ⟨i, j, rfl, _⟩ | ⟨i, j, c, n, rfl, _⟩
  · exact ⟨j, rfl, (in62_iff hj).1, (in62_iff hj).2, q⟩
  · simp at hl
  · simp at hl
theorem vi_range2 {a b : Expr} {f g : VE} {p pos : Pos} (ha : VEx X a f) (hb : VEx X b g) (hm : X.mg "range" = none) (hg : Gl X "range" := by rfl) (hs : starEach [a, b] X.env = [(false, eval a X.env), (false, eval b X.env)] := by rfl) (hs2 : starEach [b] X.env = [(false, eval b X.env)] := by rfl)
    (h1 : starEach (a :: [b]) X.env = (false, eval a X.env) :: starEach [b] X.env := by rfl) (h2 : starEach (b :: []) X.env = (false, eval b X.env) :: starEach [] X.env := by rfl) :
    VIx X tg (.Call (.Name "range" p) [a, b] [] pos) (vRng (vaCons f (vaCons g vaNil))) := PI.imp (pi_range2 hg hm (va_cons ha (va_cons hb va_nil h2) h1) hs hs2) fun σ H R h => by
  obtain ⟨B, F, env, rs, env', s, e, k⟩ := TVA.len (vaCons_len (vaCons_len vaNil_len)) (rng_open h)
  refine ⟨B, F, env, rs, env', s, e, fun vs F' H' P R N => ?_⟩
  obtain ⟨hl, q⟩ := k vs F' H' P R N
  rcases q with ⟨j, rfl, _⟩ | ⟨i, j, rfl, hi, hj, q⟩ | ⟨i, j, c, n, rfl, _⟩
  · simp at hl
  · exact ⟨i, j, rfl, ⟨(in62_iff hi).1, (in62_iff hi).2, (in62_iff hj).1, (in62_iff hj).2⟩, q⟩
  · simp at hl
theorem vi_range3 {a b c : Expr} {f g h : VE} {p pos : Pos} (ha : VEx X a f) (hb : VEx X b g) (hc : VEx X c h) (hm : X.mg "range" = none) (hg : Gl X "range" := by rfl)
    (h1 : starEach (a :: [b, c]) X.env = (false, eval a X.env) :: starEach [b, c] X.env := by rfl) (h2 : starEach (b :: [c]) X.env = (false, eval b X.env) :: starEach [c] X.env := by rfl) (h3 : starEach (c :: []) X.env = (false, eval c X.env) :: starEach [] X.env := by rfl)
    (hs : starEach [a, b, c] X.env = (false, eval a X.env) :: starEach [b, c] X.env := by rfl) (hp : ((backTo pos (starEach [b, c] X.env)).any (·.1)) = false := by rfl) :
    VIx X tg (.Call (.Name "range" p) [a, b, c] [] pos) (vRng (vaCons f (vaCons g (vaCons h vaNil)))) := PI.imp (pi_range3 hg hm (va_cons ha (va_cons hb (va_cons hc va_nil h3) h2) h1) hs hp) fun σ H R h => by
  obtain ⟨B, F, env, rs, env', s, e, k⟩ := TVA.len (vaCons_len (vaCons_len (vaCons_len vaNil_len))) (rng_open h)
  refine ⟨B, F, env, rs, env', s, e, fun vs F' H' P R N => ?_⟩
  obtain ⟨hl, q⟩ := k vs F' H' P R N
  rcases q with ⟨j, rfl, _⟩ | ⟨i, j, rfl, _⟩ | ⟨i, j, c, n, rfl, hr, q⟩
  · simp at hl
  · simp at hl
  · exact ⟨i, j, c, n, rfl, hr, q⟩
end
end VL

/-! VL11: defs and their calls -/
namespace VL
open PySem PySem.Spec PyProof.Rows L2

abbrev FS := List SV → Option (R × List SV)
def SV.argK : SV → Bool
  | .fz _ => true | .pw _ _ => true | .sc _ => true | _ => false
def ArgA (args : List SV) (vs : List V) (a : Addr) : Prop := ∃ (i : Nat) (k : Bool) (d : PyData), args[i]? = some (.pw k d) ∧ vs[i]? = some (.ref a)
structure ArgsOk (K : PySem.W.Frag) (F : Addr → Prop) (H : Hp) (args : List SV) (vs : List V) : Prop where
  len : args.length = vs.length
  knd : ∀ s ∈ args, s.argK = true
  at_ : ∀ (i : Nat) (s : SV), args[i]? = some s → ∃ v, vs[i]? = some v ∧ RepS K (fun _ => False) F H s v
  sep : ∀ (i j : Nat) (k k' : Bool) (d d' : PyData) (a : Addr), args[i]? = some (.pw k d) → args[j]? = some (.pw k' d') → vs[i]? = some (.ref a) → vs[j]? = some (.ref a) → i = j
structure RetOk (K : PySem.W.Frag) (F : Addr → Prop) (H : Hp) (args : List SV) (vs : List V) (F' : Addr → Prop) (H' : Hp) (r : R) (outs : List SV) (v : V) : Prop where
  mono : ∀ a, F a → F' a
  fH : ∀ a, F' a → H' a ≠ none
  there : ∀ a, H a ≠ none → H' a ≠ none
  keep : ∀ a o, H a = some o → ¬ ArgA args vs a → (F' a → F a) ∧ (H' a = some o ∨ (F a ∧ IsDic o ∧ ∃ od, H' a = some (.frz od o)))
  res : match r with
    | .fz d => Rep K F' H' d v
    | .ow k d => ∃ a, v = .ref a ∧ ¬ F' a ∧ H a = none ∧ RepO K F' H' k a d
    | _ => False
  outs : ∀ (i : Nat) (k : Bool) (d : PyData) (a : Addr), args[i]? = some (.pw k d) → vs[i]? = some (.ref a) → (∃ d', outs[i]? = some (.pw k d') ∧ ¬ F' a ∧ RepO K F' H' k a d') ∨ ∃ d', outs[i]? = some (.pz d') ∧ Rep K F' H' d' (.ref a)
/-- a def's promise, by its function of values -/
def spV (K : PySem.W.Frag) (φ : FS) : Sp := fun vs H Q _ => ∃ F args r outs, ArgsOk K F H args vs ∧ (∀ a, F a → H a ≠ none) ∧ φ args = some (r, outs) ∧ ∀ v F' H', RetOk K F H args vs F' H' r outs v → Q v H'
/-- n parameters, N slots -/
def vDef (n N : Nat) (body : VS) : FS := fun args => if args.length = n then (body (args.map some ++ List.replicate (N - n) none)).bind fun p => match p.1 with
    | .rt (.fz d) => some (.fz d, (p.2.take n).map fun s => s.getD (.fz .none))
    | .rt (.ow k d) => some (.ow k d, (p.2.take n).map fun s => s.getD (.fz .none))
    | .nx => some (.fz .none, (p.2.take n).map fun s => s.getD (.fz .none))
    | _ => none
  else none
theorem start_at {N : List Str} {vs : List V} {i : Nat} {v : V} (h : vs[i]? = some v) : (start N vs)[i]? = some (some v) := by
  unfold L2.start
  have hi := (List.getElem?_eq_some_iff.mp h).1
  rw [List.getElem?_append_left (by simpa using hi), List.getElem?_map, h]; rfl
theorem start_some {N : List Str} {vs : List V} {i : Nat} {v : V} (h : (start N vs)[i]? = some (some v)) : vs[i]? = some v := by
  unfold L2.start at h
  by_cases hi : i < vs.length
  · rw [List.getElem?_append_left (by simpa using hi), List.getElem?_map, List.getElem?_eq_getElem hi] at h
    rw [List.getElem?_eq_getElem hi]
    simpa using h
  · rw [List.getElem?_append_right (by simpa using hi), List.getElem?_replicate] at h
    split at h <;> simp at h
theorem argenv_at {args : List SV} {m : Nat} {i : Nat} {s : SV} : (args.map some ++ List.replicate m (none : Option SV))[i]? = some (some s) ↔ args[i]? = some s := by
  by_cases hi : i < args.length
  · rw [List.getElem?_append_left (by simpa using hi), List.getElem?_map, List.getElem?_eq_getElem hi]; simp
  · rw [List.getElem?_append_right (by simpa using hi), List.getElem?_replicate, List.getElem?_eq_none (by omega)]
    split <;> simp
theorem okV {P : Program} {w : World} {K : PySem.W.Frag} {mg : Str → Option Value} {base : Heap} {x qual : Str} {st : Stmt} {f : Addr} {fd : FuncData} {N ps : List Str} {k : Nat} {body : VS} {n M : Nat} (Fn : Fun K x qual st f fd) (S : FnScope N ps (defScope st)) (hn : ps.length = n) (hM : N.length = M)
    (hb : ∀ (cdv : Value) (A : Around) (outer : List Env) (s : Shared) (H : Hp) (E : XK), Room k (A.deeper (envOfC qual (defScope st) s.heap.objs.size f cdv)) → VSsx (cxOf CX0 P w K mg base N qual (defScope st) f cdv A outer s H E).nox (defBody st) body) :
    FnOk P w K mg base CX0 (k + 1) f fd ps (spV K (vDef n M body)) := by
  have plen : ∀ vs H Q E, spV K (vDef n M body) vs H Q E → vs.length = ps.length := fun vs H Q E h => by
    obtain ⟨F, args, r, outs, ok, _, e, _⟩ := h
    unfold vDef at e
    split at e
    · rename_i hl
      rw [← ok.len, hl, hn]
    · cases e
  refine Fn.ok S plen fun cdv A outer s H vs Q E hr h => ⟨_, hb cdv A outer s H E hr, ?_⟩
  have hvl := plen vs H Q E h
  obtain ⟨F, args, r, outs, ok, fH, e, q⟩ := h
  unfold vDef at e
  split at e
  · rename_i hl
    rw [bind_some_iff] at e
    obtain ⟨⟨fl, env'⟩, hbd, e⟩ := e
    have own_iff : ∀ {i : Nat}, Own (args.map some ++ List.replicate (M - n) none) i → ∃ k d, args[i]? = some (.pw k d) := fun {i} o => by
      obtain ⟨sv, e1, p⟩ := o
      rw [argenv_at] at e1
      have := ok.knd sv (List.mem_of_getElem? e1)
      cases sv with
      | fz d => cases p
      | pz d => cases p
      | sc d => cases p
      | ow k d => cases this
      | pw k d => exact ⟨k, d, e1⟩
    have owA_iff : ∀ {a : Addr}, OwA (start N vs) (args.map some ++ List.replicate (M - n) none) a → ArgA args vs a := fun {a} o => by
      obtain ⟨i, o, e1⟩ := o
      obtain ⟨k, d, e2⟩ := own_iff o
      exact ⟨i, k, d, e2, start_some e1⟩
    have hMn : n ≤ M := by
      rw [← hn, ← hM]
      have := congrArg List.length S.pre
      rw [List.length_take] at this
      omega
    have st0 : StOk K (fun a => H a ≠ none) F H (start N vs) (args.map some ++ List.replicate (M - n) none) := by
      refine ⟨?_, fun i sv ei => ?_, fun i j a oi oj ei ej => ?_, fH, fun a h => h⟩
      · unfold L2.start
        rw [List.length_append, List.length_append, List.length_map, List.length_map, List.length_replicate, List.length_replicate, ok.len, hM, hvl, hn]
      · rw [argenv_at] at ei
        obtain ⟨v, ev, rs⟩ := ok.at_ i sv ei
        have := ok.knd sv (List.mem_of_getElem? ei)
        refine ⟨v, start_at ev, ?_⟩
        cases sv with
        | fz d => exact rs
        | pz d => exact rs
        | sc d => exact rs
        | ow k d => cases this
        | pw k d => exact rs
      · obtain ⟨k, d, e1⟩ := own_iff oi
        obtain ⟨k', d', e2⟩ := own_iff oj
        exact ok.sep i j k k' d d' a e1 e2 (start_some ei) (start_some ej)
    refine ⟨fun a => H a ≠ none, F, _, fl, env', st0, hbd, fun σ' F' H' g => ?_⟩
    have fin : ∀ {v : V} {r' : R}, (match r' with
        | .fz d => Rep K F' H' d v
        | .ow k d => ∃ a, v = .ref a ∧ ¬ F' a ∧ H a = none ∧ RepO K F' H' k a d
        | _ => False) → RetOk K F H args vs F' H' r' ((env'.take n).map fun s => s.getD (.fz .none)) v := fun {v r'} hres => by
      refine ⟨g.mono, g.st.fH, g.there, fun a o ea no => g.keep a o ea fun z => no (owA_iff z), hres, fun i kk d a e1 e2 => ?_⟩
      obtain ⟨e3, s', e4, l⟩ := g.par i (.pw kk d) (argenv_at.mpr e1) rfl
      have hi : i < n := by rw [← hl]; exact (List.getElem?_eq_some_iff.mp e1).1
      have e5 : ((env'.take n).map fun s => s.getD (.fz .none))[i]? = some s' := by
        rw [List.getElem?_map, List.getElem?_take_of_lt hi, e4]; rfl
      obtain ⟨v', e6, rs⟩ := g.st.at_ i s' e4
      rw [e3, start_at e2] at e6
      cases e6
      rcases l with ⟨d', rfl⟩ | ⟨d', rfl⟩
      · obtain ⟨a', ea, nf, ro⟩ := rs
        cases ea
        exact .inl ⟨d', e5, nf, ro⟩
      · exact .inr ⟨d', e5, rs⟩
    cases fl with
    | nx =>
      cases e
      exact q _ F' H' (fin (r' := .fz .none) (show Rep K F' H' .none .non from rep_noneI))
    | bk => cases e
    | ct => cases e
    | rt r' =>
      cases r' with
      | fz d =>
        cases e
        exact fun v rv => q v F' H' (fin (r' := .fz d) rv)
      | ow kk d =>
        cases e
        intro v rv
        refine q v F' H' (fin (r' := .ow kk d) ?_)
        obtain ⟨a, rfl, nf, nb, _, ro⟩ := rv
        refine ⟨a, rfl, nf, ?_, ro⟩
        cases z : H a with
        | none => rfl
        | some o => exact (nb (show H a ≠ none by rw [z]; simp)).elim
      | br i => cases e
      | sc ns => cases e
  · cases e
end VL

/-! VL12: calls of defs -/
namespace VL
open PySem PySem.Spec PyProof.Rows L2

def toArg (env : EV) : R → Option SV
  | .fz d => some (.fz d)
  | .ow k d => some (.pw k d)
  | .sc ns => some (.sc ns)
  | .br i => match env[i]? with
    | some (some (.ow k d)) => some (.pw k d)
    | some (some (.pw k d)) => some (.pw k d)
    | some (some s) => some (.fz s.d)
    | _ => none
def toArgs (env : EV) : List R → Option (List SV)
  | [] => some []
  | r :: rs => (toArg env r).bind fun s => (toArgs env rs).map fun ss => s :: ss
def ownB (env : EV) (i : Nat) : Bool := match env[i]? with
  | some (some s) => s.own
  | _ => false
/-- no object of a slot's own is handed in twice -/
def apart (env : EV) : List R → Bool
  | [] => true
  | .br i :: rs => (!ownB env i || rs.all fun r => match r with | .br j => decide (i ≠ j) | _ => true) && apart env rs
  | _ :: rs => apart env rs
def backS : SV → SV → SV
  | .ow k _, .pw _ d' => .ow k d'
  | .ow _ _, .pz d' => .fz d'
  | .pw k _, .pw _ d' => .pw k d'
  | .pw _ _, .pz d' => .pz d'
  | s, _ => s
def lk (i : Nat) : List R → List SV → Option SV
  | .br j :: rs, o :: outs => if i = j then some o else lk i rs outs
  | _ :: rs, _ :: outs => lk i rs outs
  | _, _ => none
def wb1 (rs : List R) (outs : List SV) (i : Nat) (s : Option SV) : Option SV := s.map fun s => if s.own then match lk i rs outs with | some o => backS s o | none => s else s
def wb (env : EV) (rs : List R) (outs : List SV) : EV := env.mapIdx (wb1 rs outs)
def vCall (φ : FS) (as : VA) : VE := fun env => (as env).bind fun p => if apart p.2 p.1 then (toArgs p.2 p.1).bind fun ss => (φ ss).map fun q => (q.1, wb p.2 p.1 q.2) else none

theorem lk_some : ∀ {i : Nat} {rs : List R} {outs : List SV} {o : SV}, lk i rs outs = some o → ∃ j : Nat, rs[j]? = some (.br i) ∧ outs[j]? = some o
  | _, [], _, _, h => by simp [lk] at h
  | _, _ :: _, [], _, h => by simp [lk] at h
  | i, r :: rs, p :: outs, o, h => by
    have go : lk i rs outs = some o → ∃ j : Nat, (r :: rs)[j]? = some (.br i) ∧ (p :: outs)[j]? = some o := fun h => by
      obtain ⟨j, e1, e2⟩ := lk_some h
      exact ⟨j + 1, by simpa using e1, by simpa using e2⟩
    cases r with
    | br l =>
      simp only [lk] at h
      split at h
      · rename_i e; subst e; cases h; exact ⟨0, rfl, rfl⟩
      · exact go h
    | fz d => exact go h
    | ow k d => exact go h
    | sc ns => exact go h
theorem lk_none : ∀ {i : Nat} {rs : List R} {outs : List SV}, lk i rs outs = none → ∀ (j : Nat) (o : SV), rs[j]? = some (.br i) → outs[j]? = some o → False
  | _, [], _, _, j, _, h, _ => by simp at h
  | _, _ :: _, [], _, j, _, _, h => by simp at h
  | i, r :: rs, p :: outs, hl, 0, o, h, h' => by
    simp at h; subst h
    simp [lk] at hl
  | i, r :: rs, p :: outs, hl, j + 1, o, h, h' => by
    have go : lk i rs outs = none := by
      cases r with
      | br l =>
        simp only [lk] at hl
        split at hl
        · cases hl
        · exact hl
      | fz d => exact hl
      | ow k d => exact hl
      | sc ns => exact hl
    exact lk_none go j o (by simpa using h) (by simpa using h')
theorem apart_ne : ∀ {env : EV} {rs : List R}, apart env rs = true → ∀ (i j l : Nat), ownB env l = true → rs[i]? = some (.br l) → rs[j]? = some (.br l) → i < j → False
  | _, [], _, i, j, l, _, h, _, _ => by simp at h
  | env, r :: rs, a, 0, j + 1, l, o, h, h', _ => by
    simp at h h'; subst h
    simp only [apart, o, Bool.not_true, Bool.false_or, Bool.and_eq_true, List.all_eq_true] at a
    have := a.1 _ (List.mem_of_getElem? h')
    simp at this
  | env, r :: rs, a, i + 1, j + 1, l, o, h, h', hl => by
    have ar : apart env rs = true := by
      cases r with
      | br l => simp only [apart, Bool.and_eq_true] at a; exact a.2
      | fz d => exact a
      | ow k d => exact a
      | sc ns => exact a
    exact apart_ne ar i j l o (by simpa using h) (by simpa using h') (by omega)
theorem ownB_iff {env : EV} {i : Nat} : ownB env i = true ↔ Own env i := by
  unfold ownB Own
  cases e : env[i]? with
  | none => simp
  | some o => cases o with
    | none => simp
    | some s => simp
section
variable {K : PySem.W.Frag} {B F F' : Addr → Prop} {H H' : Hp} {σ : L2.St} {env env' : EV}
theorem RepRs.len : ∀ {rs : List R} {vs : List V}, RepRs K B F H σ env rs vs → rs.length = vs.length
  | [], vs, h => by cases h; rfl
  | r :: rs, vs, h => by
    obtain ⟨v, ws, rfl, _, _, h⟩ := h
    simp [RepRs.len h]
theorem RepRs.get : ∀ {rs : List R} {vs : List V} {i : Nat} {r : R}, RepRs K B F H σ env rs vs → rs[i]? = some r → ∃ v, vs[i]? = some v ∧ RepR K B F H σ env r v
  | [], _, _, _, _, h => by simp at h
  | r :: rs, vs, 0, _, h, e => by
    obtain ⟨v, ws, rfl, h1, _, _⟩ := h
    simp at e; subst e
    exact ⟨v, rfl, h1⟩
  | r :: rs, vs, i + 1, _, h, e => by
    obtain ⟨v, ws, rfl, _, _, h⟩ := h
    obtain ⟨v, e1, r1⟩ := h.get (by simpa using e)
    exact ⟨v, by simpa using e1, r1⟩
theorem RepRs.fresh : ∀ {rs : List R} {vs : List V} {i j : Nat} {k k' d d' v}, RepRs K B F H σ env rs vs → rs[i]? = some (.ow k d) → rs[j]? = some (.ow k' d') → vs[i]? = some v → vs[j]? = some v → i < j → False
  | [], _, _, _, _, _, _, _, _, _, h, _, _, _, _ => by simp at h
  | r :: rs, vs, 0, j + 1, _, _, _, _, v, h, e1, e2, v1, v2, _ => by
    obtain ⟨v', ws, rfl, _, n, _⟩ := h
    simp at e1 e2 v1 v2; subst e1; subst v1
    exact n _ _ rfl j _ _ e2 v2
  | r :: rs, vs, i + 1, j + 1, _, _, _, _, v, h, e1, e2, v1, v2, hl => by
    obtain ⟨v', ws, rfl, _, _, h⟩ := h
    exact h.fresh (i := i) (j := j) (by simpa using e1) (by simpa using e2) (by simpa using v1) (by simpa using v2) (by omega)
theorem toArgs_len : ∀ {rs : List R} {ss : List SV}, toArgs env rs = some ss → ss.length = rs.length
  | [], ss, e => by cases e; rfl
  | r :: rs, ss, e => by
    simp only [toArgs, bind_some_iff, Option.map_eq_some_iff] at e
    obtain ⟨s, _, t, e, rfl⟩ := e
    simp [toArgs_len e]
theorem toArgs_at : ∀ {rs : List R} {ss : List SV} {i : Nat} {s : SV}, toArgs env rs = some ss → ss[i]? = some s → ∃ r, rs[i]? = some r ∧ toArg env r = some s
  | [], ss, _, _, e, h => by cases e; simp at h
  | r :: rs, ss, 0, s, e, h => by
    simp only [toArgs, bind_some_iff, Option.map_eq_some_iff] at e
    obtain ⟨s, e1, t, e, rfl⟩ := e
    simp at h; subst h
    exact ⟨r, rfl, e1⟩
  | r :: rs, ss, i + 1, s, e, h => by
    simp only [toArgs, bind_some_iff, Option.map_eq_some_iff] at e
    obtain ⟨s, e1, t, e, rfl⟩ := e
    obtain ⟨r, h1, h2⟩ := toArgs_at e (i := i) (by simpa using h)
    exact ⟨r, by simpa using h1, h2⟩
theorem toArg_K {r : R} {s : SV} (h : toArg env r = some s) : s.argK = true := by
  cases r with
  | fz d => cases h; rfl
  | ow k d => cases h; rfl
  | sc ns => cases h; rfl
  | br i =>
    simp only [toArg] at h
    split at h <;> first | (cases h; rfl) | cases h
theorem toArg_pw {r : R} {k : Bool} {d : PyData} (h : toArg env r = some (.pw k d)) : (r = .ow k d) ∨ ∃ i, r = .br i ∧ (env[i]? = some (some (.ow k d)) ∨ env[i]? = some (some (.pw k d))) := by
  cases r with
  | fz d => cases h
  | ow k d => cases h; exact .inl rfl
  | sc ns => cases h
  | br i =>
    simp only [toArg] at h
    split at h
    · cases h; exact .inr ⟨i, rfl, .inl (by assumption)⟩
    · cases h; exact .inr ⟨i, rfl, .inr (by assumption)⟩
    · cases h
    · cases h
theorem toArg_ok (st : StOk K B F H σ env) {r : R} {v : V} {s : SV} (h : RepR K B F H σ env r v) (e : toArg env r = some s) : RepS K (fun _ => False) F H s v := by
  cases r with
  | fz d => cases e; exact h
  | ow k d =>
    cases e
    obtain ⟨a, e, nf, _, _, ro⟩ := h
    exact ⟨a, e, nf, ro⟩
  | sc ns => cases e; exact h
  | br i =>
    obtain ⟨e1, sv, e2, ns⟩ := h
    obtain ⟨v', e3, r⟩ := st.at_ i sv e2
    rw [e1] at e3; cases e3
    simp only [toArg, e2] at e
    cases sv with
    | fz d => cases e; exact r
    | pz d => cases e; exact r
    | sc ms => exact (ns ms rfl).elim
    | ow k d =>
      cases e
      obtain ⟨a, e, nf, _, ro⟩ := r
      exact ⟨a, e, nf, ro⟩
    | pw k d => cases e; exact r
theorem args_ok (st : StOk K B F H σ env) {rs : List R} {vs : List V} {ss : List SV} (h : RepRs K B F H σ env rs vs) (ap : apart env rs = true) (e : toArgs env rs = some ss) : ArgsOk K F H ss vs := by
  have own_of : ∀ {i : Nat} {k : Bool} {d : PyData}, (env[i]? = some (some (.ow k d)) ∨ env[i]? = some (some (.pw k d))) → Own env i := fun h => h.elim (fun h => ⟨_, h, rfl⟩) fun h => ⟨_, h, rfl⟩
  have sep : ∀ (i j : Nat) (k k' : Bool) (d d' : PyData) (a : Addr), ss[i]? = some (.pw k d) → ss[j]? = some (.pw k' d') → vs[i]? = some (.ref a) → vs[j]? = some (.ref a) → i < j → False := fun i j k k' d d' a h1 h2 v1 v2 hl => by
    obtain ⟨r1, q1, t1⟩ := toArgs_at e h1
    obtain ⟨r2, q2, t2⟩ := toArgs_at e h2
    obtain ⟨w1, x1, p1⟩ := h.get q1
    rw [v1] at x1; cases x1
    obtain ⟨w2, x2, p2⟩ := h.get q2
    rw [v2] at x2; cases x2
    rcases toArg_pw t1 with rfl | ⟨l1, rfl, o1⟩ <;> rcases toArg_pw t2 with rfl | ⟨l2, rfl, o2⟩
    · exact h.fresh q1 q2 v1 v2 hl
    · obtain ⟨a', ea, _, _, no, _⟩ := p1
      cases ea
      exact no ⟨l2, own_of o2, p2.1⟩
    · obtain ⟨a', ea, _, _, no, _⟩ := p2
      cases ea
      exact no ⟨l1, own_of o1, p1.1⟩
    · have : l1 = l2 := st.sep l1 l2 a (own_of o1) (own_of o2) p1.1 p2.1
      subst this
      exact apart_ne ap i j l1 (ownB_iff.mpr (own_of o1)) q1 q2 hl
  refine ⟨by rw [toArgs_len e, h.len], fun s hs => ?_, fun i s hs => ?_, fun i j k k' d d' a h1 h2 v1 v2 => ?_⟩
  · obtain ⟨i, hi⟩ := List.getElem?_of_mem hs
    obtain ⟨r, _, t⟩ := toArgs_at e hi
    exact toArg_K t
  · obtain ⟨r, q, t⟩ := toArgs_at e hs
    obtain ⟨v, x, p⟩ := h.get q
    exact ⟨v, x, toArg_ok st p t⟩
  · rcases Nat.lt_trichotomy i j with c | c | c
    · exact (sep i j k k' d d' a h1 h2 v1 v2 c).elim
    · exact c
    · exact (sep j i k' k d' d a h2 h1 v2 v1 c).elim
theorem RetOk.up {args : List SV} {vs : List V} {r : R} {outs : List SV} {v : V} (fH : ∀ a, F a → H a ≠ none) (ok : ArgsOk K F H args vs) (h : RetOk K F H args vs F' H' r outs v) : Up F H F' H' := by
  have own : ∀ {i : Nat} {s : SV}, (args.map some)[i]? = some (some s) ↔ args[i]? = some s := fun {i s} => by
    rw [List.getElem?_map]; simp
  have st : StOk K (fun _ => False) F H (vs.map some) (args.map some) := by
    refine ⟨by simp [ok.len], fun i s e => ?_, fun i j a oi oj ei ej => ?_, fH, fun a h => h.elim⟩
    · obtain ⟨v, e1, r⟩ := ok.at_ i s (own.mp e)
      exact ⟨v, by rw [List.getElem?_map, e1]; rfl, r⟩
    · obtain ⟨s, e, p⟩ := oi
      obtain ⟨s', e', p'⟩ := oj
      have k1 := ok.knd s (List.mem_of_getElem? (own.mp e))
      have k2 := ok.knd s' (List.mem_of_getElem? (own.mp e'))
      rw [List.getElem?_map] at ei ej
      have pw : ∀ s : SV, s.own = true → s.argK = true → ∃ k d, s = .pw k d := fun s => by
        cases s <;> simp [SV.own, SV.argK]
      obtain ⟨_, _, rfl⟩ := pw s p k1
      obtain ⟨_, _, rfl⟩ := pw s' p' k2
      exact ok.sep i j _ _ _ _ a (own.mp e) (own.mp e') (by simpa using ei) (by simpa using ej)
  refine Ext.up (K := K) (B := fun _ => False) (σ := vs.map some) (env := args.map some) st ⟨h.mono, h.there, fun a o e no => h.keep a o e fun ⟨i, k, d, e1, e2⟩ => no ⟨i, ⟨_, own.mpr e1, rfl⟩, by rw [List.getElem?_map, e2]; rfl⟩⟩
end
section
variable {K : PySem.W.Frag} {B F F1 F2 : Addr → Prop} {H H1 H2 : Hp} {σ : L2.St} {env env1 : EV}
theorem call_post (st : StOk K B F H σ env) (P : Post K B σ env F H env1 F1 H1) {rs : List R} {vs : List V} {ss : List SV} (hr : RepRs K B F1 H1 σ env1 rs vs) (hn : NewRs H rs vs) (ap : apart env1 rs = true) (e : toArgs env1 rs = some ss)
    {r : R} {outs : List SV} {v : V} (q : RetOk K F1 H1 ss vs F2 H2 r outs v) : Post K B σ env F H (wb env1 rs outs) F2 H2 ∧ RepR K B F2 H2 σ (wb env1 rs outs) r v ∧ NewR H r v := by
  have s1 := P.st
  have ok := args_ok s1 hr ap e
  have u := q.up s1.fH ok
  have wbat : ∀ i, (wb env1 rs outs)[i]? = (env1[i]?).map (wb1 rs outs i) := fun i => by
    unfold wb; rw [List.getElem?_mapIdx]
  -- an owned object that was handed in is a slot's own, or new
  have argA : ∀ {a : Addr}, ArgA ss vs a → (∃ i j : Nat, Own env1 i ∧ σ[i]? = some (some (.ref a)) ∧ rs[j]? = some (.br i) ∧ vs[j]? = some (.ref a) ∧ ∃ k d, ss[j]? = some (.pw k d)) ∨ (H a = none ∧ ¬ OwA σ env1 a) := fun {a} ⟨j, k, d, e1, e2⟩ => by
    obtain ⟨r, q1, t⟩ := toArgs_at e e1
    obtain ⟨w, x, p⟩ := hr.get q1
    rw [e2] at x; cases x
    rcases toArg_pw t with rfl | ⟨i, rfl, o⟩
    · right
      obtain ⟨a', ea, na⟩ := hn.at_ q1 e2
      cases ea
      obtain ⟨a', ea, _, _, no, _⟩ := p
      cases ea
      exact ⟨na, no⟩
    · left
      refine ⟨i, j, ?_, p.1, q1, e2, k, d, e1⟩
      rcases o with o | o
      · exact ⟨_, o, rfl⟩
      · exact ⟨_, o, rfl⟩
  have le1 : ∀ (i : Nat) (s : SV), env1[i]? = some (some s) → ∃ s', (wb env1 rs outs)[i]? = some (some s') ∧ s.le s' := fun i s es => by
    rw [wbat, es]
    refine ⟨_, rfl, ?_⟩
    cases s with
    | fz d => rfl
    | pz d => rfl
    | sc ns => rfl
    | ow k d =>
      simp only [SV.own, if_true]
      cases lk i rs outs with
      | none => exact .inl ⟨_, rfl⟩
      | some o => cases o <;> first | exact .inl ⟨_, rfl⟩ | exact .inr ⟨_, rfl⟩
    | pw k d =>
      simp only [SV.own, if_true]
      cases lk i rs outs with
      | none => exact .inl ⟨_, rfl⟩
      | some o => cases o <;> first | exact .inl ⟨_, rfl⟩ | exact .inr ⟨_, rfl⟩
  have ee1 : EE env1 (wb env1 rs outs) := ⟨by simp [wb], le1, fun i ei => by rw [wbat, ei]; rfl⟩
  have keep : ∀ a o, H a = some o → ¬ OwA σ env a → (F2 a → F a) ∧ (H2 a = some o ∨ (F a ∧ IsDic o ∧ ∃ od, H2 a = some (.frz od o))) := fun a o ea no => by
    have na : ¬ ArgA ss vs a := fun h => by
      rcases argA h with ⟨i, j, oi, ei, _⟩ | ⟨hn, _⟩
      · exact no (P.ee.owA ⟨i, oi, ei⟩)
      · rw [ea] at hn; cases hn
    obtain ⟨f1, c1⟩ := P.ext.keep a o ea no
    rcases c1 with c1 | ⟨fa, dc, od, c1⟩
    · obtain ⟨f2, c2⟩ := q.keep a o c1 na
      refine ⟨fun z => f1 (f2 z), ?_⟩
      rcases c2 with c2 | ⟨fa, dc, od, c2⟩
      · exact .inl c2
      · exact .inr ⟨f1 fa, dc, od, c2⟩
    · obtain ⟨f2, c2⟩ := q.keep a _ c1 na
      refine ⟨fun z => f1 (f2 z), .inr ⟨fa, dc, ?_⟩⟩
      rcases c2 with c2 | ⟨_, dc', _⟩
      · exact ⟨od, c2⟩
      · exact dc'.elim
  have stw : StOk K B F2 H2 σ (wb env1 rs outs) := by
    refine ⟨by rw [ee1.len]; exact s1.len, fun i s' es' => ?_, fun i j a oi oj => s1.sep i j a (ee1.own oi) (ee1.own oj), q.fH, fun a b => q.there a (s1.bH a b)⟩
    rw [wbat] at es'
    simp only [Option.map_eq_some_iff] at es'
    obtain ⟨o, eo, ew⟩ := es'
    unfold wb1 at ew
    simp only [Option.map_eq_some_iff] at ew
    obtain ⟨s, rfl, ew⟩ := ew
    obtain ⟨v, ev, rp⟩ := s1.at_ i s eo
    refine ⟨v, ev, ?_⟩
    have ownc : s.own = true → ∀ (k : Bool) (a : Addr) , v = .ref a → ¬ F1 a → (∀ d d' : PyData, (s = .ow k d ∨ s = .pw k d)  → RepO K F1 H1 k a d → (lk i rs outs = none → ¬ F2 a ∧ RepO K F2 H2 k a d) ∧ ∀ o, lk i rs outs = some o → (∃ d', o = .pw k d' ∧ ¬ F2 a ∧ RepO K F2 H2 k a d') ∨ ∃ d', o = .pz d' ∧ Rep K F2 H2 d' (.ref a)) := fun ow k a eva nf d _ hs ro => by
      subst eva
      have oi : Own env1 i := ⟨s, eo, ow⟩
      refine ⟨fun hl => ?_, fun o ho => ?_⟩
      · have na : ¬ ArgA ss vs a := fun h => by
          rcases argA h with ⟨i', j, oi', ei', hj, hv, k, d, e1⟩ | ⟨_, no⟩
          · have := s1.sep i' i a oi' oi ei' ev
            subst this
            rcases q.outs j k d a e1 hv with ⟨d', e3, _⟩ | ⟨d', e3, _⟩
            · exact lk_none hl j _ hj e3
            · exact lk_none hl j _ hj e3
          · exact no ⟨i, oi, ev⟩
        cases hh : H1 a with
        | none => exact (mut_ne ro.mut hh).elim
        | some o =>
          obtain ⟨f2, c2⟩ := q.keep a o hh na
          refine ⟨fun z => nf (f2 z), ro.up u ?_⟩
          rcases c2 with c2 | ⟨fa, _⟩
          · rw [c2, hh]
          · exact (nf fa).elim
      · obtain ⟨j, hj, ho⟩ := lk_some ho
        obtain ⟨w, x, p⟩ := hr.get hj
        have : w = .ref a := by
          have := p.1
          rw [ev] at this; cases this; rfl
        subst this
        have hss : ss[j]? = some (.pw k d) := by
          cases hh : ss[j]? with
          | none =>
            rw [List.getElem?_eq_none_iff, toArgs_len e] at hh
            have := (List.getElem?_eq_some_iff.mp hj).1
            omega
          | some s2 =>
            obtain ⟨r2, q2, t2⟩ := toArgs_at e hh
            rw [hj] at q2; cases q2
            simp only [toArg, eo] at t2
            rcases hs with rfl | rfl
            · cases t2; rfl
            · cases t2; rfl
        rcases q.outs j k d a hss x with ⟨d', e3, nf', ro'⟩ | ⟨d', e3, rz⟩
        · rw [ho] at e3; cases e3; exact .inl ⟨d', rfl, nf', ro'⟩
        · rw [ho] at e3; cases e3; exact .inr ⟨d', rfl, rz⟩
    cases s with
    | fz d =>
      simp only [SV.own] at ew
      cases ew; exact Rep.up u _ _ rp
    | pz d =>
      simp only [SV.own] at ew
      cases ew; exact Rep.up u _ _ rp
    | sc ns =>
      simp only [SV.own] at ew
      cases ew
      obtain ⟨a, e, z⟩ := rp
      exact ⟨a, e, z.up u⟩
    | ow k d =>
      obtain ⟨a, rfl, nf, nb, ro⟩ := rp
      obtain ⟨c1, c2⟩ := ownc rfl k a rfl nf d d (.inl rfl) ro
      simp only [SV.own, if_true] at ew
      cases hl : lk i rs outs with
      | none =>
        rw [hl] at ew
        cases ew
        obtain ⟨nf, ro⟩ := c1 hl
        exact ⟨a, rfl, nf, nb, ro⟩
      | some o =>
        rw [hl] at ew
        rcases c2 o hl with ⟨d', rfl, nf, ro⟩ | ⟨d', rfl, rz⟩
        · cases ew
          exact ⟨a, rfl, nf, nb, ro⟩
        · cases ew
          exact rz
    | pw k d =>
      obtain ⟨a, rfl, nf, ro⟩ := rp
      obtain ⟨c1, c2⟩ := ownc rfl k a rfl nf d d (.inr rfl) ro
      simp only [SV.own, if_true] at ew
      cases hl : lk i rs outs with
      | none =>
        rw [hl] at ew
        cases ew
        obtain ⟨nf, ro⟩ := c1 hl
        exact ⟨a, rfl, nf, ro⟩
      | some o =>
        rw [hl] at ew
        rcases c2 o hl with ⟨d', rfl, nf, ro⟩ | ⟨d', rfl, rz⟩
        · cases ew
          exact ⟨a, rfl, nf, ro⟩
        · cases ew
          exact rz
  refine ⟨⟨stw, ⟨fun a f => q.mono a (P.ext.mono a f), fun a h => q.there a (P.ext.there a h), keep⟩, P.ee.trans ee1⟩, ?_, ?_⟩
  · cases r with
    | fz d => exact q.res
    | br i => exact q.res.elim
    | sc ns => exact q.res.elim
    | ow k d =>
      obtain ⟨a, e, nf, hn, ro⟩ := q.res
      exact ⟨a, e, nf, fun b => s1.bH a b hn, fun o => mut_ne (s1.owA_mut (ee1.owA o)).2 hn, ro⟩
  · cases r with
    | fz d => trivial
    | br i => trivial
    | sc ns => trivial
    | ow k d =>
      obtain ⟨a, e, nf, hn, ro⟩ := q.res
      refine ⟨a, e, ?_⟩
      cases z : H a with
      | none => rfl
      | some o => exact (P.ext.there a (by rw [z]; simp) hn).elim
end
theorem call_ok {K : PySem.W.Frag} {φ : FS} {as : VA} {E : XK} {σ : L2.St} {H : Hp} {Q : VK} (h : TV K (vCall φ as) σ H Q) : TVA K as σ H fun vs H1 => spV K φ (vs ++ []) H1 Q E := by
  obtain ⟨B, F, env, r, env', st, e, k⟩ := h
  unfold vCall at e
  rw [bind_some_iff] at e
  obtain ⟨⟨rs, e1⟩, hf, e⟩ := e
  dsimp only at e
  split at e
  · rename_i ap
    simp only [bind_some_iff, Option.map_eq_some_iff] at e
    obtain ⟨ss, hs, ⟨r', outs⟩, hφ, he⟩ := e
    cases he
    refine ⟨B, F, env, rs, e1, st, hf, fun vs F1 H1 P1 R1 N1 => ?_⟩
    simp only [List.append_nil]
    refine ⟨F1, ss, _, outs, args_ok P1.st R1 ap hs, P1.st.fH, hφ, fun v F2 H2 q => ?_⟩
    obtain ⟨P2, R2, N2⟩ := call_post st P1 R1 N1 ap hs q
    exact k v F2 H2 P2 R2 N2
  · cases e
section
variable {X : Cx} {e : Expr} {es : List Expr} {as : VA} {x : Str} {p pos : Pos} {φ : FS} {k : Nat} {f : Addr} {fd : FuncData} {ps : List Str}
theorem ve_call (Fn : FnOk X.prog X.w X.K X.mg X.base CX0 k f fd ps (spV X.K φ)) (hr : Room k X.A) (hm : X.mg x = some (.ref f)) (hk : PySem.W.keepIn X.K (.ref f) = true) (hb : Binds X.K fd ps []) (ha : VAx X (e :: es) as) (hg : Gl X x := by rfl) (hdb : (x == ("__debug__" : Str)) = false := by decide)
    (he : starEach (e :: es) X.env = (false, eval e X.env) :: starEach es X.env := by rfl) (hpl : (backTo pos (starEach es X.env)).any (·.1) = false := by rfl) : VEx X (.Call (.Name x p) (e :: es) [] pos) (vCall φ as) :=
  PE.imp (pe_call (E := fun _ _ _ => True) Fn hr hg hm hk hb .nil pass0 ha hdb he hpl) fun σ H Q h => call_ok h
theorem ve_call0 (Fn : FnOk X.prog X.w X.K X.mg X.base CX0 k f fd ps (spV X.K φ)) (hr : Room k X.A) (hm : X.mg x = some (.ref f)) (hk : PySem.W.keepIn X.K (.ref f) = true) (hb : Binds X.K fd ps []) (hg : Gl X x := by rfl) (hdb : (x == ("__debug__" : Str)) = false := by decide) : VEx X (.Call (.Name x p) [] [] pos) (vCall φ vaNil) :=
  PE.imp (pe_call0 (E := fun _ _ _ => True) Fn hr hg hm hk hb .nil pass0 hdb) fun σ H Q h => by
    obtain ⟨B, F, env, rs, env', st, e, k⟩ := call_ok (E := fun _ _ _ => True) h
    cases e
    exact k [] F H (.refl st) rfl trivial
end
end VL

/-! VL13: what is changed in place -/
namespace VL
open PySem PySem.Spec PyProof.Rows L2

def SV.k : SV → Bool
  | .ow k _ => k | .pw k _ => k | _ => false
def SV.wr : SV → PyData → SV
  | .ow k _, d => .ow k d | .pw k _, d => .pw k d | s, _ => s
section
variable {K : PySem.W.Frag} {B F F0 : Addr → Prop} {H H' H0 : Hp} {σ : L2.St} {env env0 : EV}
theorem StOk.own_k (s : StOk K B F H σ env) {i : Nat} {sv : SV} (e : env[i]? = some (some sv)) (o : sv.own = true) : ∃ a, σ[i]? = some (some (.ref a)) ∧ ¬ F a ∧ RepO K F H sv.k a sv.d := by
  obtain ⟨v, e1, r⟩ := s.at_ i sv e
  cases sv with
  | fz d => cases o
  | pz d => cases o
  | sc d => cases o
  | ow k d => obtain ⟨a, rfl, nf, _, ro⟩ := r; exact ⟨a, e1, nf, ro⟩
  | pw k d => obtain ⟨a, rfl, nf, ro⟩ := r; exact ⟨a, e1, nf, ro⟩
theorem Post.write (s0 : StOk K B F0 H0 σ env0) (p : Post K B σ env0 F0 H0 env F H) {i : Nat} {sv : SV} {a : Addr} {d' : PyData} (ei : env[i]? = some (some sv)) (ow : sv.own = true) (ea : σ[i]? = some (some (.ref a)))
    (oth : ∀ b o, b ≠ a → H b = some o → H' b = some o) (na : H' a ≠ none) (ro : Up F H F H' → RepO K F H' sv.k a d') : Post K B σ env0 F0 H0 (env.set i (some (sv.wr d'))) F H' ∧ Up F H F H' := by
  have s := p.st
  have oa : OwA σ env a := ⟨i, ⟨_, ei, ow⟩, ea⟩
  have hi := (List.getElem?_eq_some_iff.mp ei).1
  have th : ∀ b, H b ≠ none → H' b ≠ none := fun b hb => by
    by_cases z : b = a
    · rw [z]; exact na
    · cases q : H b with
      | none => exact (hb q).elim
      | some o => rw [oth b o z q]; simp
  have x : Ext σ env F H F H' := ⟨fun _ h => h, th, fun b o eb no => ⟨fun z => z, .inl (oth b o (fun z => no (z ▸ oa)) eb)⟩⟩
  have u : Up F H F H' := x.up s
  have ro := ro u
  have le : sv.le (sv.wr d') := by
    cases sv with
    | ow k d => exact .inl ⟨_, rfl⟩
    | pw k d => exact .inl ⟨_, rfl⟩
    | _ => cases ow
  have ee : EE env (env.set i (some (sv.wr d'))) := EE.set ei le
  refine ⟨p.trans s0 ⟨⟨by rw [ee.len]; exact s.len, fun j sj ej => ?_, fun j l b oj ol => s.sep j l b (ee.own oj) (ee.own ol), fun b f => th b (s.fH b f), fun b f => th b (s.bH b f)⟩, x, ee⟩, u⟩
  · by_cases hj : i = j
    · subst hj
      rw [List.getElem?_set_self hi] at ej
      cases ej
      obtain ⟨v, ev, r⟩ := s.at_ i sv ei
      rw [ea] at ev; cases ev
      refine ⟨_, ea, ?_⟩
      cases sv with
      | ow k d =>
        obtain ⟨b, eb, nf, nb, _⟩ := r
        cases eb
        exact ⟨a, rfl, nf, nb, ro⟩
      | pw k d =>
        obtain ⟨b, eb, nf, _⟩ := r
        cases eb
        exact ⟨a, rfl, nf, ro⟩
      | _ => cases ow
    · rw [List.getElem?_set_ne hj] at ej
      obtain ⟨v, ev, r⟩ := s.at_ j sj ej
      refine ⟨v, ev, ?_⟩
      have same : sj.own = true → ∀ b, v = .ref b → H' b = H b := fun oj b eb => by
        subst eb
        have nb : b ≠ a := fun z => hj (s.sep i j a ⟨_, ei, ow⟩ ⟨_, ej, oj⟩ ea (by rw [← z]; exact ev))
        have m := (s.owA_mut ⟨j, ⟨_, ej, oj⟩, ev⟩).2
        cases q : H b with
        | none => exact (mut_ne m q).elim
        | some o => exact oth b o nb q
      cases sj with
      | fz d => exact Rep.up u _ _ r
      | pz d => exact Rep.up u _ _ r
      | sc ns => obtain ⟨b, e, q⟩ := r; exact ⟨b, e, q.up u⟩
      | ow k d =>
        obtain ⟨b, e, nf, nb, r⟩ := r
        exact ⟨b, e, nf, nb, r.up u (same rfl b e)⟩
      | pw k d =>
        obtain ⟨b, e, nf, r⟩ := r
        exact ⟨b, e, nf, r.up u (same rfl b e)⟩
end

/-! ### dicts written -/
def dput (kvs : List (PyData × PyData)) (k d : PyData) : List (PyData × PyData) :=
  if (kvs.any fun p => PyData.eqv p.1 k) = true then kvs.map (fun p => if PyData.eqv p.1 k = true then (p.1, d) else p) else kvs ++ [(k, d)]
def dmerge (kvs more : List (PyData × PyData)) : List (PyData × PyData) := more.foldl (fun acc p => dput acc p.1 p.2) kvs
section
variable {K : PySem.W.Frag} {F : Addr → Prop} {H : Hp}
theorem RepK.len : ∀ {kvs : List (PyData × PyData)} {ks : List (Key × V)}, RepK K F H kvs ks → kvs.length = ks.length
  | [], ks, h => by rw [RepK] at h; subst h; rfl
  | p :: r, ks, h => by
    rw [RepK] at h
    obtain ⟨q, x, t, rfl, _, h⟩ := h
    simp [h.len]
theorem RepT.len : ∀ {kvs : List (PyData × PyData)} {ks : List (List Key × V)}, RepT K F H kvs ks → kvs.length = ks.length
  | [], ks, h => by rw [RepT] at h; subst h; rfl
  | p :: r, ks, h => by
    rw [RepT] at h
    obtain ⟨q, x, t, rfl, _, h⟩ := h
    simp [h.len]
theorem repP_iff {p : PyData × PyData} {k : PyData} {x : V} : RepP K F H p k x ↔ p.1 = k ∧ Rep K F H p.2 x := by
  obtain ⟨a, b⟩ := p; rw [RepP]
theorem RepK.any : ∀ {kvs : List (PyData × PyData)} {ks : List (Key × V)} (k : Key), RepK K F H kvs ks → (kvs.any fun p => PyData.eqv p.1 (keyD k)) = ks.any fun kv => decide (kv.1 = k)
  | [], ks, k, h => by rw [RepK] at h; subst h; rfl
  | p :: r, ks, k, h => by
    rw [RepK] at h
    obtain ⟨q, x, t, rfl, h1, h⟩ := h
    rw [List.any_cons, List.any_cons, (repP_iff.mp h1).1, eqv_keyD, h.any k]
theorem RepT.any : ∀ {kvs : List (PyData × PyData)} {ks : List (List Key × V)} (k : List Key), RepT K F H kvs ks → (kvs.any fun p => PyData.eqv p.1 (.tuple (k.map keyD))) = ks.any fun kv => decide (kv.1 = k)
  | [], ks, k, h => by rw [RepT] at h; subst h; rfl
  | p :: r, ks, k, h => by
    rw [RepT] at h
    obtain ⟨q, x, t, rfl, h1, h⟩ := h
    rw [List.any_cons, List.any_cons, (repP_iff.mp h1).1, eqv_tupD, h.any k]
theorem RepK.repl : ∀ {kvs : List (PyData × PyData)} {ks : List (Key × V)} (k : Key) {d : PyData} {v : V}, Rep K F H d v → RepK K F H kvs ks →
    RepK K F H (kvs.map (fun p => if PyData.eqv p.1 (keyD k) = true then (p.1, d) else p)) (ks.map (fun kv => if kv.1 = k then (kv.1, v) else kv))
  | [], ks, k, d, v, rv, h => by rw [RepK] at h; subst h; rw [List.map_nil, List.map_nil, RepK]
  | p :: r, ks, k, d, v, rv, h => by
    rw [RepK] at h
    obtain ⟨q, x, t, rfl, h1, h⟩ := h
    have ih := h.repl k rv
    obtain ⟨e1, r1⟩ := repP_iff.mp h1
    rw [List.map_cons, List.map_cons, RepK, e1, eqv_keyD]
    by_cases e : q = k
    · simp only [e, decide_true, if_true]
      exact ⟨k, v, _, rfl, repP_iff.mpr ⟨rfl, rv⟩, by simpa using ih⟩
    · simp only [e, decide_false, if_false, Bool.false_eq_true]
      exact ⟨q, x, _, rfl, h1, by simpa using ih⟩
theorem RepT.repl : ∀ {kvs : List (PyData × PyData)} {ks : List (List Key × V)} (k : List Key) {d : PyData} {v : V}, Rep K F H d v → RepT K F H kvs ks →
    RepT K F H (kvs.map (fun p => if PyData.eqv p.1 (.tuple (k.map keyD)) = true then (p.1, d) else p)) (ks.map (fun kv => if kv.1 = k then (kv.1, v) else kv))
  | [], ks, k, d, v, rv, h => by rw [RepT] at h; subst h; rw [List.map_nil, List.map_nil, RepT]
  | p :: r, ks, k, d, v, rv, h => by
    rw [RepT] at h
    obtain ⟨q, x, t, rfl, h1, h⟩ := h
    have ih := h.repl k rv
    obtain ⟨e1, r1⟩ := repP_iff.mp h1
    rw [List.map_cons, List.map_cons, RepT, e1, eqv_tupD]
    by_cases e : q = k
    · simp only [e, decide_true, if_true]
      exact ⟨k, v, _, rfl, repP_iff.mpr ⟨rfl, rv⟩, by simpa using ih⟩
    · simp only [e, decide_false, if_false, Bool.false_eq_true]
      exact ⟨q, x, _, rfl, h1, by simpa using ih⟩
theorem RepK.snoc : ∀ {kvs : List (PyData × PyData)} {ks : List (Key × V)} (k : Key) {d : PyData} {v : V}, Rep K F H d v → RepK K F H kvs ks → RepK K F H (kvs ++ [(keyD k, d)]) (ks ++ [(k, v)])
  | [], ks, k, d, v, rv, h => by
    rw [RepK] at h; subst h
    rw [List.nil_append, List.nil_append, RepK]
    exact ⟨k, v, [], rfl, repP_iff.mpr ⟨rfl, rv⟩, by rw [RepK]⟩
  | p :: r, ks, k, d, v, rv, h => by
    rw [RepK] at h
    obtain ⟨q, x, t, rfl, h1, h⟩ := h
    rw [List.cons_append, List.cons_append, RepK]
    exact ⟨q, x, _, rfl, h1, h.snoc k rv⟩
theorem RepT.snoc : ∀ {kvs : List (PyData × PyData)} {ks : List (List Key × V)} (k : List Key) {d : PyData} {v : V}, Rep K F H d v → RepT K F H kvs ks → RepT K F H (kvs ++ [(.tuple (k.map keyD), d)]) (ks ++ [(k, v)])
  | [], ks, k, d, v, rv, h => by
    rw [RepT] at h; subst h
    rw [List.nil_append, List.nil_append, RepT]
    exact ⟨k, v, [], rfl, repP_iff.mpr ⟨rfl, rv⟩, by rw [RepT]⟩
  | p :: r, ks, k, d, v, rv, h => by
    rw [RepT] at h
    obtain ⟨q, x, t, rfl, h1, h⟩ := h
    rw [List.cons_append, List.cons_append, RepT]
    exact ⟨q, x, _, rfl, h1, h.snoc k rv⟩
theorem RepK.put {kvs : List (PyData × PyData)} {ks : List (Key × V)} (k : Key) {d : PyData} {v : V} (rv : Rep K F H d v) (h : RepK K F H kvs ks) : RepK K F H (dput kvs (keyD k) d) (putK ks k v) := by
  unfold dput putK
  rw [h.any k]
  split
  · exact h.repl k rv
  · exact h.snoc k rv
theorem RepT.put {kvs : List (PyData × PyData)} {ks : List (List Key × V)} (k : List Key) {d : PyData} {v : V} (rv : Rep K F H d v) (h : RepT K F H kvs ks) : RepT K F H (dput kvs (.tuple (k.map keyD)) d) (putK ks k v) := by
  unfold dput putK
  rw [h.any k]
  split
  · exact h.repl k rv
  · exact h.snoc k rv
theorem RepK.merge : ∀ {more : List (PyData × PyData)} {ms : List (Key × V)} {kvs : List (PyData × PyData)} {ks : List (Key × V)}, RepK K F H more ms → RepK K F H kvs ks → RepK K F H (dmerge kvs more) (mergeK ks ms)
  | [], ms, kvs, ks, h, h' => by rw [RepK] at h; subst h; exact h'
  | p :: r, ms, kvs, ks, h, h' => by
    rw [RepK] at h
    obtain ⟨q, x, t, rfl, h1, h⟩ := h
    obtain ⟨e1, r1⟩ := repP_iff.mp h1
    have := RepK.merge h (h'.put q r1)
    unfold dmerge mergeK at this ⊢
    rw [List.foldl_cons, List.foldl_cons, e1]
    exact this
end

/-! ### methods that change their object -/
abbrev FM := Bool → PyData → List PyData → Option (PyData × PyData)
def rM (K : PySem.W.Frag) (g : FM) : V → List V → Hp → VK → Prop := fun x vs H Q => ∃ F k a d ds r d', x = .ref a ∧ (∀ c, F c → H c ≠ none) ∧ ¬ F a ∧ RepO K F H k a d ∧ RepA K F H ds vs ∧ g k d ds = some (r, d') ∧
  ∀ v H', (∀ b o, b ≠ a → H b = some o → H' b = some o) → H' a ≠ none → (Up F H F H' → Rep K F H' r v ∧ RepO K F H' k a d') → Q v H'
def upd_oth {H : Hp} {a : Addr} {o' : HO} : ∀ b o, b ≠ a → H b = some o → upd H a o' b = some o := fun b o n e => by rw [upd_ne n]; exact e
def appendG : FM := fun _ d ds => match d, ds with
  | .list xs, [y] => if xs.length < sizeLine then some (.none, .list (xs ++ [y])) else none
  | _, _ => none
def extendG : FM := fun _ d ds => match d, ds with
  | .list xs, [.list ys] => if xs.length + ys.length ≤ sizeLine then some (.none, .list (xs ++ ys)) else none
  | _, _ => none
def popG : FM := fun _ d ds => match d, ds with
  | .list xs, [] => (xs[xs.length - 1]?).map fun y => (y, .list xs.dropLast)
  | _, _ => none
def popAtG : FM := fun _ d ds => match d, ds with
  | .list xs, [.int i] => if decide (-(2 ^ 63) ≤ i) && decide (i < 2 ^ 63) then (seqIndex? i xs.length).bind fun k => (xs[k]?).map fun y => (y, .list (xs.eraseIdx k)) else none
  | _, _ => none
def updateG : FM := fun k d ds => match k, d, ds with
  | false, .dict kvs, [.dict more] => match dkOf (.dict more) with
    | some (false, _) => if kvs.length + more.length ≤ sizeLine then some (.none, .dict (dmerge kvs more)) else none
    | _ => none
  | _, _, _ => none
section
variable {K : PySem.W.Frag} {F : Addr → Prop} {H : Hp}
theorem repA_one {d : PyData} {vs : List V} (h : RepA K F H [d] vs) : ∃ v, vs = [v] ∧ Rep K F H d v := by
  rw [RepA] at h
  obtain ⟨v, r, rfl, h1, h2⟩ := h
  rw [RepA] at h2; subst h2
  exact ⟨v, rfl, h1⟩
theorem RepA.dropLast {ds : List PyData} {xs : List V} (h : RepA K F H ds xs) : RepA K F H ds.dropLast xs.dropLast := by
  rw [List.dropLast_eq_take, List.dropLast_eq_take, ← h.len]
  exact RepA.take _ h
theorem repA_nil' {vs : List V} (h : RepA K F H [] vs) : vs = [] := by rw [RepA] at h; exact h
end
section
variable {X : Cx}
theorem m_append : MtR X "list.append" (rM X.K appendG) := by
  intro pins s σ H x vs v us Q I rx rv h
  obtain ⟨F, k, a, d, ds, r, d', rfl, fH, nf, ro, ra, e, q⟩ := h
  unfold appendG at e
  split at e
  · split at e
    · rename_i hl
      cases e
      obtain ⟨xs, hx, rx'⟩ := ro
      obtain ⟨y, rfl, ry⟩ := repA_one ra
      refine mt_append pins s σ H (.ref a) [y] v us Q I rx rv ⟨a, xs, y, rfl, rfl, hx, by rw [← rx'.len]; exact hl, q _ _ upd_oth (by rw [upd_same]; simp) fun u => ⟨rep_noneI, _, upd_same, ?_⟩⟩
      exact (RepA.up u _ _ rx').append (.one (Rep.up u _ _ ry))
    · cases e
  · cases e
theorem m_extend : MtR X "list.extend" (rM X.K extendG) := by
  intro pins s σ H x vs v us Q I rx rv h
  obtain ⟨F, k, a, d, ds, r, d', rfl, fH, nf, ro, ra, e, q⟩ := h
  unfold extendG at e
  split at e
  · split at e
    · rename_i hl
      cases e
      obtain ⟨xs, hx, rx'⟩ := ro
      obtain ⟨y, rfl, ry⟩ := repA_one ra
      rw [Rep] at ry
      obtain ⟨b, ys, rfl, _, hb, ry⟩ := ry
      refine mt_extend pins s σ H (.ref a) [.ref b] v us Q I rx rv ⟨a, b, xs, ys, rfl, rfl, hx, hb, by rw [← rx'.len, ← ry.len]; exact hl, q _ _ upd_oth (by rw [upd_same]; simp) fun u => ⟨rep_noneI, _, upd_same, ?_⟩⟩
      exact (RepA.up u _ _ rx').append (RepA.up u _ _ ry)
    · cases e
  · cases e
theorem m_pop : MtR X "list.pop" (rM X.K popG) := by
  intro pins s σ H x vs v us Q I rx rv h
  obtain ⟨F, k, a, d, ds, r, d', rfl, fH, nf, ro, ra, e, q⟩ := h
  unfold popG at e
  split at e
  · simp only [Option.map_eq_some_iff] at e
    obtain ⟨y, hy, e⟩ := e
    cases e
    obtain ⟨xs, hx, rx'⟩ := ro
    cases repA_nil' ra
    obtain ⟨v', hv, ry⟩ := rx'.get hy
    rw [rx'.len] at hv
    refine mt_pop pins s σ H (.ref a) [] v us Q I rx rv ⟨a, xs, v', rfl, rfl, hx, hv, q _ _ upd_oth (by rw [upd_same]; simp) fun u => ⟨Rep.up u _ _ ry, _, upd_same, ?_⟩⟩
    exact RepA.dropLast (RepA.up u _ _ rx')
  · cases e
theorem m_popAt : MtR X "list.pop" (rM X.K popAtG) := by
  intro pins s σ H x vs v us Q I rx rv h
  obtain ⟨F, k, a, d, ds, r, d', rfl, fH, nf, ro, ra, e, q⟩ := h
  unfold popAtG at e
  split at e
  · split at e
    · rename_i hi
      simp only [Bool.and_eq_true, decide_eq_true_eq] at hi
      simp only [bind_some_iff, Option.map_eq_some_iff] at e
      obtain ⟨j, hj, y, hy, e⟩ := e
      cases e
      obtain ⟨xs, hx, rx'⟩ := ro
      obtain ⟨iv, rfl, ri⟩ := repA_one ra
      obtain ⟨v', hv, ry⟩ := rx'.get hy
      refine mt_popAt pins s σ H (.ref a) _ v us Q I rx rv ⟨a, xs, _, j, v', rfl, by rw [rep_int.mp ri], hx, hi.1, hi.2, by rw [← rx'.len]; exact hj, hv, q _ _ upd_oth (by rw [upd_same]; simp) fun u => ⟨Rep.up u _ _ ry, _, upd_same, ?_⟩⟩
      exact RepA.erase _ (RepA.up u _ _ rx')
    · cases e
  · cases e
theorem m_update : MtR X "dict.update" (rM X.K updateG) := by
  intro pins s σ H x vs v us Q I rx rv h
  obtain ⟨F, k, a, d, ds, r, d', rfl, fH, nf, ro, ra, e, q⟩ := h
  unfold updateG at e
  split at e
  · rename_i kvs more
    split at e
    · rename_i m hm
      split at e
      · rename_i hl
        cases e
        obtain ⟨ks, hk, rk⟩ := ro
        obtain ⟨y, rfl, ry⟩ := repA_one ra
        have fo : ∀ o, y = .ref o → F o := fun o e => by
          rw [Rep] at ry
          obtain ⟨_, b, e', ⟨f, _⟩ | ⟨z, _⟩⟩ := ry
          · rw [e] at e'; cases e'; exact f
          · subst z; simp [dkOf, okK] at hm
        have em : m = more := by
          cases more with
          | nil => simp [dkOf] at hm
          | cons p r =>
            simp only [dkOf] at hm
            split at hm
            · simp only [Option.some.injEq, Prod.mk.injEq] at hm; exact hm.2.symm
            · cases hm
        subst em
        obtain ⟨o, rfl, ms, ho, rm⟩ := dkOf_ok ry hm
        have hne : a ≠ o := fun z => nf (z ▸ fo o rfl)
        cases rx
        obtain ⟨u, rfl, ru⟩ := rv.one
        cases (show u = Value.ref o from ru)
        obtain ⟨z, hd, vs0, rel, dd⟩ := dk_of I.hok hk
        obtain ⟨z2, hd2, vs2, rel2, dd2⟩ := dk_rd I.hok ho
        have hsz : vs0.length + vs2.length ≤ sizeLine := by rw [← rel.length, ← rel2.length, ← rk.len, ← rm.len]; exact hl
        have hz : (mergeK ks ms).length ≤ sizeLine := by
          have h1 := length_mergeK ms ks
          rw [← rk.len, ← rm.len] at h1
          omega
        refine call_meetsIn PySem.F.slot_dict_update dd.typeIs PySem.F.entry_dict_update (PySem.F.args_dict_update_2 _ _) (meets_dict_update (mixKind X.prog X.w) a o hne hd2) ⟨vs0, vs2, dd, dd2, hsz, fun h' dm _ hs => ?_⟩
        have he : ∃ q, h'.get? a = some q := let ⟨q, _, _, hq, _⟩ := dm; ⟨q, hq⟩
        refine ⟨.non, upd H a (.dK (mergeK ks ms)), d_write (t' := s.toks) I (by rw [hk]; trivial) hs he (dk_new hz hd (rel2.merge rel) dm), rfl, q _ _ upd_oth (by rw [upd_same]; simp) fun u => ⟨rep_noneI, _, upd_same, ?_⟩⟩
        exact RepK.merge (RepK.up u _ _ rm) (RepK.up u _ _ rk)
      · cases e
    · cases e
  · cases e
end
/-- c.m(..) on a slot's own object -/
def tyOwn (T : String) (env : EV) (c : Nat) : Bool := match env[c]? with
  | some (some s) => s.own && (match s.d with
    | .list _ => T == "list"
    | .dict _ => T == "dict"
    | _ => false)
  | _ => false
def doM (g : FM) (c : Nat) (ds : List PyData) (env : EV) : Option (R × EV) := match env[c]? with
  | some (some s) => if s.own = true then (g s.k s.d ds).map fun q => (.fz q.1, env.set c (some (s.wr q.2))) else none
  | _ => none
def vMut (T : String) (g : FM) (c : Nat) (as : VU) : VE := fun env => if tyOwn T env c = true then (as env).bind fun p => doM g c p.1 p.2 else none
section
variable {K : PySem.W.Frag} {B F F0 : Addr → Prop} {H H' H0 : Hp} {σ : L2.St} {env env0 : EV}
theorem doM_ok {g : FM} {c : Nat} {ds : List PyData} {r : R} {env' : EV} {vs : List V} {Q : VK} (s0 : StOk K B F0 H0 σ env0) (P : Post K B σ env0 F0 H0 env F H) (ra : RepA K F H ds vs) (e : doM g c ds env = some (r, env')) {x : V} (ex : σ[c]? = some (some x))
    (k : ∀ v F' H', Post K B σ env0 F0 H0 env' F' H' → RepR K B F' H' σ env' r v → NewR H0 r v → Q v H') : rM K g x vs H Q := by
  unfold doM at e
  split at e
  · rename_i sv ec
    split at e
    · rename_i ow
      simp only [Option.map_eq_some_iff] at e
      obtain ⟨⟨r', d'⟩, hg, he⟩ := e
      cases he
      obtain ⟨a, ea, nf, ro⟩ := P.st.own_k ec ow
      rw [ex] at ea; cases ea
      refine ⟨F, sv.k, a, sv.d, ds, r', d', rfl, P.st.fH, nf, ro, ra, hg, fun v H' oth na up => ?_⟩
      obtain ⟨P', u⟩ := P.write s0 ec ow ex oth na fun u => (up u).2
      exact k v F H' P' (up u).1 trivial
    · cases e
  · cases e
theorem tyOwn_ok {T : String} {c : Nat} (s : StOk K B F H σ env) (e : tyOwn T env c = true) : ∃ x, σ[c]? = some (some x) ∧ tyV K T x H := by
  unfold tyOwn at e
  split at e
  · rename_i sv ec
    simp only [Bool.and_eq_true] at e
    obtain ⟨a, ea, _, ro⟩ := s.own_k ec e.1
    refine ⟨_, ea, ?_⟩
    obtain ⟨_, e⟩ := e
    revert ro e
    cases sv.d with
    | list ds =>
      intro ro e
      obtain ⟨xs, hx, _⟩ := ro
      exact .inl ⟨by simpa using e, xs, .inl (.inl hx)⟩
    | dict kvs =>
      intro ro e
      have : T = "dict" := by simpa using e
      subst this
      refine .inr (.inr (.inl ⟨rfl, ?_⟩))
      revert ro
      cases sv.k with
      | true => exact fun ro => let ⟨ks, h, _⟩ := ro; .inr ⟨ks, h⟩
      | false => exact fun ro => let ⟨ks, h, _⟩ := ro; .inl ⟨ks, h⟩
    | _ => intro _ e; simp at e
  · cases e
end
section
variable {X : Cx} {e : Expr} {es : List Expr} {as : VU} {c : Nat} {x : Str} {p apos cpos : Pos} {g : FM} {T id : String} {name : Str}
theorem ve_mut (pa : PlainAttrs T) (slot : Slot T name id) (hty : typeOf (.builtin id) = pure (.type "method_descriptor")) (hm : MtR X id (rM X.K g)) (ha : VUx X (e :: es) as) (hN : X.N[c]? = some x := by rfl)
    (hv : Vis X.env.scope x := by first | exact Or.inl rfl | exact Or.inr (Or.inl rfl) | exact Or.inr (Or.inr rfl)) (hd : (x == ("__debug__" : Str)) = false := by decide) (hcd : (x == ("__classdict__" : Str)) = false := by decide)
    (hbase : attributeBase (.Name x p) name X.env (eval (.Name x p) X.env) = eval (.Name x p) X.env := by rfl)
    (hfew : ((backTo cpos (starEach (e :: es) X.env)).all (fun x => !x.1) && (backToKw cpos (keywordEach [] X.env)).all (fun x => x.1.isSome)
      && decide ((e :: es).length + ([] : List Keyword).length + (if ([] : List Keyword).isEmpty then 0 else 1) < 30)) = true := by rfl)
    (hline : (apos.endLine == cpos.line) = true := by rfl) (hs : starEach (e :: es) X.env = (false, eval e X.env) :: starEach es X.env := by rfl) (hplain : (backTo cpos (starEach es X.env)).any (·.1) = false := by rfl) :
    VEx X (.Call (.Attribute (.Name x p) name apos) (e :: es) [] cpos) (vMut T g c as) :=
  PE.imp (pe_bm pa slot hty hm (pe_var hN hv hd hcd) ha hbase hfew hline hs hplain) fun σ H Q h => by
    obtain ⟨B, F, env, r, env', st, e, k⟩ := h
    unfold vMut at e
    split at e
    · rename_i ht
      rw [bind_some_iff] at e
      obtain ⟨⟨ds, e1⟩, hf, e⟩ := e
      obtain ⟨y, ey, ty⟩ := tyOwn_ok st ht
      exact ⟨y, ey, ty, B, F, env, ds, e1, st, hf, fun vs F1 H1 P R => doM_ok st P R e ey k⟩
    · cases e
theorem ve_mut0 (pa : PlainAttrs T) (slot : Slot T name id) (hty : typeOf (.builtin id) = pure (.type "method_descriptor")) (hm : MtR X id (rM X.K g)) (hN : X.N[c]? = some x := by rfl)
    (hv : Vis X.env.scope x := by first | exact Or.inl rfl | exact Or.inr (Or.inl rfl) | exact Or.inr (Or.inr rfl)) (hd : (x == ("__debug__" : Str)) = false := by decide) (hcd : (x == ("__classdict__" : Str)) = false := by decide)
    (hbase : attributeBase (.Name x p) name X.env (eval (.Name x p) X.env) = eval (.Name x p) X.env := by rfl) (hline : (apos.endLine == cpos.line) = true := by rfl) :
    VEx X (.Call (.Attribute (.Name x p) name apos) [] [] cpos) (vMut T g c vuNil) :=
  PE.imp (pe_bm0 pa slot hty hm (pe_var hN hv hd hcd) hbase hline) fun σ H Q h => by
    obtain ⟨B, F, env, r, env', st, e, k⟩ := h
    unfold vMut at e
    split at e
    · rename_i ht
      rw [bind_some_iff] at e
      obtain ⟨⟨ds, e1⟩, hf, e⟩ := e
      obtain ⟨y, ey, ty⟩ := tyOwn_ok st ht
      cases hf
      exact ⟨y, ey, ty, doM_ok st (.refl st) repA_nil e ey k⟩
    · cases e
end
end VL

/-! VL14: stores, op=, isinstance, displays of dicts, list(range(..)), count, d.get(k, x), xs[::-1] -/
namespace VL
open PySem PySem.Spec PyProof.Rows L2

/-! ### c[i] = v -/
def setG : Bool → PyData → PyData → PyData → Option PyData
  | _, .list xs, .int i, v => (ixN xs.length i).map fun j => .list (xs.set j v)
  | false, .dict kvs, k, v => (key? k).bind fun _ => if kvs.length < sizeLine then some (.dict (dput kvs k v)) else none
  | true, .dict kvs, k, v => (keyT? k).bind fun ks => if kvs.length < sizeLine then some (.dict (dput kvs (.tuple (ks.map keyD)) v)) else none
  | _, _, _, _ => none
def rSet (K : PySem.W.Frag) : TSet := fun o i v H Q => ∃ F k a d di dv d', o = .ref a ∧ (∀ c, F c → H c ≠ none) ∧ ¬ F a ∧ RepO K F H k a d ∧ Rep K F H di i ∧ Rep K F H dv v ∧ setG k d di dv = some d' ∧
  ∀ H', (∀ b o, b ≠ a → H b = some o → H' b = some o) → H' a ≠ none → (Up F H F H' → RepO K F H' k a d') → Q H'
section
variable {X : Cx}
theorem s_set (hu : X.A.units + 1 < cLine) : PSet X (rSet X.K) := by
  intro pins s σ H o i v ov iv u Q I ro ri rv h
  obtain ⟨F, k, a, d, di, dv, d', rfl, fH, nf, r0, r1, r2, e, q⟩ := h
  unfold setG at e
  split at e
  · simp only [Option.map_eq_some_iff] at e
    obtain ⟨j, hj, rfl⟩ := e
    obtain ⟨xs, hx, rx⟩ := r0
    rw [rx.len] at hj
    exact set_list pins s σ H (.ref a) i v ov iv u Q I ro ri rv ⟨a, xs, _, j, rfl, rep_int.mp r1, hx, hj, q _ upd_oth (by rw [upd_same]; simp) fun up => ⟨_, upd_same, RepA.set _ (RepA.up up _ _ rx) (Rep.up up _ _ r2)⟩⟩
  · simp only [bind_some_iff] at e
    obtain ⟨kk, hk, e⟩ := e
    split at e
    · rename_i hl
      cases e
      obtain ⟨ks, hx, rx⟩ := r0
      obtain rfl := key?_eq hk
      obtain rfl := rep_key r1
      exact set_dict hu pins s σ H (.ref a) _ v ov iv u Q I ro ri rv ⟨a, _, rfl, DPut.k hx (by rw [← rx.len]; exact hl), q _ upd_oth (by rw [upd_same]; simp) fun up => ⟨_, upd_same, RepK.put kk (Rep.up up _ _ r2) (RepK.up up _ _ rx)⟩⟩
    · cases e
  · simp only [bind_some_iff] at e
    obtain ⟨kk, hk, e⟩ := e
    split at e
    · rename_i hl
      cases e
      obtain ⟨ks, hx, rx⟩ := r0
      obtain ⟨b, rfl, hb⟩ := keyT?_ok (Rep.rdd r1) hk
      exact set_dict hu pins s σ H (.ref a) _ v ov iv u Q I ro ri rv ⟨a, _, rfl, DPut.t hx hb (by rw [← rx.len]; exact hl), q _ upd_oth (by rw [upd_same]; simp) fun up => ⟨_, upd_same, RepT.put kk (Rep.up up _ _ r2) (RepT.up up _ _ rx)⟩⟩
    · cases e
  · cases e
end
def doSet (c : Nat) (di dv : PyData) (env : EV) : Option EV := match env[c]? with
  | some (some s) => if s.own = true then (setG s.k s.d di dv).map fun d' => env.set c (some (s.wr d')) else none
  | _ => none
def hasV (env : EV) (c : Nat) : Bool := match env[c]? with
  | some (some _) => true
  | _ => false
def vStore (c : Nat) (fi fe : VE) : VS := fun env => (vUse fe env).bind fun p => if hasV p.2 c = true then (vUse fi p.2).bind fun q => (doSet c q.1 p.1 q.2).map fun e => (.nx, e) else none
section
variable {K : PySem.W.Frag} {B F F0 : Addr → Prop} {H H' H0 : Hp} {σ : L2.St} {env env0 : EV}
theorem doSet_ok {c : Nat} {di dv : PyData} {env' : EV} {i v : V} {Q : Hp → Prop} (s0 : StOk K B F0 H0 σ env0) (P : Post K B σ env0 F0 H0 env F H) (ri : Rep K F H di i) (rv : Rep K F H dv v) (e : doSet c di dv env = some env') {x : V} (ex : σ[c]? = some (some x))
    (k : ∀ F' H', Post K B σ env0 F0 H0 env' F' H' → Q H') : rSet K x i v H Q := by
  unfold doSet at e
  split at e
  · rename_i sv ec
    split at e
    · rename_i ow
      simp only [Option.map_eq_some_iff] at e
      obtain ⟨d', hg, he⟩ := e
      cases he
      obtain ⟨a, ea, nf, ro⟩ := P.st.own_k ec ow
      rw [ex] at ea; cases ea
      refine ⟨F, sv.k, a, sv.d, di, dv, d', rfl, P.st.fH, nf, ro, ri, rv, hg, fun H' oth na up => ?_⟩
      exact k F H' (P.write s0 ec ow ex oth na up).1
    · cases e
  · cases e
theorem hasV_ok {c : Nat} (s : StOk K B F H σ env) (e : hasV env c = true) : ∃ x, σ[c]? = some (some x) := by
  unfold hasV at e
  split at e
  · rename_i sv ec
    obtain ⟨v, ev, _⟩ := s.at_ c sv ec
    exact ⟨v, ev⟩
  · cases e
end
section
variable {X : Cx} {e i : Expr} {fe fi : VE} {c : Nat} {x : Str} {p tpos pos : Pos}
theorem vs_store (hu : X.A.units + 1 < cLine) (he : VEx X e fe) (hi : VEx X i fi) (hN : X.N[c]? = some x := by rfl) (hv : Vis X.env.scope x := by first | exact Or.inl rfl | exact Or.inr (Or.inl rfl) | exact Or.inr (Or.inr rfl))
    (hd : (x == ("__debug__" : Str)) = false := by decide) (hcd : (x == ("__classdict__" : Str)) = false := by decide)
    (ha : ∀ v, assign (.Subscript (.Name x p) i tpos) X.env v = (do
      let ov ← holding [v] (eval (.Name x p) X.env)
      let iv ← holding [v, ov] (eval i X.env)
      standAt tpos
      holding [v, ov, iv] (setItem ov iv v)
      release [v, ov, iv] []) := by intro _; rfl)
    (hs : swapsWithSole [.Subscript (.Name x p) i tpos] e pos.line X.env = pure false := by rfl) (hw : swappedStores [.Subscript (.Name x p) i tpos] e X.env = pure none := by rfl)
    (h1 : (assignEach [.Subscript (.Name x p) i tpos] X.env).map (·.2) = [assign (.Subscript (.Name x p) i tpos) X.env] := by rfl) :
    VSx X (.Assign [.Subscript (.Name x p) i tpos] e pos) (vStore c fi fe) :=
  PS.imp (ps_asg he (pg_sub (pe_var hN hv hd hcd) hi (s_set hu) ha) hs hw h1) fun D σ H h => by
    obtain ⟨B, F, env, fl, env', s, e, k⟩ := h
    unfold vStore at e
    rw [bind_some_iff] at e
    obtain ⟨⟨dv, e1⟩, hf, e⟩ := e
    dsimp only at e
    split at e
    case isFalse => cases e
    rename_i hc
    simp only [bind_some_iff, Option.map_eq_some_iff] at e
    obtain ⟨⟨di, e2⟩, hg, e3, hd, he⟩ := e
    cases he
    refine tu_of ⟨B, F, env, dv, e1, s, hf, fun v F1 H1 P1 R1 => ?_⟩
    have ex : ∃ y, σ[c]? = some (some y) := hasV_ok P1.st hc
    obtain ⟨y, ey⟩ := ex
    refine ⟨y, ey, tu_of ⟨B, F1, e1, di, e2, P1.st, hg, fun iv F2 H2 P2 R2 => ?_⟩⟩
    exact doSet_ok s (P1.trans s P2) R2 (Rep.up (P2.up P1.st) _ _ R1) hd ey fun F' H' P => k σ F' H' (.of P)
end

/-! ### name op= e -/
def vAug (c : Nat) (g : F2) (f : VE) : VS := fun env => match env[c]? with
  | some (some (.fz d)) => (f env).bind fun p => (rd p.2 p.1).bind fun a => match g d a with
    | some (.fz d') => if free? p.2 c = true then some (.nx, p.2.set c (some (.fz d'))) else none
    | _ => none
  | _ => none
def ntF (f : Int → Int → Option Int) : F2
  | .int i, .int j => (f i j).map fun k => .fz (.int k)
  | _, _ => none
def iaddF : F2 := ntF fun i j => some (i + j)
def isubF : F2 := ntF fun i j => some (i - j)
def imulF : F2 := ntF fun i j => if mulOk i j = true then some (i * j) else none
def ifdivF : F2 := ntF fun i j => if decide (0 < j) && decide (j.natAbs.log2 < 9000) then some (i / j) else none
def imodF : F2 := ntF fun i j => if 0 < j then some (i % j) else none
section
variable {X : Cx}
theorem ntF_open {K : PySem.W.Frag} {f : Int → Int → Option Int} {x y : V} {H : Hp} {Q : VK} (h : rOp2 K (ntF f) x y H Q) : ∃ i j k, x = .int i ∧ y = .int j ∧ f i j = some k ∧ Q (.int k) H := by
  obtain ⟨F, a, b, r, fH, ha, hb, e, q⟩ := h
  unfold ntF at e
  split at e
  · simp only [Option.map_eq_some_iff] at e
    obtain ⟨k, hk, rfl⟩ := e
    exact ⟨_, _, k, rdd_int.mp ha, rdd_int.mp hb, hk, q _ _ (Res.fz rep_intI)⟩
  · cases e
theorem i_add : OpR X (inplaceOp .Add) (rOp2 X.K iaddF) := OpR.imp iop_add fun x y H Q h => by
  obtain ⟨i, j, k, rfl, rfl, e, q⟩ := ntF_open h
  cases e
  exact ⟨i, j, rfl, rfl, q⟩
theorem i_sub : OpR X (inplaceOp .Sub) (rOp2 X.K isubF) := OpR.imp iop_sub fun x y H Q h => by
  obtain ⟨i, j, k, rfl, rfl, e, q⟩ := ntF_open h
  cases e
  exact ⟨i, j, rfl, rfl, q⟩
theorem iop_mulA : OpR X (inplaceOp .Mult) (rI (fun i j => mulOk i j = true) fun i j => .int (i * j)) := opI fun _ _ _ _ _ _ _ hc q => imul_int q (CMul.of hc)
theorem i_mul : OpR X (inplaceOp .Mult) (rOp2 X.K imulF) := OpR.imp iop_mulA fun x y H Q h => by
  obtain ⟨i, j, k, rfl, rfl, e, q⟩ := ntF_open h
  split at e
  · cases e; exact ⟨i, j, rfl, rfl, by assumption, q⟩
  · cases e
theorem i_fdiv : OpR X (inplaceOp .FloorDiv) (rOp2 X.K ifdivF) := OpR.imp iop_fdivW fun x y H Q h => by
  obtain ⟨i, j, k, rfl, rfl, e, q⟩ := ntF_open h
  split at e
  · rename_i ok
    cases e
    simp only [Bool.and_eq_true, decide_eq_true_eq] at ok
    exact ⟨i, j, rfl, rfl, ⟨ok.1, ok.2⟩, q⟩
  · cases e
theorem i_mod : OpR X (inplaceOp .Mod) (rOp2 X.K imodF) := OpR.imp iop_mod fun x y H Q h => by
  obtain ⟨i, j, k, rfl, rfl, e, q⟩ := ntF_open h
  split at e
  · cases e; exact ⟨i, j, rfl, rfl, by assumption, q⟩
  · cases e
end
section
variable {X : Cx} {e : Expr} {f : VE} {g : F2} {c : Nat} {x : Str} {pos pos' : Pos} {op : Operator}
theorem vs_aug (hN : X.N.Nodup) (ho : OpR X (inplaceOp op) (rOp2 X.K g)) (he : VEx X e f) (hi : X.N[c]? = some x := by rfl) (hx : Loc X.env.scope x := by first | exact Or.inl rfl | exact Or.inr rfl)
    (hf : X.fn x = true ∨ X.env.scope.names.lookup x = some .local := by first | exact .inl rfl | exact .inr rfl) : VSx X (.AugAssign (.Name x pos') op e pos) (vAug c g f) :=
  PS.imp (ps_aug hN hi hx he ho hf) fun D σ H h => by
    obtain ⟨B, F, env, fl, env', s, e, k⟩ := h
    unfold vAug at e
    split at e
    · rename_i d ec
      simp only [bind_some_iff] at e
      obtain ⟨⟨r, e1⟩, hf, a, ha, e⟩ := e
      split at e
      · rename_i d' hg
        split at e
        · rename_i fr
          cases e
          obtain ⟨v, ev, rv⟩ := s.at_ c _ ec
          refine ⟨v, ev, B, F, env, r, e1, s, hf, fun y F1 H1 P R N => ?_⟩
          refine ⟨F1, d, a, _, P.st.fH, Rep.rdd (Rep.up (P.up s) _ _ rv), rd_ok P.st R ha, hg, fun z H2 rs => ?_⟩
          obtain ⟨P2, R2, _⟩ := P.res rs
          exact k _ F1 H2 ((Go.of P2).put fr R2 rfl fun z => nomatch z)
        · cases e
      · cases e
    · cases e
end

/-! ### isinstance -/
def tyN : PyData → Option String
  | .none => some "NoneType" | .bool _ => some "bool" | .int _ => some "int" | .str _ => some "str" | .tuple _ => some "tuple" | .list _ => some "list" | .dict _ => none
def isiB (T : String) : String → Option Bool := fun a => kitB a T
def vIsi (T : String) (f : VE) : VE := fun env => (f env).bind fun p => (rd p.2 p.1).bind fun d => (tyN d).bind fun a => (kitB a T).map fun b => (.fz (.bool b), p.2)
theorem tyN_ok {K : PySem.W.Frag} {F : Addr → Prop} {H : Hp} {d : PyData} {v : V} {a : String} (h : Rdd K F H d v) (e : tyN d = some a) : TyX K H v (.type a) := by
  cases d with
  | none => cases e; rw [rdd_none.mp h]; exact .base .non
  | bool b => cases e; rw [rdd_bool.mp h]; exact .base (.bl _)
  | int b => cases e; rw [rdd_int.mp h]; exact .base (.int _)
  | str b => cases e; rw [rdd_str.mp h]; exact .base (.str _)
  | tuple ds => cases e; obtain ⟨p, xs, rfl, hp, _⟩ := rdd_tup.mp h; exact (hp.rd).elim (fun h => .base (.tup h)) fun ⟨_, h⟩ => .fTuple h
  | list ds => cases e; obtain ⟨p, xs, rfl, hp, _⟩ := h; exact .base (.lst hp)
  | dict kvs => cases e
theorem ve_isi {X : Cx} {e : Expr} {f : VE} {x : Str} {p p2 pos : Pos} {T : String} (he : VEx X e f) (hm : X.mg "isinstance" = none) (hmx : X.mg x = none) (hv : bootBuiltins x = some (.type T)) (hg : Gl X "isinstance" := by rfl) (hgx : Gl X x := by rfl)
    (hn : x ≠ "__name__" := by decide) (hd : (x == ("__debug__" : Str)) = false := by decide)
    (hs : starEach (e :: [Expr.Name x p2]) X.env = (false, eval e X.env) :: starEach [Expr.Name x p2] X.env := by rfl) (hs2 : starEach [Expr.Name x p2] X.env = (false, eval (.Name x p2) X.env) :: starEach [] X.env := by rfl)
    (hp : ((backTo pos (starEach [Expr.Name x p2] X.env)).any (·.1)) = false := by rfl) : VEx X (.Call (.Name "isinstance" p) [e, .Name x p2] [] pos) (vIsi T f) :=
  PE.imp (pe_callB call_isi hg hm (by first | rfl | decide +kernel) (pa_cons he (pa_cons (pe_bltn hgx hmx hv (show RelV (.ty T) (.type T) from rfl) hn hd) pa_nil hs2) hs) (by decide) (by decide) hs hp) fun σ H Q h => by
    obtain ⟨B, F, env, r, env', st, e, k⟩ := h
    unfold vIsi at e
    simp only [bind_some_iff, Option.map_eq_some_iff] at e
    obtain ⟨⟨r1, e1⟩, hf, d, hd, a, ha, b, hb, he⟩ := e
    cases he
    refine ⟨B, F, env, r1, e1, st, hf, fun v F1 H1 P R N => ?_⟩
    show rIsi X.K (v :: [.ty T]) H1 Q
    exact ⟨v, .ty T, .type a, .type T, b, rfl, .ty T, tyN_ok (rd_ok P.st R hd) ha, kit_ty hb, k _ F1 H1 P rR_mkB trivial⟩
end VL

/-! VL15: list(range(..)), {}, {k: v, ..}, d.get(k, x), xs.count(x), xs[::-1] -/
namespace VL
open PySem PySem.Spec PyProof.Rows L2

/-! ### list(range(..)) -/
def vLstRg (as : VA) : VE := fun env => (as env).bind fun p => (rdAll p.2 p.1).bind fun ds => match ds with
  | [.int b] => if in62 b && decide (b.toNat ≤ 2 ^ 24) then some (.ow false (.list (rangeD 0 1 b.toNat)), p.2) else none
  | [.int a, .int b] => if in62 a && in62 b && decide ((b - a).toNat ≤ 2 ^ 24) then some (.ow false (.list (rangeD a 1 (b - a).toNat)), p.2) else none
  | _ => none
section
variable {K : PySem.W.Frag} {F : Addr → Prop} {H : Hp}
theorem repA_rangeD (a : Int) : ∀ n : Nat, RepA K F H ((List.range n).map fun i => PyData.int (a + (i : Nat) * 1)) ((List.range n).map fun i => V.int (a + (i : Nat))) := fun n => by
  refine repA_iff.mpr ⟨by simp, fun i d x e1 e2 => ?_⟩
  rw [List.getElem?_map] at e1 e2
  cases q : (List.range n)[i]? with
  | none => rw [q] at e1; cases e1
  | some j =>
    rw [q] at e1 e2
    simp only [Option.map_some, Option.some.injEq] at e1 e2
    subst e1; subst e2
    rw [Int.mul_one]; exact rep_intI
end
section
variable {X : Cx} {a b : Expr} {f g : VE} {p p2 pos pos2 : Pos}
theorem ve_lstRg1 (hc : X.calm = true) (ha : VEx X a f) (hm : X.mg "list" = none) (hmr : X.mg "range" = none) (hg : Gl X "list" := by rfl) (hgr : Gl X "range" := by rfl) (na : starEach [a] X.env = (false, eval a X.env) :: starEach [] X.env := by rfl)
    (na2 : starEach [.Call (.Name "range" p2) [a] [] pos2] X.env = (false, eval (.Call (.Name "range" p2) [a] [] pos2) X.env) :: starEach [] X.env := by rfl) :
    VEx X (.Call (.Name "list" p) [.Call (.Name "range" p2) [a] [] pos2] [] pos) (vLstRg (vaCons f vaNil)) :=
  PE.imp (pe_listRg hc hg hm (prg_1 hgr hmr ha na) na2) fun σ H Q h => by
    obtain ⟨B, F, env, r, env', st, e, k⟩ := h
    unfold vLstRg vaCons vaNil at e
    simp only [bind_some_iff, Option.map_eq_some_iff] at e
    obtain ⟨⟨rs, e1⟩, ⟨⟨r1, e1'⟩, hf, q, hq, he⟩, ds, hd, e⟩ := e
    cases hq; cases he
    simp only [rdAll, bind_some_iff, Option.map_some, Option.some.injEq] at hd
    obtain ⟨d, hd, rfl⟩ := hd
    split at e
    · rename_i b' hb
      split at e
      · rename_i ok
        cases hb
        cases e
        simp only [Bool.and_eq_true, decide_eq_true_eq] at ok
        refine ⟨B, F, env, r1, _, st, hf, fun v F1 H1 P R N => ?_⟩
        obtain ⟨h1, h2⟩ := in62_iff ok.1
        have hv : v = .int b' := by
          have := rdw_ok P.st R hd
          exact rdL_int.mp this
        refine ⟨b', hv, ⟨by decide, by decide, h1, h2, by simpa using ok.2⟩, fun p np => ?_⟩
        have ra : RepA X.K F1 H1 (rangeD 0 1 b'.toNat) (rgV 0 b') := by
          have := repA_rangeD (K := X.K) (F := F1) (H := H1) 0 b'.toNat
          unfold rangeD rgV
          simpa using this
        obtain ⟨q, r, n⟩ := P.res (Res.lst np ra P.st.fH)
        exact k _ F1 _ q r n
      · cases e
    · rename_i hb; simp at hb
    · cases e
theorem ve_lstRg2 (hc : X.calm = true) (ha : VEx X a f) (hb : VEx X b g) (hm : X.mg "list" = none) (hmr : X.mg "range" = none) (hg : Gl X "list" := by rfl) (hgr : Gl X "range" := by rfl) (na : starEach [a, b] X.env = (false, eval a X.env) :: starEach [b] X.env := by rfl)
    (nb : starEach [b] X.env = (false, eval b X.env) :: starEach [] X.env := by rfl) (hp : (backTo pos2 (starEach [b] X.env)).any (·.1) = false := by rfl)
    (na2 : starEach [.Call (.Name "range" p2) [a, b] [] pos2] X.env = (false, eval (.Call (.Name "range" p2) [a, b] [] pos2) X.env) :: starEach [] X.env := by rfl) :
    VEx X (.Call (.Name "list" p) [.Call (.Name "range" p2) [a, b] [] pos2] [] pos) (vLstRg (vaCons f (vaCons g vaNil))) :=
  PE.imp (pe_listRg hc hg hm (prg_2 hgr hmr ha hb na nb hp) na2) fun σ H Q h => by
    obtain ⟨B, F, env, r, env', st, e, k⟩ := h
    unfold vLstRg vaCons vaNil at e
    simp only [bind_some_iff, Option.map_eq_some_iff] at e
    obtain ⟨⟨rs, e1⟩, ⟨⟨r1, e1'⟩, hf, q, ⟨⟨r2, e2⟩, hg', q', hq, he'⟩, he⟩, ds, hd, e⟩ := e
    cases hq; cases he'; cases he
    simp only [rdAll, bind_some_iff, Option.map_some, Option.some.injEq, Option.map_eq_some_iff] at hd
    obtain ⟨d, hd, ds', ⟨d2, hd2, rfl⟩, rfl⟩ := hd
    split at e
    · rename_i hb; simp at hb
    · rename_i a' b' hb
      split at e
      · rename_i ok
        cases hb
        cases e
        simp only [Bool.and_eq_true, decide_eq_true_eq] at ok
        refine ⟨B, F, env, r1, _, st, hf, fun v F1 H1 P1 R1 N1 => ⟨B, F1, _, r2, _, P1.st, hg', fun w F2 H2 P2 R2 N2 => ?_⟩⟩
        have P := P1.trans st P2
        obtain ⟨h1, h2⟩ := in62_iff ok.1.1
        obtain ⟨h3, h4⟩ := in62_iff ok.1.2
        have hv : v = .int a' := rdL_int.mp (rdw_ok P2.st (R1.post P1.st P2) hd)
        have hw : w = .int b' := rdL_int.mp (rdw_ok P2.st R2 hd2)
        refine ⟨a', b', hv, hw, ⟨h1, h2, h3, h4, ok.2⟩, fun p np => ?_⟩
        have ra : RepA X.K F2 H2 (rangeD a' 1 (b' - a').toNat) (rgV a' b') := by
          have := repA_rangeD (K := X.K) (F := F2) (H := H2) a' (b' - a').toNat
          unfold rangeD rgV
          exact this
        obtain ⟨q, r, n⟩ := P.res (Res.lst np ra P.st.fH)
        exact k _ F2 _ q r n
      · cases e
    · cases e
end

/-! ### {} and {k: v, ..} -/
def vDNew (k : Bool) : VE := fun env => some (.ow k (.dict []), env)
def vDs : List (VE × VE) → EV → Option (List (PyData × PyData) × EV)
  | [], env => some ([], env)
  | (f, g) :: r, env => (vUse f env).bind fun p => (key? p.1).bind fun _ => (vUse g p.2).bind fun q => (vDs r q.2).map fun z => ((p.1, q.1) :: z.1, z.2)
def vDisp (fs : List (VE × VE)) : VE := fun env => (vDs fs env).bind fun p => if p.1.length ≤ 15 then some (.ow false (.dict (dmerge [] p.1)), p.2) else none
section
variable {K : PySem.W.Frag} {B F F0 : Addr → Prop} {H H' H0 : Hp} {σ : L2.St} {env env0 : EV}
theorem Res.dnewK {a : Addr} (n : H a = none) : Res K F H (upd H a (.dK [])) (.ow false (.dict [])) (.ref a) := ⟨same_upd n, a, rfl, n, [], upd_same, by rw [RepK]⟩
theorem Res.dnewT {a : Addr} (n : H a = none) : Res K F H (upd H a (.dT [])) (.ow true (.dict [])) (.ref a) := ⟨same_upd n, a, rfl, n, [], upd_same, by rw [RepT]⟩
theorem ds_run : ∀ {fs : List (VE × VE)} {env env1 : EV} {F : Addr → Prop} {H : Hp} {kvs : List (PyData × PyData)} {Q : List (V × V) → Hp → Prop}, StOk K B F H σ env → vDs fs env = some (kvs, env1) →
    (∀ F2 H2 (ks : List (Key × V)), Post K B σ env F H env1 F2 H2 → RepK K F2 H2 kvs ks → Q (ks.map fun kv => (kV kv.1, kv.2)) H2) → tPairs (fs.map fun p => (TV K p.1, TV K p.2)) σ H Q
  | [], env, env1, F, H, kvs, Q, s, e, k => by
    cases e
    exact k F H [] (.refl s) (by rw [RepK])
  | (f, g) :: r, env, env1, F, H, kvs, Q, s, e, k => by
    simp only [vDs, bind_some_iff, Option.map_eq_some_iff] at e
    obtain ⟨⟨d, e1⟩, hf, kk, hk, ⟨d2, e2⟩, hg, ⟨z, e3⟩, hr, he⟩ := e
    cases he
    obtain rfl := key?_eq hk
    refine tu_of ⟨B, F, env, _, e1, s, hf, fun v F1 H1 P1 R1 => tu_of ⟨B, F1, e1, _, e2, P1.st, hg, fun w F2 H2 P2 R2 => ?_⟩⟩
    refine ds_run P2.st hr fun F3 H3 ks P3 R3 => ?_
    obtain rfl := rep_key R1
    refine k F3 H3 ((kk, w) :: ks) ((P1.trans s P2).trans s P3) ?_
    rw [RepK]
    exact ⟨kk, w, ks, rfl, repP_iff.mpr ⟨rfl, Rep.up (P3.up P2.st) _ _ R2⟩, R3⟩
end
section
variable {X : Cx} {pos : Pos}
theorem ve_dnewK : VEx X (.Dict [] [] pos) (vDNew false) := PE.imp pe_dnewK fun σ H Q h => by
  obtain ⟨B, F, env, r, env', st, e, k⟩ := h
  cases e
  intro p np
  obtain ⟨q, r, n⟩ := (Post.refl st).res (Res.dnewK (K := X.K) (F := F) np)
  exact k _ F _ q r n
theorem ve_dnewT : VEx X (.Dict [] [] pos) (vDNew true) := PE.imp pe_dnewT fun σ H Q h => by
  obtain ⟨B, F, env, r, env', st, e, k⟩ := h
  cases e
  intro p np
  obtain ⟨q, r, n⟩ := (Post.refl st).res (Res.dnewT (K := X.K) (F := F) np)
  exact k _ F _ q r n
abbrev VPs (X : Cx) (pos : Pos) (keys : List (Option Expr)) (values : List Expr) (fs : List (VE × VE)) : Prop := PPs X pos keys values (fs.map fun p => (TV X.K p.1, TV X.K p.2))
theorem vps_nil : VPs X pos [] [] [] := pps_nil
theorem vps_cons {k v : Expr} {ks : List (Option Expr)} {vs : List Expr} {f g : VE} {fs : List (VE × VE)} (hk : VEx X k f) (hv : VEx X v g) (hr : VPs X pos ks vs fs) : VPs X pos (some k :: ks) (v :: vs) ((f, g) :: fs) := pps_cons hk hv hr
theorem ve_disp {keys : List (Option Expr)} {values : List Expr} {fs : List (VE × VE)} (h : VPs X pos keys values fs) (hall : keys.all (·.isSome) = true := by rfl) (hl : keys.length = values.length := by rfl) (h0 : keys ≠ [] := by simp)
    (h15 : keys.length ≤ 15 := by decide) : VEx X (.Dict keys values pos) (vDisp fs) := PE.imp (pe_disp h hall hl h0 h15) fun σ H Q h => by
  obtain ⟨B, F, env, r, env', st, e, k⟩ := h
  unfold vDisp at e
  rw [bind_some_iff] at e
  obtain ⟨⟨kvs, e1⟩, hf, e⟩ := e
  dsimp only at e
  split at e
  · rename_i hl
    cases e
    intro p np
    obtain ⟨P0, R0, N0⟩ := (Post.refl st).res (Res.dnewK (K := X.K) (F := F) np)
    refine ds_run P0.st hf fun F2 H2 ks P R => ?_
    obtain ⟨a, ea, nf, nb, no, _⟩ := R0
    cases ea
    obtain ⟨f2, c⟩ := P.ext.keep p _ upd_same no
    have hp : H2 p = some (.dK []) := by
      rcases c with c | ⟨z, _⟩
      · exact c
      · exact (nf z).elim
    refine ⟨hp, ks, rfl, by rw [← R.len]; exact hl, ?_⟩
    have P' := P0.trans st P
    have no2 : ¬ OwA σ _ p := fun o => no (P.ee.owA o)
    have nf2 : ¬ F2 p := fun z => nf (f2 z)
    obtain ⟨P3, u3⟩ := P'.poke (D := p) (o := .dK (mergeK [] ks)) nf2 no2 np (by rw [hp]; trivial)
    refine k _ F2 _ P3 ⟨p, rfl, nf2, nb, no2, _, upd_same, ?_⟩ ⟨p, rfl, np⟩
    exact RepK.merge (RepK.up u3 _ _ R) (by rw [RepK])
  · cases e
end

/-! ### d.get(k, x) -/
def vDGet (f g h : VE) : VE := fun env => (f env).bind fun p => (dk p.2 p.1).bind fun _ => (vUse g p.2).bind fun q => (vUse h q.2).bind fun z => (dk z.2 p.1).bind fun w => (dgetF w.1 w.2 q.1).map fun o => (.fz (o.getD z.1), z.2)
section
variable {K : PySem.W.Frag} {F : Addr → Prop} {H : Hp}
theorem RepDk.isD {k : Bool} {kvs : List (PyData × PyData)} {v : V} (h : RepDk K F H k kvs v) : ∃ a, v = .ref a ∧ IsD H a := by
  obtain ⟨a, rfl, h⟩ := h
  cases k with
  | true => obtain ⟨ks, h, _⟩ := h; exact ⟨a, rfl, .inr ⟨ks, h⟩⟩
  | false => obtain ⟨ks, h, _⟩ := h; exact ⟨a, rfl, .inl ⟨ks, h⟩⟩
end
section
variable {X : Cx} {o e e2 : Expr} {f g h : VE} {apos cpos : Pos}
theorem ve_dget (hu : X.A.units + 1 < cLine) (ho : VEx X o f) (he : VEx X e g) (hx : VEx X e2 h) (base : attributeBase o "get" X.env (eval o X.env) = eval o X.env := by rfl)
    (few : ((backTo cpos (starEach [e, e2] X.env)).all (fun x => !x.1) && (backToKw cpos (keywordEach [] X.env)).all (fun x => x.1.isSome)
      && decide (([e, e2] : List Expr).length + ([] : List Keyword).length + (if ([] : List Keyword).isEmpty then 0 else 1) < 30)) = true := by rfl)
    (line : (apos.endLine == cpos.line) = true := by rfl) (trees : backTo cpos (starEach [e, e2] X.env) = [(false, eval e X.env), (false, eval e2 X.env)] := by rfl) :
    VEx X (.Call (.Attribute o "get" apos) [e, e2] [] cpos) (vDGet f g h) := PE.imp (pe_dget2 hu ho he hx ⟨base, few, line, trees⟩) fun σ H Q h => by
  obtain ⟨B, F, env, r, env', st, e, k⟩ := h
  unfold vDGet at e
  simp only [bind_some_iff, Option.map_eq_some_iff] at e
  obtain ⟨⟨r1, e1⟩, hf, w0, hw0, ⟨d2, e2⟩, hg, ⟨d3, e3⟩, hh, ⟨kk, kvs⟩, hw, oo, ho, he⟩ := e
  cases he
  refine ⟨B, F, env, r1, e1, st, hf, fun v F1 H1 P1 R1 N1 => ?_⟩
  obtain ⟨a, rfl, isd⟩ := RepDk.isD (dk_ok P1.st R1 hw0)
  refine ⟨a, rfl, isd, tu_of ⟨B, F1, e1, d2, e2, P1.st, hg, fun v2 F2 H2 P2 R2 => tu_of ⟨B, F2, e2, d3, e3, P2.st, hh, fun v3 F3 H3 P3 R3 => ?_⟩⟩⟩
  have P23 := P2.trans P1.st P3
  have P := P1.trans st P23
  obtain ⟨a', o', ea, g, rel⟩ := dget_ok (dk_ok P3.st (R1.post P1.st P23) hw) (Rep.rdd (Rep.up (P3.up P2.st) _ _ R2)) ho
  cases ea
  refine ⟨o', g, k _ F3 H3 P ?_ trivial⟩
  cases oo with
  | none =>
    cases o' with
    | none => exact R3
    | some v => exact rel.elim
  | some d =>
    cases o' with
    | none => exact rel.elim
    | some v => exact rel
end

/-! ### xs.count(x) -/
def cntN (xs : List PyData) (d : PyData) : Option PyData := if PyData.plainAll xs && d.plain && decide (d.depth ≤ 64) && PyData.canLayAll0 xs && d.canLay0 then some (.int ((xs.countP fun y => PyData.eqv y d : Nat) : Int)) else none
def cntF : PyData → PyData → PyData → Option PyData
  | .list _, .list xs, d => cntN xs d
  | .tuple _, .tuple xs, d => cntN xs d
  | _, _, _ => none
def isLT : PyData → Bool
  | .list _ => true
  | .tuple _ => tz
  | _ => false
def vCnt (f g : VE) : VE := fun env => (f env).bind fun p => (rd p.2 p.1).bind fun c => if isLT c = true then (vUse g p.2).bind fun q => (rd q.2 p.1).bind fun c' => (cntF c c' q.1).map fun d => (.fz d, q.2) else none
section
variable {X : Cx} {o e : Expr} {f g : VE} {apos cpos : Pos}
theorem RepR.same {K : PySem.W.Frag} {B F : Addr → Prop} {H : Hp} {σ : L2.St} {env : EV} {r : R} {v : V} {c : PyData} (s : StOk K B F H σ env) (R : RepR K B F H σ env r v) (e : rd env r = some c) : Rdd K F H c v := rd_ok s R e
theorem ve_cnt (hu : X.A.units + 66 < cLine) (ho : VEx X o f) (he : VEx X e g) (base : attributeBase o "count" X.env (eval o X.env) = eval o X.env := by rfl)
    (few : ((backTo cpos (starEach [e] X.env)).all (fun x => !x.1) && (backToKw cpos (keywordEach [] X.env)).all (fun x => x.1.isSome)
      && decide (([e] : List Expr).length + ([] : List Keyword).length + (if ([] : List Keyword).isEmpty then 0 else 1) < 30)) = true := by rfl)
    (line : (apos.endLine == cpos.line) = true := by rfl) (trees : backTo cpos (starEach [e] X.env) = [(false, eval e X.env)] := by rfl) :
    VEx X (.Call (.Attribute o "count" apos) [e] [] cpos) (vCnt f g) := by
  refine ⟨fun pins s σ H Q I h => ?_⟩
  obtain ⟨B, F, env, r, env', st, e0, k⟩ := h
  unfold vCnt at e0
  rw [bind_some_iff] at e0
  obtain ⟨⟨r1, e1⟩, hf, e0⟩ := e0
  rw [bind_some_iff] at e0
  obtain ⟨c, hc, e0⟩ := e0
  split at e0
  case isFalse => cases e0
  rename_i hlt
  simp only [bind_some_iff, Option.map_eq_some_iff] at e0
  obtain ⟨⟨d, e2⟩, hg, c', hc', dn, hcnt, he0⟩ := e0
  cases he0
  refine wpAny_Call_method_late base few line trees (thn (ho.run pins s σ H (fun v H1 => ∃ F1, Post X.K B σ env F H e1 F1 H1 ∧ RepR X.K B F1 H1 σ e1 r1 v) I ⟨B, F, env, r1, e1, st, hf, fun v F1 H1 P1 R1 _ => ⟨F1, P1, R1⟩⟩) fun u s1 ⟨x, H1, I1, ru, F1, P1, R1⟩ => ?_)
  have D1 := rd_ok P1.st R1 hc
  -- the argument, and behind it
  have go : ∀ (Q' : Value → Shared → Prop), (∀ u2 s2 (F2 : Addr → Prop) (H2 : Hp) (v2 : V), Inv X pins σ H2 s2 → Post X.K B σ env F H e2 F2 H2 → RepR X.K B F2 H2 σ e2 r1 x → Rep X.K F2 H2 d v2 → RelV v2 u2 → Q' u2 s2) → wpAny (model X.prog X.w) X.A (eval e X.env) Q' X.xe s1 := fun Q' hq => by
    refine thn (he.run pins s1 σ H1 (fun v2 H2 => ∃ F2, Post X.K B σ env F H e2 F2 H2 ∧ RepR X.K B F2 H2 σ e2 r1 x ∧ Rep X.K F2 H2 d v2) I1 (tu_of ⟨B, F1, e1, d, e2, P1.st, hg, fun v2 F2 H2 P2 R2 => ⟨F2, P1.trans st P2, R1.post P1.st P2, R2⟩⟩)) fun u2 s2 ⟨v2, H2, I2, ru2, F2, P2, R2, R3⟩ => hq u2 s2 F2 H2 v2 I2 P2 R2 R3 ru2
  have fin : ∀ {H2 : Hp} {F2 : Addr → Prop} {s2 : Shared} {m : Int}, dn = .int m → Inv X pins σ H2 s2 → Post X.K B σ env F H e2 F2 H2 → ∀ t, EP X pins σ Q (.int m t) { s2 with toks := s2.toks + 1 } := fun {H2 F2 s2 m} em I2 P2 t => by
    subst em
    exact ⟨.int m, H2, I2.tok _, ⟨_, rfl⟩, k _ F2 H2 P2 (show Rep X.K F2 H2 (.int m) _ from rep_intI) trivial⟩
  cases c with
  | list zs =>
    obtain ⟨a, xs, rfl, hx, ra⟩ := D1
    cases ru
    obtain ⟨its, rv, pl, _⟩ := I1.list (xs := xs) (a := a) (.inl (.inl hx))
    refine ⟨"list", "list.count", PySem.F.plainAttrs_list, PySem.F.slot_list_count, PySem.F.type_list_count, pl.isList.typeIs, fun b eb => ?_, ?_⟩
    · cases eb
      obtain ⟨ob, n, e, c, hd, _⟩ := pl
      exact ⟨ob, e, hd⟩
    refine Calls.callWith_builtin rfl (Calls.evalArgs_plain (Calls.spliced_cons (go _ fun u2 s2 F2 H2 v2 I2 P2 R2 R3 ru2 => Calls.spliced_nil ?_)))
    have D2 := rd_ok P2.st R2 hc'
    cases c' with
    | list zs' =>
      have hcnt : cntN zs' d = some dn := hcnt
      unfold cntN at hcnt
      split at hcnt
      case isFalse => cases hcnt
      rename_i ok
      cases hcnt
      simp only [Bool.and_eq_true, decide_eq_true_eq] at ok
      obtain ⟨⟨⟨⟨ok1, ok2⟩, ok3⟩, ok4⟩, ok5⟩ := ok
      obtain ⟨a', xs', ea, hx', ra'⟩ := D2
      cases ea
      obtain ⟨its', rv', pl', _⟩ := I2.list (xs := xs') (a := a) (.inl (.inl hx'))
      obtain ⟨as, rs⟩ := Dp.readsAll I2 _ _ _ (RepA.dp zs' xs' ok4 ra') rv'
      obtain ⟨bs, rx⟩ := Dp.reads I2 _ _ _ (Rep.dp d v2 ok5 R3) ru2
      exact PySem.SeqAt.count_list_data pl'.isList rs rx ok1 ok2 (by have h1 : min (PyData.depthAll zs') d.depth ≤ d.depth := Nat.min_le_right _ _; omega) (fin rfl I2 P2 _)
    | _ => simp [cntF] at hcnt
  | tuple zs =>
    have ztz : tz = true := by simpa [isLT] using hlt
    obtain ⟨a, xs, rfl, hx, ra⟩ := rdd_tup.mp D1
    cases ru
    unfold TupAt at hx
    rw [if_pos (show VL.st xs = true by simp [VL.st, ztz])] at hx
    obtain ⟨ob, hob, hd⟩ := hx
    obtain ⟨h1, h2⟩ := (show ObjOk X.prog X.w H1 s1.heap a (.frz ob (.tup xs)) from I1.hok a _ hob)
    obtain ⟨_, its, rv, tp⟩ := h2
    have hT : s1.TypeIs (.ref a) "tuple" := (show s1.heap.IsTuple a its.toArray from tp).typeIs
    refine ⟨"tuple", "tuple.count", PySem.F.plainAttrs_tuple, PySem.F.slot_tuple_count, PySem.F.type_tuple_count, hT, fun b eb => ?_, ?_⟩
    · cases eb
      exact ⟨ob, h1, hd⟩
    refine Calls.callWith_builtin rfl (Calls.evalArgs_plain (Calls.spliced_cons (go _ fun u2 s2 F2 H2 v2 I2 P2 R2 R3 ru2 => Calls.spliced_nil ?_)))
    have D2 := rd_ok P2.st R2 hc'
    cases c' with
    | tuple zs' =>
      have hcnt : cntN zs' d = some dn := hcnt
      unfold cntN at hcnt
      split at hcnt
      case isFalse => cases hcnt
      rename_i ok
      cases hcnt
      simp only [Bool.and_eq_true, decide_eq_true_eq] at ok
      obtain ⟨⟨⟨⟨ok1, ok2⟩, ok3⟩, ok4⟩, ok5⟩ := ok
      obtain ⟨a', xs', ea, hx', ra'⟩ := rdd_tup.mp D2
      cases ea
      obtain ⟨its', rv', pl', _⟩ := I2.tuple (xs := xs') (a := a) hx'.sq
      obtain ⟨as, rs⟩ := Dp.readsAll I2 _ _ _ (RepA.dp zs' xs' ok4 ra') rv'
      obtain ⟨bs, rx⟩ := Dp.reads I2 _ _ _ (Rep.dp d v2 ok5 R3) ru2
      exact PySem.SeqAt.count_tuple_data pl' rs rx ok1 ok2 (by have h1 : min (PyData.depthAll zs') d.depth ≤ d.depth := Nat.min_le_right _ _; omega) (fin rfl I2 P2 _)
    | _ => simp [cntF] at hcnt
  | _ => simp [isLT] at hlt
end
end VL

/-! VL16: chains; the law's own head -/
namespace VL
open PySem PySem.Spec PyProof.Rows L2
section
variable {X : Cx} {a b c : Expr} {f g h : VE} {Fo Go : F2} {op op' : CmpOp} {pos : Pos}
theorem ve_chain (ho : OpR X (compareOp op) (rOp2 X.K Fo)) (ho' : OpR X (compareOp op') (rOp2 X.K Go)) (ha : VEx X a f) (hb : VEx X b g) (hc : VEx X c h) (hm : lastMarks [op, op'] [b, c] = false := by with_unfolding_all rfl) :
    VEx X (.Compare a [op, op'] [b, c] pos) (vChain Fo Go f g h) := PE.imp (pe_chain ho ho' ha hb hc hm) fun σ H Q q => three q
theorem vt_chain (ho : OpR X (compareOp op) (rOp2 X.K Fo)) (ho' : OpR X (compareOp op') (rOp2 X.K Go)) (ha : VEx X a f) (hb : VEx X b g) (hc : VEx X c h) (hm : lastMarks [op, op'] [b, c] = false := by with_unfolding_all rfl) :
    VTx X (.Compare a [op, op'] [b, c] pos) (vB (vChain Fo Go f g h)) := PT.imp (pt_chain ho ho' ha hb hc hm) fun σ H Q q => by
  have q := vb_ok q
  exact three q
end
/-- how often a while may turn -/
def fuel : Nat := 1000000
/-! ### the law -/
/-- the law's def at the script -/
theorem law_sp {K : PySem.W.Frag} {φ : FS} {n : Nat} (h : ∀ ns : List Int, ns.length ≤ n → ∃ outs, φ [.sc ns] = some (.fz (.bool true), outs)) (H : Hp) (a : Addr) (ns : List Int) (hl : ns.length ≤ n) (hS : SqL K H a (ns.map V.int)) (no : ∀ b o, H b = some o → ∃ ob u, o = .frz ob u) :
    spV K φ [.ref a] H (fun v _ => v = .bl true) fun _ _ _ => False := by
  obtain ⟨outs, e⟩ := h ns hl
  have sc : ScL K H a (ns.map V.int) := by
    rcases hS with (hS | hS) | hS
    · obtain ⟨ob, u, z⟩ := no _ _ hS
      cases z
    · exact .inl hS
    · exact .inr hS
  refine ⟨fun _ => False, [.sc ns], _, outs, ⟨rfl, fun s hs => ?_, fun i s hs => ?_, fun i j k k' d d' a hi => ?_⟩, fun a h => h.elim, e, fun v F' H' r => rep_bool.mp r.res⟩
  · obtain rfl : s = .sc ns := by simpa using hs
    rfl
  · cases i with
    | zero =>
      simp at hs; subst hs
      exact ⟨_, rfl, a, rfl, sc⟩
    | succ i => simp at hs
  · cases i with
    | zero => simp at hi
    | succ i => simp at hi
end VL

/-! VX1: sorted(set(ints)) -/
namespace VL
open PySem PySem.Spec PyProof.Rows L2
section
variable {P : Program} {w : World} {A : Around} {E : Value → Shared → Prop} {s : Shared}
/-- a set that holds nothing -/
def bareSet (w : World) : Obj := { cls := .type "set", dict := none, data := .set #[] 0 (.fresh 0 0 (!w.params.followText "set-order")) }
def withBare (w : World) (s : Shared) : Shared := { s with heap := s.heap.push (bareSet w) }
/-- set(l) of a list of ints -/
theorem set_of_list {l : Addr} {its : Array Value} (ns : List Int) {Q : Value → Shared → Prop} (hh : A.handled = none) (hl : s.heap.IsList l its) (hi : IntsAre its.toList ns) (hb : ns.length + 1 < scanBound)
    (q : ∀ (h' : Heap) (tk c : Nat), SetR w h' s.heap.objs.size (fun j => decide (j ∈ ns)) c → c ≤ ns.length → (∀ b o, s.heap.get? b = some o → h'.get? b = some o) → Q (.ref s.heap.objs.size) { s with heap := h', toks := tk }) :
    wpAny (model P w) A (call (.type "set") [.ref l]) Q E s := by
  have size : its.size = ns.length := by have z := hi.length; rwa [Array.length_toList] at z
  have low : l < s.heap.objs.size := by obtain ⟨o, ho, _⟩ := hl; exact Heap.lt_size ho
  obtain ⟨c0, tl0, mro⟩ := F.called_set.mro
  have made := F.called_set.made
  have sub := F.called_set.sub
  refine wpAny_call (codeAny_of_tree ?_)
  show wpAny _ _ (callAny (.type "set") _) _ _ _
  refine wpAny_pure ⟨Code.quiet_builtin _ (by decide +kernel), codeAny_builtin F.entry_type_call ?_⟩
  rw [Around.under_plain (weight_type_call_type "set" [.ref l] []) rfl]
  have f1 := F.called_set.notType
  have f2 := F.called_set.canCreate
  have f3 := F.typeCall_set_1 (.ref l)
  repeat (any_goals (first | assumption | wp_step))
  refine codeAny_mono (code_set_led1 (.ref l) (E := E) (Q₁ := fun x s1 => x = .ref s.heap.objs.size ∧ s1 = withBare w s) ⟨rfl, rfl⟩) fun r s1 hr => ?_
  rcases r with e | f
  · exact hr
  cases f with
  | ret x =>
    obtain ⟨rfl, rfl⟩ := hr
    have at0 : (withBare w s).heap.get? s.heap.objs.size = some (bareSet w) := Heap.get?_push_size _ rfl
    have ty : (withBare w s).TypeIs (.ref s.heap.objs.size) "set" := ⟨_, at0, rfl⟩
    have g1 := F.called_set.init.lookup
    have g2 := F.called_set.init.bind (.ref s.heap.objs.size)
    repeat (any_goals (first | assumption | wp_step))
    refine codeAny_mono (codeAny_call_builtin (R := wants (fun r s2 => r = .none ∧ ∃ h' tk c, s2 = { s with heap := h', toks := tk } ∧ SetR w h' s.heap.objs.size (fun j => decide (j ∈ ns)) c ∧ c ≤ ns.length ∧
      (∀ b o, s.heap.get? b = some o → h'.get? b = some o)) E) F.called_set.init.plain F.entry_set_init (check_set_init_1 ty ?_)) fun r2 s2 hr2 => ?_
    · obtain ⟨⟨oc, od, odat, osl⟩, hol, hc, n, hd⟩ := hl
      simp only at hc hd
      subst hc hd
      have hl1 : (withBare w s).heap.IsList l its := ⟨_, Heap.get?_push_of_some _ hol, rfl, n, rfl⟩
      have hol1 : (withBare w s).heap.get? l = some { cls := .type "list", dict := od, data := .seq its n, slots := osl } := Heap.get?_push_of_some _ hol
      have k1 := F.sub_list_set
      have k2 := F.sub_list_frozenset
      have k3 : (Value.type "list" == Value.type "dict") = false := by decide
      unfold Builtin.«set.__init__» noKeywords Builtin.Frozenset.updateFrom
      generalize hPI : pyIter = PI
      unfold withBare at hol1 hl1 ty at0 ⊢
      wp_walk
      subst hPI
      refine wpAny_pyIter_list hl1 ?_
      refine wpAny_bind (wpAny_runValue ?_)
      have sz : (s.heap.push (bareSet w)).objs.size = s.heap.objs.size + 1 := Heap.size_push ..
      have apart1 : l ≠ (s.heap.push (bareSet w)).objs.size := by rw [sz]; exact Nat.ne_of_lt (Nat.lt_succ_of_lt low)
      have apart2 : s.heap.objs.size ∉ [(s.heap.push (bareSet w)).objs.size, l] := by
        rw [sz]; simp only [List.mem_cons, List.not_mem_nil, or_false, not_or]; exact ⟨Nat.ne_of_lt (Nat.lt_succ_self _), Nat.ne_of_gt low⟩
      have val : ∀ (i : Nat) (v : Value), its[i]? = some v → ∃ k t, ns[i]? = some k ∧ v = .int k t := fun i v hv => by
        have lt : i < ns.length := by rw [← size]; exact (Array.getElem?_eq_some_iff.mp hv).1
        obtain ⟨t, e⟩ := hi.get i _ (List.getElem?_eq_getElem lt)
        rw [Array.getElem?_toList, hv] at e
        exact ⟨_, t, List.getElem?_eq_getElem lt, Option.some.inj e⟩
      refine set_update_ints ((Walks.list (A := A.in1.in1.in1) (by simp [hh]) _ l apart1 its).toS) s.heap.objs.size apart2 ns size hb val (its.size - 0) 0 _ (by omega) (Nat.zero_le _)
        ⟨⟨_, Heap.get?_push_size _ rfl, rfl, rfl⟩, hl1.push _⟩ ⟨0, Nat.le_refl 0, setR_new_at (Heap.get?_push_of_some _ at0)⟩ fun s' c m hc hS => ?_
      obtain ⟨h', g, d, tk, os⟩ := s'
      have z1 : g = s.gens := m.gens
      have z2 : d = s.drawn := m.drawn
      have z3 : os = s.os := m.os
      subst z1 z2 z3
      show wpAny _ _ _ _ _ _
      refine wpAny_pure ?_
      show wpAny _ _ (ret Value.none) _ _ _
      rw [size] at hc
      refine wpAny_pure ⟨rfl, h', tk, c, rfl, hS, hc, fun b o e => ?_⟩
      have hb0 : b < s.heap.objs.size := Heap.lt_size e
      exact m.heap b o (by rw [List.mem_cons, List.mem_singleton, sz, not_or]; exact ⟨Nat.ne_of_lt hb0, Nat.ne_of_lt (Nat.lt_succ_of_lt hb0)⟩) (Heap.get?_push_of_some _ (Heap.get?_push_of_some _ e))
    · rcases r2 with e | f2
      · exact hr2
      cases f2 with
      | ret r =>
        obtain ⟨rfl, h', tk, c, rfl, hS, hc, hk⟩ := hr2
        repeat (any_goals (first | assumption | wp_step))
        exact q _ _ _ hS hc hk
      | _ => exact hr2.elim
  | _ => exact hr.elim
end
/-! ### in ascending order, each once -/
def insI (x : Int) : List Int → List Int
  | [] => [x]
  | y :: r => if x < y then x :: y :: r else if x = y then y :: r else y :: insI x r
def ssI (ns : List Int) : List Int := ns.foldr insI []
theorem mem_insI {x z : Int} : ∀ {l : List Int}, z ∈ insI x l ↔ z = x ∨ z ∈ l
  | [] => by simp [insI]
  | y :: r => by
    unfold insI
    split
    · simp
    · split
      · rename_i h; subst h; simp
      · rw [List.mem_cons, mem_insI, List.mem_cons]
        constructor
        · rintro (h | h | h)
          · exact .inr (.inl h)
          · exact .inl h
          · exact .inr (.inr h)
        · rintro (h | h | h)
          · exact .inr (.inl h)
          · exact .inl h
          · exact .inr (.inr h)
theorem pw_insI {x : Int} : ∀ {l : List Int}, l.Pairwise (· < ·) → (insI x l).Pairwise (· < ·)
  | [], _ => by simp [insI]
  | y :: r, h => by
    rw [List.pairwise_cons] at h
    unfold insI
    split
    · rename_i c
      rw [List.pairwise_cons, List.pairwise_cons]
      refine ⟨fun z hz => ?_, h⟩
      rcases List.mem_cons.mp hz with rfl | hz
      · exact c
      · have := h.1 z hz; omega
    · split
      · rw [List.pairwise_cons]; exact h
      · rename_i c1 c2
        rw [List.pairwise_cons]
        refine ⟨fun z hz => ?_, pw_insI h.2⟩
        rcases mem_insI.mp hz with rfl | hz
        · omega
        · exact h.1 z hz
theorem mem_ssI {z : Int} : ∀ {ns : List Int}, z ∈ ssI ns ↔ z ∈ ns
  | [] => by simp [ssI]
  | n :: ns => by
    show z ∈ insI n (ssI ns) ↔ _
    rw [mem_insI, mem_ssI, List.mem_cons]
theorem pw_ssI : ∀ ns : List Int, (ssI ns).Pairwise (· < ·)
  | [] => by simp [ssI]
  | n :: ns => pw_insI (pw_ssI ns)
theorem pw_uniq : ∀ {as bs : List Int}, as.Pairwise (· < ·) → bs.Pairwise (· < ·) → (∀ z, z ∈ as ↔ z ∈ bs) → as = bs
  | [], [], _, _, _ => rfl
  | [], b :: bs, _, _, h => absurd ((h b).mpr (by simp)) (by simp)
  | a :: as, [], _, _, h => absurd ((h a).mp (by simp)) (by simp)
  | a :: as, b :: bs, ha, hb, h => by
    rw [List.pairwise_cons] at ha hb
    have e : a = b := by
      have h1 := (h a).mp (by simp)
      have h2 := (h b).mpr (by simp)
      rcases List.mem_cons.mp h1 with e | h1
      · exact e
      · rcases List.mem_cons.mp h2 with e | h2
        · exact e.symm
        · have := ha.1 b h2; have := hb.1 a h1; omega
    subst e
    rw [pw_uniq ha.2 hb.2 fun z => ⟨fun hz => ?_, fun hz => ?_⟩]
    · rcases List.mem_cons.mp ((h z).mp (by simp [hz])) with rfl | h2
      · have := ha.1 z hz; omega
      · exact h2
    · rcases List.mem_cons.mp ((h z).mpr (by simp [hz])) with rfl | h2
      · have := hb.1 z hz; omega
      · exact h2
theorem ssI_of {ns l : List Int} (p : l.Pairwise (· < ·)) (h : ∀ z, z ∈ l ↔ z ∈ ns) : ssI ns = l := pw_uniq (pw_ssI ns) p fun z => mem_ssI.trans (h z).symm
theorem len_insI {x : Int} : ∀ {l : List Int}, (insI x l).length ≤ l.length + 1
  | [] => by simp [insI]
  | y :: r => by
    unfold insI
    split
    · simp
    · split
      · simp
      · have := len_insI (x := x) (l := r); simp; omega
theorem len_ssI : ∀ ns : List Int, (ssI ns).length ≤ ns.length
  | [] => by simp [ssI]
  | n :: ns => by
    have h1 := len_insI (x := n) (l := ssI ns)
    have h2 := len_ssI ns
    show (insI n (ssI ns)).length ≤ _
    simp; omega
theorem ints_of_rep {K F H} : ∀ {ds : List PyData} {ns : List Int} {xs : List V}, RepA K F H ds xs → ints? ds = some ns → xs = ns.map V.int
  | [], ns, xs, r, e => by rw [RepA] at r; subst r; cases e; rfl
  | d :: ds, ns, xs, r, e => by
    rw [RepA] at r
    obtain ⟨x, t, rfl, h1, h2⟩ := r
    cases d with
    | int i =>
      simp only [ints?, Option.map_eq_some_iff] at e
      obtain ⟨ms, e, rfl⟩ := e
      rw [ints_of_rep h2 e, rep_int.mp h1]; rfl
    | _ => cases e
def rSetI (X : Cx) : List V → Hp → VK → Prop := fun vs H Q => ∃ (l : Addr) (ns : List Int), vs = [.ref l] ∧ (SqL X.K H l (ns.map V.int) ∨ SqT X.K H l (ns.map V.int)) ∧ ns.length < 4000 ∧
  ∀ p, H p = none → Q (.ref p) (upd H p (SetO X.w p (fun j => decide (j ∈ ns)) (ssI ns).length))
theorem setR_size {w : World} {h : Heap} {a : Addr} {ns : List Int} {c : Nat} (R : SetR w h a (fun j => decide (j ∈ ns)) c) : c = (ssI ns).length := by
  obtain ⟨o, es, ep, t, _, _, _, _, nd, mem, _, _, sz, _⟩ := R
  have p : (es.toList.map keyOf).Perm (ssI ns) := by
    rw [List.perm_ext_iff_of_nodup nd ((pw_ssI ns).imp fun h => by omega)]
    intro k
    rw [← mem k, mem_ssI]
    simp
  have := p.length_eq
  rw [List.length_map, Array.length_toList] at this
  omega
theorem cr_setI {X : Cx} (hc : X.calm = true) : CallR X (.type "set") (rSetI X) := by
  intro pins s σ H vs us Q I r h
  obtain ⟨l, ns, rfl, hs, hl, q⟩ := h
  rw [Vals.ref1 r]
  have fin : ∀ (h' : Heap) (tk c : Nat), SetR X.w h' s.heap.objs.size (fun j => decide (j ∈ ns)) c → c ≤ ns.length → (∀ b o, s.heap.get? b = some o → h'.get? b = some o) → EP X pins σ Q (.ref s.heap.objs.size) { s with heap := h', toks := tk } := fun h' tk c R hc k => by
    obtain rfl := setR_size R
    exact ⟨.ref s.heap.objs.size, upd H s.heap.objs.size (SetO X.w s.heap.objs.size (fun j => decide (j ∈ ns)) (ssI ns).length), I.laid (t' := tk) k (Nat.le_refl _) (setO_new R), rfl, q _ (I.hok.fresh (Nat.le_refl _))⟩
  rcases hs with hs | hs
  · obtain ⟨its, rv, pl, hz⟩ := I.list hs
    exact set_of_list (its := its.toArray) ns (I.ok.hd hc) pl.isList (by simpa using ints_of_vals rv) (by unfold scanBound; omega) fin
  · obtain ⟨its, rv, ⟨o, ho, hcl, n, hd⟩, hz⟩ := I.tuple hs
    exact call_set_tupI (items := its.toArray) ns (I.ok.hd hc) ⟨o, ho, hcl, n, hd⟩ (by simpa using ints_of_vals rv) (by unfold scanBound; omega) fin
def ssF : FB
  | [.list ds] => (ints? ds).bind fun ns => if decide ((ssI ns).length < 64) && decide (ns.length < 4000) then some (.ow false (.list ((ssI ns).map .int))) else none
  | [.tuple ds] => (ints? ds).bind fun ns => if decide ((ssI ns).length < 64) && decide (ns.length < 4000) then some (.ow false (.list ((ssI ns).map .int))) else none
  | _ => none
section
variable {X : Cx} {e : Expr} {as : VA} {p p2 q pos : Pos}
theorem repA_intsOf {K F H} (ns : List Int) : RepA K F H (ns.map PyData.int) (ns.map V.int) := repA_ints ns
theorem ve_sortset (hc : X.calm = true) (hm : X.mg "sorted" = none) (hm2 : X.mg "set" = none) (ha : VAx X [e] as) (hg : Gl X "sorted" := by rfl) (hg2 : Gl X "set" := by rfl)
    (hs : starEach [e] X.env = (false, eval e X.env) :: starEach [] X.env := by rfl) (hp : ((backTo q (starEach [] X.env)).any (·.1)) = false := by rfl)
    (hs1 : starEach [.Call (.Name "set" p2) [e] [] q] X.env = (false, eval (.Call (.Name "set" p2) [e] [] q) X.env) :: starEach [] X.env := by rfl) (hp1 : ((backTo pos (starEach [] X.env)).any (·.1)) = false := by rfl) :
    VEx X (.Call (.Name "sorted" p) [.Call (.Name "set" p2) [e] [] q] [] pos) (vBlt ssF as) := by
  refine PE.imp (pe_callB (cr_sortedSet hc) hg hm (by first | rfl | decide +kernel) (pa_cons (pe_callTy (cr_setI hc) hg2 hm2 (by first | rfl | decide +kernel) ha (by decide) (by decide) hs hp) pa_nil) (by decide) (by decide) hs1 hp1) fun σ H Q h => ?_
  refine (show TVA X.K as σ H _ from ?_)
  have h := blt_ok h
  obtain ⟨B, F, env, rs, env', st, e1, k⟩ := h
  refine ⟨B, F, env, rs, env', st, e1, fun vs F1 H1 P1 R1 N1 => ?_⟩
  obtain ⟨F2, ds, r, fH, rd, e2, k2⟩ := k vs F1 H1 P1 R1 N1
  have go : ∀ {zs : List PyData} {ns : List Int} {l : Addr} {xs : List V}, vs = [.ref l] → (SqL X.K H1 l xs ∨ SqT X.K H1 l xs) → RepA X.K F2 H1 zs xs → ints? zs = some ns → (ssI ns).length < 64 → ns.length < 4000 → (.ow false (.list ((ssI ns).map .int)) : R) = r →
      rSetI X vs H1 fun x H2 => tNil σ H2 fun xs H3 => rSortedSet X.w (x :: xs) H3 Q := by
    intro zs ns l xs ev hl ra hi h64 h4 er
    subst er
    have ex := ints_of_rep ra hi
    subst ex
    refine ⟨l, ns, ev, hl, h4, fun p np => ?_⟩
    show rSortedSet X.w [.ref p] _ Q
    refine ⟨p, fun j => decide (j ∈ ns), (ssI ns).length, rfl, upd_same, h64, fun ms p' pw mem hlen np' => ?_⟩
    have em : ssI ns = ms := ssI_of pw fun z => by rw [mem z]; simp
    have ne : p' ≠ p := fun z => by rw [z, upd_same] at np'; cases np'
    have np1 : H1 p' = none := by rwa [upd_ne ne] at np'
    refine k2 _ _ ⟨fun a o e => ?_, p', rfl, np1, ms.map V.int, upd_same, ?_⟩
    · rw [upd_ne (ne_of_none e np1), upd_ne (ne_of_none e np)]; exact e
    · rw [em]; exact repA_ints ms
  unfold ssF at e2
  split at e2
  · obtain ⟨v, rfl, h⟩ := rdLA_one rd
    obtain ⟨a, xs, rfl, hs, ra⟩ := rdL_list.mp h
    simp only [bind_some_iff] at e2
    obtain ⟨ns, hi, e2⟩ := e2
    split at e2
    · rename_i hh
      simp only [Bool.and_eq_true, decide_eq_true_eq] at hh
      exact go rfl (.inl hs) ra hi hh.1 hh.2 (Option.some.inj e2)
    · cases e2
  · obtain ⟨v, rfl, h⟩ := rdLA_one rd
    obtain ⟨a, xs, rfl, hs, ra⟩ := rdL_tup.mp h
    simp only [bind_some_iff] at e2
    obtain ⟨ns, hi, e2⟩ := e2
    split at e2
    · rename_i hh
      simp only [Bool.and_eq_true, decide_eq_true_eq] at hh
      exact go rfl (.inr hs.sq) ra hi hh.1 hh.2 (Option.some.inj e2)
    · cases e2
  · cases e2
end
end VL

/-! VX2: zip, dict(pairs), sorted(d.items()), d.items() -/
namespace VL
open PySem PySem.Spec PyProof.Rows L2 RZ
/-! ### zip -/
def pairD (a b : PyData) : PyData := .tuple [a, b]
def zipD : PyData → PyData → Option (List PyData)
  | .list xs, .list ys => some (List.zipWith pairD xs ys)
  | .tuple xs, .tuple ys => some (List.zipWith pairD xs ys)
  | .tuple _, .dict [(.none, .none)] => some []
  | .dict [(.none, .none)], .tuple _ => some []
  | _, _ => none
def wkT : PyData → Bool
  | .tuple zs => !stD zs
  | _ => false
def vZip (us : VU) : VI := fun env => (us env).bind fun p => match p.1 with
  | [a, b] => (zipD a b).bind fun ds => if ds.all wkT = true then some (ds, p.2) else none
  | _ => none
section
variable {K : PySem.W.Frag} {F : Addr → Prop} {H : Hp}
theorem zip_at {xs ys : List PyData} {i : Nat} {x y : PyData} (hx : xs[i]? = some x) (hy : ys[i]? = some y) : (List.zipWith pairD xs ys)[i]? = some (pairD x y) := by
  rw [List.getElem?_zipWith, hx, hy]
theorem zip_rep {F2 : Addr → Prop} {H2 : Hp} {T : Addr} {dx dy : PyData} {x y : V} (z : wkT (pairD dx dy) = true) (n : H2 T = none) (hx : Rep K F2 H2 dx x) (hy : Rep K F2 H2 dy y) :
    Rep K F2 (upd H2 T (.tup [x, y])) (pairD dx dy) (.ref T) := by
  have r : RepA K F2 H2 [dx, dy] [x, y] := by
    rw [RepA]; refine ⟨x, [y], rfl, hx, ?_⟩
    rw [RepA]; refine ⟨y, [], rfl, hy, ?_⟩
    rw [RepA]
  have := (Res.tup (K := K) (F := F2) (a := T) (by simpa [wkT, pairD] using z) n r).2
  exact this
theorem its_zipL {a b : Addr} {xs ys : List V} {ds es : List PyData} (fa : F a) (fb : F b) (ha : H a = some (.lst xs)) (hb : H b = some (.lst ys)) (ra : RepA K F H ds xs) (rb : RepA K F H es ys) (wk : (List.zipWith pairD ds es).all wkT = true) :
    ItsAt K F H (List.zipWith pairD ds es) (Itz K a b) := by
  refine ⟨fun i F2 H2 u hi => ?_, fun i F2 H2 x H3 u hi y => ?_, fun F2 H2 u => ?_⟩
  · rw [List.length_zipWith, ra.len, rb.len] at hi
    exact ⟨xs, ys, xs[i], ys[i], .of (u.ls _ _ fa ha), .of (u.ls _ _ fb hb), List.getElem?_eq_getElem _, List.getElem?_eq_getElem _⟩
  · obtain ⟨T, v, w, rfl, n, rfl, h1, h2⟩ := y
    obtain ⟨dx, e1, r1⟩ := ra.getV (h1 xs (.of (u.ls _ _ fa ha)))
    obtain ⟨dy, e2, r2⟩ := rb.getV (h2 ys (.of (u.ls _ _ fb hb)))
    have hz := zip_at e1 e2
    refine ⟨fun c o e => by rw [upd_ne (ne_of_none e n)]; exact e, _, hz, zip_rep (List.all_eq_true.mp wk _ (List.mem_of_getElem? hz)) n (Rep.up u _ _ r1) (Rep.up u _ _ r2)⟩
  · refine ⟨xs, ys, .of (u.ls _ _ fa ha), .of (u.ls _ _ fb hb), ?_⟩
    rw [List.length_zipWith, ra.len, rb.len]; omega
theorem its_zip0 {a b : Addr} {xs ys : List V} (ha : ∀ F2 H2, Up F H F2 H2 → SqT K H2 a xs) (hb : ∀ F2 H2, Up F H F2 H2 → SqT K H2 b ys) (h0 : xs = [] ∨ ys = []) : ItsAt K F H [] (ItzT K a b) := by
  refine ⟨fun i F2 H2 u hi => absurd hi (by simp), fun i F2 H2 x H3 u hi y => absurd hi (by simp), fun F2 H2 u => ⟨xs, ys, ha _ _ u, hb _ _ u, ?_⟩⟩
  rcases h0 with rfl | rfl <;> simp
theorem rep_W0_inv {v : V} (h : Rep K F H W0 v) : ∃ b, v = .ref b ∧ H b = some (.tup []) := by
  obtain ⟨b, e, h⟩ := keyT?_ok (K := K) (F := F) (H := H) (Rep.rdd h) (show keyT? W0 = some [] by rfl)
  exact ⟨b, e, h⟩
theorem its_zipT {a b : Addr} {xs ys : List V} {ds es : List PyData} (ha : TupAt H a xs) (hb : TupAt H b ys) (ra : RepA K F H ds xs) (rb : RepA K F H es ys) (wk : (List.zipWith pairD ds es).all wkT = true) :
    ItsAt K F H (List.zipWith pairD ds es) (ItzT K a b) := by
  refine ⟨fun i F2 H2 u hi => ?_, fun i F2 H2 x H3 u hi y => ?_, fun F2 H2 u => ?_⟩
  · rw [List.length_zipWith, ra.len, rb.len] at hi
    exact ⟨xs, ys, xs[i], ys[i], (ha.up u).sq, (hb.up u).sq, List.getElem?_eq_getElem _, List.getElem?_eq_getElem _⟩
  · obtain ⟨T, v, w, rfl, n, rfl, h1, h2⟩ := y
    obtain ⟨dx, e1, r1⟩ := ra.getV (h1 xs (ha.up u).sq)
    obtain ⟨dy, e2, r2⟩ := rb.getV (h2 ys (hb.up u).sq)
    have hz := zip_at e1 e2
    refine ⟨fun c o e => by rw [upd_ne (ne_of_none e n)]; exact e, _, hz, zip_rep (List.all_eq_true.mp wk _ (List.mem_of_getElem? hz)) n (Rep.up u _ _ r1) (Rep.up u _ _ r2)⟩
  · refine ⟨xs, ys, (ha.up u).sq, (hb.up u).sq, ?_⟩
    rw [List.length_zipWith, ra.len, rb.len]; omega
end
section
variable {X : Cx}
theorem repA_two {K F H} {d1 d2 : PyData} {vs : List V} (r : RepA K F H [d1, d2] vs) : ∃ v1 v2, vs = [v1, v2] ∧ Rep K F H d1 v1 ∧ Rep K F H d2 v2 := by
  rw [RepA] at r
  obtain ⟨v1, t, rfl, h1, r⟩ := r
  rw [RepA] at r
  obtain ⟨v2, t, rfl, h2, r⟩ := r
  rw [RepA] at r; subst r
  exact ⟨v1, v2, rfl, h1, h2⟩
theorem vi_zip {elts : List Expr} {kk : Nat} {tpos p pos : Pos} {e e2 : Expr} {us : VU} (hm : X.mg "zip" = none) (ha : VUx X [e, e2] us) (hg : Gl X "zip" := by rfl)
    (hs : starEach [e, e2] X.env = (false, eval e X.env) :: starEach [e2] X.env := by rfl) (hpl : (backTo pos (starEach [e2] X.env)).any (·.1) = false := by rfl) :
    VIx X (.Tuple elts kk tpos) (.Call (.Name "zip" p) [e, e2] [] pos) (vZip us) := PI.imp (pi_zipA hg hm ha hs hpl) fun σ H R h => by
  obtain ⟨B, F, env, items, env', s, e, k⟩ := h
  unfold vZip at e
  rw [bind_some_iff] at e
  obtain ⟨⟨ds, e1⟩, hf, e⟩ := e
  refine ⟨B, F, env, ds, e1, s, hf, fun vs F1 H1 P R1 => ?_⟩
  dsimp only at e
  split at e
  · rename_i a b
    rw [bind_some_iff] at e
    obtain ⟨zs, hz, e⟩ := e
    split at e
    · rename_i wk
      cases e
      obtain ⟨v1, v2, rfl, r1, r2⟩ := repA_two R1
      unfold zipD at hz
      split at hz
      · cases hz
        rw [Rep] at r1 r2
        obtain ⟨a, xs, rfl, fa, hx, ra⟩ := r1
        obtain ⟨b, ys, rfl, fb, hy, rb⟩ := r2
        exact ⟨a, b, xs, ys, rfl, .inl ⟨.of hx, .of hy, k _ F1 H1 P (its_zipL fa fb hx hy ra rb wk)⟩⟩
      · cases hz
        rw [Rep] at r1 r2
        obtain ⟨a, xs, rfl, hx, ra⟩ := r1
        obtain ⟨b, ys, rfl, hy, rb⟩ := r2
        exact ⟨a, b, xs, ys, rfl, .inr ⟨hx.sq, hy.sq, k _ F1 H1 P (its_zipT hx hy ra rb wk)⟩⟩
      · cases hz
        obtain ⟨b, rfl, hb⟩ := rep_W0_inv r2
        rw [Rep] at r1
        obtain ⟨a, xs, rfl, hx, ra⟩ := r1
        exact ⟨a, b, xs, [], rfl, .inr ⟨hx.sq, .of hb, k _ F1 H1 P (its_zip0 (fun _ _ u => (hx.up u).sq) (fun _ _ u => .of (u.tu _ _ hb)) (.inr rfl))⟩⟩
      · cases hz
        obtain ⟨a, rfl, ha⟩ := rep_W0_inv r1
        rw [Rep] at r2
        obtain ⟨b, ys, rfl, hy, rb⟩ := r2
        exact ⟨a, b, [], ys, rfl, .inr ⟨.of ha, hy.sq, k _ F1 H1 P (its_zip0 (fun _ _ u => .of (u.tu _ _ ha)) (fun _ _ u => (hy.up u).sq) (.inl rfl))⟩⟩
      · cases hz
    · cases e
  · cases e
end
/-! ### dict(pairs) -/
def pair? : PyData → Option (PyData × PyData)
  | .tuple [k, v] => (key? k).map fun _ => (k, v)
  | _ => none
def pairs? : List PyData → Option (List (PyData × PyData))
  | [] => some []
  | d :: r => (pair? d).bind fun p => (pairs? r).map fun ps => p :: ps
def dictF : FB
  | [.list ds] => (pairs? ds).bind fun kvs => if kvs.length ≤ sizeLine then some (.ow false (.dict (dmerge [] kvs))) else none
  | [.tuple ds] => (pairs? ds).bind fun kvs => if kvs.length ≤ sizeLine then some (.ow false (.dict (dmerge [] kvs))) else none
  | _ => none
theorem pair?_eq {d k v : PyData} (h : pair? d = some (k, v)) : d = .tuple [k, v] ∧ ∃ q, k = keyD q := by
  unfold pair? at h
  split at h
  · simp only [Option.map_eq_some_iff] at h
    obtain ⟨q, h1, h2⟩ := h
    cases h2
    exact ⟨rfl, q, key?_eq h1⟩
  · cases h
section
variable {K : PySem.W.Frag} {F : Addr → Prop} {H : Hp}
theorem pairs_rep : ∀ {ds : List PyData} {kvs : List (PyData × PyData)} {xs : List V}, pairs? ds = some kvs → RepA K F H ds xs → ∃ (ps : List Addr) (ks : List (Key × V)), xs = ps.map V.ref ∧ Paired (fun p kv => SqT K H p [kV kv.1, kv.2]) ps ks ∧ RepK K F H kvs ks
  | [], kvs, xs, h, r => by cases h; rw [RepA] at r; subst r; exact ⟨[], [], rfl, .nil, by rw [RepK]⟩
  | d :: ds, kvs, xs, h, r => by
    simp only [pairs?, bind_some_iff, Option.map_eq_some_iff] at h
    obtain ⟨⟨k, v⟩, h1, ps, h2, rfl⟩ := h
    rw [RepA] at r
    obtain ⟨x, t, rfl, r1, r2⟩ := r
    obtain ⟨rfl, q, rfl⟩ := pair?_eq h1
    rw [Rep] at r1
    obtain ⟨a, ys, rfl, ha, ry⟩ := r1
    obtain ⟨v1, v2, rfl, g1, g2⟩ := repA_two ry
    obtain ⟨as, ks, rfl, p, rk⟩ := pairs_rep h2 r2
    refine ⟨a :: as, (q, v2) :: ks, rfl, .cons (by rw [← rep_key g1]; exact ha.sq) p, ?_⟩
    rw [RepK]
    exact ⟨q, v2, ks, rfl, repP_iff.mpr ⟨rfl, g2⟩, rk⟩
theorem Paired.len {α β : Type} {G : α → β → Prop} {as : List α} {bs : List β} (h : Paired G as bs) : as.length = bs.length := Paired.length h
end
theorem st_refs (ps : List Addr) : st (ps.map V.ref) = true := by
  unfold st
  rw [Bool.or_eq_true, List.all_eq_true]
  right
  intro x hx
  obtain ⟨a, _, rfl⟩ := List.mem_map.mp hx
  rfl
theorem b_dict {X : Cx} (hc : X.calm = true) : CallR X (.type "dict") (rB X.K dictF) := by
  intro pins s σ H vs us Q I rv h
  obtain ⟨F, ds, r, fH, rd, e, q⟩ := h
  unfold dictF at e
  split at e
  · rename_i zs
    rw [bind_some_iff] at e
    obtain ⟨kvs, hp, e⟩ := e
    split at e
    · rename_i hl
      cases e
      obtain ⟨v, rfl, h⟩ := rdLA_one rd
      obtain ⟨a, xs, rfl, hs, ra⟩ := rdL_list.mp h
      obtain ⟨ps, ks, rfl, pr, rk⟩ := pairs_rep hp ra
      refine call_dictP hc pins s σ H _ us Q I rv ⟨a, ps, ks, rfl, hs, pr, fun p np => ?_⟩
      have same : ∀ b o, H b = some o → upd H p (.dK (mergeK [] ks)) b = some o := fun b o e => by rw [upd_ne (ne_of_none e np)]; exact e
      exact q _ _ ⟨same, p, rfl, np, mergeK [] ks, upd_same, RepK.merge (RepK.up (up_same' same) _ _ rk) (by rw [RepK])⟩
    · cases e
  · rename_i zs
    rw [bind_some_iff] at e
    obtain ⟨kvs, hp, e⟩ := e
    split at e
    · rename_i hl
      cases e
      obtain ⟨v, rfl, h⟩ := rdLA_one rd
      obtain ⟨a, xs, rfl, hs, ra⟩ := rdL_tup.mp h
      obtain ⟨ps, ks, rfl, pr, rk⟩ := pairs_rep hp ra
      unfold TupAt at hs
      rw [if_pos (st_refs ps)] at hs
      obtain ⟨ob, hob, nod⟩ := hs
      obtain ⟨g1, _, its, rv2, ⟨o, ho, hcl, n, hd⟩⟩ := (show ObjOk X.prog X.w H s.heap a (.frz ob (.tup (ps.map V.ref))) from I.hok a _ hob)
      have : ob = o := by rw [g1] at ho; exact Option.some.inj ho
      subst this
      have eits := refs_at rv2
      subst eits
      obtain ⟨prs, rel, hlen, hpr⟩ := pairs_of I pr
      rw [Vals.ref1 rv]
      have hlk : prs.length = kvs.length := by rw [rk.len, hlen, Paired.len pr]
      obtain ⟨us2, eus⟩ : ∃ us2 : List (Value × Value), us2.length = prs.length ∧ ∀ (j : Nat) q, prs[j]? = some q → ∃ u, us2[j]? = some (u, q.2) ∧ keyIs q.1 u = true ∧ ∃ b, ps[j]? = some b ∧ IsTup s.heap b #[u, q.2] := by
        have : ∀ (l : List (Key × Value)) (k : Nat), (∀ (j : Nat) q, l[j]? = some q → ∃ (b : Addr) (u : Value), ps[k + j]? = some b ∧ IsTup s.heap b #[u, q.2] ∧ keyIs q.1 u = true) →
            ∃ us2 : List (Value × Value), us2.length = l.length ∧ ∀ (j : Nat) q, l[j]? = some q → ∃ u, us2[j]? = some (u, q.2) ∧ keyIs q.1 u = true ∧ ∃ b, ps[k + j]? = some b ∧ IsTup s.heap b #[u, q.2] := by
          intro l
          induction l with
          | nil => intro k _; exact ⟨[], rfl, fun j q e => by simp at e⟩
          | cons p l ih =>
            intro k h
            obtain ⟨us2, l2, h2⟩ := ih (k + 1) fun j q e => by
              have := h (j + 1) q (by simpa using e)
              rwa [show k + (j + 1) = k + 1 + j by omega] at this
            obtain ⟨b, u, e1, e2, e3⟩ := h 0 p rfl
            refine ⟨(u, p.2) :: us2, by simp [l2], fun j q e => ?_⟩
            cases j with
            | zero => cases (Option.some.inj e); exact ⟨u, rfl, e3, b, e1, e2⟩
            | succ j =>
              obtain ⟨u', f1, f2, b', f3, f4⟩ := h2 j q (by simpa using e)
              exact ⟨u', by simpa using f1, f2, b', by rwa [show k + (j + 1) = k + 1 + j by omega], f4⟩
        obtain ⟨us2, l2, h2⟩ := this prs 0 fun j q e => by rw [Nat.zero_add]; exact hpr j q e
        exact ⟨us2, l2, fun j q e => by have := h2 j q e; rwa [Nat.zero_add] at this⟩
      have hn2 : us2.length ≤ sizeLine := by rw [eus.1, hlk]; exact hl
      refine PySem.call_dict_pairs (knd := mixKind X.prog X.w) (kvs := prs) (PairArg.tuple a (ps.map Value.ref).toArray (fun j => (ps[j]?).getD 0) us2) (I.ok.hd hc) ⟨⟨ob, n, ho, hcl, nod, hd⟩, ?_, ?_⟩ ⟨eus.1.symm, ?_⟩ hn2 fun h' tk hd' k => ?_
      · simp [eus.1, hlen]
      · intro j k v hj
        have hjl : j < prs.length := by rw [← eus.1]; exact (List.getElem?_eq_some_iff.mp hj).1
        obtain ⟨u, f1, f2, b, f3, f4⟩ := eus.2 j _ (List.getElem?_eq_getElem hjl)
        rw [hj] at f1
        cases f1
        refine ⟨by simp [f3], ?_⟩
        dsimp only
        rw [f3]
        exact .inl f4
      · intro j key v hj
        have hj' : us2[j]? = some (key, v) := hj
        have hjl : j < prs.length := by rw [← eus.1]; exact (List.getElem?_eq_some_iff.mp hj').1
        obtain ⟨u, f1, f2, _⟩ := eus.2 j _ (List.getElem?_eq_getElem hjl)
        rw [hj'] at f1
        cases f1
        exact ⟨prs[j].1, List.getElem?_eq_getElem hjl, f2⟩
      · have hm : (s.heap.objs.size == sysModules) = false := beq_eq_false_iff_ne.mpr (Nat.ne_of_gt I.big)
        have np : H s.heap.objs.size = none := I.hok.fresh (Nat.le_refl _)
        have hlen2 : (mergeK [] ks).length ≤ sizeLine := by
          refine Nat.le_trans (length_mergeK ks []) ?_
          rw [List.length_nil, Nat.zero_add, ← rk.len]; exact hl
        have same : ∀ b o, H b = some o → upd H s.heap.objs.size (.dK (mergeK [] ks)) b = some o := fun b o e => by rw [upd_ne (ne_of_none e np)]; exact e
        exact ⟨.ref s.heap.objs.size, upd H s.heap.objs.size (.dK (mergeK [] ks)), I.laid (t' := tk) (fun b o e => k b o (by simp) e) (Nat.le_refl _) (show ObjOk X.prog X.w _ _ _ (.dK (mergeK [] ks)) from ⟨hlen2, hm, merged [] prs, KV.merge rel .nil, hd'⟩), rfl,
          q _ _ ⟨same, _, rfl, np, mergeK [] ks, upd_same, RepK.merge (RepK.up (up_same' same) _ _ rk) (by rw [RepK])⟩⟩
    · cases e
  · cases e
/-! ### sorted(d.items()) -/
section
open PySem.W
variable {prog : Program} {w : World} {A : Around} {E : Value → Shared → Prop} {s : Shared} {vs : List Value} {Q : PySem.Fin → Shared → Prop}
def sortTail (vs : List Value) : Sem PySem.Fin := do
  let l ← newList vs
  let _ ← holding [l] (call (.builtin "list.sort") [l] [])
  ret l
theorem sort_tail {ds : List PyData} {R : Value → PyData → Prop} (er : EachIs (fun v d => ∃ as, Reads s.heap v d as) vs ds) (eR : EachIs R vs ds) (hal : AllAlike ds) (hk : Sortable ds) (hL : vs.length ≤ sizeLine) (hu : ∀ d ∈ ds, A.in1.units + d.depth < cLine)
    (h : ∀ (h' : Heap) p ep out, (∀ b o, s.heap.get? b = some o → h'.get? b = some o) → s.heap.objs.size ≤ p → h'.get? p = some { cls := .type "list", data := .seq (List.toArray out) ep } → EachIs R out (ds.mergeSort (dataLe false id)) → Q (.done (.ret (.ref p))) { s with heap := h' }) :
    wpAny (model prog w) A (sortTail vs) Q E s := by
  unfold sortTail
  refine wpAny_bind (wpAny_newList ?_ (by simpa using hL))
  have at1 : (s.heap.push (seqObj "list" vs.toArray 0)).get? s.heap.objs.size = some (seqObj "list" vs.toArray 0) := Heap.get?_push_size _ rfl
  have k2 : ∀ b o, s.heap.get? b = some o → (s.heap.push (seqObj "list" vs.toArray 0)).get? b = some o := fun b o e => Heap.get?_push_of_some _ e
  have ek : EachIs (fun v d => ∃ as, Reads (sortingHeap (s.heap.push (seqObj "list" vs.toArray 0)) s.heap.objs.size vs) v d as) vs ds := er.mono fun _ _ ⟨as, r⟩ => ⟨as, PyProof.Rows.Reads.keeps (fun b o e => sortingHeap_old (Nat.ne_of_lt (Heap.lt_size e)) (k2 b o e)) r⟩
  have al1 : AllAlike (ds.map id) := by rw [List.map_id]; exact hal
  show wpAny _ _ _ _ _ { s with heap := s.heap.push (seqObj "list" vs.toArray 0) }
  refine wpAny_bind (wpAny_holding (wpAny_call_entry_kw slot_list_sort ⟨_, at1, rfl⟩ entry_list_sort ?body (args_list_sort _)))
  refine list_sort_vals (s := { s with heap := s.heap.push (seqObj "list" vs.toArray 0) }) (κ := dataKind (sortingHeap (s.heap.push (seqObj "list" vs.toArray 0)) s.heap.objs.size vs) ds) at1
    (SortsAt.data (s := { s with heap := sortingHeap (s.heap.push (seqObj "list" vs.toArray 0)) s.heap.objs.size vs }) ek hal hk hu) hL ⟨_, rfl, wpAny_pure ?_⟩
  obtain ⟨c, hc⟩ := sortedHeap_at (vs := vs) (out := (sortVals (dataKind (sortingHeap (s.heap.push (seqObj "list" vs.toArray 0)) s.heap.objs.size vs) ds) false vs vs).toArray) at1
  refine h _ _ c _ (fun b o e => (sortedHeap_old (Nat.ne_of_lt (Heap.lt_size e)) (Heap.lt_size (k2 b o e))).trans (k2 b o e)) (Nat.le_refl _) hc ?_
  have q := sortVals_data (h' := sortingHeap (s.heap.push (seqObj "list" vs.toArray 0)) s.heap.objs.size vs) (R := R) (enc := id) (vs := vs) (bs := ds) false eR ek al1
  rw [List.map_id] at q
  exact q
end

section
variable {X : Cx}
open LiI in
theorem items_at {pins : List (Addr × Obj)} {σ : L2.St} {H : Hp} {s : Shared} {h' : Heap} {tk : Nat} {kvs : List (Key × V)} {vs : List (Key × Value)} {as : List Addr} {lo : Addr} (I : Inv X pins σ H s) (kv : KV kvs vs)
    (hk : ∀ b o, s.heap.get? b = some o → h'.get? b = some o) (hl : as.length = vs.length) (hlo : s.heap.objs.size ≤ lo) (hG : PySem.W.KdxG (mixKind X.prog X.w) vs lo h' as) :
    ∃ H' : Hp, (∀ b o, H b = some o → H' b = some o) ∧ Paired (fun (t : Addr) (q : Key × V) => H' t = some (.tup [kV q.1, q.2])) as kvs ∧ Inv X pins σ H' { s with heap := h', toks := tk } := by
  have lk : kvs.length = vs.length := Paired.length kv
  have nd : as.Nodup := List.Pairwise.imp (fun {a b} (h : a < b) => Nat.ne_of_lt h) hG.rise
  have up : ∀ t ∈ as, s.heap.objs.size ≤ t := fun t ht => Nat.le_trans hlo (Nat.le_of_lt (hG.above t ht))
  have new : ∀ t ∈ as, H t = none := fun t ht => I.hok.fresh (up t ht)
  have atP := putT_at as kvs H (by omega) nd
  have kp : ∀ b u, H b = some u → putT H as kvs b = some u := fun b u e => by
    rw [putT_off as kvs H (fun z => by rw [new b z] at e; cases e)]; exact e
  refine ⟨putT H as kvs, kp, atP, I.call' (ch := []) rfl ⟨fun b o q _ _ _ => hk b o q, fun b o q _ _ _ => ⟨o.slots, hk b o q⟩, fun b o q n _ => ?_, fun b o q _ => ⟨o, hk b o q⟩, fun b xs q => kp b _ q, fun b o u q => kp b _ q, fun b ps q => ⟨#[], by rw [kp b _ q]; simp⟩⟩ (fun b u q => ?_) I.bare fun b z => by simp at z⟩
  · rw [putT_off as kvs H fun z => absurd (Heap.lt_size q) (Nat.not_lt.mpr (up b z))]
    exact n
  · by_cases hb : b ∈ as
    · obtain ⟨j, pk, e1, e2, e3⟩ := paired_ix atP hb
      rw [e3] at q
      cases q
      obtain ⟨key, k, x, f1, f2, f3⟩ := hG.pairs j b e1
      obtain ⟨qv, g1, g2, g3⟩ := LiI.paired_get kv e2
      rw [f1] at g1
      cases g1
      have rk : RelV (kV pk.1) key := by
        rw [g2]; exact relV_key (show keyIs k key = true from f2)
      exact ⟨by show 2 ≤ sizeLine; decide, [key, x], .cons rk (.cons g3 .nil), ⟨_, f3, rfl, _, rfl⟩⟩
    · rw [putT_off as kvs H hb] at q
      exact (I.hok b u q).stay (fun d v _ y => hk d v y) (fun d y => kp d _ y) fun d xs y => kp d _ y
def itemsPD (kvs : List (PyData × PyData)) : List PyData := kvs.map fun p => pairD p.1 p.2
def vSortIt (f : VE) : VE := fun env => (f env).bind fun p => match dk p.2 p.1 with
  | some (false, kvs) => if sortOk (itemsPD kvs) && (itemsPD kvs).all wkT then some (.ow false (.list (sortD (itemsPD kvs))), p.2) else none
  | _ => none
theorem repA_items {K F H} : ∀ {kvs : List (PyData × PyData)} {ks : List (Key × V)} {as : List Addr}, RepK K F H kvs ks → (itemsPD kvs).all wkT = true → Paired (fun (t : Addr) (q : Key × V) => H t = some (.tup [kV q.1, q.2])) as ks → RepA K F H (itemsPD kvs) (as.map V.ref)
  | [], ks, as, r, _, p => by rw [RepK] at r; subst r; cases p; exact repA_nil
  | kv :: kvs, ks, as, r, w, p => by
    rw [RepK] at r
    obtain ⟨q, x, t, rfl, h1, h2⟩ := r
    obtain ⟨e1, r1⟩ := repP_iff.mp h1
    cases p with
    | cons ht p =>
      rename_i a as
      unfold itemsPD at w ⊢
      rw [List.map_cons, List.all_cons, Bool.and_eq_true] at w
      rw [List.map_cons, List.map_cons, RepA]
      have rr : RepA K F H [kv.1, kv.2] [kV q, x] := by
        rw [RepA]; refine ⟨_, _, rfl, by rw [e1]; exact rep_keyI, ?_⟩
        rw [RepA]; refine ⟨_, _, rfl, r1, ?_⟩
        rw [RepA]
      refine ⟨_, _, rfl, ?_, repA_items h2 w.2 p⟩
      unfold pairD
      rw [Rep]
      exact ⟨a, _, rfl, .of ht (by rw [rr.st]; simpa [wkT, pairD] using w.1), rr⟩
theorem vals_refsV : ∀ as : List Addr, Vals (as.map V.ref) (as.map Value.ref)
  | [] => .nil
  | _ :: as => .cons rfl (vals_refsV as)
theorem ve_sortit {e : Expr} {f : VE} {p apos cpos pos : Pos} (hc : X.calm = true) (hu : X.A.units + 64 < cLine) (he : VEx X e f) (hm : X.mg "sorted" = none) (hg : Gl X "sorted" := by rfl) (hv : bootBuiltins "sorted" = some (.builtin "sorted") := by first | rfl | decide +kernel) (hbase : attributeBase e "items" X.env (eval e X.env) = eval e X.env := by rfl) (hline : (apos.endLine == cpos.line) = true := by rfl)
    (hs : starEach [.Call (.Attribute e "items" apos) [] [] cpos] X.env = (false, eval (.Call (.Attribute e "items" apos) [] [] cpos) X.env) :: starEach [] X.env := by rfl) (hpl : (backTo pos (starEach [] X.env)).any (·.1) = false := by rfl) :
    VEx X (.Call (.Name "sorted" p) [.Call (.Attribute e "items" apos) [] [] cpos] [] pos) (vSortIt f) := by
  refine ⟨fun pins s σ H Q I hq => ?_⟩
  obtain ⟨B, F0, env, r, env', st0, e0, k⟩ := hq
  unfold vSortIt at e0
  rw [bind_some_iff] at e0
  obtain ⟨⟨r1, e1⟩, hf, e0⟩ := e0
  refine wpAny_Call_Name_kw (ld_blt I hg hm hv ?_)
  refine PyProof.Rows.callWith_builtin1 ?_ hs hpl
  rw [hs]
  show wpAny _ _ (spliced ((false, eval (.Call (.Attribute e "items" apos) [] [] cpos) X.env) :: backTo pos (starEach [] X.env))) _ _ s
  refine Calls.spliced_cons ?_
  have run := he.run pins s σ H (fun v H1 => ∃ F1, Post X.K B σ env F0 H e1 F1 H1 ∧ RepR X.K B F1 H1 σ e1 r1 v) I ⟨B, F0, env, r1, e1, st0, hf, fun v F' H' P R _ => ⟨F', P, R⟩⟩
  refine wpAny_Call_method (T := "dict") (id := "dict.items") hbase rfl hline PySem.F.plainAttrs_dict PySem.F.slot_dict_items PySem.F.type_dict_items (thn run fun u s1 ⟨x, H1, I1, rx, F1, P1, R1⟩ => ?_)
  dsimp only at e0
  split at e0
  · rename_i kvs hdk
    split at e0
    · rename_i ok
      cases e0
      rw [Bool.and_eq_true] at ok
      obtain ⟨d, rfl, ks, hrd, rk⟩ := dk_ok P1.st R1 hdk
      obtain rfl : u = Value.ref d := rx
      obtain ⟨hz, hs0, vs, kv, hdo⟩ := dk_rd I1.hok hrd
      obtain ⟨ep, hat⟩ := hdo.dictAt
      have I2 : Inv X pins σ H1 { s1 with heap := s1.heap.push { cls := .type "dict_items", data := .fields #[.ref d] } } := I1.kept (t' := s1.toks) fun b ob q => Heap.get?_push_of_some _ q
      refine ⟨hdo.typeIs, hdo.mapOf.noDict, ?_⟩
      show wpAny _ _ (callWith cpos (.builtin "dict.items") [.ref d] [] []) _ X.xe s1
      refine method_meetsIn PySem.F.slot_dict_items PySem.F.entry_dict_items rfl (PySem.evalArgs_none ⟨rfl, hdo.typeIs, PySem.F.args_dict_items_1 _, _, meets_dict_items (mixKind X.prog X.w) d hs0, ⟨vs, hdo⟩, ?_⟩)
      refine Calls.spliced_nil ?_
      obtain ⟨o1, o2, o3, o4, o5⟩ := sortOk_all ok.1
      have hlen : (itemsPD kvs).length = vs.length := by rw [itemsPD, List.length_map, rk.len, Paired.length kv]
      refine call_function_entry_kw kind_sorted plain_sorted entry_sorted (args_sorted1 _) ?_
      unfold Builtin.«sorted»
      refine wpAny_bind (m := checkCount "sorted" 1 1 _) (wpAny_pure ?_)
      refine wpAny_bind (PySem.W.kdx_collect (knd := mixKind X.prog X.w) (kvs := vs) (ep := ep) (by simpa using I1.ok.hd hc) ⟨_, Heap.get?_push_size _ rfl, rfl, rfl⟩ (hat.push _) (by rw [← hlen]; exact o1) fun h1 tk as k1 hl hG => ?_)
      obtain ⟨H2, kp, pr, I3⟩ := items_at (tk := tk) I2 kv k1 hl (Nat.le_refl _) hG
      have ra : RepA X.K F1 H2 (itemsPD kvs) (as.map V.ref) := repA_items (RepK.up (up_same' kp) _ _ rk) ok.2 pr
      obtain ⟨zs, hr⟩ := Dp.readsAll I3 _ _ (as.map Value.ref) (RepA.dp _ _ o2 ra) (vals_refsV as)
      refine sort_tail (s := { s1 with heap := h1, toks := tk }) (R := fun v d => ∃ x, RelV x v ∧ Rep X.K F1 H2 d x) (readsAll_each hr) (each_rep (vals_refsV as) ra) o3 o5 (by rw [List.length_map, hl, ← hlen]; exact o1) (fun dd hd => by have := o4 dd hd; simp; omega) fun h' q ep' out k2 hp hat' eo => ?_
      obtain ⟨ys, hv', ra'⟩ := rep_each eo
      have np : H2 q = none := I3.hok.fresh hp
      have hl2 : ys.length ≤ sizeLine := by
        have := ra'.len
        rw [List.length_mergeSort] at this
        omega
      refine ⟨_, rfl, .ref q, upd H2 q (.lst ys), I3.laid (t' := tk) (o := .lst ys) k2 hp ⟨hl2, out, ep', hv', hat'⟩, rfl, ?_⟩
      have res : Res X.K F1 H1 (upd H2 q (.lst ys)) (.ow false (.list (sortD (itemsPD kvs)))) (.ref q) := by
        have r2 := Res.lst (K := X.K) (F := F1) np ra' (fun b fb => by
          have := P1.st.fH b fb
          cases hb : H1 b with
          | none => exact absurd hb this
          | some o => rw [kp b o hb]; simp)
        refine ⟨fun b o e => r2.1 b o (kp b o e), q, rfl, ?_, ?_⟩
        · cases hb : H1 q with
          | none => rfl
          | some o => rw [kp q o hb] at np; cases np
        · obtain ⟨a, ea, _, ro⟩ := r2.2
          cases ea
          exact ro
      obtain ⟨p1, p2, p3⟩ := P1.res res
      exact k _ F1 _ p1 p2 p3
    · cases e0
  · cases e0
end
end VL

/-! VX3: a, b = x, y where a name is a comprehension's too -/
namespace VL
open PySem PySem.Spec PyProof.Rows L2
section
variable {K : PySem.W.Frag}
/-- the parallel store by way of a tuple -/
theorem par_goT {is : List Nat} {as : VA} {D : Ends} {σ : L2.St} {H : Hp} (h : TVS K (vPar is as) D σ H) : TVA K as σ H fun vs H1 => vs.length = is.length ∧ ∀ p, H1 p = none → D.nx ((is.zip vs).foldl (fun s p => s.set p.1 (some p.2)) σ) (upd H1 p (.tup vs)) := by
  obtain ⟨B, F, env, fl, env', s, e, k⟩ := h
  unfold vPar at e
  simp only [bind_some_iff, Option.map_eq_some_iff] at e
  obtain ⟨⟨rs, e1⟩, ha, ⟨ss, e2⟩, hh, e3, hp, he⟩ := e
  cases he
  refine ⟨B, F, env, rs, e1, s, ha, fun vs F1 H1 P R N => ?_⟩
  have len : vs.length = is.length := by
    obtain ⟨F2, P2, hd, _, _, _⟩ := heldAll_ok P R N hh
    exact (putAll_ok (Go.of P2) hd hp).2
  refine ⟨len, fun p np => ?_⟩
  have same : ∀ a o, H1 a = some o → upd H1 p (.tup vs) a = some o := fun a o e => by rw [upd_ne (ne_of_none e np)]; exact e
  obtain ⟨F2, P2, hd, _, _, _⟩ := heldAll_ok (P.new same) (R.post P.st ((Post.refl P.st).new same)) N hh
  exact k _ F2 _ (putAll_ok (Go.of P2) hd hp).1
end
section
variable {X : Cx}
theorem vs_parC {i j : Nat} {x y : Str} {a b : Expr} {as : VA} {px py pt pt2 pos : Pos} {kt k2 : Nat} (hc : X.calm = true) (hN : X.N.Nodup) (ha : VAx X [a, b] as) (hi : X.N[i]? = some x := by rfl) (hj : X.N[j]? = some y := by rfl)
    (hx : Loc X.env.scope x := by first | exact Or.inl rfl | exact Or.inr rfl) (hy : Loc X.env.scope y := by first | exact Or.inl rfl | exact Or.inr rfl)
    (fx : X.fn x = true ∨ X.env.scope.names.lookup x = some .local := by first | exact .inl rfl | exact .inr rfl) (fy : X.fn y = true ∨ X.env.scope.names.lookup y = some .local := by first | exact .inl rfl | exact .inr rfl)
    (hs : swapsWithSole [.Tuple [.Name x px, .Name y py] kt pt] (.Tuple [a, b] k2 pt2) pos.line X.env = pure false := by rfl) (hw : swappedStores [.Tuple [.Name x px, .Name y py] kt pt] (.Tuple [a, b] k2 pt2) X.env = pure none := by rfl)
    (h1 : (assignEach [.Tuple [.Name x px, .Name y py] kt pt] X.env).map (·.2) = [assign (.Tuple [.Name x px, .Name y py] kt pt) X.env] := by rfl)
    (g1 : (assignEach [.Name x px, .Name y py] X.env).map (·.2) = assign (.Name x px) X.env :: (assignEach [.Name y py] X.env).map (·.2) := by rfl) (g2 : (assignEach [.Name y py] X.env).map (·.2) = assign (.Name y py) X.env :: (assignEach [] X.env).map (·.2) := by rfl)
    (g3 : (assignEach [.Name x px, .Name y py] X.env).length = 2 := by rfl) (g4 : (assignEach [.Name x px, .Name y py] X.env).findIdx? (·.1) = none := by rfl) :
    VSx X (.Assign [.Tuple [.Name x px, .Name y py] kt pt] (.Tuple [a, b] k2 pt2) pos) (vPar [i, j] as) :=
  PS.imp (ps_asg (pe_tup ha) (pg_tup (n := 2) hc (pgs_cons (pg_name hN hi hx fx) (pgs_cons (pg_name hN hj hy fy) pgs_nil g2) g1) g3 g4) hs hw h1) fun D σ H h => by
    obtain ⟨B, F, env, rs, env', s, e, k⟩ := par_goT h
    refine ⟨B, F, env, rs, env', s, e, fun vs F' H' P R N => ?_⟩
    obtain ⟨hl, q⟩ := k vs F' H' P R N
    match vs, hl, q with
    | [v, w], _, q => exact ⟨by show 2 ≤ sizeLine; decide, fun p np => ⟨p, _, rfl, .inl (.inl upd_same), rfl, v, [w], rfl, w, [], rfl, rfl, q p np⟩⟩
end
end VL

/-! VX4: d.items() walked, d[k] op= e, xs[::-1], dicts keyed by tuples -/
namespace VL
open PySem PySem.Spec PyProof.Rows L2
/-! ### for k, v in d.items() -/
def vItems (f : VE) : VI := fun env => (f env).bind fun p => match dk p.2 p.1 with
  | some (false, kvs) => (use p.2 p.1).bind fun q => if (itemsPD kvs).all wkT = true then some (itemsPD kvs, q.2) else none
  | _ => none
section
variable {X : Cx}
def iItemsL (td : TE) : TI := fun σ H R => td σ H fun x H1 => ∃ d kvs, x = .ref d ∧ ((H1 d = some (.dK kvs) ∧ ∀ od, R (Iti d od kvs) (upd H1 d (.frz od (.dK kvs)))) ∨ ∃ od, H1 d = some (.frz od (.dK kvs)) ∧ R (Iti d od kvs) H1)
theorem pi_itemsL {elts : List Expr} {kk : Nat} {tpos apos cpos : Pos} {e : Expr} {td : TE} (he : PE X e td) (hbase : attributeBase e "items" X.env (eval e X.env) = eval e X.env := by rfl) (hline : (apos.endLine == cpos.line) = true := by rfl) :
    PI X (.Tuple elts kk tpos) (.Call (.Attribute e "items" apos) [] [] cpos) (iItemsL td) := by
  refine ⟨fun pins s σ H R I h => ?_⟩
  refine wpAny_Call_method (T := "dict") (id := "dict.items") hbase rfl hline F.plainAttrs_dict F.slot_dict_items F.type_dict_items (thn (he.run pins s σ H _ I h) fun u s1 ⟨x, H0, I0, rx, d, kvs, ex, q0⟩ => ?_)
  subst ex
  obtain rfl : u = Value.ref d := rx
  obtain ⟨H1, o, I1, hd, q⟩ : ∃ H1 o, Inv X pins σ H1 s1 ∧ H1 d = some (.frz o (.dK kvs)) ∧ R (Iti d o kvs) H1 := by
    rcases q0 with ⟨hq, q⟩ | ⟨od, hq, q⟩
    · obtain ⟨od, I2⟩ := I0.lock hq trivial
      exact ⟨_, od, I2, upd_same, q od⟩
    · exact ⟨H0, od, I0, hq, q⟩
  obtain ⟨hs, hgd, hx, es, ep, vs, hdt, hsz, kv, hm⟩ := I1.frzK hd
  have hl : kvs.length = vs.length := Paired.length kv
  refine ⟨hm.dictOf.typeIs, hm.dictOf.mapOf.noDict, ?_⟩
  have I2 : Inv X pins σ H1 { s1 with heap := s1.heap.push { cls := .type "dict_items", data := .fields #[.ref d] } } := I1.kept (t' := s1.toks) fun b ob q => Heap.get?_push_of_some _ q
  have fin : wpAny (model X.prog X.w) X.A (pyIter (.ref s1.heap.objs.size)) (PIE X pins σ (.Tuple elts kk tpos) R) X.xe { s1 with heap := s1.heap.push { cls := .type "dict_items", data := .fields #[.ref d] } } := by
    refine wpAny_pyIter_items (d := d) (knd := mixKind X.prog X.w) ⟨_, Heap.get?_push_size _ rfl, rfl, rfl⟩ (hm.push _) (pi_one (tk := s1.toks) I2 _ (turn_items _ hdt) ⟨.none, .none, ?_⟩ q)
    rw [hl]
    exact Heap.get?_push_size _ rfl
  show wpAny _ _ (callWith cpos (.builtin "dict.items") [.ref d] [] []) _ X.xe s1
  exact method_meetsIn F.slot_dict_items F.entry_dict_items rfl (PySem.evalArgs_none ⟨rfl, hm.dictOf.typeIs, F.args_dict_items_1 _, _, meets_dict_items (mixKind X.prog X.w) d hs, ⟨vs, hm.dictOf⟩, fin⟩)
theorem its_items {K : PySem.W.Frag} {F : Addr → Prop} {H : Hp} {a : Addr} {o : Obj} {ks : List (Key × V)} {kvs : List (PyData × PyData)} (h : H a = some (.frz o (.dK ks))) (r : RepK K F H kvs ks) (wk : (itemsPD kvs).all wkT = true) :
    ItsAt K F H (itemsPD kvs) (Iti a o ks) := by
  obtain ⟨l, g⟩ := repK_get r
  refine ⟨fun i F2 H2 u hi => ⟨u.sc _ _ _ h, by simpa [itemsPD, ← l] using hi⟩, fun i F2 H2 x H3 u hi y => ?_, fun F2 H2 u => ⟨u.sc _ _ _ h, by simp [itemsPD, l]⟩⟩
  obtain ⟨T, k, v, e, rfl, n, rfl⟩ := y
  obtain ⟨d, ed, rd⟩ := g i k v e
  have hz : (itemsPD kvs)[i]? = some (pairD (keyD k) d) := by unfold itemsPD; rw [List.getElem?_map, ed]; rfl
  refine ⟨fun c o e => by rw [upd_ne (ne_of_none e n)]; exact e, _, hz, zip_rep (List.all_eq_true.mp wk _ (List.mem_of_getElem? hz)) n rep_keyI (Rep.up u _ _ rd)⟩
theorem rd_dK_dT {H : Hp} {a : Addr} {ks : List (Key × V)} {ts : List (List Key × V)} (h : Rd H a (.dK ks)) (h' : Rd H a (.dT ts)) : False := by
  rcases h with h | ⟨_, h⟩ <;> rcases h' with h' | ⟨_, h'⟩ <;> rw [h] at h' <;> cases h'
theorem vi_items {elts : List Expr} {kk : Nat} {tpos apos cpos : Pos} {e : Expr} {f : VE} (he : VEx X e f) (hbase : attributeBase e "items" X.env (eval e X.env) = eval e X.env := by rfl) (hline : (apos.endLine == cpos.line) = true := by rfl) :
    VIx X (.Tuple elts kk tpos) (.Call (.Attribute e "items" apos) [] [] cpos) (vItems f) := PI.imp (pi_itemsL he hbase hline) fun σ H R h => by
  obtain ⟨B, F, env, items, env', s, e, k⟩ := h
  unfold vItems at e
  rw [bind_some_iff] at e
  obtain ⟨⟨r, e1⟩, hf, e⟩ := e
  refine ⟨B, F, env, r, e1, s, hf, fun v F1 H1 P R1 N1 => ?_⟩
  dsimp only at e
  split at e
  · rename_i kvs hdk
    rw [bind_some_iff] at e
    obtain ⟨⟨d, e2⟩, hu, e⟩ := e
    dsimp only at e
    split at e
    · rename_i ok
      cases e
      obtain ⟨a, ea, ks, hrd, rk⟩ := dk_ok P.st R1 hdk
      subst ea
      obtain ⟨F2, P2, rep, u, _, _⟩ := use_ok P R1 N1 hu
      have hF : F2 a := by
        cases d with
        | dict zs =>
          rw [Rep] at rep
          obtain ⟨_, a', ea, ⟨f2, _⟩ | ⟨_, z⟩⟩ := rep
          · cases ea; exact f2
          · cases ea
            rcases hrd with h | ⟨_, h⟩ <;> rw [h] at z <;> cases z
        | list zs =>
          rw [Rep] at rep
          obtain ⟨a', xs, ea, f2, _⟩ := rep
          cases ea; exact f2
        | tuple zs =>
          rw [Rep] at rep
          obtain ⟨a', xs, ea, t, _⟩ := rep
          cases ea
          rcases t.rd with t | ⟨_, t⟩ <;> rcases hrd with h | ⟨_, h⟩ <;> rw [h] at t <;> cases t
        | none => cases (rep_none.mp rep)
        | bool b => cases (rep_bool.mp rep)
        | int b => cases (rep_int.mp rep)
        | str b => cases (rep_str.mp rep)
      have rk2 := RepK.up u _ _ rk
      rcases hrd with hr | ⟨od, hr⟩
      · refine ⟨a, ks, rfl, .inl ⟨hr, fun od => ?_⟩⟩
        obtain ⟨P3, u3⟩ := P2.lock (od := od) hF hr trivial
        exact k _ F2 _ P3 (its_items upd_same (RepK.up u3 _ _ rk2) ok)
      · exact ⟨a, ks, rfl, .inr ⟨od, hr, k _ F2 H1 P2 (its_items hr rk2 ok)⟩⟩
    · cases e
  · cases e
end
/-! ### d[k] op= e, ints -/
def vDAug (c : Nat) (g : F2) (fi fe : VE) : VS := fun env => if hasV env c = true then (vUse fi env).bind fun i => match dk i.2 (.br c) with
  | some (false, kvs) => match dgetF false kvs i.1 with
    | some (some (.int v)) => (fe i.2).bind fun p => (rd p.2 p.1).bind fun b => match g (.int v) b, dk p.2 (.br c) with
      | some (.fz (.int z)), some (false, _) => (doSet c i.1 (.int z) p.2).map fun e => (.nx, e)
      | _, _ => none
    | _ => none
  | _ => none
  else none
section
variable {K : PySem.W.Frag} {B F F0 : Addr → Prop} {H H0 : Hp} {σ : L2.St} {env env0 env' : EV}
theorem br_slot {env : EV} {c : Nat} {x : Bool × List (PyData × PyData)} (h : dk env (.br c) = some x) : ∃ s, env[c]? = some (some s) := by
  cases z : env[c]? with
  | none => simp [dk, z] at h
  | some y => cases y with
    | none => simp [dk, z] at h
    | some s => exact ⟨s, rfl⟩
/-- a store into a dict with keys that are ints and texts -/
theorem doSet_put {c : Nat} {di dv : PyData} {x i v : V} {Q : Hp → Prop} (s0 : StOk K B F0 H0 σ env0) (P : Post K B σ env0 F0 H0 env F H) (ri : Rep K F H di i) (rv : Rep K F H dv v) (e : doSet c di dv env = some env') (ex : σ[c]? = some (some x))
    {kvs : List (PyData × PyData)} (hd : dk env (.br c) = some (false, kvs)) (k : ∀ F' H', Post K B σ env0 F0 H0 env' F' H' → Q H') : ∃ a H', x = .ref a ∧ DPut H a i v H' ∧ Q H' := by
  unfold doSet at e
  split at e
  · rename_i sv ec
    split at e
    · rename_i ow
      simp only [Option.map_eq_some_iff] at e
      obtain ⟨d', hg, he⟩ := e
      cases he
      obtain ⟨a, ea, nf, ro⟩ := P.st.own_k ec ow
      rw [ex] at ea; cases ea
      simp only [dk, ec] at hd
      have hk : sv.k = false ∧ ∃ zs, sv.d = .dict zs := by
        cases sv with
        | fz d => cases ow
        | pz d => cases ow
        | sc ns => cases ow
        | ow k d => cases d <;> simp [dkOw] at hd; exact ⟨hd.1, _, rfl⟩
        | pw k d => cases d <;> simp [dkOw] at hd; exact ⟨hd.1, _, rfl⟩
      obtain ⟨hk, zs, hz⟩ := hk
      rw [hk, hz] at hg ro
      unfold setG at hg
      simp only [bind_some_iff] at hg
      obtain ⟨kk, hkk, hg⟩ := hg
      split at hg
      · rename_i hl
        cases hg
        obtain ⟨ks, hx, rx⟩ := ro
        have hkD := key?_eq hkk
        subst hkD
        have ei := rep_key ri
        subst ei
        refine ⟨a, _, rfl, DPut.k hx (by rw [← rx.len]; exact hl), ?_⟩
        have oth : ∀ b o, b ≠ a → H b = some o → upd H a (.dK (putK ks kk v)) b = some o := upd_oth
        exact k F _ (P.write s0 ec ow ex oth (by rw [upd_same]; simp) fun up => by
          rw [hk]
          exact ⟨_, upd_same, RepK.put kk (Rep.up up _ _ rv) (RepK.up up _ _ rx)⟩).1
      · cases hg
    · cases e
  · cases e
end
section
variable {X : Cx} {e i : Expr} {fe fi : VE} {c : Nat} {x : Str} {p tpos pos : Pos} {op : Operator} {g : F2}
theorem vs_daug (hu : X.A.units + 1 < cLine) (hop : OpR X (inplaceOp op) (rOp2 X.K g)) (hi : VEx X i fi) (he : VEx X e fe) (hN : X.N[c]? = some x := by rfl) (hv : Vis X.env.scope x := by first | exact Or.inl rfl | exact Or.inr (Or.inl rfl) | exact Or.inr (Or.inr rfl))
    (hd : (x == ("__debug__" : Str)) = false := by decide) (hcd : (x == ("__classdict__" : Str)) = false := by decide)
    (ha : ∀ ov iv new, augStore i ov iv new = (do holding [new, ov, iv] (setItem ov iv new); release [new, ov, iv] []; pure .next) := by intro _ _ _; rfl) :
    VSx X (.AugAssign (.Subscript (.Name x p) i tpos) op e pos) (vDAug c g fi fe) :=
  PS.imp (ps_daug hu (pe_var hN hv hd hcd) hi he hop ha) fun D σ H h => by
    obtain ⟨B, F, env, fl, env', s, e, k⟩ := h
    unfold vDAug at e
    split at e
    case isFalse => cases e
    rename_i hc
    rw [bind_some_iff] at e
    obtain ⟨⟨di, e1⟩, hf, e⟩ := e
    dsimp only at e
    obtain ⟨y, ey⟩ := hasV_ok s hc
    refine ⟨y, ey, tu_of ⟨B, F, env, di, e1, s, hf, fun iv F1 H1 P1 R1 => ?_⟩⟩
    split at e
    · rename_i kvs hdk
      split at e
      · rename_i v hget
        simp only [bind_some_iff] at e
        obtain ⟨⟨r, e2⟩, hfe, b, hb, e⟩ := e
        split at e
        · rename_i z kvs2 hz hdk2
          simp only [Option.map_eq_some_iff] at e
          obtain ⟨e3, hset, he3⟩ := e
          cases he3
          have hr : RepR X.K B F1 H1 σ e1 (.br c) y := by
            refine ⟨ey, ?_⟩
            obtain ⟨sv, hs⟩ := br_slot hdk
            exact ⟨sv, hs, fun ns z => by subst z; simp [dk, hs] at hdk⟩
          obtain ⟨a, o', ea, hg, hrel⟩ := dget_ok (dk_ok P1.st hr hdk) (Rep.rdd R1) hget
          subst ea
          cases o' with
          | none => exact hrel.elim
          | some w =>
            have ew : w = .int v := (rep_int (K := X.K) (F := F1) (H := H1)).mp hrel
            subst ew
            refine ⟨a, _, rfl, hg, ⟨B, F1, e1, r, e2, P1.st, hfe, fun y2 F2 H2 P2 R2 N2 => ⟨F2, .int v, b, _, P2.st.fH, rdd_int.mpr rfl, rd_ok P2.st R2 hb, hz, fun z' H3 rs => ?_⟩⟩⟩
            obtain ⟨P3, R3, _⟩ := P2.res rs
            have ez : z' = .int z := (rep_int (K := X.K) (F := F2) (H := H3)).mp rs.2
            subst ez
            obtain ⟨a2, H5, ea2, hp, q⟩ := doSet_put (Q := D.nx σ) s (P1.trans s P3) (Rep.up (P3.up P1.st) _ _ R1) rep_intI hset ey hdk2 fun F' H' P => k σ F' H' (.of P)
            cases ea2
            exact ⟨H5, hp, q⟩
        · cases e
      · cases e
    · cases e
end
end VL

/-! VX5: xs[::-1], xs[:0:-1]; dicts keyed by tuples: {tuple(xs): v}, setdefault, sorted, len, == {} -/
namespace VL
open PySem PySem.Spec PyProof.Rows L2
/-! ### backwards -/
theorem fm_congr {α β : Type} {f g : α → Option β} : ∀ {l : List α}, (∀ x ∈ l, f x = g x) → l.filterMap f = l.filterMap g
  | [], _ => rfl
  | x :: l, h => by
    rw [List.filterMap_cons, List.filterMap_cons, h x (by simp), fm_congr fun y hy => h y (by simp [hy])]
theorem pick_back (l : List Value) : (((List.range l.length).map fun k => l.length - 1 - k).filterMap (l[·]?)) = l.reverse := by
  have h := PySem.W.krv_pick l.toArray
  unfold slicePick at h
  rw [PySem.W.krv_bounds] at h
  have h2 := congrArg Array.toList h
  simp only [List.size_toArray] at h2
  rw [PySem.W.krv_sliceRange] at h2
  simpa using h2
theorem pick_tail (items : Array Value) : slicePick items none (some 0) (some (-1)) = (items.toList.drop 1).reverse.toArray := by
  obtain ⟨l⟩ := items
  unfold slicePick
  congr 1
  cases l with
  | nil => simp [sliceBounds, sliceRange]
  | cons a t =>
    have e : sliceRange (sliceBounds none (some 0) (some (-1)) (a :: t).toArray.size).1 (sliceBounds none (some 0) (some (-1)) (a :: t).toArray.size).2.1 (sliceBounds none (some 0) (some (-1)) (a :: t).toArray.size).2.2 = (List.range t.length).map fun k => t.length - k := by
      have hb : sliceBounds none (some 0) (some (-1)) (a :: t).toArray.size = ((t.length : Int), 0, -1) := by
        simp only [sliceBounds, List.size_toArray, List.length_cons]
        simp
        omega
      rw [hb]
      unfold sliceRange
      have h1 : ¬ ((-1 : Int) > 0) := by decide
      simp only [h1, if_false]
      by_cases h : (t.length : Int) > 0
      · have e : ((t.length : Int) - 0 - -1 - 1) / (- -1) = (t.length : Int) := by
          rw [show (- -1 : Int) = 1 by decide, Int.ediv_one]; omega
        simp only [h, if_true, e, Int.toNat_natCast]
        apply List.map_congr_left
        intro k hk
        have := List.mem_range.mp hk
        omega
      · have : t.length = 0 := by omega
        rw [this]; simp
    rw [e]
    have := pick_back t
    show ((List.range t.length).map fun k => t.length - k).filterMap ((a :: t).toArray[·]?) = ((a :: t).drop 1).reverse
    rw [List.drop_one, List.tail_cons, ← this, List.filterMap_map, List.filterMap_map]
    apply fm_congr
    intro k hk
    have := List.mem_range.mp hk
    simp only [Function.comp]
    have e2 : t.length - k = (t.length - 1 - k) + 1 := by omega
    rw [e2]; simp
def backL {α : Type} (tail : Bool) (xs : List α) : List α := if tail then (xs.drop 1).reverse else xs.reverse
def vRev (tail : Bool) (f : VE) : VE := fun env => (f env).bind fun p => match rdw p.2 p.1 with
  | some (.list ds) => some (.ow false (.list (backL tail ds)), p.2)
  | _ => none
def tRevT (K : PySem.W.Frag) (te : TE) : TE := fun σ H Q => te σ H fun x H1 => ∃ a xs, x = .ref a ∧ SqL K H1 a xs ∧ ∀ p, H1 p = none → Q (.ref p) (upd H1 p (.lst (xs.drop 1).reverse))
section
variable {X : Cx} {e : Expr} {te : TE} {f : VE}
theorem pe_revT {k k0 : Nat} {p0 p1 p2 p3 pos : Pos} (he : PE X e te) : PE X (.Subscript e (.Slice none (some (.Constant (.int 0) k0 p0)) (some (.UnaryOp .USub (.Constant (.int 1) k p1) p2)) p3) pos) (tRevT X.K te) := by
  refine ⟨fun pins s σ H Q I h => ?_⟩
  refine Subscript_ (thn (he.run pins s σ H _ I h) fun v s1 ⟨x, H1, I1, r1, a, xs, ex, hx, q⟩ => ?_)
  subst ex
  cases r1
  have up : PO X (some (.Constant (.int 0) k0 p0)) (tPart (tC (.int 0))) := po_some pe_int
  have st : PO X (some (.UnaryOp .USub (.Constant (.int 1) k p1) p2)) (tPart (tUn (rU fun i => .int (-i)) (tC (.int 1)))) := po_some (pe_un un_neg pe_int)
  refine wpAny_Slice (thn (po_none.run pins s1 σ H1 (fun o H2 => o = none ∧ H2 = H1) I1 ⟨rfl, rfl⟩) fun vl s2 ⟨l, H2, I2, pl, el, e2⟩ => ?_)
  subst el e2
  refine thn (up.run pins s2 σ H2 (fun o H3 => o = some 0 ∧ H3 = H2) I2 ⟨0, rfl, rfl, rfl⟩) fun vu s3 ⟨u, H3, I3, pu, eu, e3⟩ => ?_
  subst eu e3
  refine thn (st.run pins s3 σ H3 (fun o H4 => o = some (-1) ∧ H4 = H3) I3 ⟨1, rfl, -1, rfl, rfl, rfl⟩) fun vs s4 ⟨o, H4, I4, ps, eo, e4⟩ => ?_
  subst eo e4
  have I5 : Inv X pins σ H4 { s4 with heap := s4.heap.push { cls := .type "slice", data := .fields #[vl, vu, vs] } } := I4.kept (t' := s4.toks) fun b ob q => Heap.get?_push_of_some _ q
  obtain ⟨its, r, ht, hz⟩ := I5.list hx
  have hlen := r.length
  show wpAny (model X.prog X.w) X.A (subscriptTail e _ (.ref a) (.ref s4.heap.objs.size)) (EP X pins σ Q) X.xe { s4 with heap := s4.heap.push { cls := .type "slice", data := .fields #[vl, vu, vs] } }
  refine tail_any (ops := [.ref a, .ref s4.heap.objs.size]) ht.isList.typeIs (PySem.slot_list_getitem.lookup) ?_ (by with_unfolding_all rfl)
  refine wpAny_getItem_list_slice ht.isList (Heap.IsSliceOf.new _ vl vu vs) pl pu ps (by decide) ?_ (by rw [List.size_toArray]; omega)
  rw [pick_tail]
  refine ⟨.ref _, _, I5.laid (t' := s4.toks) (o := .lst (xs.drop 1).reverse) (fun b ob q => Heap.get?_push_of_some _ q) (Nat.le_refl _) ?_, rfl, q _ (I5.hok.fresh (Nat.le_refl _))⟩
  exact ⟨by rw [List.length_reverse, List.length_drop]; omega, _, 0, (r.drop 1).reverse, Heap.get?_push_size _ rfl⟩
theorem RepA.rev {K F H} : ∀ {ds : List PyData} {xs : List V}, RepA K F H ds xs → RepA K F H ds.reverse xs.reverse
  | [], xs, h => by rw [RepA] at h; subst h; rw [List.reverse_nil, List.reverse_nil, RepA]
  | d :: ds, xs, h => by
    rw [RepA] at h
    obtain ⟨x, t, rfl, h1, h2⟩ := h
    rw [List.reverse_cons, List.reverse_cons]
    exact h2.rev.append (RepA.rep h1 1 |> fun h => by simpa using h)
theorem rev_open {tail : Bool} {σ : L2.St} {H : Hp} {Q : VK} (h : TV X.K (vRev tail f) σ H Q) : TV X.K f σ H fun x H1 => ∃ a xs, x = .ref a ∧ SqL X.K H1 a xs ∧ ∀ p, H1 p = none → Q (.ref p) (upd H1 p (.lst (backL tail xs))) := by
  obtain ⟨B, F, env, r, env', st, e, k⟩ := h
  unfold vRev at e
  rw [bind_some_iff] at e
  obtain ⟨⟨r1, e1⟩, hf, e⟩ := e
  refine ⟨B, F, env, r1, e1, st, hf, fun v F1 H1 P R N => ?_⟩
  dsimp only at e
  split at e
  · rename_i ds hd
    cases e
    obtain ⟨a, xs, rfl, hs, ra⟩ := rdL_list.mp (rdw_ok P.st R hd)
    refine ⟨a, xs, rfl, hs, fun p np => ?_⟩
    have rb : RepA X.K F1 H1 (backL tail ds) (backL tail xs) := by
      unfold backL
      cases tail with
      | true => exact (ra.drop 1).rev
      | false => exact ra.rev
    obtain ⟨q1, q2, q3⟩ := P.res (Res.lst np rb P.st.fH)
    exact k _ F1 _ q1 q2 q3
  · cases e
theorem ve_rev {k : Nat} {p1 p2 p3 pos : Pos} (h : VEx X e f) : VEx X (.Subscript e (.Slice none none (some (.UnaryOp .USub (.Constant (.int 1) k p1) p2)) p3) pos) (vRev false f) := PE.imp (pe_revL h) fun σ H Q q => rev_open q
theorem ve_revT {k k0 : Nat} {p0 p1 p2 p3 pos : Pos} (h : VEx X e f) : VEx X (.Subscript e (.Slice none (some (.Constant (.int 0) k0 p0)) (some (.UnaryOp .USub (.Constant (.int 1) k p1) p2)) p3) pos) (vRev true f) := PE.imp (pe_revT h) fun σ H Q q => rev_open q
end
end VL

/-! VX6: tuple(xs) told weakly; dicts keyed by tuples: setdefault, len, sorted, == {} -/
namespace VL
open PySem PySem.Spec PyProof.Rows L2
/-! ### tuple(xs), told weakly -/
def tupleWF : FB
  | [.list ds] => if ds.isEmpty = true then some (.fz W0) else if stD ds = true then none else some (.fz (.tuple ds))
  | _ => none
section
variable {X : Cx}
theorem b_tupleW : CallR X (.type "tuple") (rB X.K tupleWF) := CallR.imp call_tuple_of fun vs H Q h => by
  obtain ⟨F, ds, r, fH, rd, e, q⟩ := h
  unfold tupleWF at e
  split at e
  · obtain ⟨v, rfl, h⟩ := rdLA_one rd
    obtain ⟨a, xs, rfl, hs, ra⟩ := rdL_list.mp h
    refine ⟨a, xs, rfl, .inl ⟨hs, fun l n => ?_⟩⟩
    split at e
    · rename_i ds z
      cases e
      have : ds = [] := by simpa using z
      subst this
      rw [RepA] at ra
      subst ra
      exact q _ _ ⟨same_upd n, rep_W0 upd_same⟩
    · split at e
      · cases e
      · rename_i z
        cases e
        exact q _ _ (Res.tup (by simpa using z) n ra)
  · cases e
end
/-! ### d.setdefault(key, v), the keys tuples -/
def setdefG : FM := fun k d ds => match k, d, ds with
  | true, .dict kvs, [kd, v] => (keyT? kd).bind fun ks => match dget kvs (.tuple (ks.map keyD)) with
    | some w => some (w, .dict kvs)
    | none => if kvs.length < sizeLine then some (v, .dict (dput kvs (.tuple (ks.map keyD)) v)) else none
  | _, _, _ => none
section
variable {X : Cx}
theorem repA_pair {K F H} {d1 d2 : PyData} {vs : List V} (r : RepA K F H [d1, d2] vs) : ∃ v1 v2, vs = [v1, v2] ∧ Rep K F H d1 v1 ∧ Rep K F H d2 v2 := repA_two r
theorem RepT.len' {K F H} : ∀ {kvs : List (PyData × PyData)} {ks : List (List Key × V)}, RepT K F H kvs ks → kvs.length = ks.length
  | [], ks, h => by rw [RepT] at h; subst h; rfl
  | p :: r, ks, h => by
    rw [RepT] at h
    obtain ⟨q, x, t, rfl, _, h⟩ := h
    rw [List.length_cons, List.length_cons, RepT.len' h]
theorem m_setdef (hu : X.A.units + 1 < cLine) : MtR X "dict.setdefault" (rM X.K setdefG) := by
  intro pins s σ H x vs v us Q I rx rv h
  obtain ⟨F, k, a, d, ds, r, d', rfl, fH, nf, ro, ra, e, q⟩ := h
  unfold setdefG at e
  split at e
  · rename_i kvs kd vd
    rw [bind_some_iff] at e
    obtain ⟨ks, hk, e⟩ := e
    obtain ⟨zs, hz, rz⟩ := ro
    obtain ⟨y1, y2, rfl, r1, r2⟩ := repA_pair ra
    obtain ⟨b, rfl, hb⟩ := keyT?_ok (Rep.rdd r1) hk
    cases rx
    obtain ⟨u1, us', rfl, ru1, rv'⟩ : ∃ u1 us', us = u1 :: us' ∧ RelV (.ref b) u1 ∧ Vals [y2] us' := by
      cases rv with
      | cons h t => exact ⟨_, _, rfl, h, t⟩
    obtain ⟨u2, rfl, ru2⟩ := rv'.one
    cases (show u1 = Value.ref b from ru1)
    obtain ⟨z, hd, xs, rel, dd⟩ := dt_of I.hok hz
    have hz' : xs.length ≤ sizeLine := by rw [← Paired.length rel]; exact z
    have hg := dget_T ks rz
    have hv := rel.val ks
    refine call_setdefault_heap (hsz := hz') (tupleKind_room_in1 hu) (key_of I.hok hb) hd dd (fun p hp => ?_) fun hn h' dd' hs => ?_
    · cases hvv : valV zs ks with
      | none =>
        rw [hvv, hp] at hv
        exact hv.elim
      | some w =>
        rw [hvv] at hg
        split at e
        · rename_i wd hw
          cases e
          rw [hw] at hg
          rw [hvv, hp] at hv
          refine ⟨w, H, I.tok _, hv, q _ _ (fun _ _ _ e => e) (by rw [hz]; simp) fun u => ⟨hg, zs, hz, rz⟩⟩
        · rename_i hw
          rw [hw] at hg
          exact hg.elim
    · have hvn : valV zs ks = none := by
        cases hvv : valV zs ks with
        | none => rfl
        | some w =>
          rw [hvv, hn] at hv
          exact hv.elim
      rw [hvn] at hg
      split at e
      · rename_i wd hw
        rw [hw] at hg
        exact hg.elim
      · split at e
        · rename_i hl
          cases e
          have hl2 : (putK zs ks y2).length ≤ sizeLine := by
            have h1 := length_putK zs ks y2
            have h2 := RepT.len' rz
            omega
          obtain ⟨q', es, ep, hq, h2, h3, h4, _, h5⟩ := dd'
          refine ⟨y2, upd H a (.dT (putK zs ks y2)), d_write (t' := s.toks + (tupleKind (mixKind X.prog X.w)).draws ks) I (by rw [hz]; exact True.intro) hs ⟨q', hq⟩ ⟨hl2, hd, _, (rel.put ks hb ru2).keeps fun c ys ec => ?_, q', es, ep, hq, h2, h3, h4, h5⟩, ru2, q _ _ upd_oth (by rw [upd_same]; simp) fun u => ⟨Rep.up u _ _ r2, _, upd_same, RepT.put ks (Rep.up u _ _ r2) (RepT.up u _ _ rz)⟩⟩
          rw [upd_ne (ne_of ec hz (fun z => nomatch z))]
          exact ec
        · cases e
  · cases e
end
/-! ### built-ins of dicts -/
abbrev FD := Bool → List (PyData × PyData) → Option R
def rD (K : PySem.W.Frag) (g : FD) : List V → Hp → VK → Prop := fun vs H Q => ∃ F k kvs r v, vs = [v] ∧ (∀ c, F c → H c ≠ none) ∧ RepDk K F H k kvs v ∧ g k kvs = some r ∧ ∀ v H', Res K F H H' r v → Q v H'
def vBltD (g : FD) (f : VE) : VE := fun env => (f env).bind fun p => (dk p.2 p.1).bind fun q => (g q.1 q.2).map fun r => (r, p.2)
section
variable {X : Cx} {e : Expr} {f : VE} {g : FD} {x : Str} {p pos : Pos}
theorem ve_bltD {id : String} (hc : CallR X (.builtin id) (rD X.K g)) (hm : X.mg x = none) (hv : bootBuiltins x = some (.builtin id)) (ha : VEx X e f) (hg : Gl X x := by rfl) (hn : x ≠ "__name__" := by decide) (hd : (x == ("__debug__" : Str)) = false := by decide)
    (hs : starEach [e] X.env = (false, eval e X.env) :: starEach [] X.env := by rfl) (hp : ((backTo pos (starEach [] X.env)).any (·.1)) = false := by rfl) : VEx X (.Call (.Name x p) [e] [] pos) (vBltD g f) :=
  PE.imp (pe_callB hc hg hm hv (va_cons ha va_nil hs) hn hd hs hp) fun σ H Q h => by
    obtain ⟨B, F, env, r, env', st, e, k⟩ := h
    unfold vBltD at e
    simp only [bind_some_iff, Option.map_eq_some_iff] at e
    obtain ⟨⟨r1, e1⟩, hf, q, hq, r', hr, he⟩ := e
    cases he
    refine ⟨B, F, env, [r1], e1, st, by simp [vaCons, vaNil, hf], fun vs F1 H1 P1 R1 N1 => ?_⟩
    obtain ⟨v, ws, rfl, h1, _, h2⟩ := R1
    obtain rfl : ws = [] := h2
    refine ⟨F1, q.1, q.2, _, v, rfl, P1.st.fH, dk_ok P1.st h1 hq, hr, fun v H' rs => ?_⟩
    obtain ⟨p, q, n⟩ := P1.res rs
    exact k v F1 H' p q n
/-! len -/
def lenDF : FD := fun _ kvs => some (.fz (.int kvs.length))
theorem b_lenD : CallR X (.builtin "len") (rD X.K lenDF) := by
  intro pins s σ H xs us Q I r h
  obtain ⟨F, k, kvs, r', v, rfl, fH, hd, e, q⟩ := h
  cases e
  obtain ⟨a, rfl, h⟩ := hd
  obtain ⟨u, rfl, rx⟩ := vals1 r
  obtain rfl : u = .ref a := rx
  cases k with
  | true =>
    obtain ⟨ks, hr, rk⟩ := h
    obtain ⟨z, hd, ys, rel, dd⟩ := dt_rd I.hok hr
    have hl : ks.length = ys.length := Paired.length rel
    refine call_len_dictH hd dd (by rw [← hl]; rw [sizeLine_eq] at z; omega) ?_
    rw [← hl, ← RepT.len' rk]
    exact ⟨.int ((kvs.length : Nat) : Int), H, I.tok _, ⟨_, rfl⟩, q _ _ (Res.fz rep_intI)⟩
  | false =>
    obtain ⟨ks, hr, rk⟩ := h
    obtain ⟨z, hd, ys, rel, dd⟩ := dk_rd I.hok hr
    have hl : ks.length = ys.length := Paired.length rel
    refine call_len_dict hd dd (by rw [← hl]; rw [sizeLine_eq] at z; omega) ?_
    rw [← hl, ← rk.len]
    exact ⟨.int ((kvs.length : Nat) : Int), H, I.tok _, ⟨_, rfl⟩, q _ _ (Res.fz rep_intI)⟩
end
/-! ### sorted(d), the keys tuples -/
section
open PySem.W
variable {prog : Program} {w : World} {A : Around} {E : Value → Shared → Prop} {s : Shared} {Q : PySem.Fin → Shared → Prop}
theorem sort_tail1 {v : Value} (h : ∀ (h' : Heap) p ep, (∀ b o, s.heap.get? b = some o → h'.get? b = some o) → s.heap.objs.size ≤ p → h'.get? p = some { cls := .type "list", data := .seq (List.toArray [v]) ep } → Q (.done (.ret (.ref p))) { s with heap := h' }) :
    wpAny (model prog w) A (sortTail [v]) Q E s := by
  unfold sortTail
  refine wpAny_bind (wpAny_newList ?_ (show 1 ≤ sizeLine by decide))
  have at1 : (s.heap.push (seqObj "list" [v].toArray 0)).get? s.heap.objs.size = some (seqObj "list" [v].toArray 0) := Heap.get?_push_size _ rfl
  have k2 : ∀ b o, s.heap.get? b = some o → (s.heap.push (seqObj "list" [v].toArray 0)).get? b = some o := fun b o e => Heap.get?_push_of_some _ e
  show wpAny _ _ _ _ _ { s with heap := s.heap.push (seqObj "list" [v].toArray 0) }
  refine wpAny_bind (wpAny_holding (wpAny_call_entry_kw slot_list_sort ⟨_, at1, rfl⟩ entry_list_sort ?body (args_list_sort _)))
  refine Srt.list_sort_any (s := { s with heap := s.heap.push (seqObj "list" [v].toArray 0) }) at1 (show 1 ≤ sizeLine by decide) (fun h2 => absurd h2 (by simp)) fun out hp => ⟨_, rfl, wpAny_pure ?_⟩
  have eo : out = [v] := List.perm_singleton.mp hp
  subst eo
  obtain ⟨c, hc⟩ := sortedHeap_at (vs := [v]) (out := #[v]) at1
  exact h _ _ c (fun b o e => (sortedHeap_old (Nat.ne_of_lt (Heap.lt_size e)) (Heap.lt_size (k2 b o e))).trans (k2 b o e)) (Nat.le_refl _) hc
end
def keysD (kvs : List (PyData × PyData)) : List PyData := kvs.map (·.1)
def goodK (d : PyData) : Bool := match d with
  | .tuple [] => true
  | .tuple ds => !stD ds
  | _ => false
def sortKF : FD := fun k kvs => match k with
  | true => if (decide (kvs.length = 1) || sortOk (keysD kvs)) && (keysD kvs).all goodK then some (.ow false (.list ((sortD (keysD kvs)).map keyW))) else none
  | false => none
section
variable {K : PySem.W.Frag} {F : Addr → Prop} {H : Hp}
theorem rep_keyT {q : List Key} {b : Addr} (hb : H b = some (.tup (q.map kV))) (g : goodK (.tuple (q.map keyD)) = true) : Rep K F H (keyW (.tuple (q.map keyD))) (.ref b) := by
  cases q with
  | nil => exact rep_W0 hb
  | cons k0 k =>
    show Rep K F H (.tuple ((k0 :: k).map keyD)) (.ref b)
    rw [Rep]
    refine ⟨b, _, rfl, .of hb ?_, repA_keyI (k0 :: k)⟩
    rw [(repA_keyI (K := K) (F := F) (H := H) (k0 :: k)).st]
    have g' : (!stD ((k0 :: k).map keyD)) = true := g
    simpa using g'
theorem dp_key : ∀ k : Key, Dp K H (kV k) (keyD k)
  | .inl i => .int i
  | .inr x => .str x
theorem dpAll_keys : ∀ ks : List Key, DpAll K H (ks.map kV) (ks.map keyD)
  | [] => .nil
  | k :: ks => .cons (dp_key k) (dpAll_keys ks)
theorem kt_keys : ∀ {kvs : List (PyData × PyData)} {ks : List (List Key × V)} {xs : List (List Key × Addr × Value)}, RepT K F H kvs ks → KT H ks xs →
    DpAll K H (xs.map fun x => V.ref x.2.1) (keysD kvs) ∧ ((keysD kvs).all goodK = true → RepA K F H ((keysD kvs).map keyW) (xs.map fun x => V.ref x.2.1)) ∧
    ((keysD kvs).all goodK = true → PySem.W.EachIs (fun v d => ∃ x, RelV x v ∧ Rep K F H (keyW d) x) (xs.map fun x => Value.ref x.2.1) (keysD kvs)) ∧ Vals (xs.map fun x => V.ref x.2.1) (xs.map fun x => Value.ref x.2.1)
  | [], ks, xs, h, t => by rw [RepT] at h; subst h; cases t; exact ⟨.nil, fun _ => repA_nil, fun _ => .nil, .nil⟩
  | p :: r, ks, xs, h, t => by
    rw [RepT] at h
    obtain ⟨q, x, ks', rfl, h1, h2⟩ := h
    cases t with
    | cons ht t =>
      rename_i y ys
      obtain ⟨e1, hb, _⟩ := ht
      rw [RepP] at h1
      obtain ⟨a1, a2, a3, a4⟩ := kt_keys h2 t
      have ek : p.1 = .tuple (q.map keyD) := h1.1
      refine ⟨?_, fun g => ?_, fun g => ?_, .cons rfl a4⟩
      · show DpAll K H (_ :: _) (p.1 :: keysD r)
        rw [ek]
        exact .cons (.tup (.of hb) (dpAll_keys q)) a1
      · have g' : (goodK p.1 && (keysD r).all goodK) = true := g
        rw [Bool.and_eq_true, ek] at g'
        show RepA K F H (keyW p.1 :: (keysD r).map keyW) (_ :: _)
        rw [ek]
        exact .cons (rep_keyT hb g'.1) (a2 g'.2)
      · have g' : (goodK p.1 && (keysD r).all goodK) = true := g
        rw [Bool.and_eq_true, ek] at g'
        show PySem.W.EachIs _ (_ :: _) (p.1 :: keysD r)
        rw [ek]
        exact .cons ⟨V.ref y.2.1, rfl, rep_keyT hb g'.1⟩ (a3 g'.2)
theorem rep_eachW : ∀ {us : List Value} {ds : List PyData}, PySem.W.EachIs (fun v d => ∃ x, RelV x v ∧ Rep K F H (keyW d) x) us ds → ∃ xs, Vals xs us ∧ RepA K F H (ds.map keyW) xs
  | _, _, .nil => ⟨[], .nil, repA_nil⟩
  | _, _, .cons ⟨x, rv, r⟩ t => by
    obtain ⟨xs, h1, h2⟩ := rep_eachW t
    exact ⟨x :: xs, .cons rv h1, .cons r h2⟩
end
section
variable {X : Cx}
theorem b_sortK (hc : X.calm = true) (hu : X.A.units + 64 < cLine) : CallR X (.builtin "sorted") (rD X.K sortKF) := by
  intro pins s σ H xs us Q I r h
  obtain ⟨F, k, kvs, r', v, rfl, fH, hd, e, q⟩ := h
  obtain ⟨a, rfl, h⟩ := hd
  obtain ⟨u, rfl, rx⟩ := vals1 r
  obtain rfl : u = .ref a := rx
  unfold sortKF at e
  split at e
  case h_2 => cases e
  split at e
  case isFalse => cases e
  rename_i ok
  cases e
  rw [Bool.and_eq_true] at ok
  obtain ⟨ks, hr, rk⟩ := h
  obtain ⟨z, hd, ys, rel, dd⟩ := dt_rd I.hok hr
  obtain ⟨a1, a2, a3, a4⟩ := kt_keys rk rel
  obtain ⟨o, es, ep, ho, hcl, hdat, he, hk, hn⟩ := dd
  have hraw : s.heap.DictRaw a es ep := ⟨o, ho, hcl, hdat⟩
  have hsz : es.size = ys.length := size_of_entries he
  have hl : ks.length = ys.length := Paired.length rel
  have hl2 : kvs.length = ks.length := RepT.len' rk
  refine PySem.Calls.call_function_entry kind_sorted plain_sorted entry_sorted (args_sorted1 _) ?_
  unfold Builtin.«sorted»
  refine wpAny_bind (m := checkCount "sorted" 1 1 _) (wpAny_pure ?_)
  refine wpAny_bind (PySem.W.kdu_collect (PySem.KdlSrc.rawDict (prog := X.prog) (w := X.w) hd) (by simpa using I.ok.hd hc) hraw (by omega) fun h' tk acc hkp hacc => ?_)
  have I1 : Inv X pins σ H { s with heap := h', toks := tk } := I.kept (t' := tk) hkp
  have hv : acc.toList = ys.map fun x => Value.ref x.2.1 := by
    apply List.ext_getElem?
    intro i
    by_cases hi : i < ys.length
    · have h1 : i < acc.toList.length := by rw [Array.length_toList, hacc.1]; omega
      obtain ⟨hi2, hx⟩ := hacc.2 i (acc.toList[i]) (by rw [← Array.getElem?_toList]; exact List.getElem?_eq_getElem h1)
      rw [List.getElem?_eq_getElem h1, hx, List.getElem?_map, List.getElem?_eq_getElem hi]
      have h2 : (es.toList)[i]? = (ys.map (PySem.entryOfKey (tupleKind (mixKind X.prog X.w))))[i]? := by rw [he]
      rw [List.getElem?_map, List.getElem?_eq_getElem hi, Array.getElem?_toList, Array.getElem?_eq_getElem hi2] at h2
      have h3 := Option.some.inj h2
      rw [h3]; rfl
    · rw [List.getElem?_eq_none (by rw [Array.length_toList, hacc.1]; omega), List.getElem?_eq_none (by rw [List.length_map]; omega)]
  show wpAny _ _ (sortTail acc.toList) _ _ _
  rw [hv]
  have fin : ∀ (h2 : Heap) (p : Addr) (ep' : Nat) (out : List Value), (∀ b o, h'.get? b = some o → h2.get? b = some o) → h'.objs.size ≤ p → h2.get? p = some { cls := .type "list", data := .seq (List.toArray out) ep' } →
      PySem.W.EachIs (fun v d => ∃ x, RelV x v ∧ Rep X.K F H (keyW d) x) out (sortD (keysD kvs)) → ∃ r : Value, (PySem.Fin.done (.ret (.ref p)) : PySem.Fin) = .done (.ret r) ∧ EP X pins σ Q r { s with heap := h2, toks := tk } := by
    intro h2 p ep' out k2 hp hat eo
    obtain ⟨zs, hv', ra'⟩ := rep_eachW eo
    have np : H p = none := I1.hok.fresh hp
    have hl3 : zs.length ≤ sizeLine := by
      have := ra'.len
      rw [List.length_map, sortD, List.length_mergeSort, keysD, List.length_map] at this
      omega
    exact ⟨_, rfl, .ref p, upd H p (.lst zs), I1.laid (t' := tk) (o := .lst zs) k2 hp ⟨hl3, out, ep', hv', hat⟩, rfl, q _ _ (Res.lst np ra' fH)⟩
  by_cases h1 : kvs.length = 1
  · obtain ⟨⟨kd, vd⟩, rfl⟩ := List.length_eq_one_iff.mp h1
    obtain ⟨y, rfl⟩ := List.length_eq_one_iff.mp (show ys.length = 1 by omega)
    refine sort_tail1 (s := { s with heap := h', toks := tk }) fun h2 p ep' k2 hp hat => ?_
    refine fin h2 p ep' _ k2 hp hat ?_
    have e1 : sortD (keysD [(kd, vd)]) = [kd] := by simp [sortD, keysD]
    rw [e1]
    exact a3 ok.2
  · have ok1 : sortOk (keysD kvs) = true := by simpa [h1] using ok.1
    obtain ⟨o1, o2, o3, o4, o5⟩ := sortOk_all ok1
    obtain ⟨as, hr2⟩ := Dp.readsAll I1 _ _ _ a1 a4
    refine sort_tail (s := { s with heap := h', toks := tk }) (R := fun v d => ∃ x, RelV x v ∧ Rep X.K F H (keyW d) x) (readsAll_each hr2) (a3 ok.2) o3 o5 (by rw [List.length_map]; omega) (fun dd hd => by have := o4 dd hd; simp; omega) fun h2 p ep' out k2 hp hat eo => ?_
    exact fin h2 p ep' out k2 hp hat eo
end
end VL

/-! VX7: d == {}, a[i], b[j] = x, y, {key: v} with a tuple as key -/
namespace VL
open PySem PySem.Spec PyProof.Rows L2
/-! ### d == {} -/
section
variable {prog : Program} {w : World} {A : Around} {E : Value → Shared → Prop} {s : Shared}
theorem samePairs_emp {nm : String} {a b : Addr} {oa ob : Obj} {es : Array DictEntry} {ep ep' : Nat} {Q : Bool → Shared → Prop} (ha : (a == sysModules) = false) (hb : (b == sysModules) = false)
    (hoa : s.heap.get? a = some oa) (hda : oa.data = .dict es ep) (hob : s.heap.get? b = some ob) (hdb : ob.data = .dict #[] ep') (h : Q (es.size == 0) s) :
    wpAny (model prog w) A (Builtin.Dict.samePairs nm a b) Q E s := by
  unfold Builtin.Dict.samePairs Builtin.Dict.showsAll
  rw [if_neg (show ¬ (a == sysModules) = true by rw [ha]; exact Bool.false_ne_true), if_neg (show ¬ (b == sysModules) = true by rw [hb]; exact Bool.false_ne_true)]
  refine wpAny_bind (wpAny_pure (wpAny_bind (wpAny_pure ?_)))
  refine wpAny_bind (wpAny_dictEntries hoa hda ?_)
  dsimp only
  refine wpAny_bind (wpAny_dictEntries hob hdb ?_)
  by_cases hsz : es.size = 0
  case neg =>
    rw [if_pos (by simpa using hsz)]
    have hbf : (es.size == 0) = false := by simpa using hsz
    rw [hbf] at h
    exact wpAny_bind (wpAny_rule (wpAny_pure h))
  case pos =>
    have h' : Q true s := by simpa [hsz] using h
    rw [if_neg (by simp [hsz])]
    refine wpAny_bind (wpAny_dictEpoch hoa hda ?_)
    refine wpAny_bind ?_
    rw [Std.Legacy.Range.forIn_eq_forIn_range']
    simp only [Std.Legacy.Range.size, Nat.sub_zero, Nat.add_sub_cancel, Nat.div_one, hsz]
    exact wpAny_pure (wpAny_pure h')
theorem rc_emp {a b : Addr} {oa ob : Obj} {es : Array DictEntry} {ep ep' : Nat} (ha : (a == sysModules) = false) (hb : (b == sysModules) = false)
    (ta : s.TypeIs (.ref a) "dict") (tb : s.TypeIs (.ref b) "dict") (hoa : s.heap.get? a = some oa) (hda : oa.data = .dict es ep) (hob : s.heap.get? b = some ob) (hdb : ob.data = .dict #[] ep') (hu : A.units < cLine)
    (Q : Value → Shared → Prop) (h : Q (.bool (es.size == 0)) s) : wpAny (model prog w) A (richCompare .Eq (.ref a) (.ref b)) Q E s := by
  refine wpAny_richCompare_same_room (op := .Eq) ta tb PySem.F.slot_dict_eq (wpAny_call_entry PySem.F.slot_dict_eq ta PySem.F.entry_dict_eq ?_ (PySem.F.args_dict_eq_2 _ _)) hu
  show wpAny _ _ (Builtin.Dict.dictSlotArgs "__eq__" ⟨[.ref a, .ref b], []⟩ >>= _) _ _ s
  refine wpAny_bind ?_
  unfold Builtin.Dict.dictSlotArgs
  refine wpAny_bind (wpAny_notOrdered_dict ta ?_)
  show wpAny _ _ (pure (Value.ref a, Value.ref b)) _ _ s
  refine wpAny_pure ?_
  refine wpAny_bind (wpAny_isInstance (T := "dict") tb PySem.F.sub_dict_dict ?_)
  simp only [Bool.not_true, Bool.false_eq_true, if_false]
  refine wpAny_bind (wpAny_pure (wpAny_bind (wpAny_pure ?_)))
  refine wpAny_bind (samePairs_emp ha hb hoa hda hob hdb ?_)
  refine wpAny_pure ⟨_, rfl, ?_, ?_⟩
  · exact fun x => nomatch x
  · simpa using h
end
def vDEmp (f : VE) : VE := fun env => (f env).bind fun p => match dk p.2 p.1 with
  | some (true, kvs) => some (.fz (.bool kvs.isEmpty), p.2)
  | _ => none
def rDE : R2 := fun x y H Q => ∃ a b ks, x = .ref a ∧ y = .ref b ∧ Rd H a (.dT ks) ∧ H b = some (.dK []) ∧ Q (.bl ks.isEmpty) H
section
variable {X : Cx}
theorem op_eqE (hu : X.A.units + 64 < cLine) : OpR X (compareOp .Eq) rDE := by
  intro pins s σ H x y v u Q I rx ry h
  obtain ⟨a, b, ks, rfl, rfl, hr, hb, q⟩ := h
  obtain rfl : v = .ref a := rx
  obtain rfl : u = .ref b := ry
  obtain ⟨z, hd, xs, rel, dd⟩ := dt_rd I.hok hr
  obtain ⟨z2, hd2, vs, rel2, dd2⟩ := dk_of I.hok hb
  cases rel2
  have t1 := dd.typeIs
  have t2 := dd2.typeIs
  obtain ⟨o, es, ep, ho, hcl, hdat, he, hk, hn⟩ := dd
  obtain ⟨o2, es2, ep2, ho2, hcl2, hdat2, hp2, hk2, _⟩ := dd2
  have e2 : es2 = #[] := by
    have := hk2.length
    simpa using this
  subst e2
  have hsz : es.size = xs.length := size_of_entries he
  have hl : ks.length = xs.length := Paired.length rel
  show wpAny _ _ (richCompare .Eq (.ref a) (.ref b)) _ _ _
  refine rc_emp hd hd2 t1 t2 ho hdat ho2 hdat2 (by omega) _ ?_
  have : (es.size == 0) = ks.isEmpty := by
    rw [hsz, ← hl]; cases ks <;> rfl
  rw [this]
  exact ⟨.bl _, H, I, rfl, q⟩
theorem demp_open {f : VE} {σ : L2.St} {H : Hp} {Q : VK} (h : TV X.K (vDEmp f) σ H Q) : tOp rDE (TV X.K f) tDNewK σ H Q := by
  obtain ⟨B, F, env, r, env', st, e, k⟩ := h
  unfold vDEmp at e
  rw [bind_some_iff] at e
  obtain ⟨⟨r1, e1⟩, hf, e⟩ := e
  dsimp only at e
  split at e
  · rename_i kvs hdk
    cases e
    refine ⟨B, F, env, r1, _, st, hf, fun v F1 H1 P1 R1 N1 => fun p np => ?_⟩
    obtain ⟨a, rfl, ks, hr, rk⟩ := dk_ok P1.st R1 hdk
    have same : ∀ b o, H1 b = some o → upd H1 p (.dK []) b = some o := fun b o e => by rw [upd_ne (ne_of_none e np)]; exact e
    refine ⟨a, p, ks, rfl, rfl, ?_, upd_same, ?_⟩
    · rcases hr with hr | ⟨o, hr⟩
      · exact .inl (same _ _ hr)
      · exact .inr ⟨o, same _ _ hr⟩
    · have e2 : ks.isEmpty = kvs.isEmpty := by
        have := RepT.len' rk
        cases ks <;> cases kvs <;> simp_all
      rw [e2]
      obtain ⟨q1, q2, q3⟩ := P1.res (show Res X.K F1 H1 (upd H1 p (.dK [])) (.fz (.bool kvs.isEmpty)) (.bl kvs.isEmpty) from ⟨same, rep_boolI⟩)
      exact k _ F1 _ q1 q2 q3
  · cases e
theorem ve_demp {e : Expr} {f : VE} {p2 pos : Pos} (hu : X.A.units + 64 < cLine) (he : VEx X e f) (hm : behindInMarks .Eq (.Dict [] [] p2) = false := by first | exact nomark _ | rfl) :
    VEx X (.Compare e [.Eq] [.Dict [] [] p2] pos) (vDEmp f) := PE.imp (pe_cmpR (op_eqE hu) he pe_dnewK hm) fun σ H Q h => demp_open h
theorem vt_demp {e : Expr} {f : VE} {p2 pos : Pos} (hu : X.A.units + 64 < cLine) (he : VEx X e f) (hm : behindInMarks .Eq (.Dict [] [] p2) = false := by first | exact nomark _ | rfl) :
    VTx X (.Compare e [.Eq] [.Dict [] [] p2] pos) (vB (vDEmp f)) := PT.imp (pt_cmpR (op_eqE hu) he pe_dnewK hm) fun σ H Q h => demp_open (vb_ok h)
end
/-! ### a[i], b[j] = x, y -/
def vSub2 (c1 : Nat) (f1 : VE) (c2 : Nat) (f2 : VE) (f : VE) : VS := fun env => (vUse f env).bind fun p => match p.1 with
  | .tuple [d1, d2] => if hasV p.2 c1 = true then (vUse f1 p.2).bind fun i1 => (doSet c1 i1.1 d1 i1.2).bind fun e1 => if hasV e1 c2 = true then (vUse f2 e1).bind fun i2 => (doSet c2 i2.1 d2 i2.2).map fun e2 => (.nx, e2) else none else none
  | _ => none
section
variable {X : Cx} {e i1 i2 : Expr} {f f1 f2 : VE} {c1 c2 kt : Nat} {x1 x2 : Str} {p1 p2 t1 t2 tp pos : Pos}
theorem vs_sub2 (hu : X.A.units + 1 < cLine) (hc : X.calm = true) (he : VEx X e f) (hi1 : VEx X i1 f1) (hi2 : VEx X i2 f2) (hN1 : X.N[c1]? = some x1 := by rfl) (hN2 : X.N[c2]? = some x2 := by rfl)
    (hv1 : Vis X.env.scope x1 := by first | exact Or.inl rfl | exact Or.inr (Or.inl rfl) | exact Or.inr (Or.inr rfl)) (hv2 : Vis X.env.scope x2 := by first | exact Or.inl rfl | exact Or.inr (Or.inl rfl) | exact Or.inr (Or.inr rfl))
    (hd1 : (x1 == ("__debug__" : Str)) = false := by decide) (hcd1 : (x1 == ("__classdict__" : Str)) = false := by decide)
    (hd2 : (x2 == ("__debug__" : Str)) = false := by decide) (hcd2 : (x2 == ("__classdict__" : Str)) = false := by decide)
    (ha1 : ∀ v, assign (.Subscript (.Name x1 p1) i1 t1) X.env v = (do
      let ov ← holding [v] (eval (.Name x1 p1) X.env)
      let iv ← holding [v, ov] (eval i1 X.env)
      standAt t1
      holding [v, ov, iv] (setItem ov iv v)
      release [v, ov, iv] []) := by intro _; rfl)
    (ha2 : ∀ v, assign (.Subscript (.Name x2 p2) i2 t2) X.env v = (do
      let ov ← holding [v] (eval (.Name x2 p2) X.env)
      let iv ← holding [v, ov] (eval i2 X.env)
      standAt t2
      holding [v, ov, iv] (setItem ov iv v)
      release [v, ov, iv] []) := by intro _; rfl)
    (hs : swapsWithSole [.Tuple [.Subscript (.Name x1 p1) i1 t1, .Subscript (.Name x2 p2) i2 t2] kt tp] e pos.line X.env = pure false := by rfl)
    (hw : swappedStores [.Tuple [.Subscript (.Name x1 p1) i1 t1, .Subscript (.Name x2 p2) i2 t2] kt tp] e X.env = pure none := by rfl)
    (h1 : (assignEach [.Tuple [.Subscript (.Name x1 p1) i1 t1, .Subscript (.Name x2 p2) i2 t2] kt tp] X.env).map (·.2) = [assign (.Tuple [.Subscript (.Name x1 p1) i1 t1, .Subscript (.Name x2 p2) i2 t2] kt tp) X.env] := by rfl)
    (g1 : (assignEach [.Subscript (.Name x1 p1) i1 t1, .Subscript (.Name x2 p2) i2 t2] X.env).map (·.2) = assign (.Subscript (.Name x1 p1) i1 t1) X.env :: (assignEach [.Subscript (.Name x2 p2) i2 t2] X.env).map (·.2) := by rfl)
    (g2 : (assignEach [.Subscript (.Name x2 p2) i2 t2] X.env).map (·.2) = assign (.Subscript (.Name x2 p2) i2 t2) X.env :: (assignEach [] X.env).map (·.2) := by rfl)
    (g3 : (assignEach [.Subscript (.Name x1 p1) i1 t1, .Subscript (.Name x2 p2) i2 t2] X.env).length = 2 := by rfl) (g4 : (assignEach [.Subscript (.Name x1 p1) i1 t1, .Subscript (.Name x2 p2) i2 t2] X.env).findIdx? (·.1) = none := by rfl) :
    VSx X (.Assign [.Tuple [.Subscript (.Name x1 p1) i1 t1, .Subscript (.Name x2 p2) i2 t2] kt tp] e pos) (vSub2 c1 f1 c2 f2 f) :=
  PS.imp (ps_asg he (pg_tup (n := 2) hc (pgs_cons (pg_sub (pe_var hN1 hv1 hd1 hcd1) hi1 (s_set hu) ha1) (pgs_cons (pg_sub (pe_var hN2 hv2 hd2 hcd2) hi2 (s_set hu) ha2) pgs_nil g2) g1) g3 g4) hs hw h1) fun D σ H h => by
    obtain ⟨B, F, env, fl, env', s, e, k⟩ := h
    unfold vSub2 at e
    rw [bind_some_iff] at e
    obtain ⟨⟨dv, e1⟩, hf, e⟩ := e
    dsimp only at e
    split at e
    case h_2 => cases e
    rename_i d1 d2
    split at e
    case isFalse => cases e
    rename_i hc1
    simp only [bind_some_iff] at e
    obtain ⟨⟨di1, e2⟩, hg1, e3, hs1, e⟩ := e
    split at e
    case isFalse => cases e
    rename_i hc2
    simp only [bind_some_iff, Option.map_eq_some_iff] at e
    obtain ⟨⟨di2, e4⟩, hg2, e5, hs2, he⟩ := e
    cases he
    refine tu_of ⟨B, F, env, _, e1, s, hf, fun v F1 H1 P1 R1 => ?_⟩
    rw [Rep] at R1
    obtain ⟨a, xs, rfl, ht, ra⟩ := R1
    obtain ⟨w1, w2, rfl, r1, r2⟩ := repA_pair ra
    refine ⟨a, _, rfl, ht.sq, rfl, w1, [w2], rfl, ?_⟩
    obtain ⟨y, ey⟩ := hasV_ok P1.st hc1
    refine ⟨y, ey, tu_of ⟨B, F1, e1, di1, e2, P1.st, hg1, fun iv F2 H2 P2 R2 => ?_⟩⟩
    have P12 := P1.trans s P2
    refine doSet_ok P2.st (.refl P2.st) R2 (Rep.up (P2.up P1.st) _ _ r1) hs1 ey fun F3 H3 P3 => ?_
    refine ⟨w2, [], rfl, ?_⟩
    obtain ⟨y2, ey2⟩ := hasV_ok P3.st hc2
    have r3 := Rep.up (P3.up P2.st) _ _ (Rep.up (P2.up P1.st) _ _ r2)
    have P13 := P12.trans s P3
    refine ⟨y2, ey2, tu_of ⟨B, F3, e3, di2, e4, P3.st, hg2, fun iv2 F4 H4 P4 R4 => ?_⟩⟩
    refine doSet_ok s (P13.trans s P4) R4 (Rep.up (P4.up P3.st) _ _ r3) hs2 ey2 fun F5 H5 P5 => ?_
    exact ⟨rfl, k σ F5 H5 (.of P5)⟩
end
/-! ### {key: v}, the key a tuple -/
def tDisp1T (tk tv : TE) : TE := fun σ H Q => ∀ p, H p = none → tk σ (upd H p (.dT [])) fun x H1 => tv σ H1 fun y H2 => ∃ b ks, x = .ref b ∧ H2 b = some (.tup (ks.map kV)) ∧ H2 p = some (.dT []) ∧ Q (.ref p) (upd H2 p (.dT [(ks, y)]))
section
variable {X : Cx} {pos : Pos} {k v : Expr} {tk tv : TE}
theorem pe_disp1T (hu : X.A.units + 1 < cLine) (hk : PE X k tk) (hv : PE X v tv) : PE X (.Dict [some k] [v] pos) (tDisp1T tk tv) := by
  refine ⟨fun pins s σ H Q I q => ?_⟩
  have hn := I.hok.fresh (Nat.le_refl s.heap.objs.size)
  have I1 := I.laid (a := s.heap.objs.size) (o := .dT []) (h' := s.heap.push { cls := .type "dict", data := .dict #[] }) (t' := s.toks) (fun _ _ q => Heap.get?_push_of_some _ q) (Nat.le_refl _) (dt_empty s.heap I.big)
  rw [arm_eval_Dict, zip_pairTrees [some k] [v] X.env pos rfl rfl, dictDisplay_pairs _ (by simp [pairTrees]) (by simp [pairTrees])]
  refine wpAny_bind (wpAny_standAt (wpAny_bind (wpAny_subDictH (knd := tupleKind (mixKind X.prog X.w)) (show X.A.units < cLine by omega) (by simp [pairTrees]) ?_)))
  refine pairTrees_cons_walk (thn (hk.run pins _ σ _ _ I1 (q _ hn)) fun u s1 ⟨x, H1, I2, rx, q1⟩ => thn (hv.run pins s1 σ H1 _ I2 q1) fun w2 s2 ⟨y, H2, I3, ry, b, ks, eb, hb, hp, q2⟩ => ?_)
  subst eb
  obtain rfl : u = Value.ref b := rx
  refine pairTrees_nil_walk ?_
  obtain ⟨z, hd, xs, rel, dd⟩ := dt_of I3.hok hp
  cases rel
  refine ⟨[(ks, b, w2)], ⟨rfl, rfl, key_of I3.hok hb, trivial⟩, dd, fun h' tk dd' hs => ?_⟩
  refine wpAny_pure ⟨.ref s.heap.objs.size, _, ?_, rfl, q2⟩
  have e1 : storedAllH ([] : List (List Key × Addr × Value)) [(ks, b, w2)] = [(ks, b, w2)] := by simp [storedAllH, storedH, atKey]
  rw [e1] at dd'
  obtain ⟨q', es, ep, hq, h2, h3, h4, _, h5⟩ := dd'
  refine d_write (t' := tk) I3 (by rw [hp]; exact True.intro) hs ⟨q', hq⟩ ⟨by show 1 ≤ sizeLine; decide, hd, _, .cons ⟨rfl, ?_, ry⟩ .nil, q', es, ep, hq, h2, h3, h4, h5⟩
  rw [upd_ne (ne_of hb hp (fun z => nomatch z))]
  exact hb
end
def vDisp1 (fk fv : VE) : VE := fun env => (vUse fk env).bind fun p => (keyT? p.1).bind fun ks => (vUse fv p.2).map fun q => (.ow true (.dict [(.tuple (ks.map keyD), q.1)]), q.2)
section
variable {X : Cx} {pos : Pos} {k v : Expr} {fk fv : VE}
theorem ve_disp1 (hu : X.A.units + 1 < cLine) (hk : VEx X k fk) (hv : VEx X v fv) : VEx X (.Dict [some k] [v] pos) (vDisp1 fk fv) := PE.imp (pe_disp1T hu hk hv) fun σ H Q h => by
  obtain ⟨B, F, env, r, env', st, e, k⟩ := h
  unfold vDisp1 at e
  simp only [bind_some_iff, Option.map_eq_some_iff] at e
  obtain ⟨⟨dk, e1⟩, hf, ks, hks, ⟨dv, e2⟩, hg, he⟩ := e
  cases he
  intro p np
  obtain ⟨P0, R0, N0⟩ := (Post.refl st).res (Res.dnewT (K := X.K) (F := F) np)
  refine tu_of ⟨B, F, env, dk, e1, P0.st, hf, fun x F1 H1 P1 R1 => tu_of ⟨B, F1, e1, dv, e2, P1.st, hg, fun y F2 H2 P2 R2 => ?_⟩⟩
  obtain ⟨a, ea, nf, nb, no, _⟩ := R0
  cases ea
  have P := P1.trans P0.st P2
  obtain ⟨f2, c⟩ := P.ext.keep p _ upd_same no
  have hp : H2 p = some (.dT []) := by
    rcases c with c | ⟨z, _⟩
    · exact c
    · exact (nf z).elim
  obtain ⟨b, rfl, hb⟩ := keyT?_ok (Rep.rdd (Rep.up (P2.up P1.st) _ _ R1)) hks
  refine ⟨b, ks, rfl, hb, hp, ?_⟩
  have P' := P0.trans st P
  have no2 : ¬ OwA σ _ p := fun o => no (P.ee.owA o)
  have nf2 : ¬ F2 p := fun z => nf (f2 z)
  obtain ⟨P3, u3⟩ := P'.poke (D := p) (o := .dT [(ks, y)]) nf2 no2 np (by rw [hp]; trivial)
  refine k _ F2 _ P3 ⟨p, rfl, nf2, nb, no2, _, upd_same, ?_⟩ ⟨p, rfl, np⟩
  rw [RepT]
  exact ⟨ks, y, [], rfl, repP_iff.mpr ⟨rfl, Rep.up u3 _ _ R2⟩, by rw [RepT]⟩
end
end VL

/-! VM: running the functions of values -/
namespace VL
open PySem PySem.Spec PyProof.Rows L2
section
variable {env e1 e2 : EV} {f g : VE} {s t : VS} {as : VA}
theorem seq_nx (h : s env = some (.nx, e1)) : vSeq s t env = t e1 := by simp [vSeq, h]
theorem seq_rt {r : R} (h : s env = some (.rt r, e1)) : vSeq s t env = some (.rt r, e1) := by simp [vSeq, h]
theorem if_t {c : VT} (h : c env = some (true, e1)) : vIf c s t env = s e1 := by simp [vIf, h]
theorem if_f {c : VT} (h : c env = some (false, e1)) : vIf c s t env = t e1 := by simp [vIf, h]
/-- no slot is handed in -/
def noBr : List R → Bool
  | [] => true
  | .br _ :: _ => false
  | _ :: r => noBr r
theorem lk_noBr : ∀ {rs : List R} {outs : List SV} {i : Nat}, noBr rs = true → lk i rs outs = none
  | [], _, _, _ => by simp [lk]
  | r :: rs, [], _, _ => by simp [lk]
  | .br _ :: rs, _ :: _, _, h => by cases h
  | .fz _ :: rs, _ :: _, _, h => by rw [lk]; exact lk_noBr (by simpa [noBr] using h); simp
  | .ow _ _ :: rs, _ :: _, _, h => by rw [lk]; exact lk_noBr (by simpa [noBr] using h); simp
  | .sc _ :: rs, _ :: _, _, h => by rw [lk]; exact lk_noBr (by simpa [noBr] using h); simp
theorem wb_noBr {rs : List R} {outs : List SV} (h : noBr rs = true) : wb env rs outs = env := by
  unfold wb
  apply List.ext_getElem?
  intro i
  rw [List.getElem?_mapIdx]
  cases env[i]? with
  | none => rfl
  | some o =>
    cases o with
    | none => rfl
    | some s =>
      simp only [Option.map_some, wb1, lk_noBr h]
      cases s <;> rfl
theorem apart_noBr : ∀ {rs : List R}, noBr rs = true → apart env rs = true
  | [], _ => rfl
  | .br _ :: _, h => by cases h
  | .fz _ :: rs, h => apart_noBr (rs := rs) h
  | .ow _ _ :: rs, h => apart_noBr (rs := rs) h
  | .sc _ :: rs, h => apart_noBr (rs := rs) h
/-- a call that hands in no slot -/
theorem call_run {φ : FS} {rs : List R} {ss : List SV} {r : R} {outs : List SV} (ha : as env = some (rs, e1)) (hb : noBr rs = true) (hs : toArgs e1 rs = some ss) (hφ : φ ss = some (r, outs)) : vCall φ as env = some (r, e1) := by
  simp [vCall, ha, apart_noBr hb, hs, hφ, wb_noBr hb]
/-- a for without a way out -/
theorem for_run {g : VG} {b : VS} (I : Nat → EV → Prop) : ∀ (items : List PyData) (k : Nat) (env : EV), I k env → (∀ i d env, items[i]? = some d → I (k + i) env → ∃ e1 e2, g d env = some e1 ∧ b e1 = some (.nx, e2) ∧ I (k + i + 1) e2) → ∃ env', forL g b items env = some (.nx, env') ∧ I (k + items.length) env'
  | [], k, env, h, _ => ⟨env, rfl, h⟩
  | d :: ds, k, env, h, st => by
    obtain ⟨e1, e2, h1, h2, h3⟩ := st 0 d env rfl h
    obtain ⟨env', h4, h5⟩ := for_run I ds (k + 1) e2 h3 fun i d' env' hi hI => by
      have := st (i + 1) d' env' (by simpa using hi) (by rw [← Nat.add_assoc, Nat.add_right_comm]; exact hI)
      rwa [show k + (i + 1) + 1 = k + 1 + i + 1 by omega] at this
    refine ⟨env', ?_, by rw [List.length_cons]; rwa [show k + (ds.length + 1) = k + 1 + ds.length by omega]⟩
    simp only [forL, h1, Option.bind_some, h2]
    exact h4
theorem for_fold {g : VG} {b : VS} {α : Type} (E : α → EV) (stp : α → PyData → α) : ∀ (items : List PyData) (x : α), (∀ x d, d ∈ items → ∃ e1, g d (E x) = some e1 ∧ b e1 = some (.nx, E (stp x d))) → forL g b items (E x) = some (.nx, E (items.foldl stp x))
  | [], x, _ => rfl
  | d :: ds, x, st => by
    obtain ⟨e1, h1, h2⟩ := st x d (by simp)
    simp only [forL, h1, Option.bind_some, h2, List.foldl_cons]
    exact for_fold E stp ds (stp x d) fun x d' h => st x d' (by simp [h])
/-- a while, by its turns -/
theorem while_run {c : VT} {b : VS} (I : Nat → EV → Prop) (stop : EV → Prop) : ∀ (m n : Nat) (env : EV), m < n → I m env →
    (∀ j env, I j env → (∃ e1, c env = some (false, e1) ∧ stop e1) ∨ (∃ e1 e2 j', j = j' + 1 ∧ c env = some (true, e1) ∧ b e1 = some (.nx, e2) ∧ I j' e2)) → ∃ env', whileL c b n env = some (.nx, env') ∧ stop env'
  | m, 0, env, h, _, _ => by omega
  | m, n + 1, env, h, hi, st => by
    rcases st m env hi with ⟨e1, h1, h2⟩ | ⟨e1, e2, j', rfl, h1, h2, h3⟩
    · exact ⟨e1, by simp [whileL, h1], h2⟩
    · obtain ⟨env', h4, h5⟩ := while_run I stop j' n e2 (by omega) h3 st
      exact ⟨env', by simp [whileL, h1, h2, h4], h5⟩
/-- a comprehension whose test is always the same for an item -/
theorem lc_map {g : VG} {f : VE} {vs : List Nat} (E : EV) (hE : wipeE E vs = E) (stp : PyData → PyData) : ∀ (items : List PyData) (acc : List PyData), acc.length + items.length ≤ sizeLine → (∀ d ∈ items, ∃ e1 e2, g d E = some e1 ∧ vUse f e1 = some (stp d, e2) ∧ wipeE e2 vs = E) →
    lcL g tTrue f vs items E acc = some (acc ++ items.map stp, E)
  | [], acc, _, _ => by simp [lcL]
  | d :: ds, acc, hl, st => by
    obtain ⟨e1, e2, h1, h2, h3⟩ := st d (by simp)
    rw [List.length_cons] at hl
    simp only [lcL, h1, Option.bind_some, tTrue, if_true, h2, h3]
    rw [if_pos (by omega), lc_map E hE stp ds (acc ++ [stp d]) (by simp; omega) fun d' h => st d' (by simp [h])]
    simp
theorem lc_filter {g : VG} {t : VT} {f : VE} {vs : List Nat} (E : EV) (p : PyData → Bool) (stp : PyData → PyData) : ∀ (items : List PyData) (acc : List PyData), acc.length + items.length ≤ sizeLine → (∀ d ∈ items, ∃ e1 e2, g d E = some e1 ∧ t e1 = some (p d, e2) ∧ (p d = false → wipeE e2 vs = E) ∧ (p d = true → ∃ e3, vUse f e2 = some (stp d, e3) ∧ wipeE e3 vs = E)) →
    lcL g t f vs items E acc = some (acc ++ (items.filter p).map stp, E)
  | [], acc, _, _ => by simp [lcL]
  | d :: ds, acc, hl, st => by
    obtain ⟨e1, e2, h1, h2, h3, h4⟩ := st d (by simp)
    rw [List.length_cons] at hl
    cases hp : p d with
    | true =>
      obtain ⟨e3, h5, h6⟩ := h4 hp
      simp only [lcL, h1, Option.bind_some, h2, hp, if_true, h5, h6]
      rw [if_pos (by omega), lc_filter E p stp ds (acc ++ [stp d]) (by simp; omega) fun d' h => st d' (by simp [h])]
      simp [hp]
    | false =>
      simp only [lcL, h1, Option.bind_some, h2, hp, h3 hp, Bool.false_eq_true, if_false]
      rw [lc_filter E p stp ds acc (by omega) fun d' h => st d' (by simp [h])]
      simp [hp]
theorem lc_mapI {g : VG} {f : VE} {vs : List Nat} (E : EV) (hE : wipeE E vs = E) (stp : Int → PyData) (ns : List Int) (hl : ns.length ≤ sizeLine) (st : ∀ v ∈ ns, ∃ e1 e2, g (.int v) E = some e1 ∧ vUse f e1 = some (stp v, e2) ∧ wipeE e2 vs = E) :
    lcL g tTrue f vs (ns.map .int) E [] = some (ns.map stp, E) := by
  rw [lc_map E hE (fun d => match d with | .int v => stp v | _ => .none) (ns.map .int) [] (by simpa using hl) fun d hd => by
    obtain ⟨v, hv, rfl⟩ := List.mem_map.mp hd
    exact st v hv]
  simp [Function.comp_def]
theorem lc_filterI {g : VG} {t : VT} {f : VE} {vs : List Nat} (E : EV) (p : Int → Bool) (stp : Int → PyData) (ns : List Int) (hl : ns.length ≤ sizeLine) (st : ∀ v ∈ ns, ∃ e1 e2, g (.int v) E = some e1 ∧ t e1 = some (p v, e2) ∧ (p v = false → wipeE e2 vs = E) ∧ (p v = true → ∃ e3, vUse f e2 = some (stp v, e3) ∧ wipeE e3 vs = E)) :
    lcL g t f vs (ns.map .int) E [] = some ((ns.filter p).map stp, E) := by
  rw [lc_filter E (fun d => match d with | .int v => p v | _ => false) (fun d => match d with | .int v => stp v | _ => .none) (ns.map .int) [] (by simpa using hl) fun d hd => by
    obtain ⟨v, hv, rfl⟩ := List.mem_map.mp hd
    exact st v hv]
  simp [List.filter_map, Function.comp_def]
@[simp] theorem items_tup (ds : List PyData) : VL.items? (.tuple ds) = some ds := rfl
@[simp] theorem items_lst (ds : List PyData) : VL.items? (.list ds) = some ds := rfl
@[simp] theorem bools_map {α : Type} (f : α → Bool) : ∀ l : List α, bools? (l.map fun x => PyData.bool (f x)) = some (l.map f)
  | [] => rfl
  | a :: l => by simp [bools?, bools_map f l]
end
/-! ### equality of data, types -/
@[simp] theorem eqv_int (i j : Int) : PyData.eqv (.int i) (.int j) = decide (i = j) := by simp only [PyData.eqv]; exact Bool.beq_eq_decide_eq i j
@[simp] theorem eqv_str (i j : Str) : PyData.eqv (.str i) (.str j) = decide (i = j) := by simp only [PyData.eqv]; exact Bool.beq_eq_decide_eq i j
@[simp] theorem eqvAll_ints : ∀ as bs : List Int, PyData.eqvAll (as.map .int) (bs.map .int) = decide (as = bs)
  | [], [] => by simp [PyData.eqvAll]
  | [], b :: bs => by simp [PyData.eqvAll]
  | a :: as, [] => by simp [PyData.eqvAll]
  | a :: as, b :: bs => by
    rw [List.map_cons, List.map_cons, PyData.eqvAll, eqv_int, eqvAll_ints as bs]
    by_cases h1 : a = b <;> by_cases h2 : as = bs <;> simp [h1, h2]
theorem kit_ii : kitB "int" "int" = some true := by decide +kernel
theorem kit_ib : kitB "int" "bool" = some false := by decide +kernel
theorem kit_bi : kitB "bool" "int" = some true := by decide +kernel
theorem kit_bb : kitB "bool" "bool" = some true := by decide +kernel
theorem kit_tt : kitB "tuple" "tuple" = some true := by decide +kernel
theorem kit_it : kitB "int" "tuple" = some false := by decide +kernel
theorem kit_ss : kitB "str" "str" = some true := by decide +kernel
theorem kit_nt : kitB "NoneType" "tuple" = some false := by decide +kernel
theorem shaped_ints (ns : List Int) : SeqAt.shaped (.tuple (ns.map .int)) = true ∧ SeqAt.shaped (.list (ns.map .int)) = true := by
  have h1 : ∀ ns : List Int, PyData.canLayAll0 (ns.map .int) = true := by
    intro ns; induction ns with
    | nil => simp [PyData.canLayAll0]
    | cons n ns ih => simp [PyData.canLayAll0, PyData.canLay0, ih]
  have h2 : ∀ ns : List Int, PyData.depthAll (ns.map .int) ≤ 1 := by
    intro ns; induction ns with
    | nil => simp [PyData.depthAll]
    | cons n ns ih => simp [PyData.depthAll, PyData.depth]; omega
  have h3 := h2 ns
  constructor
  · simp [SeqAt.shaped, PyData.canLay0, h1, PyData.depth]; omega
  · simp [SeqAt.shaped, PyData.canLay0, h1, PyData.depth]; omega
@[simp] theorem shaped_int (i : Int) : SeqAt.shaped (.int i) = true := by simp [SeqAt.shaped, PyData.canLay0, PyData.depth]
theorem shaped_str {i : Str} (h : PyData.strOk i = true) : SeqAt.shaped (.str i) = true := by simp [SeqAt.shaped, PyData.canLay0, PyData.depth, h]
end VL

/-! VS: sorted ints -/
namespace VL
open PySem PySem.Spec PyProof.Rows L2
def srt (ns : List Int) : List Int := ns.mergeSort (fun a b => decide (a ≤ b))
theorem srt_perm (ns : List Int) : (srt ns).Perm ns := List.mergeSort_perm ns _
theorem srt_pw (ns : List Int) : (srt ns).Pairwise (· ≤ ·) := by
  have := List.pairwise_mergeSort (le := fun a b : Int => decide (a ≤ b)) (fun a b c h1 h2 => by simp at h1 h2 ⊢; omega) (fun a b => by simp; omega) ns
  exact this.imp fun h => by simpa using h
theorem srt_of {ns ms : List Int} (p : ns.Perm ms) (w : ns.Pairwise (· ≤ ·)) : srt ms = ns :=
  List.Perm.eq_of_pairwise (le := (· ≤ ·)) (fun a b _ _ h1 h2 => by omega) (srt_pw ms) w ((srt_perm ms).trans p.symm)
theorem srt_id {ns : List Int} (w : ns.Pairwise (· ≤ ·)) : srt ns = ns := srt_of (.refl _) w
theorem sortD_ints (ns : List Int) : sortD (ns.map .int) = (srt ns).map .int := by
  unfold sortD srt
  symm
  refine List.map_mergeSort fun a _ b _ => ?_
  have := congrFun (congrFun (PySem.W.dataLe_int (fun i : Int => i)) a) b
  simp only [PySem.W.dataLe] at this ⊢
  exact this.symm
theorem canLayAll_ints : ∀ ns : List Int, PyData.canLayAll0 (ns.map .int) = true
  | [] => by simp [PyData.canLayAll0]
  | n :: ns => by simp [PyData.canLayAll0, PyData.canLay0, canLayAll_ints ns]
theorem plainAll_ints : ∀ ns : List Int, PyData.plainAll (ns.map .int) = true
  | [] => by simp [PyData.plainAll]
  | n :: ns => by simp [PyData.plainAll, PyData.plain, plainAll_ints ns]
theorem depthAll_ints : ∀ ns : List Int, PyData.depthAll (ns.map .int) ≤ 1
  | [] => by simp [PyData.depthAll]
  | n :: ns => by
    have := depthAll_ints ns
    simp [PyData.depthAll, PyData.depth]; omega
theorem sortOk_ints {ns : List Int} (h : ns.length ≤ sizeLine) : sortOk (ns.map .int) = true := by
  unfold sortOk
  simp only [Bool.and_eq_true, decide_eq_true_eq, List.length_map, List.all_map, Bool.or_eq_true, List.all_eq_true, Function.comp]
  refine ⟨⟨⟨⟨h, fun a _ => by simp [PyData.canLay0]⟩, fun a _ b _ => by simp [PySem.W.alike]⟩, fun a _ => by simp [PyData.depth]⟩, .inr fun a _ => by simp⟩
theorem sum_perm : ∀ {as bs : List Int}, as.Perm bs → as.sum = bs.sum := by
  intro as bs h
  induction h with
  | nil => rfl
  | cons x _ ih => simp [ih]
  | swap x y l => simp; omega
  | trans _ _ ih1 ih2 => exact ih1.trans ih2
theorem cntN_ints (ns : List Int) (d : Int) : cntN (ns.map .int) (.int d) = some (.int (ns.count d : Nat)) := by
  unfold cntN
  rw [if_pos (by simp [plainAll_ints, PyData.plain, PyData.depth, canLayAll_ints, PyData.canLay0])]
  have : (List.countP ((fun y => PyData.eqv y (.int d)) ∘ PyData.int) ns) = List.countP (fun x => x == d) ns := by
    apply List.countP_congr
    intro x _
    simp
  rw [List.countP_map, this]
  rfl
@[simp] theorem any_eqv_ints (ns : List Int) (d : Int) : ((ns.map PyData.int).any fun z => PyData.eqv z (.int d)) = decide (d ∈ ns) := by
  induction ns with
  | nil => simp
  | cons n ns ih =>
    simp only [List.map_cons, List.any_cons, ih, eqv_int, List.mem_cons]
    by_cases h : n = d <;> by_cases h2 : d ∈ ns <;> simp [h, h2]
    · intro z; exact h z.symm
/-! ### dicts keyed by ints -/
def dI (ks : List Int) : PyData := .dict (ks.map fun k => (.int k, .bool true))
def ins (ks : List Int) (k : Int) : List Int := if k ∈ ks then ks else ks ++ [k]
theorem dput_I (ks : List Int) (k : Int) : dput (ks.map fun k => (PyData.int k, PyData.bool true)) (.int k) (.bool true) = (ins ks k).map fun k => (PyData.int k, PyData.bool true) := by
  have h : ((ks.map fun k => (PyData.int k, PyData.bool true)).any fun p => PyData.eqv p.1 (.int k)) = decide (k ∈ ks) := by
    have := any_eqv_ints ks k
    rw [List.any_map] at this ⊢
    exact this
  unfold dput ins
  rw [h]
  by_cases z : k ∈ ks
  · simp only [z, decide_true, if_true]
    rw [List.map_map]
    apply List.map_congr_left
    intro x _
    simp [Function.comp]
  · simp only [z, decide_false, Bool.false_eq_true, if_false]
    simp
theorem dmerge_I (ks ms : List Int) : dmerge (ks.map fun k => (PyData.int k, PyData.bool true)) (ms.map fun k => (PyData.int k, PyData.bool true)) = (ms.foldl ins ks).map fun k => (PyData.int k, PyData.bool true) := by
  unfold dmerge
  induction ms generalizing ks with
  | nil => rfl
  | cons m ms ih =>
    rw [List.map_cons, List.foldl_cons, List.foldl_cons]
    rw [dput_I, ih]
theorem dget_I (ks : List Int) (k : Int) : (dget (ks.map fun k => (PyData.int k, PyData.bool true)) (.int k)).isSome = decide (k ∈ ks) := by
  unfold dget
  rw [Option.isSome_map, Bool.eq_iff_iff, List.find?_isSome, decide_eq_true_iff]
  constructor
  · rintro ⟨x, hx, e⟩
    obtain ⟨z, hz, rfl⟩ := List.mem_map.mp hx
    simp at e
    exact e ▸ hz
  · intro h
    exact ⟨_, List.mem_map.mpr ⟨k, h, rfl⟩, by simp⟩
theorem mem_ins {ks : List Int} {k x : Int} : x ∈ ins ks k ↔ x ∈ ks ∨ x = k := by
  unfold ins
  split
  · constructor
    · exact .inl
    · rintro (h | rfl)
      · exact h
      · assumption
  · simp
theorem nodup_ins {ks : List Int} {k : Int} (h : ks.Nodup) : (ins ks k).Nodup := by
  unfold ins
  split
  · exact h
  · rename_i n
    rw [List.nodup_append]
    exact ⟨h, by simp, fun a ha b hb => by simp at hb; subst hb; intro e; exact n (e ▸ ha)⟩
theorem len_ins {ks : List Int} {k : Int} : (ins ks k).length ≤ ks.length + 1 := by
  unfold ins
  split <;> simp
theorem mem_inss : ∀ {ms ks : List Int} {x : Int}, x ∈ ms.foldl ins ks ↔ x ∈ ks ∨ x ∈ ms
  | [], ks, x => by simp
  | m :: ms, ks, x => by
    rw [List.foldl_cons, mem_inss, mem_ins, List.mem_cons, or_assoc]
theorem nodup_inss : ∀ {ms ks : List Int}, ks.Nodup → (ms.foldl ins ks).Nodup
  | [], ks, h => h
  | m :: ms, ks, h => by rw [List.foldl_cons]; exact nodup_inss (nodup_ins h)
theorem len_inss : ∀ {ms ks : List Int}, (ms.foldl ins ks).length ≤ ks.length + ms.length
  | [], ks => by simp
  | m :: ms, ks => by
    have h1 := len_inss (ms := ms) (ks := ins ks m)
    have h2 := len_ins (ks := ks) (k := m)
    simp only [List.foldl_cons, List.length_cons]; omega
theorem dkOf_I {k : Int} {ks : List Int} : dkOf (dI (k :: ks)) = some (false, (k :: ks).map fun k => (PyData.int k, PyData.bool true)) := rfl
end VL

/-! VW: what is reached from a state of which only some slots are known -/
namespace VL
open PySem PySem.Spec PyProof.Rows L2
/-- a slot that nothing is known of: no parameter's object -/
def junkB : Option SV → Bool
  | none => true
  | some s => !s.isP
inductive Le : EV → EV → Prop
  | nil : Le [] []
  | keep {s : SV} {e e' : EV} : Le e e' → Le (some s :: e) (some s :: e')
  | loose {x : Option SV} {e e' : EV} : junkB x = true → Le e e' → Le (none :: e) (x :: e')
theorem Le.refl : ∀ e : EV, Le e e
  | [] => .nil
  | none :: e => .loose rfl (Le.refl e)
  | some _ :: e => .keep (Le.refl e)
theorem Le.trans {a b : EV} (h : Le a b) : ∀ {c : EV}, Le b c → Le a c := by
  induction h with
  | nil => exact fun h => h
  | keep _ ih => intro c h; cases h with | keep h => exact .keep (ih h)
  | loose j _ ih =>
    intro c h
    cases h with
    | keep h => exact .loose j (ih h)
    | loose j' h => exact .loose j' (ih h)
theorem Le.get {e e' : EV} (h : Le e e') : ∀ {i : Nat} {s : SV}, e[i]? = some (some s) → e'[i]? = some (some s) := by
  induction h with
  | nil => intro i s z; simp at z
  | keep _ ih => intro i s z; cases i with
    | zero => simpa using z
    | succ i => simpa using ih (by simpa using z)
  | loose j _ ih => intro i s z; cases i with
    | zero => simp at z
    | succ i => simpa using ih (by simpa using z)
theorem Le.getN {e e' : EV} (h : Le e e') : ∀ {i : Nat}, e[i]? = some none → ∃ x, e'[i]? = some x ∧ junkB x = true := by
  induction h with
  | nil => intro i z; simp at z
  | keep _ ih => intro i z; cases i with
    | zero => simp at z
    | succ i => simpa using ih (by simpa using z)
  | loose j _ ih => intro i z; cases i with
    | zero => exact ⟨_, rfl, j⟩
    | succ i => simpa using ih (by simpa using z)
theorem Le.len {e e' : EV} (h : Le e e') : e.length = e'.length := by
  induction h with
  | nil => rfl
  | keep _ ih => simp [ih]
  | loose _ _ ih => simp [ih]
theorem Le.set {e e' : EV} (h : Le e e') (x : Option SV) : ∀ i : Nat, Le (e.set i x) (e'.set i x) := by
  induction h with
  | nil => intro i; simp; exact .nil
  | keep h ih => intro i; cases i with
    | zero => cases x with
      | none => exact .loose rfl h
      | some s => exact .keep h
    | succ i => exact .keep (ih i)
  | loose j h ih => intro i; cases i with
    | zero => cases x with
      | none => exact .loose rfl h
      | some s => exact .keep h
    | succ i => exact .loose j (ih i)
/-- slot by slot -/
def Le1 : Option SV → Option SV → Prop
  | some s, x => x = some s
  | none, x => junkB x = true
theorem Le.of : ∀ {e e' : EV}, e.length = e'.length → (∀ (i : Nat) (x y : Option SV), e[i]? = some x → e'[i]? = some y → Le1 x y) → Le e e'
  | [], [], _, _ => .nil
  | [], _ :: _, h, _ => by cases h
  | _ :: _, [], h, _ => by cases h
  | x :: e, y :: e', h, k => by
    have t := Le.of (e := e) (e' := e') (by simpa using h) fun i a b h1 h2 => k (i + 1) a b (by simpa using h1) (by simpa using h2)
    have z := k 0 x y rfl rfl
    cases x with
    | none => exact .loose z t
    | some s => cases z; exact .keep t
theorem Le.at_ {e e' : EV} (h : Le e e') {i : Nat} {x y : Option SV} (hx : e[i]? = some x) (hy : e'[i]? = some y) : Le1 x y := by
  cases x with
  | none => obtain ⟨z, h1, h2⟩ := h.getN hx; rw [h1] at hy; cases hy; exact h2
  | some s => have h1 := h.get hx; rw [h1] at hy; cases hy; rfl
class SetAt (e : EV) (i : Nat) (x : Option SV) (o : outParam EV) : Prop where
  eq : e.set i x = o
instance {y x : Option SV} {e : EV} : SetAt (y :: e) 0 x (x :: e) := ⟨rfl⟩
instance {y x : Option SV} {e o : EV} {n : Nat} [h : SetAt e n x o] : SetAt (y :: e) (n + 1) x (y :: o) := ⟨by rw [List.set_cons_succ, h.eq]⟩
class WipeAt (e : EV) (vs : List Nat) (o : outParam EV) : Prop where
  eq : wipeE e vs = o
instance {e : EV} : WipeAt e [] e := ⟨rfl⟩
instance {e o o' : EV} {v : Nat} {vs : List Nat} [h : WipeAt e vs o] [h' : SetAt o v none o'] : WipeAt e (v :: vs) o' := ⟨by rw [wipeE, h.eq, h'.eq]⟩
/-- from e, or more, f goes on to Q -/
structure W {α : Type} (f : EV → Option (α × EV)) (e : EV) (Q : α → EV → Prop) : Prop where
  go : ∀ e', Le e e' → ∃ a o o', f e' = some (a, o') ∧ Le o o' ∧ Q a o
structure WG (g : VG) (d : PyData) (e : EV) (Q : EV → Prop) : Prop where
  go : ∀ e', Le e e' → ∃ o o', g d e' = some o' ∧ Le o o' ∧ Q o
structure WGs (g : VGs) (ds : List PyData) (e : EV) (Q : EV → Prop) : Prop where
  go : ∀ e', Le e e' → ∃ o o', g ds e' = some o' ∧ Le o o' ∧ Q o
section
variable {α β γ : Type} {f : EV → Option (α × EV)} {e e1 : EV} {Q Q' : α → EV → Prop}
theorem W.run (h : W f e Q) : ∃ a o o', f e = some (a, o') ∧ Le o o' ∧ Q a o := h.go e (Le.refl e)
theorem W.imp (h : W f e Q) (i : ∀ a o, Q a o → Q' a o) : W f e Q' := .mk fun e' l => by
  obtain ⟨a, o, o', h1, h2, h3⟩ := h.go e' l
  exact ⟨a, o, o', h1, h2, i a o h3⟩
theorem W.weak (l : Le e1 e) (h : W f e1 Q) : W f e Q := .mk fun e' l' => h.go e' (l.trans l')
theorem W.bind {k : α × EV → Option (β × EV)} {Q : β → EV → Prop} (h : W f e fun a o => W (fun env => k (a, env)) o Q) : W (fun env => (f env).bind k) e Q := .mk fun e' l => by
  obtain ⟨a, o, o', h1, h2, h3⟩ := h.go e' l
  obtain ⟨b, p, p', h4, h5, h6⟩ := h3.go o' h2
  exact ⟨b, p, p', by show (f e').bind k = _; rw [h1]; exact h4, h5, h6⟩
theorem W.map {k : α × EV → β × EV} {Q : β → EV → Prop} (h : W f e fun a o => W (fun env => some (k (a, env))) o Q) : W (fun env => (f env).map k) e Q := .mk fun e' l => by
  obtain ⟨a, o, o', h1, h2, h3⟩ := h.go e' l
  obtain ⟨b, p, p', h4, h5, h6⟩ := h3.go o' h2
  refine ⟨b, p, p', ?_, h5, h6⟩
  show (f e').map k = _
  rw [h1]; exact h4
theorem W.pure {a : α} (h : Q a e) : W (fun env => some (a, env)) e Q := .mk fun e' l => ⟨a, e, e', rfl, l, h⟩
/-- what more knowledge does not change -/
def Mono (f : EV → Option (α × EV)) : Prop := ∀ e e' a o, Le e e' → f e = some (a, o) → ∃ o', f e' = some (a, o') ∧ Le o o'
theorem Mono.w {a : α} {o : EV} (m : Mono f) (h : f e = some (a, o)) (q : Q a o) : W f e Q := .mk fun e' l => by
  obtain ⟨o', h1, h2⟩ := m e e' a o l h
  exact ⟨a, o, o', h1, h2, q⟩
/-- reading -/
theorem W.read {k : γ → EV → Option (α × EV)} {rdr : EV → Option γ} (hr : ∀ e e' x, Le e e' → rdr e = some x → rdr e' = some x) {x : γ} (h : rdr e = some x) (q : W (k x) e Q) : W (fun env => (rdr env).bind fun x => k x env) e Q := .mk fun e' l => by
  obtain ⟨a, o, o', h1, h2, h3⟩ := q.go e' l
  exact ⟨a, o, o', by show (rdr e').bind _ = _; rw [hr e e' x l h]; exact h1, h2, h3⟩
theorem W.ite {c : EV → Bool} (hr : ∀ e e', Le e e' → c e = true → c e' = true) (h : c e = true) {g : EV → Option (α × EV)} (q : W f e Q) : W (fun env => if c env = true then f env else g env) e Q := .mk fun e' l => by
  obtain ⟨a, o, o', h1, h2, h3⟩ := q.go e' l
  exact ⟨a, o, o', by show (if c e' = true then _ else _) = _; rw [if_pos (hr e e' l h)]; exact h1, h2, h3⟩
theorem rd_le {e e' : EV} {r : R} {d : PyData} (l : Le e e') (h : rd e r = some d) : rd e' r = some d := by
  cases r with
  | fz d => exact h
  | ow k d => exact h
  | sc ns => exact h
  | br i =>
    simp only [rd] at h ⊢
    split at h
    · rename_i s z; rw [l.get z]; exact h
    · cases h
theorem rdw_le {e e' : EV} {r : R} {d : PyData} (l : Le e e') (h : rdw e r = some d) : rdw e' r = some d := by
  cases r with
  | sc ns => exact h
  | fz d => exact rd_le (r := .fz d) l h
  | ow k d => exact rd_le (r := .ow k d) l h
  | br i => exact rd_le (r := .br i) l h
theorem rdAll_le {e e' : EV} (l : Le e e') : ∀ {rs : List R} {ds : List PyData}, rdAll e rs = some ds → rdAll e' rs = some ds
  | [], _, h => h
  | r :: rs, ds, h => by
    simp only [rdAll, bind_some_iff, Option.map_eq_some_iff] at h ⊢
    obtain ⟨d, h1, ds, h2, rfl⟩ := h
    exact ⟨d, rdw_le l h1, ds, rdAll_le l h2, rfl⟩
theorem use_mono (r : R) : Mono fun env => use env r := fun e e' a o l h => by
  cases r with
  | fz d => cases h; exact ⟨e', rfl, l⟩
  | ow k d => cases h; exact ⟨e', rfl, l⟩
  | sc ns => cases h
  | br i =>
    simp only [use] at h ⊢
    split at h
    · rename_i s z
      cases h
      rw [l.get z]
      exact ⟨_, rfl, l.set _ _⟩
    · cases h
theorem held_mono (r : R) : Mono fun env => held env r := fun e e' a o l h => by
  cases r with
  | fz d => cases h; exact ⟨e', rfl, l⟩
  | ow k d => cases h; exact ⟨e', rfl, l⟩
  | sc ns => cases h; exact ⟨e', rfl, l⟩
  | br i =>
    simp only [held, Option.map_eq_some_iff] at h ⊢
    obtain ⟨⟨d, o1⟩, h1, h2⟩ := h
    cases h2
    obtain ⟨o', h3, h4⟩ := use_mono (.br i) e e' d o1 l h1
    exact ⟨o', ⟨(d, o'), h3, rfl⟩, h4⟩
theorem free_le {e e' : EV} {i : Nat} (l : Le e e') (h : VL.free? e i = true) : VL.free? e' i = true := by
  unfold VL.free? at h ⊢
  cases z : e[i]? with
  | none => rw [z] at h; cases h
  | some x =>
    cases x with
    | none =>
      obtain ⟨y, h1, h2⟩ := l.getN z
      rw [h1]
      cases y with
      | none => rfl
      | some s => simpa [junkB] using h2
    | some s => rw [z] at h; rw [l.get z]; exact h
theorem heldAll_mono : ∀ rs : List R, Mono fun env => heldAll env rs
  | [], e, e', a, o, l, h => by cases h; exact ⟨e', rfl, l⟩
  | r :: rs, e, e', a, o, l, h => by
    simp only [heldAll, bind_some_iff, Option.map_eq_some_iff] at h ⊢
    obtain ⟨⟨s, o1⟩, h1, ⟨ss, o2⟩, h2, h3⟩ := h
    cases h3
    obtain ⟨o1', g1, g2⟩ := held_mono r e e' s o1 l h1
    obtain ⟨o2', g3, g4⟩ := heldAll_mono rs o1 o1' ss _ g2 h2
    exact ⟨o2', ⟨(s, o1'), g1, (ss, o2'), g3, rfl⟩, g4⟩
theorem putAll_le : ∀ {is : List Nat} {ss : List SV} {e e' o : EV}, Le e e' → VL.putAll is ss e = some o → ∃ o', VL.putAll is ss e' = some o' ∧ Le o o'
  | [], [], e, e', o, l, h => by cases h; exact ⟨e', rfl, l⟩
  | i :: is, s :: ss, e, e', o, l, h => by
    simp only [VL.putAll] at h ⊢
    split at h
    · rename_i z
      rw [if_pos (free_le l z)]
      exact putAll_le (l.set _ _) h
    · cases h
  | [], _ :: _, _, _, _, _, h => by cases h
  | _ :: _, [], _, _, _, _, h => by cases h
theorem moved_mono (r : R) : Mono fun env => moved env r := fun e e' a o l h => by
  cases r with
  | fz d => cases h; exact ⟨e', rfl, l⟩
  | ow k d => cases h; exact ⟨e', rfl, l⟩
  | sc ns => cases h
  | br i =>
    simp only [moved] at h ⊢
    split at h
    · rename_i z; cases h; rw [l.get z]; exact ⟨_, rfl, l.set _ _⟩
    · rename_i z; cases h; rw [l.get z]; exact ⟨_, rfl, l.set _ _⟩
    · rename_i z; cases h; rw [l.get z]; exact ⟨_, rfl, l⟩
    · rename_i z; cases h; rw [l.get z]; exact ⟨_, rfl, l⟩
    · cases h
theorem doM_mono (g : FM) (c : Nat) (ds : List PyData) : Mono fun env => doM g c ds env := fun e e' a o l h => by
  simp only [doM] at h ⊢
  split at h
  · rename_i s z
    split at h
    · rename_i ow
      simp only [Option.map_eq_some_iff] at h
      obtain ⟨q, h1, h2⟩ := h
      cases h2
      rw [l.get z]
      simp only [ow, if_true, h1, Option.map_some]
      exact ⟨_, rfl, l.set _ _⟩
    · cases h
  · cases h
theorem tyOwn_le {T : String} {e e' : EV} {c : Nat} (l : Le e e') (h : tyOwn T e c = true) : tyOwn T e' c = true := by
  unfold tyOwn at h ⊢
  split at h
  · rename_i s z; rw [l.get z]; exact h
  · cases h
theorem hasV_le {e e' : EV} {c : Nat} (l : Le e e') (h : hasV e c = true) : hasV e' c = true := by
  unfold hasV at h ⊢
  split at h
  · rename_i s z; rw [l.get z]
  · cases h
theorem doSet_le {c : Nat} {di dv : PyData} {e e' o : EV} (l : Le e e') (h : doSet c di dv e = some o) : ∃ o', doSet c di dv e' = some o' ∧ Le o o' := by
  unfold doSet at h ⊢
  split at h
  · rename_i s z
    split at h
    · rename_i ow
      simp only [Option.map_eq_some_iff] at h
      obtain ⟨q, h1, h2⟩ := h
      cases h2
      rw [l.get z]
      simp only [ow, if_true, h1, Option.map_some]
      exact ⟨_, rfl, l.set _ _⟩
    · cases h
  · cases h
/-- a value whose slot is known -/
def kn (e : EV) : R → Prop
  | .br i => ∃ s, e[i]? = some (some s)
  | _ => True
theorem kn_rd {e : EV} {r : R} {d : PyData} (h : rdw e r = some d) : kn e r := by
  cases r with
  | fz d => trivial
  | ow k d => trivial
  | sc ns => trivial
  | br i =>
    simp only [rdw, rd] at h
    split at h
    · rename_i s z; exact ⟨s, z⟩
    · cases h
theorem dk_le {e e' : EV} {r : R} (l : Le e e') (k : kn e r) : dk e' r = dk e r := by
  cases r with
  | fz d => rfl
  | ow k d => rfl
  | sc ns => rfl
  | br i =>
    obtain ⟨s, z⟩ := k
    simp only [dk, z, l.get z]
theorem dk_kn {e : EV} {r : R} {x} (h : dk e r = some x) : kn e r := by
  cases r with
  | fz d => trivial
  | ow k d => trivial
  | sc ns => trivial
  | br i =>
    cases z : e[i]? with
    | none => simp [dk, z] at h
    | some y => cases y with
      | none => simp [dk, z] at h
      | some s => exact ⟨s, z⟩
end
/-! ### values -/
def varR (i : Nat) : SV → R
  | .fz d => .fz d
  | .pz d => .fz d
  | .sc ns => .sc ns
  | .ow _ _ => .br i
  | .pw _ _ => .br i
section
variable {e : EV} {Q : R → EV → Prop} {f g h : VE} {t u : VT} {as : VA} {us : VU}
theorem w_var {i : Nat} {s : SV} (h : e[i]? = some (some s)) (q : Q (varR i s) e) : W (vVar i) e Q := .mk fun e' l => by
  refine ⟨varR i s, e, e', ?_, l, q⟩
  unfold vVar
  rw [l.get h]
  cases s <;> rfl
theorem w_c {d : PyData} (q : Q (.fz d) e) : W (vC d) e Q := W.pure q
structure kNeg (Q : R → EV → Prop) (r : R) (e : EV) : Prop where
  out : ∃ i : Int, r = .fz (.int i) ∧ Q (.fz (.int (-i))) e
theorem k_neg {i : Int} (q : Q (.fz (.int (-i))) e) : kNeg Q (.fz (.int i)) e := ⟨i, rfl, q⟩
theorem w_neg (h : W f e (kNeg Q)) : W (vNeg f) e Q := W.bind (h.imp fun r o ⟨i, z, q⟩ => by subst z; exact W.pure q)
structure kOp (Fo : F2) (Q : R → EV → Prop) (a b : R) (e : EV) : Prop where
  out : ∃ x y r, rd e a = some x ∧ rd e b = some y ∧ Fo x y = some r ∧ Q r e
theorem k_op {Fo : F2} {a b : R} {x y : PyData} {r : R} (ha : rd e a = some x) (hb : rd e b = some y) (hr : Fo x y = some r) (q : Q r e) : kOp Fo Q a b e := ⟨x, y, r, ha, hb, hr, q⟩
theorem w_op2 {Fo : F2} (h : W f e fun a e1 => W g e1 fun b e2 => kOp Fo Q a b e2) : W (vOp2 Fo f g) e Q :=
  W.bind (h.imp fun a o h => by dsimp only; exact W.bind (h.imp fun b o ⟨x, y, r, ha, hb, hr, q⟩ => by dsimp only; exact W.read (fun _ _ _ l z => rd_le l z) ha (W.read (fun _ _ _ l z => rd_le l z) hb (.mk fun e' l => ⟨r, o, e', by simp [hr], l, q⟩))))
theorem k_mul {i j : Int} (h : mulOk i j = true) (q : Q (.fz (.int (i * j))) e) : kOp mulF Q (.fz (.int i)) (.fz (.int j)) e := k_op rfl rfl (by simp [mulF, h]) q
theorem k_fdiv {i j : Int} (h : 0 < j ∧ j.natAbs.log2 < 9000) (q : Q (.fz (.int (i / j))) e) : kOp fdivF Q (.fz (.int i)) (.fz (.int j)) e := k_op rfl rfl (by simp [fdivF, h]) q
theorem k_mod {i j : Int} (h : 0 < j) (q : Q (.fz (.int (i % j))) e) : kOp modF Q (.fz (.int i)) (.fz (.int j)) e := k_op rfl rfl (by simp [modF, h]) q
theorem k_eqI {i j : Int} (q : Q (.fz (.bool (decide (i = j)))) e) : kOp eqF Q (.fz (.int i)) (.fz (.int j)) e := k_op rfl rfl (by simp [eqF]) q
theorem k_neI {i j : Int} (q : Q (.fz (.bool (decide (i ≠ j)))) e) : kOp neF Q (.fz (.int i)) (.fz (.int j)) e := k_op rfl rfl (by simp [neF]) q
theorem k_eqD {a b : R} {x y : PyData} (ha : rd e a = some x) (hb : rd e b = some y) (h1 : SeqAt.shaped x = true) (h2 : SeqAt.shaped y = true) (q : Q (.fz (.bool (PyData.eqv x y))) e) : kOp eqF Q a b e := k_op ha hb (by simp [eqF, h1, h2]) q
theorem k_neD {a b : R} {x y : PyData} (ha : rd e a = some x) (hb : rd e b = some y) (h1 : SeqAt.shaped x = true) (h2 : SeqAt.shaped y = true) (q : Q (.fz (.bool (!PyData.eqv x y))) e) : kOp neF Q a b e := k_op ha hb (by simp [neF, h1, h2]) q
structure kB (Q : Bool → EV → Prop) (r : R) (e : EV) : Prop where
  out : ∃ b, r = .fz (.bool b) ∧ Q b e
theorem k_b {Q : Bool → EV → Prop} {b : Bool} (q : Q b e) : kB Q (.fz (.bool b)) e := ⟨b, rfl, q⟩
theorem w_b {Q : Bool → EV → Prop} (h : W f e (kB Q)) : W (vB f) e Q := W.bind (h.imp fun r o ⟨b, z, q⟩ => by subst z; exact W.pure q)
/-! and, or, not, if as values; the tests -/
structure kIf (A B : Prop) (c : Bool) : Prop where
  t : c = true → A
  f : c = false → B
theorem k_if_t {A B : Prop} {c : Bool} (h : c = true) (q : A) : kIf A B c := ⟨fun _ => q, fun z => (by rw [h] at z; cases z)⟩
theorem k_if_f {A B : Prop} {c : Bool} (h : c = false) (q : B) : kIf A B c := ⟨fun z => (by rw [h] at z; cases z), fun _ => q⟩
theorem kIf.w {α : Type} {x y : EV → Option (α × EV)} {Q : α → EV → Prop} {c : Bool} (h : kIf (W x e Q) (W y e Q) c) : W (fun env => if c = true then x env else y env) e Q := by
  cases c with
  | true => exact h.t rfl
  | false => exact h.f rfl
theorem w_andV (h : W f e (kB fun c e1 => kIf (W g e1 Q) (Q (.fz (.bool false)) e1) c)) : W (vAndV f g) e Q :=
  W.bind ((w_b h).imp fun c o h => by
    cases c with
    | true => exact h.t rfl
    | false => exact W.pure (h.f rfl))
theorem w_orV (h : W f e (kB fun c e1 => kIf (Q (.fz (.bool true)) e1) (W g e1 Q) c)) : W (vOrV f g) e Q :=
  W.bind ((w_b h).imp fun c o h => by
    cases c with
    | true => exact W.pure (h.t rfl)
    | false => exact h.f rfl)
theorem w_notV (h : W f e (kB fun c e1 => Q (.fz (.bool (!c))) e1)) : W (vNotV f) e Q := W.map ((w_b h).imp fun c o h => W.pure h)
theorem w_ifE (h : W t e fun c e1 => kIf (W f e1 Q) (W g e1 Q) c) : W (vIfE t f g) e Q := W.bind (h.imp fun c o h => h.w)
theorem w_and {Q : Bool → EV → Prop} (h : W t e fun c e1 => kIf (W u e1 Q) (Q false e1) c) : W (vAnd t u) e Q :=
  W.bind (h.imp fun c o h => by
    cases c with
    | true => exact h.t rfl
    | false => exact W.pure (h.f rfl))
theorem w_or {Q : Bool → EV → Prop} (h : W t e fun c e1 => kIf (Q true e1) (W u e1 Q) c) : W (vOr t u) e Q :=
  W.bind (h.imp fun c o h => by
    cases c with
    | true => exact W.pure (h.t rfl)
    | false => exact h.f rfl)
theorem w_not {Q : Bool → EV → Prop} (h : W t e fun c e1 => Q (!c) e1) : W (vNot t) e Q := W.map (h.imp fun c o h => W.pure h)
theorem w_tt {Q : Bool → EV → Prop} (q : Q true e) : W tTrue e Q := W.pure q
/-- a chain of ints -/
structure kCh2 (Fo : F2) (k : Bool → Prop) (a b : R) (e : EV) : Prop where
  out : ∃ x y c, rd e a = some x ∧ rd e b = some y ∧ Fo x y = some (.fz (.bool c)) ∧ k c
theorem k_ch2 {Fo : F2} {k : Bool → Prop} {a b : R} {x y : PyData} {c : Bool} (ha : rd e a = some x) (hb : rd e b = some y) (hr : Fo x y = some (.fz (.bool c))) (q : k c) : kCh2 Fo k a b e := ⟨x, y, c, ha, hb, hr, q⟩
theorem w_chain {Fo Go : F2} (hh : W f e fun a e1 => W g e1 fun b e2 => kCh2 Fo (fun c => kIf (W h e2 fun d e3 => kOp Go Q b d e3) (Q (.fz (.bool false)) e2) c) a b e2) : W (vChain Fo Go f g h) e Q :=
  W.bind (hh.imp fun a o hh => by dsimp only; exact W.bind (hh.imp fun b o ⟨x, y, c, ha, hb, hr, q⟩ => by dsimp only; exact W.read (fun _ _ _ l z => rd_le l z) ha (W.read (fun _ _ _ l z => rd_le l z) hb (by
    rw [hr]
    cases c with
    | false => exact W.pure (q.f rfl)
    | true =>
      show W (fun env => (h env).bind _) o Q
      exact W.bind ((q.t rfl).imp fun d o ⟨x, y, r, ha, hb, hr, q⟩ => by dsimp only; exact W.read (fun _ _ _ l z => rd_le l z) ha (W.read (fun _ _ _ l z => rd_le l z) hb (.mk fun e' l => ⟨r, o, e', by simp [hr], l, q⟩)))))))
/-! ### arguments, displays -/
theorem w_anil {Q : List R → EV → Prop} (q : Q [] e) : W vaNil e Q := W.pure q
theorem w_acons {Q : List R → EV → Prop} (h : W f e fun r e1 => W as e1 fun rs e2 => Q (r :: rs) e2) : W (vaCons f as) e Q := W.bind (h.imp fun r o h => by dsimp only; exact W.map (h.imp fun rs o q => W.pure q))
structure kUse (Q : PyData → EV → Prop) (r : R) (e : EV) : Prop where
  out : ∃ d o, use e r = some (d, o) ∧ Q d o
theorem k_use {Q : PyData → EV → Prop} {r : R} {d : PyData} {o : EV} (h : use e r = some (d, o)) (q : Q d o) : kUse Q r e := ⟨d, o, h, q⟩
theorem k_useB {Q : PyData → EV → Prop} {i : Nat} {s : SV} {o : EV} (h : e[i]? = some (some s)) [z : SetAt e i (some s.fzd) o] (q : Q s.d o) : kUse Q (.br i) e := ⟨s.d, o, by simp only [use, h, z.eq], q⟩
theorem w_use {Q : PyData → EV → Prop} (h : W f e (kUse Q)) : W (vUse f) e Q := W.bind (h.imp fun r o ⟨d, o1, z, q⟩ => (use_mono r).w z q)
theorem w_unil {Q : List PyData → EV → Prop} (q : Q [] e) : W vuNil e Q := W.pure q
theorem w_ucons {Q : List PyData → EV → Prop} (h : W (vUse f) e fun d e1 => W us e1 fun ds e2 => Q (d :: ds) e2) : W (vuCons f us) e Q := W.bind (h.imp fun r o h => by dsimp only; exact W.map (h.imp fun rs o q => W.pure q))
structure kStar (k : List PyData → Prop) (d : PyData) : Prop where
  out : ∃ xs, seq? d = some xs ∧ k xs
theorem k_star {k : List PyData → Prop} {d : PyData} {xs : List PyData} (h : seq? d = some xs) (q : k xs) : kStar k d := ⟨xs, h, q⟩
theorem w_ustar {Q : List PyData → EV → Prop} (h : W (vUse f) e fun d e1 => kStar (fun xs => W us e1 fun ds e2 => Q (xs ++ ds) e2) d) : W (vuStar f us) e Q := W.bind (h.imp fun d o ⟨xs, hx, h⟩ => by
  show W (fun env => (seq? d).bind _) o Q
  rw [hx]
  exact W.map (h.imp fun rs o q => W.pure q))
theorem w_tup (h : W us e fun ds e1 => ds.length ≤ sizeLine ∧ Q (.fz (.tuple ds)) e1) : W (vTup us) e Q := W.bind (h.imp fun ds o ⟨h, q⟩ => .mk fun e' l => ⟨_, o, e', by simp [h], l, q⟩)
theorem w_lst (h : W us e fun ds e1 => ds.length ≤ sizeLine ∧ Q (.ow false (.list ds)) e1) : W (vLst us) e Q := W.bind (h.imp fun ds o ⟨h, q⟩ => .mk fun e' l => ⟨_, o, e', by simp [h], l, q⟩)
theorem w_dnew {k : Bool} (q : Q (.ow k (.dict [])) e) : W (vDNew k) e Q := W.pure q
/-! ### built-ins -/
structure kBlt (bf : FB) (Q : R → EV → Prop) (rs : List R) (e : EV) : Prop where
  out : ∃ ds r, rdAll e rs = some ds ∧ bf ds = some r ∧ Q r e
theorem k_blt {bf : FB} {rs : List R} {ds : List PyData} {r : R} (h : rdAll e rs = some ds) (hr : bf ds = some r) (q : Q r e) : kBlt bf Q rs e := ⟨ds, r, h, hr, q⟩
theorem w_blt {bf : FB} (h : W as e (kBlt bf Q)) : W (vBlt bf as) e Q := W.bind (h.imp fun rs o ⟨ds, r, h1, h2, q⟩ => by dsimp only; exact W.read (fun _ _ _ l z => rdAll_le l z) h1 (.mk fun e' l => ⟨r, o, e', by simp [h2], l, q⟩))
structure kLR (Q : R → EV → Prop) (rs : List R) (e : EV) : Prop where
  out : ∃ a b : Int, (rdAll e rs = some [.int b] ∧ a = 0 ∨ rdAll e rs = some [.int a, .int b]) ∧ in62 a = true ∧ in62 b = true ∧ (b - a).toNat ≤ 2 ^ 24 ∧ Q (.ow false (.list (rangeD a 1 (b - a).toNat))) e
theorem w_lstRg (h : W as e (kLR Q)) : W (vLstRg as) e Q := W.bind (h.imp fun rs o ⟨a, b, h, h1, h2, h3, q⟩ => by
  rcases h with ⟨h, rfl⟩ | h
  · rw [Int.sub_zero] at h3 q
    exact W.read (fun _ _ _ l z => rdAll_le l z) h (.mk fun e' l => ⟨_, o, e', by simp [h2, h3], l, q⟩)
  · exact W.read (fun _ _ _ l z => rdAll_le l z) h (.mk fun e' l => ⟨_, o, e', by simp [h1, h2, h3], l, q⟩))
structure kIsi (T : String) (Q : R → EV → Prop) (r : R) (e : EV) : Prop where
  out : ∃ d a b, rd e r = some d ∧ tyN d = some a ∧ kitB a T = some b ∧ Q (.fz (.bool b)) e
theorem k_isi {T : String} {r : R} {d : PyData} {a : String} {b : Bool} (h : rd e r = some d) (h1 : tyN d = some a) (h2 : kitB a T = some b) (q : Q (.fz (.bool b)) e) : kIsi T Q r e := ⟨d, a, b, h, h1, h2, q⟩
theorem w_isi {T : String} (h : W f e (kIsi T Q)) : W (vIsi T f) e Q := W.bind (h.imp fun r o ⟨d, a, b, h1, h2, h3, q⟩ => by dsimp only; exact W.read (fun _ _ _ l z => rd_le l z) h1 (.mk fun e' l => ⟨_, o, e', by simp [h2, h3], l, q⟩))
/-! ### subscripts, slices, in, get -/
structure kIdx (Q : R → EV → Prop) (c i : R) (e : EV) : Prop where
  out : ∃ di, rd e i = some di ∧ ((∃ dc xs j d, dk e c = none ∧ rdw e c = some dc ∧ seq? dc = some xs ∧ di = .int j ∧ L2.atI xs j = some d ∧ Q (.fz d) e) ∨ (∃ k kvs d, dk e c = some (k, kvs) ∧ dgetF k kvs di = some (some d) ∧ Q (.fz d) e))
theorem k_idxL {c i : R} {dc : PyData} {xs : List PyData} {j : Int} {d : PyData} (h1 : rd e i = some (.int j)) (h2 : dk e c = none) (h3 : rdw e c = some dc) (h4 : seq? dc = some xs) (h5 : L2.atI xs j = some d) (q : Q (.fz d) e) : kIdx Q c i e := ⟨_, h1, .inl ⟨dc, xs, j, d, h2, h3, h4, rfl, h5, q⟩⟩
theorem k_idxD {c i : R} {di : PyData} {k : Bool} {kvs : List (PyData × PyData)} {d : PyData} (h1 : rd e i = some di) (h2 : dk e c = some (k, kvs)) (h3 : dgetF k kvs di = some (some d)) (q : Q (.fz d) e) : kIdx Q c i e := ⟨_, h1, .inr ⟨k, kvs, d, h2, h3, q⟩⟩
theorem w_idx (h : W f e fun c e1 => W g e1 fun i e2 => kIdx Q c i e2) : W (vIdx f g) e Q := W.bind (h.imp fun c o h => by dsimp only; exact W.bind (h.imp fun i o ⟨di, h1, h2⟩ => by
  dsimp only
  refine W.read (fun _ _ _ l z => rd_le l z) h1 ?_
  rcases h2 with ⟨dc, xs, j, d, h2, h3, h4, rfl, h5, q⟩ | ⟨k, kvs, d, h2, h3, q⟩
  · refine .mk fun e' l => ?_
    refine ⟨.fz d, o, e', ?_, l, q⟩
    simp only [dk_le l (kn_rd h3), h2, rdw_le l h3, Option.bind_some, h4, h5, Option.map_some]
  · refine .mk fun e' l => ?_
    refine ⟨.fz d, o, e', ?_, l, q⟩
    simp only [dk_le l (dk_kn h2), h2, Option.bind_some, h3, Option.map_some]))
theorem w_onone {Q : Option Int → EV → Prop} (q : Q none e) : W voNone e Q := W.pure q
structure kO (Q : Option Int → EV → Prop) (r : R) (e : EV) : Prop where
  out : ∃ i : Int, r = .fz (.int i) ∧ Q (some i) e
theorem k_o {Q : Option Int → EV → Prop} {i : Int} (q : Q (some i) e) : kO Q (.fz (.int i)) e := ⟨i, rfl, q⟩
theorem w_osome {Q : Option Int → EV → Prop} (h : W f e (kO Q)) : W (voSome f) e Q := W.bind (h.imp fun r o ⟨i, z, q⟩ => by subst z; exact W.pure q)
structure kSl (Q : R → EV → Prop) (c : R) (l u : Option Int) (e : EV) : Prop where
  out : (∃ ds, rdw e c = some (.list ds) ∧ Q (.ow false (.list (cutD ds l u))) e) ∨ (∃ ds, rdw e c = some (.tuple ds) ∧ Q (.fz (.tuple (cutD ds l u))) e)
theorem k_slL {c : R} {l u : Option Int} {ds : List PyData} (h : rdw e c = some (.list ds)) (q : Q (.ow false (.list (cutD ds l u))) e) : kSl Q c l u e := ⟨.inl ⟨ds, h, q⟩⟩
theorem k_slT {c : R} {l u : Option Int} {ds : List PyData} (h : rdw e c = some (.tuple ds)) (q : Q (.fz (.tuple (cutD ds l u))) e) : kSl Q c l u e := ⟨.inr ⟨ds, h, q⟩⟩
theorem w_slice {lo hi : VO} (h : W f e fun c e1 => W lo e1 fun l e2 => W hi e2 fun u e3 => kSl Q c l u e3) : W (vSlice f lo hi) e Q :=
  W.bind (h.imp fun c o h => by dsimp only; exact W.bind (h.imp fun l o h => by dsimp only; exact W.bind (h.imp fun u o h => by
    rcases h.out with ⟨ds, h, q⟩ | ⟨ds, h, q⟩
    · exact W.read (fun _ _ _ l z => rdw_le l z) h (W.pure q)
    · exact W.read (fun _ _ _ l z => rdw_le l z) h (W.pure q))))
structure kIn (neg : Bool) (Q : R → EV → Prop) (x c : R) (e : EV) : Prop where
  out : ∃ d, rd e x = some d ∧ ((∃ dc xs, dk e c = none ∧ rd e c = some dc ∧ seq? dc = some xs ∧ SeqAt.shaped d = true ∧ SeqAt.shaped dc = true ∧ Q (.fz (inD neg d xs)) e) ∨ (∃ k kvs o, dk e c = some (k, kvs) ∧ dgetF k kvs d = some o ∧ Q (.fz (.bool (if neg then !o.isSome else o.isSome))) e))
theorem k_inL {neg : Bool} {x c : R} {d dc : PyData} {xs : List PyData} (h1 : rd e x = some d) (h2 : dk e c = none) (h3 : rd e c = some dc) (h4 : seq? dc = some xs) (h5 : SeqAt.shaped d = true) (h6 : SeqAt.shaped dc = true) (q : Q (.fz (inD neg d xs)) e) : kIn neg Q x c e := ⟨d, h1, .inl ⟨dc, xs, h2, h3, h4, h5, h6, q⟩⟩
theorem k_inD {neg : Bool} {x c : R} {d : PyData} {k : Bool} {kvs : List (PyData × PyData)} {o : Option PyData} (h1 : rd e x = some d) (h2 : dk e c = some (k, kvs)) (h3 : dgetF k kvs d = some o) (q : Q (.fz (.bool (if neg then !o.isSome else o.isSome))) e) : kIn neg Q x c e := ⟨d, h1, .inr ⟨k, kvs, o, h2, h3, q⟩⟩
theorem w_in {neg : Bool} (h : W f e fun x e1 => W g e1 fun c e2 => kIn neg Q x c e2) : W (vIn neg f g) e Q := W.bind (h.imp fun x o h => by dsimp only; exact W.bind (h.imp fun c o ⟨d, h1, h2⟩ => by
  dsimp only
  refine W.read (fun _ _ _ l z => rd_le l z) h1 ?_
  rcases h2 with ⟨dc, xs, h2, h3, h4, h5, h6, q⟩ | ⟨k, kvs, r, h2, h3, q⟩
  · refine .mk fun e' l => ?_
    refine ⟨_, o, e', ?_, l, q⟩
    simp only [dk_le l (kn_rd (r := c) (d := dc) (by cases c <;> first | exact h3 | cases h3)), h2, rd_le l h3, Option.bind_some, h4, h5, h6, Bool.and_self, if_true]
  · refine .mk fun e' l => ?_
    refine ⟨_, o, e', ?_, l, q⟩
    simp only [dk_le l (dk_kn h2), h2, h3, Option.map_some]))
structure kDGet (Q : R → EV → Prop) (c : R) (k v : PyData) (e : EV) : Prop where
  out : ∃ kd kvs o, dk e c = some (kd, kvs) ∧ dgetF kd kvs k = some o ∧ Q (.fz (o.getD v)) e
theorem k_dget {c : R} {k v : PyData} {kd : Bool} {kvs : List (PyData × PyData)} {o : Option PyData} (h : dk e c = some (kd, kvs)) (h2 : dgetF kd kvs k = some o) (q : Q (.fz (o.getD v)) e) : kDGet Q c k v e := ⟨kd, kvs, o, h, h2, q⟩
def isD (e : EV) (c : R) : Prop := ∃ x, dk e c = some x
theorem w_dget (hh : W f e fun c e1 => isD e1 c ∧ W (vUse g) e1 fun k e2 => W (vUse h) e2 fun v e3 => kDGet Q c k v e3) : W (vDGet f g h) e Q := W.bind (hh.imp fun c o ⟨⟨x, hx⟩, hh⟩ => by
  refine .mk fun e' l => ?_
  have h1 : W (fun env => (vUse g env).bind fun q => (vUse h q.2).bind fun z => (dk z.2 c).bind fun w => (dgetF w.1 w.2 q.1).map fun o => ((R.fz (o.getD z.1)), z.2)) o Q := W.bind (hh.imp fun k o hh => by dsimp only; exact W.bind (hh.imp fun v o ⟨kd, kvs, r, h1, h2, q⟩ => by
    refine .mk fun e' l => ?_
    refine ⟨_, o, e', ?_, l, q⟩
    simp only [dk_le l (dk_kn h1), h1, Option.bind_some, h2, Option.map_some]))
  obtain ⟨a, p, p', g1, g2, g3⟩ := h1.go e' l
  refine ⟨a, p, p', ?_, g2, g3⟩
  show (dk e' c).bind _ = _
  rw [dk_le l (dk_kn hx), hx]
  exact g1)
structure kCnt (Q : R → EV → Prop) (c : R) (d : PyData) (e : EV) : Prop where
  out : ∃ dc x, rd e c = some dc ∧ cntF dc dc d = some x ∧ Q (.fz x) e
theorem k_cnt {c : R} {d dc x : PyData} (h : rd e c = some dc) (h2 : cntF dc dc d = some x) (q : Q (.fz x) e) : kCnt Q c d e := ⟨dc, x, h, h2, q⟩
theorem w_cnt (h : W f e fun c e1 => ∃ dc, rd e1 c = some dc ∧ isLT dc = true ∧ W (vUse g) e1 fun d e2 => rd e2 c = some dc ∧ ∃ x, cntF dc dc d = some x ∧ Q (.fz x) e2) : W (vCnt f g) e Q := W.bind (h.imp fun c o ⟨dc, h1, h2, h3⟩ => by dsimp only; exact W.read (fun _ _ _ l z => rd_le l z) h1 (by
  simp only [h2, if_true]
  exact W.bind (h3.imp fun d o ⟨h4, x, h5, q⟩ => by dsimp only; exact W.read (fun _ _ _ l z => rd_le l z) h4 (.mk fun e' l => ⟨_, o, e', by simp [h5], l, q⟩))))
/-! ### methods that change an object of a slot's own -/
structure kMut (g : FM) (c : Nat) (Q : R → EV → Prop) (ds : List PyData) (e : EV) : Prop where
  out : ∃ r o, doM g c ds e = some (r, o) ∧ Q r o
theorem k_mut {g : FM} {c : Nat} {ds : List PyData} {s : SV} {r d : PyData} {o : EV} (h1 : e[c]? = some (some s)) (h2 : s.own = true) (h3 : g s.k s.d ds = some (r, d)) [z : SetAt e c (some (s.wr d)) o] (q : Q (.fz r) o) : kMut g c Q ds e := ⟨.fz r, o, by simp only [doM, h1, h2, h3, if_true, Option.map_some, z.eq], q⟩
theorem k_append {c : Nat} {y : PyData} {s : SV} {xs : List PyData} {o : EV} (h1 : e[c]? = some (some s)) (h2 : s.own = true) (h3 : s.d = .list xs) (h4 : xs.length < sizeLine) [z : SetAt e c (some (s.wr (.list (xs ++ [y])))) o] (q : Q (.fz .none) o) : kMut appendG c Q [y] e := k_mut (d := .list (xs ++ [y])) h1 h2 (by rw [h3]; simp [appendG, h4]) q
theorem k_extend {c : Nat} {ys : List PyData} {s : SV} {xs : List PyData} {o : EV} (h1 : e[c]? = some (some s)) (h2 : s.own = true) (h3 : s.d = .list xs) (h4 : xs.length + ys.length ≤ sizeLine) [z : SetAt e c (some (s.wr (.list (xs ++ ys)))) o] (q : Q (.fz .none) o) : kMut extendG c Q [.list ys] e := k_mut (d := .list (xs ++ ys)) h1 h2 (by rw [h3]; simp [extendG, h4]) q
theorem w_mut {T : String} {g : FM} {c : Nat} (h0 : tyOwn T e c = true) (h : W us e (kMut g c Q)) : W (vMut T g c us) e Q := W.ite (fun _ _ l z => tyOwn_le l z) h0 (W.bind (h.imp fun ds o ⟨r, o1, h1, q⟩ => (doM_mono g c ds).w h1 q))
end
/-! ### statements -/
section
variable {e : EV} {Q : Fl → EV → Prop} {f g : VE} {t : VT} {as : VA} {a b : VS}
theorem w_nil (q : Q .nx e) : W vsNil e Q := W.pure q
theorem w_pass (q : Q .nx e) : W vPass e Q := W.pure q
theorem w_bk (q : Q .bk e) : W vBk e Q := W.pure q
theorem w_ct (q : Q .ct e) : W vCt e Q := W.pure q
inductive kSeq (t : VS) (Q : Fl → EV → Prop) : Fl → EV → Prop
  | nx {e : EV} : W t e Q → kSeq t Q .nx e
  | bk {e : EV} : Q .bk e → kSeq t Q .bk e
  | ct {e : EV} : Q .ct e → kSeq t Q .ct e
  | rt {r : R} {e : EV} : Q (.rt r) e → kSeq t Q (.rt r) e
theorem k_nx (q : W b e Q) : kSeq b Q .nx e := .nx q
theorem k_bk (q : Q .bk e) : kSeq b Q .bk e := .bk q
theorem k_ct (q : Q .ct e) : kSeq b Q .ct e := .ct q
theorem k_rt {r : R} (q : Q (.rt r) e) : kSeq b Q (.rt r) e := .rt q
theorem w_seq (h : W a e (kSeq b Q)) : W (vSeq a b) e Q := W.bind (h.imp fun fl o h => by
  cases h with
  | nx h => exact h
  | bk h => exact W.pure h
  | ct h => exact W.pure h
  | rt h => exact W.pure h)
/-- a statement by itself -/
theorem w_cut (e2 : EV) (h : W a e fun fl e1 => fl = .nx ∧ Le e2 e1) (q : W b e2 Q) : W (vSeq a b) e Q := w_seq (h.imp fun fl o ⟨z, l⟩ => by subst z; exact .nx (W.weak l q))
theorem w_expr (h : W f e fun _ e1 => Q .nx e1) : W (vExpr f) e Q := W.map (h.imp fun r o q => W.pure q)
theorem w_if (h : W t e fun c e1 => kIf (W a e1 Q) (W b e1 Q) c) : W (vIf t a b) e Q := W.bind (h.imp fun c o h => h.w)
/-- an if that is passed by -/
def Skip (e : EV) (x : Bool) : Bool → EV → Prop := fun c e1 => c = x ∧ Le e e1
theorem w_skip (h : W t e (Skip e false)) (q : W b e Q) : W (vIf t a b) e Q := w_if (h.imp fun c o ⟨z, l⟩ => k_if_f z (W.weak l q))
theorem w_goin (h : W t e (Skip e true)) (q : W a e Q) : W (vIf t a b) e Q := w_if (h.imp fun c o ⟨z, l⟩ => k_if_t z (W.weak l q))
structure kRet (Q : Fl → EV → Prop) (r : R) (e : EV) : Prop where
  out : ∃ r' o, moved e r = some (r', o) ∧ Q (.rt r') o
theorem k_ret {r r' : R} {o : EV} (h : moved e r = some (r', o)) (q : Q (.rt r') o) : kRet Q r e := ⟨r', o, h, q⟩
theorem w_ret (h : W f e (kRet Q)) : W (vRet f) e Q := W.bind (h.imp fun r o ⟨r', o1, z, q⟩ => .mk fun e' l => by
  obtain ⟨o2, h1, h2⟩ := moved_mono r o e' r' o1 l z
  exact ⟨.rt r', o1, o2, by simp [h1], h2, q⟩)
theorem w_retN (q : Q (.rt (.fz .none)) e) : W vRetN e Q := W.pure q
structure kSet (i : Nat) (Q : Fl → EV → Prop) (r : R) (e : EV) : Prop where
  out : ∃ s o, held e r = some (s, o) ∧ VL.free? o i = true ∧ Q .nx (o.set i (some s))
theorem k_set {i : Nat} {r : R} {s : SV} {o o2 : EV} (h : held e r = some (s, o)) (h2 : VL.free? o i = true) [z : SetAt o i (some s) o2] (q : Q .nx o2) : kSet i Q r e := ⟨s, o, h, h2, z.eq.symm ▸ q⟩
theorem k_setB {i j : Nat} {s : SV} {o o2 : EV} (h : e[j]? = some (some s)) [z1 : SetAt e j (some s.fzd) o] (h2 : VL.free? o i = true) [z : SetAt o i (some (.fz s.d)) o2] (q : Q .nx o2) : kSet i Q (.br j) e := ⟨.fz s.d, o, by simp only [held, use, h, Option.map_some, z1.eq], h2, z.eq.symm ▸ q⟩
theorem w_set {i : Nat} (h : W f e (kSet i Q)) : W (vSet i f) e Q := W.bind (h.imp fun r o ⟨s, o1, z, h2, q⟩ => .mk fun e' l => by
  obtain ⟨o2, g1, g2⟩ := held_mono r o e' s o1 l z
  exact ⟨.nx, _, _, by simp only [g1, Option.bind_some, free_le g2 h2, if_true], g2.set _ _, q⟩)
structure kPar (is : List Nat) (Q : Fl → EV → Prop) (rs : List R) (e : EV) : Prop where
  out : ∃ ss o o2, heldAll e rs = some (ss, o) ∧ VL.putAll is ss o = some o2 ∧ Q .nx o2
theorem w_par {is : List Nat} (h : W as e (kPar is Q)) : W (vPar is as) e Q := W.bind (h.imp fun rs o ⟨ss, o1, o2, z, h2, q⟩ => .mk fun e' l => by
  obtain ⟨o3, g1, g2⟩ := heldAll_mono rs o e' ss o1 l z
  obtain ⟨o4, g3, g4⟩ := putAll_le g2 h2
  exact ⟨.nx, _, _, by simp only [g1, Option.bind_some, g3, Option.map_some], g4, q⟩)
theorem k_par2 {i j : Nat} {r1 r2 : R} {s1 s2 : SV} {o o1 o2 o3 : EV} (h1 : held e r1 = some (s1, o)) (h2 : held o r2 = some (s2, o1)) (f1 : VL.free? o1 i = true) [z1 : SetAt o1 i (some s1) o2] (f2 : VL.free? o2 j = true) [z2 : SetAt o2 j (some s2) o3] (q : Q .nx o3) : kPar [i, j] Q [r1, r2] e :=
  ⟨[s1, s2], o1, o3, by simp only [heldAll, h1, h2, Option.bind_some, Option.map_some], by simp only [VL.putAll, f1, if_true, z1.eq, f2, z2.eq], q⟩
theorem k_par3 {i j k : Nat} {r1 r2 r3 : R} {s1 s2 s3 : SV} {o o1 o2 o3 o4 o5 : EV} (h1 : held e r1 = some (s1, o)) (h2 : held o r2 = some (s2, o1)) (h3 : held o1 r3 = some (s3, o2)) (f1 : VL.free? o2 i = true) [z1 : SetAt o2 i (some s1) o3] (f2 : VL.free? o3 j = true) [z2 : SetAt o3 j (some s2) o4] (f3 : VL.free? o4 k = true) [z3 : SetAt o4 k (some s3) o5] (q : Q .nx o5) : kPar [i, j, k] Q [r1, r2, r3] e :=
  ⟨[s1, s2, s3], o2, o5, by simp only [heldAll, h1, h2, h3, Option.bind_some, Option.map_some], by simp only [VL.putAll, f1, if_true, z1.eq, f2, z2.eq, f3, z3.eq], q⟩
theorem w_store {c : Nat} {fi fe : VE} (h : W (vUse fe) e fun v e1 => hasV e1 c = true ∧ W (vUse fi) e1 fun k e2 => ∃ o, doSet c k v e2 = some o ∧ Q .nx o) : W (vStore c fi fe) e Q := W.bind (h.imp fun v o ⟨h0, h⟩ => by
  dsimp only
  exact W.ite (fun _ _ l z => hasV_le l z) h0 (W.bind (h.imp fun k o ⟨o1, z, q⟩ => .mk fun e' l => by
  obtain ⟨o2, g1, g2⟩ := doSet_le l z
  exact ⟨Fl.nx, o1, o2, by dsimp only; rw [g1]; rfl, g2, q⟩)))
structure kStore (c : Nat) (Q : Fl → EV → Prop) (k v : PyData) (e : EV) : Prop where
  out : ∃ o, doSet c k v e = some o ∧ Q .nx o
theorem k_store {c : Nat} {k v d' : PyData} {s : SV} {o : EV} (h1 : e[c]? = some (some s)) (h2 : s.own = true) (h3 : setG s.k s.d k v = some d') [z : SetAt e c (some (s.wr d')) o] (q : Q .nx o) : ∃ o, doSet c k v e = some o ∧ Q .nx o := ⟨o, by simp only [doSet, h1, h2, if_true, h3, Option.map_some, z.eq], q⟩
structure kAug (c : Nat) (g : F2) (d : PyData) (Q : Fl → EV → Prop) (r : R) (e : EV) : Prop where
  out : ∃ a d', rd e r = some a ∧ g d a = some (.fz d') ∧ VL.free? e c = true ∧ Q .nx (e.set c (some (.fz d')))
theorem k_aug {c : Nat} {g : F2} {d a d' : PyData} {r : R} {o : EV} (h1 : rd e r = some a) (h2 : g d a = some (.fz d')) (h3 : VL.free? e c = true) [z : SetAt e c (some (.fz d')) o] (q : Q .nx o) : kAug c g d Q r e := ⟨a, d', h1, h2, h3, z.eq.symm ▸ q⟩
theorem k_augMul {c : Nat} {i j : Int} {o : EV} (h2 : mulOk i j = true) (h3 : VL.free? e c = true) [z : SetAt e c (some (.fz (.int (i * j)))) o] (q : Q .nx o) : kAug c imulF (.int i) Q (.fz (.int j)) e := k_aug (d' := .int (i * j)) rfl (by simp [imulF, ntF, h2]) h3 q
theorem w_aug {c : Nat} {fo : F2} {d : PyData} (h0 : e[c]? = some (some (.fz d))) (h : W f e (kAug c fo d Q)) : W (vAug c fo f) e Q := .mk fun e' l => by
  have h1 : W (fun env => (f env).bind fun p => (rd p.2 p.1).bind fun a => match fo d a with
    | some (.fz d') => if VL.free? p.2 c = true then some (Fl.nx, p.2.set c (some (.fz d'))) else none
    | _ => none) e Q := W.bind (h.imp fun r o ⟨a, d', g1, g2, g3, q⟩ => by dsimp only; exact W.read (fun _ _ _ l z => rd_le l z) g1 (.mk fun e' l => ⟨.nx, _, _, by simp only [g2, free_le l g3, if_true], l.set _ _, q⟩))
  obtain ⟨x, o, o', g1, g2, g3⟩ := h1.go e' l
  refine ⟨x, o, o', ?_, g2, g3⟩
  unfold vAug
  rw [l.get h0]
  exact g1
theorem w_asg {g : VG} (h : W (vUse f) e fun d e1 => WG g d e1 fun e2 => Q .nx e2) : W (vAsg g f) e Q := W.bind (h.imp fun d o h => .mk fun e' l => by
  obtain ⟨o1, o2, g1, g2, g3⟩ := h.go e' l
  exact ⟨.nx, o1, o2, by simp only [g1, Option.map_some], g2, g3⟩)
theorem wg_name {i : Nat} {d : PyData} {o : EV} {Q : EV → Prop} (h : VL.free? e i = true) [z : SetAt e i (some (.fz d)) o] (q : Q o) : WG (gN i) d e Q := .mk fun e' l => ⟨o, e'.set i (some (.fz d)), by simp only [gN, free_le l h, if_true], by rw [← z.eq]; exact l.set _ _, q⟩
theorem wgs_nil {Q : EV → Prop} (q : Q e) : WGs gsNil [] e Q := .mk fun e' l => ⟨e, e', rfl, l, q⟩
theorem wgs_cons {g : VG} {gs : VGs} {d : PyData} {ds : List PyData} {Q : EV → Prop} (h : WG g d e fun e1 => WGs gs ds e1 Q) : WGs (gsCons g gs) (d :: ds) e Q := .mk fun e' l => by
  obtain ⟨o1, o2, g1, g2, h⟩ := h.go e' l
  obtain ⟨o3, o4, g3, g4, q⟩ := h.go o2 g2
  exact ⟨o3, o4, by simp only [gsCons, g1, Option.bind_some, g3], g4, q⟩
theorem wg_tup {n : Nat} {gs : VGs} {ds : List PyData} {Q : EV → Prop} (hn : ds.length = n) (h : WGs gs ds e Q) : WG (gT n gs) (.tuple ds) e Q := .mk fun e' l => by
  obtain ⟨o1, o2, g1, g2, q⟩ := h.go e' l
  exact ⟨o1, o2, by simp only [gT, hn, if_true, g1], g2, q⟩
/-! ### loops -/
def LP (I : EV → Prop) (Q : Fl → EV → Prop) : Fl → EV → Prop
  | .nx, e => ∃ e4, Le e4 e ∧ I e4
  | .ct, e => ∃ e4, Le e4 e ∧ I e4
  | .bk, e => Q .nx e
  | .rt r, e => Q (.rt r) e
theorem w_forI {g : VG} {b : VS} (I : Nat → EV → Prop) : ∀ {items : List PyData} {k : Nat} {e e0 : EV}, Le e0 e → I k e0 → (∀ (i : Nat) d e, items[i]? = some d → I (k + i) e → WG g d e fun e2 => W b e2 (LP (I (k + i + 1)) Q)) → (∀ e, I (k + items.length) e → Q .nx e) → W (forL g b items) e Q
  | [], k, e, e0, l0, h0, _, hq => .mk fun e' l => ⟨.nx, e0, e', rfl, l0.trans l, hq e0 h0⟩
  | d :: ds, k, e, e0, l0, h0, hs, hq => .mk fun e' l => by
    obtain ⟨o1, o1', g1, g2, hb⟩ := (hs 0 d e0 rfl h0).go e' (l0.trans l)
    obtain ⟨fl, o2, o2', g3, g4, hl⟩ := hb.go o1' g2
    have next : ∀ e4, Le e4 o2 → I (k + 1) e4 → ∃ a o o', forL g b ds o2' = some (a, o') ∧ Le o o' ∧ Q a o := fun e4 l4 h4 =>
      (w_forI I (items := ds) (k := k + 1) (l4) h4 (fun i d' e hd hI => by
        have := hs (i + 1) d' e (by simpa using hd) (by rwa [show k + (i + 1) = k + 1 + i by omega])
        rwa [show k + (i + 1) + 1 = k + 1 + i + 1 by omega] at this) (fun e h => hq e (by rw [List.length_cons]; rwa [show k + (ds.length + 1) = k + 1 + ds.length by omega]))).go o2' g4
    cases fl with
    | nx =>
      obtain ⟨e4, l4, h4⟩ := hl
      obtain ⟨a, o, o', z1, z2, z3⟩ := next e4 l4 h4
      exact ⟨a, o, o', by simp only [forL, g1, Option.bind_some, g3]; exact z1, z2, z3⟩
    | ct =>
      obtain ⟨e4, l4, h4⟩ := hl
      obtain ⟨a, o, o', z1, z2, z3⟩ := next e4 l4 h4
      exact ⟨a, o, o', by simp only [forL, g1, Option.bind_some, g3]; exact z1, z2, z3⟩
    | bk => exact ⟨.nx, o2, o2', by simp only [forL, g1, Option.bind_some, g3], g4, hl⟩
    | rt r => exact ⟨.rt r, o2, o2', by simp only [forL, g1, Option.bind_some, g3], g4, hl⟩
theorem w_for {it : VI} {g : VG} {b : VS} (h : W it e fun items e1 => W (forL g b items) e1 Q) : W (vFor it g b) e Q := W.bind (h.imp fun items o h => h)
/-- a for whose states are known turn by turn -/
theorem w_forN {g : VG} {b : VS} {items : List PyData} (E : Nat → EV) (h0 : Le (E 0) e) (hs : ∀ (i : Nat) d, items[i]? = some d → WG g d (E i) fun e2 => W b e2 (LP (fun e4 => e4 = E (i + 1)) Q)) (hq : Q .nx (E items.length)) : W (forL g b items) e Q :=
  w_forI (fun i e => e = E i) h0 rfl (fun i d e hd hI => by subst hI; simpa using hs i d hd) (fun e h => by subst h; simpa using hq)
/-- .. over items that stand for xs -/
theorem w_forX {α : Type} {g : VG} {b : VS} (enc : α → PyData) (xs : List α) (E : Nat → EV) (h0 : Le (E 0) e) (hs : ∀ (i : Nat) x, xs[i]? = some x → WG g (enc x) (E i) fun e2 => W b e2 (LP (fun e4 => e4 = E (i + 1)) Q)) (hq : Q .nx (E xs.length)) : W (forL g b (xs.map enc)) e Q :=
  w_forN E h0 (fun i d hd => by
    rw [List.getElem?_map] at hd
    cases z : xs[i]? with
    | none => rw [z] at hd; cases hd
    | some x => rw [z] at hd; cases hd; exact hs i x z) (by simpa using hq)
theorem w_forXI {α : Type} {g : VG} {b : VS} (enc : α → PyData) (xs : List α) (I : Nat → EV → Prop) {e0 : EV} (l0 : Le e0 e) (h0 : I 0 e0) (hs : ∀ (i : Nat) x e, xs[i]? = some x → I i e → WG g (enc x) e fun e2 => W b e2 (LP (I (i + 1)) Q)) (hq : ∀ e, I xs.length e → Q .nx e) : W (forL g b (xs.map enc)) e Q :=
  w_forI I l0 h0 (fun i d e hd hI => by
    rw [List.getElem?_map] at hd
    rw [Nat.zero_add] at hI ⊢
    cases z : xs[i]? with
    | none => rw [z] at hd; cases hd
    | some x => rw [z] at hd; cases hd; exact hs i x e z hI) (fun e h => hq e (by simpa using h))
def WhP (t : VT) (b : VS) (I : Nat → EV → Prop) (Q : Fl → EV → Prop) (j : Nat) : Bool → EV → Prop := fun c e1 => kIf (W b e1 (LP (fun e4 => ∃ j', j' < j ∧ I j' e4) Q)) (Q .nx e1) c
theorem w_whileI {t : VT} {b : VS} (I : Nat → EV → Prop) : ∀ (n m : Nat) {e e0 : EV}, m < n → Le e0 e → I m e0 → (∀ j e, I j e → W t e (WhP t b I Q j)) → W (vWhile n t b) e Q
  | 0, m, _, _, hm, _, _, _ => by omega
  | n + 1, m, e, e0, hm, l0, h0, hs => .mk fun e' l => by
    obtain ⟨c, o1, o1', g1, g2, h⟩ := (hs m e0 h0).go e' (l0.trans l)
    cases c with
    | false => exact ⟨.nx, o1, o1', by simp only [vWhile, whileL, g1, Option.bind_some, Bool.false_eq_true, if_false], g2, h.f rfl⟩
    | true =>
      obtain ⟨fl, o2, o2', g3, g4, hl⟩ := (h.t rfl).go o1' g2
      cases fl with
      | nx =>
        obtain ⟨e4, l4, j', hj, h4⟩ := hl
        obtain ⟨a, o, o', z1, z2, z3⟩ := (w_whileI I n j' (by omega) l4 h4 hs).go o2' g4
        exact ⟨a, o, o', by simp only [vWhile, whileL, g1, Option.bind_some, if_true, g3]; exact z1, z2, z3⟩
      | ct =>
        obtain ⟨e4, l4, j', hj, h4⟩ := hl
        obtain ⟨a, o, o', z1, z2, z3⟩ := (w_whileI I n j' (by omega) l4 h4 hs).go o2' g4
        exact ⟨a, o, o', by simp only [vWhile, whileL, g1, Option.bind_some, if_true, g3]; exact z1, z2, z3⟩
      | bk => exact ⟨.nx, o2, o2', by simp only [vWhile, whileL, g1, Option.bind_some, if_true, g3], g4, hl⟩
      | rt r => exact ⟨.rt r, o2, o2', by simp only [vWhile, whileL, g1, Option.bind_some, if_true, g3], g4, hl⟩
end
/-! ### what is walked -/
section
variable {e : EV} {Q : List PyData → EV → Prop} {f : VE} {as : VA}
structure kIt (k : List PyData → Prop) (d : PyData) : Prop where
  out : ∃ ds, VL.items? d = some ds ∧ k ds
theorem k_it {k : List PyData → Prop} {d : PyData} {ds : List PyData} (h : VL.items? d = some ds) (q : k ds) : kIt k d := ⟨ds, h, q⟩
theorem w_iter (h : W (vUse f) e fun d e1 => kIt (fun ds => Q ds e1) d) : W (vIter f) e Q := W.bind (h.imp fun d o ⟨ds, h, q⟩ => .mk fun e' l => ⟨ds, o, e', by simp [h], l, q⟩)
structure kRng (Q : List PyData → EV → Prop) (rs : List R) (e : EV) : Prop where
  out : ∃ items, (∀ env, Le e env → vRng (fun x => some (rs, x)) env = some (items, env)) ∧ Q items e
theorem w_rng (h : W as e (kRng Q)) : W (vRng as) e Q := .mk fun e' l => by
  obtain ⟨rs, o, o', h1, h2, items, h3, q⟩ := h.go e' l
  refine ⟨items, o, o', ?_, h2, q⟩
  have := h3 o' h2
  unfold vRng at this ⊢
  rw [h1]
  exact this
theorem k_rng1 {j : Int} (h : in62 j = true) (q : Q (rangeD 0 1 j.toNat) e) : kRng Q [.fz (.int j)] e := ⟨_, fun env _ => by simp [vRng, rdAll, rdw, rd, h], q⟩
theorem k_rng2 {i j : Int} (h : in62 i = true) (h' : in62 j = true) (q : Q (rangeD i 1 (j - i).toNat) e) : kRng Q [.fz (.int i), .fz (.int j)] e := ⟨_, fun env _ => by simp [vRng, rdAll, rdw, rd, h, h'], q⟩
theorem k_rngD {i j : Int} (h : in62 i = true) (h' : in62 j = true) (q : Q (rangeD i (-1) (i - j).toNat) e) : kRng Q [.fz (.int i), .fz (.int j), .fz (.int (-1))] e := ⟨_, fun env _ => by simp [vRng, rdAll, rdw, rd, h, h'], q⟩
end
/-! ### comprehensions -/
section
variable {e : EV} {Q : R → EV → Prop} {it : VI} {g : VG} {t : VT} {f : VE} {vs : List Nat}
theorem wipe_le {e e' : EV} (l : Le e e') : ∀ vs : List Nat, Le (wipeE e vs) (wipeE e' vs)
  | [] => l
  | v :: vs => (wipe_le l vs).set _ _
theorem back_le {a a' b b' : EV} (l : Le a a') (l' : Le b b') (hl : a.length = b.length) (vs : List Nat) : Le (backE a b vs) (backE a' b' vs) := by
  refine Le.of (by simp [backE, l'.len]) fun i x y hx hy => ?_
  simp only [backE, List.getElem?_mapIdx, Option.map_eq_some_iff] at hx hy
  obtain ⟨u, hu, rfl⟩ := hx
  obtain ⟨w, hw, rfl⟩ := hy
  by_cases c : i ∈ vs
  · rw [if_pos c, if_pos c]
    have hi : i < a.length := by rw [hl]; exact (List.getElem?_eq_some_iff.mp hu).1
    have h1 : a[i]? = some a[i] := List.getElem?_eq_getElem hi
    have h2 : a'[i]? = some (a'[i]'(by rw [← l.len]; exact hi)) := List.getElem?_eq_getElem _
    rw [h1, h2]
    exact l.at_ h1 h2
  · rw [if_neg c, if_neg c]
    exact l'.at_ hu hw
theorem wipe_len (e : EV) : ∀ vs : List Nat, (wipeE e vs).length = e.length
  | [] => rfl
  | v :: vs => by rw [wipeE, List.length_set, wipe_len e vs]
theorem wipe_at {e : EV} : ∀ {vs : List Nat} {i : Nat}, i ∉ vs → (wipeE e vs)[i]? = e[i]?
  | [], _, _ => rfl
  | v :: vs, i, h => by
    rw [wipeE, List.getElem?_set_ne (by intro z; exact h (by simp [z]))]
    exact wipe_at fun z => h (by simp [z])
theorem back_self (e : EV) (vs : List Nat) : backE e (wipeE e vs) vs = e := by
  apply List.ext_getElem?
  intro i
  rw [backE, List.getElem?_mapIdx]
  by_cases c : i < e.length
  · have h1 : (wipeE e vs)[i]? = some ((wipeE e vs)[i]'(by rw [wipe_len]; exact c)) := List.getElem?_eq_getElem _
    by_cases m : i ∈ vs
    · simp [m, h1, List.getElem?_eq_getElem c]
    · rw [wipe_at m, List.getElem?_eq_getElem c]
      simp [m]
  · have h1 : (wipeE e vs)[i]? = none := List.getElem?_eq_none (by rw [wipe_len]; omega)
    rw [h1, List.getElem?_eq_none (by omega)]; rfl
/-- the turns of a comprehension -/
theorem w_lcL (I : Nat → List PyData → EV → Prop) {P : List PyData → EV → Prop} : ∀ {items : List PyData} {k : Nat} {acc : List PyData} {e e0 : EV}, Le e0 e → I k acc e0 →
    (∀ (i : Nat) d acc e, items[i]? = some d → I (k + i) acc e → WG g d e fun e2 => W t e2 fun c e3 => kIf (acc.length < sizeLine ∧ W (vUse f) e3 fun y e4 => ∃ e5, Le e5 (wipeE e4 vs) ∧ I (k + i + 1) (acc ++ [y]) e5) (∃ e5, Le e5 (wipeE e3 vs) ∧ I (k + i + 1) acc e5) c) →
    (∀ acc e, I (k + items.length) acc e → P acc e) → W (fun env => lcL g t f vs items env acc) e P
  | [], k, acc, e, e0, l0, h0, _, hq => .mk fun e' l => ⟨acc, e0, e', rfl, l0.trans l, hq acc e0 h0⟩
  | d :: ds, k, acc, e, e0, l0, h0, hs, hq => .mk fun e' l => by
    obtain ⟨o1, o1', g1, g2, h⟩ := (hs 0 d acc e0 rfl h0).go e' (l0.trans l)
    obtain ⟨c, o2, o2', g3, g4, h⟩ := h.go o1' g2
    have next : ∀ acc e4 e5 e5', Le e5 e5' → Le e4 e5 → I (k + 1) acc e4 → ∃ a o o', lcL g t f vs ds e5' acc = some (a, o') ∧ Le o o' ∧ P a o := fun acc e4 e5 e5' l5 l4 h4 =>
      (w_lcL I (P := P) (items := ds) (k := k + 1) l4 h4 (fun i d' acc e hd hI => by
        have := hs (i + 1) d' acc e (by simpa using hd) (by rwa [show k + (i + 1) = k + 1 + i by omega])
        rwa [show k + (i + 1) + 1 = k + 1 + i + 1 by omega] at this) (fun acc e h => hq acc e (by rw [List.length_cons]; rwa [show k + (ds.length + 1) = k + 1 + ds.length by omega]))).go e5' l5
    cases c with
    | true =>
      obtain ⟨hl, h⟩ := h.t rfl
      obtain ⟨y, o3, o3', g5, g6, e5, l5, h5⟩ := h.go o2' g4
      obtain ⟨a, o, o', z1, z2, z3⟩ := next (acc ++ [y]) e5 _ _ (wipe_le g6 vs) l5 h5
      exact ⟨a, o, o', by simp only [lcL, g1, Option.bind_some, g3, if_true, g5, hl]; exact z1, z2, z3⟩
    | false =>
      obtain ⟨e5, l5, h5⟩ := h.f rfl
      obtain ⟨a, o, o', z1, z2, z3⟩ := next acc e5 _ _ (wipe_le g4 vs) l5 h5
      exact ⟨a, o, o', by simp only [lcL, g1, Option.bind_some, g3, Bool.false_eq_true, if_false]; exact z1, z2, z3⟩
structure kLc (g : VG) (t : VT) (f : VE) (vs : List Nat) (Q : R → EV → Prop) (items : List PyData) (e1 : EV) : Prop where
  out : W (fun env => lcL g t f vs items env []) (wipeE e1 vs) fun acc e2 => e1.length = e2.length ∧ Q (.ow false (.list acc)) (backE e1 e2 vs)
theorem w_lc (h : W it e (kLc g t f vs Q)) : W (vLc it g t f vs) e Q := W.bind (h.imp fun items o h => .mk fun e' l => by
  obtain ⟨acc, o1, o1', g1, g2, hl, q⟩ := h.out.go (wipeE e' vs) (wipe_le l vs)
  exact ⟨_, _, _, by simp only [g1, Option.map_some], back_le l g2 hl vs, q⟩)
/-- every item gives one -/
theorem k_lcM {α : Type} {xs : List α} (enc out : α → PyData) {e0 : EV} [z : WipeAt e vs e0] (hl : xs.length ≤ sizeLine) (hs : ∀ x ∈ xs, WG g (enc x) e0 fun e2 => W (vUse f) e2 fun y e4 => y = out x ∧ Le e0 (wipeE e4 vs)) (q : Q (.ow false (.list (xs.map out))) e) :
    kLc g tTrue f vs Q (xs.map enc) e := by
  constructor
  rw [z.eq]
  refine w_lcL (k := 0) (fun i acc o => o = e0 ∧ acc = (xs.take i).map out) (Le.refl _) ⟨rfl, by simp⟩ (fun i d acc o hd hI => ?_) (fun acc o h => ?_)
  · obtain ⟨rfl, rfl⟩ := hI
    rw [List.getElem?_map] at hd
    cases hz : xs[i]? with
    | none => rw [hz] at hd; cases hd
    | some x =>
      rw [hz] at hd; cases hd
      have hi := (List.getElem?_eq_some_iff.mp hz).1
      refine .mk fun e' l => ?_
      obtain ⟨o1, o2, g1, g2, h⟩ := (hs x (List.mem_of_getElem? hz)).go e' l
      refine ⟨o1, o2, g1, g2, w_tt (k_if_t rfl ⟨by simp; omega, h.imp fun y o hh => ⟨_, hh.2, rfl, ?_⟩⟩)⟩
      rw [hh.1, Nat.zero_add, List.take_add_one, hz]
      simp
  · obtain ⟨rfl, rfl⟩ := h
    rw [← z.eq]
    refine ⟨by rw [wipe_len], ?_⟩
    rw [back_self]
    simpa using q
/-- .. that passes a test -/
theorem k_lcF {α : Type} {xs : List α} (enc out : α → PyData) (p : α → Bool) {e0 : EV} [z : WipeAt e vs e0] (hl : xs.length ≤ sizeLine) (hs : ∀ x ∈ xs, WG g (enc x) e0 fun e2 => W t e2 fun c e3 => c = p x ∧ kIf (W (vUse f) e3 fun y e4 => y = out x ∧ Le e0 (wipeE e4 vs)) (Le e0 (wipeE e3 vs)) c) (q : Q (.ow false (.list ((xs.filter p).map out))) e) :
    kLc g t f vs Q (xs.map enc) e := by
  constructor
  rw [z.eq]
  refine w_lcL (k := 0) (fun i acc o => o = e0 ∧ acc = ((xs.take i).filter p).map out) (Le.refl _) ⟨rfl, by simp⟩ (fun i d acc o hd hI => ?_) (fun acc o h => ?_)
  · obtain ⟨rfl, rfl⟩ := hI
    rw [List.getElem?_map] at hd
    cases hz : xs[i]? with
    | none => rw [hz] at hd; cases hd
    | some x =>
      rw [hz] at hd; cases hd
      have hi := (List.getElem?_eq_some_iff.mp hz).1
      refine .mk fun e' l => ?_
      obtain ⟨o1, o2, g1, g2, h⟩ := (hs x (List.mem_of_getElem? hz)).go e' l
      refine ⟨o1, o2, g1, g2, h.imp fun c o hh => ?_⟩
      obtain ⟨rfl, hh⟩ := hh
      refine ⟨fun c => ⟨?_, (hh.1 c).imp fun y o hh => ⟨_, hh.2, rfl, ?_⟩⟩, fun c => ⟨_, hh.2 c, rfl, ?_⟩⟩
      · have : ((xs.take (0 + i)).filter p).length ≤ (xs.take (0 + i)).length := List.length_filter_le _ _
        simp at this ⊢; omega
      · rw [hh.1, Nat.zero_add, List.take_add_one, hz]
        simp [List.filter_append, c]
      · rw [Nat.zero_add, List.take_add_one, hz]
        simp [List.filter_append, c]
  · obtain ⟨rfl, rfl⟩ := h
    rw [← z.eq]
    refine ⟨by rw [wipe_len], ?_⟩
    rw [back_self]
    simpa using q
end
/-- a comprehension that changes its surroundings -/
theorem k_lcI {e : EV} {Q : R → EV → Prop} {g : VG} {t : VT} {f : VE} {vs : List Nat} {items : List PyData} {e0 ew : EV} [z : WipeAt e vs ew] (I : Nat → List PyData → EV → Prop) (l0 : Le e0 ew) (h0 : I 0 [] e0)
    (hs : ∀ (i : Nat) d acc e, items[i]? = some d → I i acc e → WG g d e fun e2 => W t e2 fun c e3 => kIf (acc.length < sizeLine ∧ W (vUse f) e3 fun y e4 => ∃ e5, Le e5 (wipeE e4 vs) ∧ I (i + 1) (acc ++ [y]) e5) (∃ e5, Le e5 (wipeE e3 vs) ∧ I (i + 1) acc e5) c)
    (hq : ∀ acc e2, I items.length acc e2 → e.length = e2.length ∧ Q (.ow false (.list acc)) (backE e e2 vs)) : kLc g t f vs Q items e := by
  constructor
  rw [z.eq]
  refine w_lcL (k := 0) I l0 h0 (fun i d acc e hd hI => ?_) (fun acc e h => hq acc e (by simpa using h))
  rw [Nat.zero_add] at hI ⊢
  exact hs i d acc e hd hI
/-! ### calls -/
/-- the def gives r -/
def Is (φ : FS) (args : List SV) (r : R) : Prop := ∃ outs, φ args = some (r, outs)
/-- .., and its objects as Q says -/
def Ca (φ : FS) (args : List SV) (Q : R → List SV → Prop) : Prop := ∃ r outs, φ args = some (r, outs) ∧ Q r outs
section
variable {e : EV} {Q : R → EV → Prop} {as : VA} {φ : FS}
theorem toArgs_noBr {e e' : EV} : ∀ {rs : List R}, noBr rs = true → toArgs e rs = toArgs e' rs
  | [], _ => rfl
  | .br _ :: _, h => by cases h
  | .fz _ :: rs, h => by simp only [toArgs, toArg]; rw [toArgs_noBr (e := e) (e' := e') (rs := rs) h]
  | .ow _ _ :: rs, h => by simp only [toArgs, toArg]; rw [toArgs_noBr (e := e) (e' := e') (rs := rs) h]
  | .sc _ :: rs, h => by simp only [toArgs, toArg]; rw [toArgs_noBr (e := e) (e' := e') (rs := rs) h]
structure kCall (φ : FS) (Q : R → EV → Prop) (rs : List R) (e : EV) : Prop where
  out : ∃ (o : List SV → EV) (ss : List SV), apart e rs = true ∧ toArgs e rs = some ss ∧ Ca φ ss fun r outs => wb e rs outs = o outs ∧ Q r (o outs)
theorem k_call {rs : List R} {ss : List SV} {r : R} (h1 : noBr rs = true) (h2 : toArgs e rs = some ss) (h3 : Is φ ss r) (q : Q r e) : kCall φ Q rs e := by
  obtain ⟨outs, h⟩ := h3
  exact ⟨fun _ => e, ss, apart_noBr h1, h2, r, outs, h, wb_noBr h1, q⟩
theorem k_callB {rs : List R} {ss : List SV} {P : R → List SV → Prop} (h1 : apart e rs = true) (h2 : toArgs e rs = some ss) (h3 : Ca φ ss P) (q : ∀ r outs, P r outs → Q r (wb e rs outs)) : kCall φ Q rs e := by
  obtain ⟨r, outs, h, p⟩ := h3
  exact ⟨fun outs => wb e rs outs, ss, h1, h2, r, outs, h, rfl, q r outs p⟩
theorem toArg_le {e e' : EV} {r : R} {s : SV} (l : Le e e') (h : toArg e r = some s) : toArg e' r = some s := by
  cases r with
  | fz d => exact h
  | ow k d => exact h
  | sc ns => exact h
  | br i =>
    simp only [toArg] at h ⊢
    cases z : e[i]? with
    | none => rw [z] at h; cases h
    | some x => cases x with
      | none => rw [z] at h; cases h
      | some y => rw [z] at h; rw [l.get z]; exact h
theorem toArg_kn {e : EV} {r : R} {s : SV} (h : toArg e r = some s) : kn e r := by
  cases r with
  | fz d => trivial
  | ow k d => trivial
  | sc ns => trivial
  | br i =>
    simp only [toArg] at h
    cases z : e[i]? with
    | none => rw [z] at h; cases h
    | some x => cases x with
      | none => rw [z] at h; cases h
      | some y => exact ⟨y, z⟩
theorem toArgs_le {e e' : EV} (l : Le e e') : ∀ {rs : List R} {ss : List SV}, toArgs e rs = some ss → toArgs e' rs = some ss
  | [], _, h => h
  | r :: rs, ss, h => by
    simp only [toArgs, bind_some_iff, Option.map_eq_some_iff] at h ⊢
    obtain ⟨d, h1, ds, h2, rfl⟩ := h
    exact ⟨d, toArg_le l h1, ds, toArgs_le l h2, rfl⟩
theorem toArgs_kn {e : EV} : ∀ {rs : List R} {ss : List SV}, toArgs e rs = some ss → ∀ r ∈ rs, kn e r
  | [], _, _, _, h => by cases h
  | r :: rs, ss, h, x, hx => by
    simp only [toArgs, bind_some_iff, Option.map_eq_some_iff] at h
    obtain ⟨d, h1, ds, h2, rfl⟩ := h
    rcases List.mem_cons.mp hx with rfl | hx
    · exact toArg_kn h1
    · exact toArgs_kn h2 x hx
theorem apart_le {e e' : EV} (l : Le e e') : ∀ {rs : List R}, (∀ r ∈ rs, kn e r) → apart e rs = true → apart e' rs = true
  | [], _, _ => rfl
  | .fz _ :: rs, k, h => apart_le l (rs := rs) (fun r hr => k r (by simp [hr])) h
  | .ow _ _ :: rs, k, h => apart_le l (rs := rs) (fun r hr => k r (by simp [hr])) h
  | .sc _ :: rs, k, h => apart_le l (rs := rs) (fun r hr => k r (by simp [hr])) h
  | .br i :: rs, k, h => by
    simp only [apart, Bool.and_eq_true] at h ⊢
    refine ⟨?_, apart_le l (fun r hr => k r (by simp [hr])) h.2⟩
    obtain ⟨s, z⟩ := k (.br i) (by simp)
    have h1 := h.1
    simp only [ownB, z] at h1
    simp only [ownB, l.get z]
    exact h1
theorem wb_le {e e' : EV} (l : Le e e') {rs : List R} (outs : List SV) : Le (wb e rs outs) (wb e' rs outs) := by
  refine Le.of (by simp [wb, l.len]) fun i x y hx hy => ?_
  simp only [wb, List.getElem?_mapIdx, Option.map_eq_some_iff] at hx hy
  obtain ⟨u, hu, rfl⟩ := hx
  obtain ⟨v, hv, rfl⟩ := hy
  have h := l.at_ hu hv
  cases u with
  | some s => cases h; unfold wb1; simp [Le1]
  | none =>
    show junkB (wb1 rs outs i v) = true
    cases v with
    | none => rfl
    | some s =>
      have h' : (!s.isP) = true := h
      unfold wb1
      simp only [Option.map_some]
      split
      · split
        · rename_i o _
          cases s <;> cases o <;> first | exact h | rfl | (simp [SV.isP] at h')
        · exact h
      · exact h
theorem w_call (h : W as e (kCall φ Q)) : W (vCall φ as) e Q := W.bind (h.imp fun rs o ⟨F, ss, h1, h2, r, outs, h3, h4, q⟩ => .mk fun e' l => by
  refine ⟨r, wb o rs outs, wb e' rs outs, ?_, wb_le l outs, h4 ▸ q⟩
  show (if apart e' rs = true then _ else _) = _
  rw [if_pos (apart_le l (toArgs_kn h2) h1), toArgs_le l h2]
  simp [h3])
/-! a def -/
def fin : Fl → Option R
  | .rt (.fz d) => some (.fz d)
  | .rt (.ow k d) => some (.ow k d)
  | .nx => some (.fz .none)
  | _ => none
theorem w_def {n N : Nat} {body : VS} {args : List SV} {P : R → List SV → Prop} (hn : args.length = n) (h : W body (args.map some ++ List.replicate (N - n) none) fun fl o => ∃ r, fin fl = some r ∧ ∀ outs : List SV, (∀ (i : Nat) (s : SV), i < n → o[i]? = some (some s) → outs[i]? = some s) → P r outs) : Ca (vDef n N body) args P := by
  obtain ⟨fl, o, o', h1, h2, r, h3, q⟩ := h.run
  have hp : P r ((o'.take n).map fun s => s.getD (.fz .none)) := q _ fun i s hi hs => by
    have := h2.get hs
    rw [List.getElem?_map, List.getElem?_take, if_pos hi, this]; rfl
  refine ⟨r, _, ?_, hp⟩
  unfold vDef
  rw [if_pos hn, h1]
  simp only [Option.bind_some]
  cases fl with
  | nx => cases h3; rfl
  | bk => cases h3
  | ct => cases h3
  | rt r' => cases r' with
    | fz d => cases h3; rfl
    | ow k d => cases h3; rfl
    | br i => cases h3
    | sc ns => cases h3
def Fin (r : R) : Fl → EV → Prop := fun fl _ => fin fl = some r
theorem k_fin {r : R} {fl : Fl} (h : fin fl = some r) : Fin r fl e := h
theorem is_def {n N : Nat} {body : VS} {args : List SV} {r : R} (hn : args.length = n) (h : W body (args.map some ++ List.replicate (N - n) none) (Fin r)) : Is (vDef n N body) args r := by
  obtain ⟨r', outs, h1, h2⟩ := w_def (P := fun r' _ => r' = r) hn (h.imp fun fl o z => ⟨r, z, fun _ _ => rfl⟩)
  exact ⟨outs, by rw [h1, h2]⟩
end
end VL

/-! VY: the new constructs, from partly known states; small rules -/
namespace VL
open PySem PySem.Spec PyProof.Rows L2
section
variable {e : EV} {Q : R → EV → Prop} {f g h : VE} {t u : VT} {as : VA} {us : VU}
theorem w_varF {i : Nat} {d : PyData} (h : e[i]? = some (some (.fz d))) (q : Q (.fz d) e) : W (vVar i) e Q := w_var h q
theorem w_varZ {i : Nat} {d : PyData} (h : e[i]? = some (some (.pz d))) (q : Q (.fz d) e) : W (vVar i) e Q := w_var h q
theorem w_varS {i : Nat} {ns : List Int} (h : e[i]? = some (some (.sc ns))) (q : Q (.sc ns) e) : W (vVar i) e Q := w_var h q
theorem w_varO {i : Nat} {k : Bool} {d : PyData} (h : e[i]? = some (some (.ow k d))) (q : Q (.br i) e) : W (vVar i) e Q := w_var h q
theorem w_varP {i : Nat} {k : Bool} {d : PyData} (h : e[i]? = some (some (.pw k d))) (q : Q (.br i) e) : W (vVar i) e Q := w_var h q
theorem k_useF {Q : PyData → EV → Prop} {d : PyData} (q : Q d e) : kUse Q (.fz d) e := k_use rfl q
theorem k_useO {Q : PyData → EV → Prop} {k : Bool} {d : PyData} (q : Q d e) : kUse Q (.ow k d) e := k_use rfl q
theorem k_setF {i : Nat} {d : PyData} {o : EV} {Q : Fl → EV → Prop} (h2 : VL.free? e i = true) [z : SetAt e i (some (.fz d)) o] (q : Q .nx o) : kSet i Q (.fz d) e := k_set rfl h2 q
theorem k_setO {i : Nat} {k : Bool} {d : PyData} {o : EV} {Q : Fl → EV → Prop} (h2 : VL.free? e i = true) [z : SetAt e i (some (.ow k d)) o] (q : Q .nx o) : kSet i Q (.ow k d) e := k_set rfl h2 q
theorem k_retF {d : PyData} {Q : Fl → EV → Prop} (q : Q (.rt (.fz d)) e) : kRet Q (.fz d) e := k_ret rfl q
theorem k_retO {k : Bool} {d : PyData} {Q : Fl → EV → Prop} (q : Q (.rt (.ow k d)) e) : kRet Q (.ow k d) e := k_ret rfl q
theorem k_retB {i : Nat} {k : Bool} {d : PyData} {o : EV} {Q : Fl → EV → Prop} (h : e[i]? = some (some (.ow k d))) [z : SetAt e i none o] (q : Q (.rt (.ow k d)) o) : kRet Q (.br i) e := k_ret (r' := .ow k d) (o := o) (by simp only [moved, h, z.eq]) q
theorem k_add {i j : Int} (q : Q (.fz (.int (i + j))) e) : kOp addF Q (.fz (.int i)) (.fz (.int j)) e := k_op rfl rfl rfl q
theorem k_sub {i j : Int} (q : Q (.fz (.int (i - j))) e) : kOp subF Q (.fz (.int i)) (.fz (.int j)) e := k_op rfl rfl rfl q
theorem k_lt {i j : Int} (q : Q (.fz (.bool (decide (i < j)))) e) : kOp ltF Q (.fz (.int i)) (.fz (.int j)) e := k_op rfl rfl rfl q
theorem k_le {i j : Int} (q : Q (.fz (.bool (decide (i ≤ j)))) e) : kOp leF Q (.fz (.int i)) (.fz (.int j)) e := k_op rfl rfl rfl q
theorem k_gt {i j : Int} (q : Q (.fz (.bool (decide (j < i)))) e) : kOp gtF Q (.fz (.int i)) (.fz (.int j)) e := k_op rfl rfl rfl q
theorem k_ge {i j : Int} (q : Q (.fz (.bool (decide (j ≤ i)))) e) : kOp geF Q (.fz (.int i)) (.fz (.int j)) e := k_op rfl rfl rfl q
theorem k_isBB {a b : Bool} (q : Q (.fz (.bool (decide (a = b)))) e) : kOp isF Q (.fz (.bool a)) (.fz (.bool b)) e := k_op rfl rfl rfl q
theorem k_isntBB {a b : Bool} (q : Q (.fz (.bool (!decide (a = b)))) e) : kOp isntF Q (.fz (.bool a)) (.fz (.bool b)) e := k_op rfl rfl rfl q
theorem k_isN {a : PyData} (q : Q (.fz (.bool (isN a))) e) : kOp isF Q (.fz a) (.fz .none) e := k_op rfl rfl (by cases a <;> rfl) q
theorem k_isntN {a : PyData} (q : Q (.fz (.bool (!isN a))) e) : kOp isntF Q (.fz a) (.fz .none) e := k_op rfl rfl (by cases a <;> rfl) q
theorem mulOk_l {i j : Int} (h : -(2 ^ 63) ≤ i ∧ i ≤ 2 ^ 63) : mulOk i j = true := by
  have : i.natAbs < 2 ^ 64 := by omega
  simp [mulOk, this]
theorem mulOk_r {i j : Int} (h : -(2 ^ 63) ≤ j ∧ j ≤ 2 ^ 63) : mulOk i j = true := by
  have : j.natAbs < 2 ^ 64 := by omega
  simp [mulOk, this]
theorem k_augI {c : Nat} {i j : Int} {o : EV} {Q : Fl → EV → Prop} (h3 : VL.free? e c = true) [z : SetAt e c (some (.fz (.int (i + j)))) o] (q : Q .nx o) : kAug c iaddF (.int i) Q (.fz (.int j)) e := k_aug rfl rfl h3 q
theorem k_augS {c : Nat} {i j : Int} {o : EV} {Q : Fl → EV → Prop} (h3 : VL.free? e c = true) [z : SetAt e c (some (.fz (.int (i - j)))) o] (q : Q .nx o) : kAug c isubF (.int i) Q (.fz (.int j)) e := k_aug rfl rfl h3 q
theorem k_len {rs : List R} {xs : List PyData} {d : PyData} (h : rdAll e rs = some [d]) (hx : seq? d = some xs) (q : Q (.fz (.int (xs.length : Nat))) e) : kBlt lenF Q rs e := by
  refine k_blt h ?_ q
  cases d <;> simp [seq?] at hx <;> subst hx <;> rfl
theorem k_lenF {ds : List PyData} (q : Q (.fz (.int (ds.length : Nat))) e) : kBlt lenF Q [.fz (.tuple ds)] e := k_blt rfl rfl q
theorem k_int {i : Int} (q : Q (.fz (.int i)) e) : kBlt intF Q [.fz (.int i)] e := k_blt rfl rfl q
theorem k_tupL {k : Bool} {ds : List PyData} (q : Q (.fz (.tuple ds)) e) : kBlt tupleF Q [.ow k (.list ds)] e := k_blt rfl rfl q
theorem ints_map {α : Type} (f : α → Int) : ∀ xs : List α, ints? (xs.map fun x => PyData.int (f x)) = some (xs.map f)
  | [] => rfl
  | x :: xs => by simp [ints?, ints_map f xs]
theorem ints_self (xs : List Int) : ints? (xs.map PyData.int) = some xs := by simpa using ints_map id xs
theorem k_sumM {α : Type} {k : Bool} {xs : List α} {f : α → Int} (q : Q (.fz (.int (xs.map f).sum)) e) : kBlt sumF Q [.ow k (.list (xs.map fun x => PyData.int (f x)))] e := k_blt rfl (by simp [sumF, ints_map]) q
theorem k_allM {α : Type} {k : Bool} {xs : List α} {f : α → Bool} (q : Q (.fz (.bool (xs.all f))) e) : kBlt allF Q [.ow k (.list (xs.map fun x => PyData.bool (f x)))] e := k_blt rfl (by simp [allF, Function.comp_def, List.all_map]) q
theorem k_anyM {α : Type} {k : Bool} {xs : List α} {f : α → Bool} (q : Q (.fz (.bool (xs.any f))) e) : kBlt anyF Q [.ow k (.list (xs.map fun x => PyData.bool (f x)))] e := k_blt rfl (by simp [anyF, Function.comp_def, List.any_map]) q
theorem k_maxL {k : Bool} {xs : List Int} (h : xs ≠ []) (q : Q (.fz (.int (lmax xs))) e) : kBlt maxLF Q [.ow k (.list (xs.map PyData.int))] e := k_blt rfl (by simp [maxLF, ints_self, h]) q
theorem k_maxLF {xs : List Int} (h : xs ≠ []) (q : Q (.fz (.int (lmax xs))) e) : kBlt maxLF Q [.fz (.list (xs.map PyData.int))] e := k_blt rfl (by simp [maxLF, ints_self, h]) q
theorem k_ss {rs : List R} {d : PyData} {xs : List Int} (h : rdAll e rs = some [d]) (h2 : seq? d = some (xs.map PyData.int)) (h3 : (ssI xs).length < 64) (h4 : xs.length < 4000) (q : Q (.ow false (.list ((ssI xs).map .int))) e) : kBlt ssF Q rs e := by
  refine k_blt h ?_ q
  cases d <;> simp [seq?] at h2 <;> subst h2 <;> simp [ssF, ints_self, h3, h4]
theorem w_cutK {Q : Fl → EV → Prop} {a b : VS} (e2 : EV) (h : W a e fun fl e1 => fl = .nx ∧ Le e2 e1) (q : W b e2 Q) : W a e (kSeq b Q) := h.imp fun fl o ⟨z, l⟩ => by subst z; exact .nx (W.weak l q)
structure kTup (Q : R → EV → Prop) (ds : List PyData) (e : EV) : Prop where
  out : ds.length ≤ sizeLine ∧ Q (.fz (.tuple ds)) e
structure kLst (Q : R → EV → Prop) (ds : List PyData) (e : EV) : Prop where
  out : ds.length ≤ sizeLine ∧ Q (.ow false (.list ds)) e
theorem w_tup' (h : W us e (kTup Q)) : W (vTup us) e Q := w_tup (h.imp fun _ _ q => q.out)
theorem w_lst' (h : W us e (kLst Q)) : W (vLst us) e Q := w_lst (h.imp fun _ _ q => q.out)
theorem k_tup {ds : List PyData} (h : Nat.ble ds.length 1000 = true) (q : Q (.fz (.tuple ds)) e) : kTup Q ds e := ⟨by have := Nat.le_of_ble_eq_true h; rw [PySem.sizeLine_eq]; omega, q⟩
theorem k_lst {ds : List PyData} (h : Nat.ble ds.length 1000 = true) (q : Q (.ow false (.list ds)) e) : kLst Q ds e := ⟨by have := Nat.le_of_ble_eq_true h; rw [PySem.sizeLine_eq]; omega, q⟩
theorem k_tupH {ds : List PyData} (h : ds.length ≤ sizeLine) (q : Q (.fz (.tuple ds)) e) : kTup Q ds e := ⟨h, q⟩
theorem nodup_len : ∀ {l F : List Int}, l.Nodup → (∀ x ∈ l, x ∈ F) → l.length ≤ F.length
  | [], _, _, _ => by simp
  | x :: l, F, n, h => by
    have n' := List.nodup_cons.mp n
    have hx := h x (by simp)
    have := nodup_len (l := l) (F := F.erase x) n'.2 fun y hy => (List.mem_erase_of_ne (fun z : y = x => n'.1 (z ▸ hy))).mpr (h y (by simp [hy]))
    rw [List.length_erase_of_mem hx] at this
    have : 1 ≤ F.length := List.length_pos_of_mem hx
    simp only [List.length_cons]; omega
/-! sorted(d.items()) -/
structure kSortIt (Q : R → EV → Prop) (r : R) (e : EV) : Prop where
  out : ∃ kvs, dk e r = some (false, kvs) ∧ sortOk (itemsPD kvs) = true ∧ (itemsPD kvs).all wkT = true ∧ Q (.ow false (.list (sortD (itemsPD kvs)))) e
theorem w_sortIt (h : W f e (kSortIt Q)) : W (vSortIt f) e Q := W.bind (h.imp fun r o ⟨kvs, h1, h2, h3, q⟩ => .mk fun e' l => ⟨_, o, e', by simp only [dk_le l (dk_kn h1), h1, h2, h3, Bool.and_self, if_true], l, q⟩)
theorem w_zip {Q : List PyData → EV → Prop} (h : W us e fun ds e1 => ∃ a b zs, ds = [a, b] ∧ zipD a b = some zs ∧ zs.all wkT = true ∧ Q zs e1) : W (vZip us) e Q := W.bind (h.imp fun ds o ⟨a, b, zs, h1, h2, h3, q⟩ => .mk fun e' l => ⟨zs, o, e', by subst h1; simp only [h2, Option.bind_some, h3, if_true], l, q⟩)
theorem k_fin' {r : R} {fl : Fl} (h : fin fl = some r) : Fin r fl e := h
end
/-- the slots at a def's start -/
class Start (args : List SV) (N : Nat) (e : outParam EV) : Prop where
  eq : args.map some ++ List.replicate (N - args.length) none = e
instance : Start [] 0 [] := ⟨rfl⟩
instance {m : Nat} {e : EV} [h : Start [] m e] : Start [] (m + 1) (none :: e) := ⟨by have := h.eq; simp [List.replicate_succ] at this ⊢; exact this⟩
instance {a : SV} {args : List SV} {m : Nat} {e : EV} [h : Start args m e] : Start (a :: args) (m + 1) (some a :: e) := ⟨by have := h.eq; simp at this ⊢; exact this⟩
theorem is_def' {n N : Nat} {body : VS} {args : List SV} {r : R} {e : EV} (hn : args.length = n) [z : Start args N e] (h : W body e (Fin r)) : Is (vDef n N body) args r := is_def hn (by rw [← hn, z.eq]; exact h)
theorem ca_def' {n N : Nat} {body : VS} {args : List SV} {P : R → List SV → Prop} {e : EV} (hn : args.length = n) [z : Start args N e] (h : W body e fun fl o => ∃ r, fin fl = some r ∧ ∀ outs : List SV, (∀ (i : Nat) (s : SV), i < n → o[i]? = some (some s) → outs[i]? = some s) → P r outs) : Ca (vDef n N body) args P := by
  subst hn
  exact w_def rfl (by rw [z.eq]; exact h)
theorem k_if {A B : Prop} {c : Bool} (h : c = true → A) (h' : c = false → B) : kIf A B c := ⟨h, h'⟩
theorem pow4 : powF (.int 10) (.int 4) = some (.fz (.int 10000)) := by
  have h : (decide ((0 : Int) ≤ 4) && decide ((Builtin.Int.intBits 10 : Int) * 4 ≤ 2 ^ 27)) = true := by decide +kernel
  show (if (decide ((0 : Int) ≤ 4) && decide ((Builtin.Int.intBits 10 : Int) * 4 ≤ 2 ^ 27)) = true then some (R.fz (PyData.int (10 ^ (4 : Int).toNat))) else none) = _
  rw [if_pos h]; rfl
theorem k_pow4 {e : EV} {Q : R → EV → Prop} (q : Q (.fz (.int 10000)) e) : kOp powF Q (.fz (.int 10)) (.fz (.int 4)) e := k_op rfl rfl pow4 q
theorem k_addL {e : EV} {Q : R → EV → Prop} {a b : R} {xs ys : List PyData} (ha : rd e a = some (.list xs)) (hb : rd e b = some (.list ys)) (h : xs.length + ys.length ≤ sizeLine) (q : Q (.ow false (.list (xs ++ ys))) e) : kOp addF Q a b e := k_op ha hb (by simp [addF, h]) q
theorem k_addT {e : EV} {Q : R → EV → Prop} {a b : R} {xs ys : List PyData} (ha : rd e a = some (.tuple xs)) (hb : rd e b = some (.tuple ys)) (h : xs.length + ys.length ≤ sizeLine) (h2 : stD (xs ++ ys) = false) (q : Q (.fz (.tuple (xs ++ ys))) e) : kOp addF Q a b e := k_op ha hb (by simp [addF, h, h2]) q
theorem k_min2 {e : EV} {Q : R → EV → Prop} {i j : Int} (q : Q (.fz (.int (if j < i then j else i))) e) : kBlt min2F Q [.fz (.int i), .fz (.int j)] e := k_blt rfl rfl q
theorem k_max2 {e : EV} {Q : R → EV → Prop} {i j : Int} (q : Q (.fz (.int (if j > i then j else i))) e) : kBlt max2F Q [.fz (.int i), .fz (.int j)] e := k_blt rfl rfl q
theorem k_min2' {e : EV} {Q : R → EV → Prop} {i j : Int} (q : ∀ m, (m = i ∨ m = j) → m ≤ i → m ≤ j → Q (.fz (.int m)) e) : kBlt min2F Q [.fz (.int i), .fz (.int j)] e := k_min2 (q _ (by split <;> simp) (by split <;> omega) (by split <;> omega))
theorem k_max2' {e : EV} {Q : R → EV → Prop} {i j : Int} (q : ∀ m, (m = i ∨ m = j) → i ≤ m → j ≤ m → Q (.fz (.int m)) e) : kBlt max2F Q [.fz (.int i), .fz (.int j)] e := k_max2 (q _ (by split <;> simp) (by split <;> omega) (by split <;> omega))
theorem w_cutS {e : EV} {Q : Fl → EV → Prop} {a b : VS} (h : W a e fun fl e1 => fl = .nx ∧ Le e e1) (q : W b e Q) : W a e (kSeq b Q) := h.imp fun fl o ⟨z, l⟩ => by subst z; exact .nx (W.weak l q)
theorem back_same {e e2 : EV} (vs : List Nat) (hl : e.length = e2.length) (h : ∀ v ∈ vs, e2[v]? = e[v]?) : backE e e2 vs = e2 := by
  apply List.ext_getElem?
  intro i
  rw [backE, List.getElem?_mapIdx]
  by_cases c : i < e2.length
  · rw [List.getElem?_eq_getElem c]
    by_cases m : i ∈ vs
    · have := h i m
      rw [List.getElem?_eq_getElem c] at this
      simp [m, ← this]
    · simp [m]
  · have h1 : e2[i]? = none := List.getElem?_eq_none (by omega)
    rw [h1]; rfl
/-- a comprehension that changes its surroundings -/
theorem k_lcJ {e : EV} {Q : R → EV → Prop} {g : VG} {t : VT} {f : VE} {vs : List Nat} {items : List PyData} {e0 ew : EV} [z : WipeAt e vs ew] (I : Nat → List PyData → EV → Prop) (l0 : Le e0 ew) (h0 : I 0 [] e0)
    (hs : ∀ (i : Nat) d acc e, items[i]? = some d → I i acc e → WG g d e fun e2 => W t e2 fun c e3 => kIf (acc.length < sizeLine ∧ W (vUse f) e3 fun y e4 => ∃ e5, Le e5 (wipeE e4 vs) ∧ I (i + 1) (acc ++ [y]) e5) (∃ e5, Le e5 (wipeE e3 vs) ∧ I (i + 1) acc e5) c)
    (hq : ∀ acc e2, I items.length acc e2 → (e.length = e2.length ∧ ∀ v ∈ vs, e2[v]? = e[v]?) ∧ Q (.ow false (.list acc)) e2) : kLc g t f vs Q items e :=
  k_lcI I l0 h0 hs fun acc e2 h => ⟨(hq acc e2 h).1.1, by rw [back_same vs (hq acc e2 h).1.1 (hq acc e2 h).1.2]; exact (hq acc e2 h).2⟩
/-- back to what was known -/
theorem W.back {α : Type} {f : EV → Option (α × EV)} {e : EV} {P : α → Prop} (h : W f e fun r e1 => P r ∧ Le e e1) : W f e fun r e1 => P r ∧ e1 = e := .mk fun e' l => by
  obtain ⟨a, o, o', h1, h2, h3, h4⟩ := h.go e' l
  exact ⟨a, e, o', h1, h4.trans h2, h3, rfl⟩
theorem get0 {outs : List SV} {s : SV} (h : outs[0]? = some s) : ∃ t, outs = s :: t := by
  cases outs with
  | nil => simp at h
  | cons a t => simp at h; exact ⟨t, by rw [h]⟩
/-- what a call gives, told by an equation -/
theorem Is.to {φ : FS} {args : List SV} {r r' : R} (h : Is φ args r) (e : r = r') : Is φ args r' := e ▸ h
end VL

/-! VZ: the rules for VX4 .. VX7's constructs, from partly known states -/
namespace VL
open PySem PySem.Spec PyProof.Rows L2
section
variable {e : EV} {Q : R → EV → Prop} {f g h : VE}
structure kItems (Q : List PyData → EV → Prop) (r : R) (e : EV) : Prop where
  out : ∃ kvs d o, dk e r = some (false, kvs) ∧ use e r = some (d, o) ∧ (itemsPD kvs).all wkT = true ∧ Q (itemsPD kvs) o
theorem w_items {Q : List PyData → EV → Prop} (h : W f e (kItems Q)) : W (vItems f) e Q := W.bind (h.imp fun r o ⟨kvs, d, o1, h1, h2, h3, q⟩ => .mk fun e' l => by
  obtain ⟨o2, g1, g2⟩ := use_mono r o e' d o1 l h2
  have g1 : use e' r = some (d, o2) := g1
  refine ⟨itemsPD kvs, o1, o2, ?_, g2, q⟩
  dsimp only
  rw [dk_le l (dk_kn h1), h1]
  dsimp only
  rw [g1]
  simp only [Option.bind_some, h3, if_true])
structure kRev (tail : Bool) (Q : R → EV → Prop) (r : R) (e : EV) : Prop where
  out : ∃ ds, rdw e r = some (.list ds) ∧ Q (.ow false (.list (backL tail ds))) e
theorem k_rev {tail : Bool} {r : R} {ds : List PyData} (h : rdw e r = some (.list ds)) (q : Q (.ow false (.list (backL tail ds))) e) : kRev tail Q r e := ⟨ds, h, q⟩
theorem w_rev {tail : Bool} (h : W f e (kRev tail Q)) : W (vRev tail f) e Q := W.bind (h.imp fun r o ⟨ds, h1, q⟩ => .mk fun e' l => ⟨_, o, e', by dsimp only; rw [rdw_le l h1], l, q⟩)
structure kBltD (g : FD) (Q : R → EV → Prop) (r : R) (e : EV) : Prop where
  out : ∃ k kvs r', dk e r = some (k, kvs) ∧ g k kvs = some r' ∧ Q r' e
theorem k_bltD {g : FD} {r r' : R} {k : Bool} {kvs : List (PyData × PyData)} (h1 : dk e r = some (k, kvs)) (h2 : g k kvs = some r') (q : Q r' e) : kBltD g Q r e := ⟨k, kvs, r', h1, h2, q⟩
theorem w_bltD {g : FD} (h : W f e (kBltD g Q)) : W (vBltD g f) e Q := W.bind (h.imp fun r o ⟨k, kvs, r', h1, h2, q⟩ => .mk fun e' l => ⟨_, o, e', by dsimp only; rw [dk_le l (dk_kn h1), h1]; simp only [Option.bind_some, h2, Option.map_some], l, q⟩)
structure kDEmp (Q : R → EV → Prop) (r : R) (e : EV) : Prop where
  out : ∃ kvs, dk e r = some (true, kvs) ∧ Q (.fz (.bool kvs.isEmpty)) e
theorem k_demp {r : R} {kvs : List (PyData × PyData)} (h1 : dk e r = some (true, kvs)) (q : Q (.fz (.bool kvs.isEmpty)) e) : kDEmp Q r e := ⟨kvs, h1, q⟩
theorem w_demp (h : W f e (kDEmp Q)) : W (vDEmp f) e Q := W.bind (h.imp fun r o ⟨kvs, h1, q⟩ => .mk fun e' l => ⟨_, o, e', by dsimp only; rw [dk_le l (dk_kn h1), h1], l, q⟩)
theorem w_disp1 (h : W (vUse f) e fun k e1 => ∃ ks, keyT? k = some ks ∧ W (vUse g) e1 fun v e2 => Q (.ow true (.dict [(.tuple (ks.map keyD), v)])) e2) : W (vDisp1 f g) e Q := W.bind (h.imp fun k o ⟨ks, h1, h⟩ => by
  dsimp only
  simp only [h1, Option.bind_some]
  exact W.map (h.imp fun v o q => W.pure q))
theorem w_daug {c : Nat} {fo : F2} {fi fe : VE} {Q : Fl → EV → Prop} (h0 : hasV e c = true) (h : W (vUse fi) e fun i e1 => ∃ kvs v, dk e1 (.br c) = some (false, kvs) ∧ dgetF false kvs i = some (some (.int v)) ∧
    W fe e1 fun r e2 => ∃ b z kvs2 o, rd e2 r = some b ∧ fo (.int v) b = some (.fz (.int z)) ∧ dk e2 (.br c) = some (false, kvs2) ∧ doSet c i (.int z) e2 = some o ∧ Q .nx o) : W (vDAug c fo fi fe) e Q :=
  W.ite (fun _ _ l z => hasV_le l z) h0 (W.bind (h.imp fun i o ⟨kvs, v, h1, h2, h3⟩ => .mk fun e' l => by
    obtain ⟨r, o1, o2, g1, g2, b, z, kvs2, o3, g3, g4, g5, g6, q⟩ := h3.go e' l
    obtain ⟨o4, g7, g8⟩ := doSet_le g2 g6
    refine ⟨.nx, o3, o4, ?_, g8, q⟩
    dsimp only
    rw [dk_le l (dk_kn h1), h1]
    dsimp only
    rw [h2]
    dsimp only
    rw [g1]
    simp only [Option.bind_some]
    rw [rd_le g2 g3]
    simp only [Option.bind_some]
    rw [g4, dk_le g2 (dk_kn g5), g5]
    simp only [g7, Option.map_some]))
theorem w_sub2 {c1 c2 : Nat} {f1 f2 : VE} {Q : Fl → EV → Prop} (h : W (vUse f) e fun d e1 => ∃ d1 d2, d = .tuple [d1, d2] ∧ hasV e1 c1 = true ∧ W (vUse f1) e1 fun i1 e2 => ∃ o1, doSet c1 i1 d1 e2 = some o1 ∧ hasV o1 c2 = true ∧
    W (vUse f2) o1 fun i2 e3 => ∃ o2, doSet c2 i2 d2 e3 = some o2 ∧ Q .nx o2) : W (vSub2 c1 f1 c2 f2 f) e Q := W.bind (h.imp fun d o ⟨d1, d2, z, h1, h2⟩ => by
  subst z
  dsimp only
  refine W.ite (fun _ _ l z => hasV_le l z) h1 (W.bind (h2.imp fun i1 o ⟨o1, h3, h4, h5⟩ => .mk fun e' l => ?_))
  obtain ⟨o1', g1, g2⟩ := doSet_le l h3
  obtain ⟨i2, e3, e3', g3, g4, o2, g5, q⟩ := h5.go o1' g2
  obtain ⟨o2', g6, g7⟩ := doSet_le g4 g5
  refine ⟨.nx, o2, o2', ?_, g7, q⟩
  dsimp only
  rw [g1]
  simp only [Option.bind_some, hasV_le g2 h4, if_true]
  rw [g3]
  simp only [Option.bind_some, g6, Option.map_some])
/-- what setdefault leaves -/
def sdefD (kvs : List (PyData × PyData)) (ks : List Key) (v : PyData) : List (PyData × PyData) := match dget kvs (.tuple (ks.map keyD)) with
  | some _ => kvs
  | none => dput kvs (.tuple (ks.map keyD)) v
theorem k_setdef {c : Nat} {kvs : List (PyData × PyData)} {k v : PyData} {ks : List Key} {o : EV} {Q : R → EV → Prop} (h1 : e[c]? = some (some (.ow true (.dict kvs)))) (hk : keyT? k = some ks) (hl : kvs.length < sizeLine)
    [z : SetAt e c (some (.ow true (.dict (sdefD kvs ks v)))) o] (q : ∀ w, Q (.fz w) o) : kMut setdefG c Q [k, v] e := by
  have z := z.eq
  unfold sdefD at z
  cases hd : dget kvs (.tuple (ks.map keyD)) with
  | some w =>
    rw [hd] at z
    refine k_mut (s := .ow true (.dict kvs)) (r := w) (d := .dict kvs) h1 rfl ?_ (z := ⟨z⟩) (q w)
    show setdefG true (.dict kvs) [k, v] = _
    simp only [setdefG, hk, Option.bind_some, hd]
  | none =>
    rw [hd] at z
    refine k_mut (s := .ow true (.dict kvs)) (r := v) (d := .dict (dput kvs (.tuple (ks.map keyD)) v)) h1 rfl ?_ (z := ⟨z⟩) (q v)
    show setdefG true (.dict kvs) [k, v] = _
    simp only [setdefG, hk, Option.bind_some, hd, hl, if_true]
end
end VL

namespace K47
open PySem PySem.Spec PyProof.Rows L2 VL
def topS (i : Nat) : Stmt := PySem.Challenge.pw_noroundgains_k47_whole_payments_made_ahe.main.body.getD i (.Pass ⟨0, 0, 0, 0⟩)
theorem hu1 {k : Nat} {A : Around} (hr : Room k A) : A.units + 1 < cLine := by have := hr.un; omega
theorem hu64 {k : Nat} {A : Around} (hr : Room k A) : A.units + 64 < cLine := by have := hr.un; omega
theorem hu65 {k : Nat} {A : Around} (hr : Room k A) : A.units + 65 < cLine := by have := hr.un; omega
theorem hu66 {k : Nat} {A : Around} (hr : Room k A) : A.units + 66 < cLine := by have := hr.un; omega
abbrev s_is_int : Stmt := topS 6
def f_is_int : VS := (vRet (vAndV (vIsi "int" (vVar 0)) (vAndV (vNotV (vIsi "bool" (vVar 0))) (vChain leF leF (vVar 1) (vVar 0) (vVar 2)))))
def φ_is_int : FS := vDef 3 3 f_is_int
abbrev s_is_told : Stmt := topS 8
def f_is_told : VS := (vRet (vAndV (vIsi "tuple" (vVar 0)) (vAndV (vIn false (vBlt lenF (vaCons (vVar 0) vaNil)) (vVar 1)) (vIsi "str" (vIdx (vVar 0) (vC (.int 0)))))))
def φ_is_told : FS := vDef 2 2 f_is_told
abbrev s_is_rising : Stmt := topS 9
def f_is_rising : VS := (vRet (vBlt allF (vaCons (vLc (vZip (vuCons (vVar 0) (vuCons (vSlice (vVar 0) (voSome (vC (.int 1))) voNone) vuNil))) (gT 2 (gsCons (gN 1) (gsCons (gN 2) gsNil))) tTrue (vOp2 ltF (vVar 1) (vVar 2)) [1, 2]) vaNil)))
def φ_is_rising : FS := vDef 1 3 f_is_rising
abbrev s_told_sum : Stmt := topS 17
def f_told_sum : VS := (vRet (vBlt sumF (vaCons (vLc (vIter (vVar 0)) (gT 2 (gsCons (gN 1) (gsCons (gN 2) gsNil))) tTrue (vOp2 mulF (vVar 1) (vVar 2)) [1, 2]) vaNil)))
def φ_told_sum : FS := vDef 1 3 f_told_sum
abbrev s_told_layers : Stmt := topS 21
def f_told_layers : VS := (vSeq (vSet 2 (vLst (vuCons (vOp2 addF (vLst (vuCons (vC (.bool true)) vuNil)) (vOp2 mulF (vLst (vuCons (vC (.bool false)) vuNil)) (vVar 1))) vuNil)))
    (vSeq (vFor (vIter (vVar 0)) (gT 2 (gsCons (gN 3) (gsCons (gN 4) gsNil))) (vSeq (vPar [5, 6] (vaCons (vIdx (vVar 2) (vNeg (vC (.int 1)))) (vaCons (vOp2 mulF (vLst (vuCons (vC (.bool false)) vuNil)) (vOp2 addF (vVar 1) (vC (.int 1)))) vaNil)))
    (vSeq (vSet 7 (vOp2 mulF (vLst (vuCons (vC (.int 0)) vuNil)) (vOp2 addF (vVar 1) (vC (.int 1)))))
    (vSeq (vFor (vRng (vaCons (vOp2 addF (vVar 1) (vC (.int 1))) vaNil)) (gN 8) (vIf (vB (vIdx (vVar 5) (vVar 8))) (vStore 6 (vVar 8) (vC (.bool true))) (vIf (vAnd (vB (vOp2 geF (vVar 8) (vVar 3))) (vAnd (vB (vIdx (vVar 6) (vOp2 subF (vVar 8) (vVar 3)))) (vB (vOp2 ltF (vIdx (vVar 7) (vOp2 subF (vVar 8) (vVar 3))) (vVar 4))))) (vSub2 6 (vVar 8) 7 (vVar 8) (vTup (vuCons (vC (.bool true)) (vuCons (vOp2 addF (vIdx (vVar 7) (vOp2 subF (vVar 8) (vVar 3))) (vC (.int 1))) vuNil)))) vsNil)))
    (vExpr (vMut "list" appendG 2 (vuCons (vVar 6) vuNil)))))))
    (vRet (vVar 2))))
def φ_told_layers : FS := vDef 2 9 f_told_layers
abbrev s_told_payment : Stmt := topS 22
def f_told_payment : VS := (vSeq (vIf (vNot (vB (vIdx (vIdx (vVar 2) (vNeg (vC (.int 1)))) (vVar 1)))) (vRet (vC .none)) vsNil)
    (vSeq (vSet 3 (vLst vuNil))
    (vSeq (vFor (vRng (vaCons (vOp2 subF (vBlt lenF (vaCons (vVar 0) vaNil)) (vC (.int 1))) (vaCons (vNeg (vC (.int 1))) (vaCons (vNeg (vC (.int 1))) vaNil)))) (gN 4) (vSeq (vAsg (gT 2 (gsCons (gN 5) (gsCons (gN 6) gsNil))) (vIdx (vVar 0) (vVar 4)))
    (vSeq (vSet 7 (vBlt min2F (vaCons (vVar 6) (vaCons (vOp2 fdivF (vVar 1) (vVar 5)) vaNil))))
    (vSeq (vWhile fuel (vNot (vB (vIdx (vIdx (vVar 2) (vVar 4)) (vOp2 subF (vVar 1) (vOp2 mulF (vVar 7) (vVar 5)))))) (vAug 7 isubF (vC (.int 1))))
    (vSeq (vAug 1 isubF (vOp2 mulF (vVar 7) (vVar 5)))
    (vIf (vB (vOp2 gtF (vVar 7) (vC (.int 0)))) (vExpr (vMut "list" appendG 3 (vuCons (vTup (vuCons (vVar 5) (vuCons (vVar 7) vuNil))) vuNil))) vsNil))))))
    (vRet (vBlt tupleF (vaCons (vRev false (vVar 3)) vaNil))))))
def φ_told_payment : FS := vDef 3 8 f_told_payment
abbrev s_told_size : Stmt := topS 25
def f_told_size : VS := (vSeq (vSet 1 (vC (.int 1)))
    (vSeq (vFor (vIter (vVar 0)) (gT 2 (gsCons (gN 2) (gsCons (gN 3) gsNil))) (vAug 1 imulF (vOp2 addF (vVar 3) (vC (.int 1)))))
    (vRet (vVar 1))))
def φ_told_size : FS := vDef 1 4 f_told_size
abbrev s_told_moves : Stmt := topS 34
def f_told_moves : VS := (vSeq (vSet 2 (vLst (vuCons (vTup (vuCons (vTup vuNil) (vuCons (vVar 1) vuNil))) vuNil)))
    (vSeq (vFor (vIter (vVar 0)) (gT 2 (gsCons (gN 3) (gsCons (gN 4) gsNil))) (vSeq (vSet 5 (vLst vuNil))
    (vSeq (vFor (vIter (vVar 2)) (gT 2 (gsCons (gN 6) (gsCons (gN 7) gsNil))) (vExpr (vMut "list" extendG 5 (vuCons (vLc (vRng (vaCons (vOp2 addF (vBlt min2F (vaCons (vVar 4) (vaCons (vOp2 fdivF (vVar 7) (vVar 3)) vaNil))) (vC (.int 1))) vaNil)) (gN 8) tTrue (vTup (vuCons (vTup (vuStar (vVar 6) (vuCons (vVar 8) vuNil))) (vuCons (vOp2 subF (vVar 7) (vOp2 mulF (vVar 8) (vVar 3))) vuNil))) [8]) vuNil))))
    (vSet 2 (vVar 5)))))
    (vRet (vLc (vIter (vVar 2)) (gT 2 (gsCons (gN 6) (gsCons (gN 7) gsNil))) (vB (vOp2 eqF (vVar 7) (vC (.int 0)))) (vVar 6) [6, 7]))))
def φ_told_moves : FS := vDef 2 9 f_told_moves
abbrev s_told_payments : Stmt := topS 36
def f_told_payments : VS := (vSeq (vPar [2, 3] (vaCons (vLst vuNil) (vaCons (vIdx (vBltD sortKF (vIdx (vVar 1) (vNeg (vC (.int 1))))) (vC (.int 0))) vaNil)))
    (vSeq (vFor (vIter (vRev true (vVar 1))) (gN 4) (vSeq (vSet 5 (vIdx (vVar 4) (vVar 3)))
    (vSeq (vExpr (vMut "list" appendG 2 (vuCons (vBlt tupleF (vaCons (vLc (vZip (vuCons (vVar 0) (vuCons (vVar 5) vuNil))) (gT 2 (gsCons (gT 2 (gsCons (gN 7) (gsCons (gN 8) gsNil))) (gsCons (gN 6) gsNil))) (vB (vOp2 gtF (vVar 6) (vC (.int 0)))) (vTup (vuCons (vVar 7) (vuCons (vVar 6) vuNil))) [6, 7, 8]) vaNil)) vuNil)))
    (vSet 3 (vBlt tupleWF (vaCons (vLc (vZip (vuCons (vVar 3) (vuCons (vVar 5) vuNil))) (gT 2 (gsCons (gN 9) (gsCons (gN 6) gsNil))) tTrue (vOp2 addF (vVar 9) (vVar 6)) [9, 6]) vaNil))))))
    (vRet (vRev false (vVar 2)))))
def φ_told_payments : FS := vDef 2 10 f_told_payments
abbrev s__law_pot : Stmt := topS 45
def f__law_pot : VS := (vSeq (vSet 2 (vIfE (vB (vOp2 ltF (vVar 1) (vBlt lenF (vaCons (vVar 0) vaNil)))) (vIdx (vVar 0) (vVar 1)) (vOp2 addF (vOp2 addF (vOp2 modF (vBlt intF (vaCons (vBlt sumF (vaCons (vSlice (vVar 0) voNone (voSome (vC (.int 1)))) vaNil)) vaNil)) (vC (.int 1000211))) (vOp2 mulF (vC (.int 4639)) (vVar 1))) (vC (.int 3163)))))
    (vSeq (vSet 3 (vOp2 mulF (vOp2 modF (vBlt intF (vaCons (vBlt absF (vaCons (vVar 2) vaNil)) vaNil)) (vOp2 powF (vOp2 powF (vC (.int 10)) (vC (.int 60))) (vC (.int 5)))) (vBlt intF (vaCons (vOp2 geF (vBlt absF (vaCons (vVar 2) vaNil)) (vOp2 powF (vC (.int 10)) (vC (.int 18)))) vaNil))))
    (vSeq (vSet 4 (vOp2 modF (vBlt intF (vaCons (vVar 2) vaNil)) (vC (.int 2305843009213693951))))
    (vRet (vLst (vuCons (vVar 3) (vuCons (vOp2 modF (vBlt intF (vaCons (vOp2 addF (vOp2 addF (vOp2 mulF (vVar 4) (vC (.int 72161))) (vOp2 mulF (vOp2 mulF (vC (.int 10853)) (vVar 1)) (vVar 1))) (vC (.int 2843))) vaNil)) (vC (.int 2305843009213693921))) (vuCons (vC (.int 0)) vuNil))))))))
def φ__law_pot : FS := vDef 2 5 f__law_pot
abbrev s__law_take : Stmt := topS 46
def f__law_take : VS := (vSeq (vIf (vB (vOp2 gtF (vIdx (vVar 0) (vC (.int 0))) (vC (.int 0)))) (vSeq (vSet 2 (vOp2 modF (vBlt intF (vaCons (vIdx (vVar 0) (vC (.int 0))) vaNil)) (vVar 1)))
    (vSeq (vStore 0 (vC (.int 0)) (vOp2 fdivF (vIdx (vVar 0) (vC (.int 0))) (vVar 1)))
    (vRet (vVar 2)))) vsNil)
    (vSeq (vStore 0 (vC (.int 2)) (vOp2 addF (vIdx (vVar 0) (vC (.int 2))) (vC (.int 1))))
    (vSeq (vSet 3 (vIdx (vLst (vuCons (vC (.int 2147483647)) (vuCons (vC (.int 2147483629)) (vuCons (vC (.int 2147483587)) (vuCons (vC (.int 2147483579)) (vuCons (vC (.int 2147483563)) vuNil)))))) (vOp2 modF (vBlt intF (vaCons (vIdx (vVar 0) (vC (.int 2))) vaNil)) (vC (.int 5)))))
    (vSeq (vSet 4 (vOp2 modF (vBlt intF (vaCons (vOp2 powF (vBlt intF (vaCons (vOp2 addF (vOp2 addF (vIdx (vVar 0) (vC (.int 1))) (vOp2 mulF (vOp2 mulF (vC (.int 95257)) (vIdx (vVar 0) (vC (.int 2)))) (vIdx (vVar 0) (vC (.int 2))))) (vC (.int 3163))) vaNil)) (vC (.int 3))) vaNil)) (vVar 3)))
    (vSeq (vSet 4 (vOp2 modF (vBlt intF (vaCons (vOp2 mulF (vVar 4) (vOp2 addF (vOp2 modF (vBlt intF (vaCons (vVar 4) vaNil)) (vC (.int 13441))) (vOp2 mulF (vC (.int 419)) (vIdx (vVar 0) (vC (.int 2)))))) vaNil)) (vC (.int 2305843009213693907))))
    (vRet (vOp2 modF (vBlt intF (vaCons (vOp2 fdivF (vVar 4) (vC (.int 229))) vaNil)) (vVar 1))))))))
def φ__law_take : FS := vDef 2 5 f__law_take
abbrev s__law_cells : Stmt := topS 48
def f__law_cells : VS := (vRet (vLstRg (vaCons (vBlt max2F (vaCons (vC (.int 1)) (vaCons (vBlt min2F (vaCons (vVar 1) (vaCons (vBlt lenF (vaCons (vVar 0) vaNil)) vaNil))) vaNil))) vaNil)))
def φ__law_cells : FS := vDef 2 2 f__law_cells
abbrev s__law_sum : Stmt := topS 50
def f__law_sum : VS := (vRet (vBlt sumF (vaCons (vLc (vIter (vVar 0)) (gT 2 (gsCons (gN 1) (gsCons (gN 2) gsNil))) tTrue (vOp2 mulF (vVar 1) (vVar 2)) [1, 2]) vaNil)))
def φ__law_sum : FS := vDef 1 3 f__law_sum
abbrev s_are_ints : Stmt := topS 7
def f_are_ints : VS := (vRet (vAndV (vIsi "tuple" (vVar 0)) (vBlt allF (vaCons (vLc (vIter (vVar 0)) (gN 3) tTrue (vCall φ_is_int (vaCons (vVar 3) (vaCons (vVar 1) (vaCons (vVar 2) vaNil)))) [3]) vaNil))))
def φ_are_ints : FS := vDef 3 4 f_are_ints
abbrev s_told_rows : Stmt := topS 35
def f_told_rows : VS := (vSeq (vSet 2 (vLst (vuCons (vDisp1 (vBlt tupleWF (vaCons (vLc (vIter (vVar 0)) (gT 2 (gsCons (gN 8) (gsCons (gN 9) gsNil))) tTrue (vVar 9) [8, 9]) vaNil)) (vC .none)) vuNil)))
    (vSeq (vFor (vIter (vVar 1)) (gN 3) (vSeq (vPar [4, 5] (vaCons (vCall φ_told_moves (vaCons (vVar 0) (vaCons (vVar 3) vaNil))) (vaCons (vDNew true) vaNil)))
    (vSeq (vFor (vIter (vBltD sortKF (vIdx (vVar 2) (vNeg (vC (.int 1)))))) (gN 6) (vFor (vIter (vVar 4)) (gN 7) (vIf (vB (vBlt allF (vaCons (vLc (vZip (vuCons (vVar 7) (vuCons (vVar 6) vuNil))) (gT 2 (gsCons (gN 10) (gsCons (gN 11) gsNil))) tTrue (vOp2 leF (vVar 10) (vVar 11)) [10, 11]) vaNil))) (vExpr (vMut "dict" setdefG 5 (vuCons (vBlt tupleWF (vaCons (vLc (vZip (vuCons (vVar 6) (vuCons (vVar 7) vuNil))) (gT 2 (gsCons (gN 11) (gsCons (gN 10) gsNil))) tTrue (vOp2 subF (vVar 11) (vVar 10)) [11, 10]) vaNil)) (vuCons (vVar 7) vuNil)))) vsNil)))
    (vSeq (vIf (vB (vDEmp (vVar 5))) vBk vsNil)
    (vExpr (vMut "list" appendG 2 (vuCons (vVar 5) vuNil)))))))
    (vRet (vVar 2))))
def φ_told_rows : FS := vDef 2 12 f_told_rows
abbrev s__law_of : Stmt := topS 47
def f__law_of : VS := (vRet (vIdx (vVar 1) (vCall φ__law_take (vaCons (vVar 0) (vaCons (vBlt lenF (vaCons (vVar 1) vaNil)) vaNil)))))
def φ__law_of : FS := vDef 2 2 f__law_of
abbrev s__law_some : Stmt := topS 49
def f__law_some : VS := (vSeq (vPar [3, 4] (vaCons (vBlt listF (vaCons (vVar 1) vaNil)) (vaCons (vLst vuNil) vaNil)))
    (vSeq (vFor (vRng (vaCons (vVar 2) vaNil)) (gN 5) (vExpr (vMut "list" appendG 4 (vuCons (vMut "list" popAtG 3 (vuCons (vCall φ__law_take (vaCons (vVar 0) (vaCons (vBlt lenF (vaCons (vVar 3) vaNil)) vaNil))) vuNil)) vuNil))))
    (vRet (vVar 4))))
def φ__law_some : FS := vDef 3 6 f__law_some
abbrev s_are_coins : Stmt := topS 14
def f_are_coins : VS := (vSeq (vIf (vOr (vNot (vB (vIsi "tuple" (vVar 0)))) (vB (vOp2 gtF (vBlt lenF (vaCons (vVar 0) vaNil)) (vC (.int 12))))) (vRet (vC (.bool false))) vsNil)
    (vSeq (vIf (vNot (vB (vBlt allF (vaCons (vLc (vIter (vVar 0)) (gN 1) tTrue (vAndV (vCall φ_are_ints (vaCons (vVar 1) (vaCons (vC (.int 1)) (vaCons (vC (.int 10000)) vaNil)))) (vOp2 eqF (vBlt lenF (vaCons (vVar 1) vaNil)) (vC (.int 2)))) [1]) vaNil)))) (vRet (vC (.bool false))) vsNil)
    (vRet (vCall φ_is_rising (vaCons (vLc (vIter (vVar 0)) (gT 2 (gsCons (gN 2) (gsCons (gN 3) gsNil))) tTrue (vVar 2) [2, 3]) vaNil)))))
def φ_are_coins : FS := vDef 1 4 f_are_coins
abbrev s_are_amounts : Stmt := topS 31
def f_are_amounts : VS := (vRet (vAndV (vCall φ_are_ints (vaCons (vVar 0) (vaCons (vC (.int 0)) (vaCons (vC (.int 2000)) vaNil)))) (vOp2 leF (vBlt lenF (vaCons (vVar 0) vaNil)) (vC (.int 12)))))
def φ_are_amounts : FS := vDef 1 1 f_are_amounts
abbrev s_look_at_coins : Stmt := topS 15
def f_look_at_coins : VS := (vIf (vNot (vB (vCall φ_are_coins (vaCons (vVar 0) vaNil)))) vNever vsNil)
def φ_look_at_coins : FS := vDef 1 1 f_look_at_coins
abbrev s_look_at_paying : Stmt := topS 16
def f_look_at_paying : VS := (vSeq (vExpr (vCall φ_look_at_coins (vaCons (vVar 0) vaNil)))
    (vIf (vNot (vB (vCall φ_is_int (vaCons (vVar 1) (vaCons (vC (.int 0)) (vaCons (vC (.int 10000)) vaNil)))))) vNever vsNil))
def φ_look_at_paying : FS := vDef 2 2 f_look_at_paying
abbrev s_worth_of : Stmt := topS 18
def f_worth_of : VS := (vSeq (vExpr (vCall φ_look_at_coins (vaCons (vVar 0) vaNil)))
    (vRet (vCall φ_told_sum (vaCons (vVar 0) vaNil))))
def φ_worth_of : FS := vDef 1 1 f_worth_of
abbrev s_together : Stmt := topS 19
def f_together : VS := (vSeq (vExpr (vCall φ_look_at_coins (vaCons (vVar 0) vaNil)))
    (vSeq (vExpr (vCall φ_look_at_coins (vaCons (vVar 1) vaNil)))
    (vSeq (vSet 2 (vBlt dictF (vaCons (vVar 0) vaNil)))
    (vSeq (vFor (vIter (vVar 1)) (gT 2 (gsCons (gN 3) (gsCons (gN 4) gsNil))) (vStore 2 (vVar 3) (vOp2 addF (vDGet (vVar 2) (vVar 3) (vC (.int 0))) (vVar 4))))
    (vSeq (vSet 5 (vBlt tupleF (vaCons (vSortIt (vVar 2)) vaNil)))
    (vSeq (vIf (vNot (vB (vCall φ_are_coins (vaCons (vVar 5) vaNil)))) vNever vsNil)
    (vRet (vVar 5))))))))
def φ_together : FS := vDef 2 6 f_together
abbrev s_without : Stmt := topS 20
def f_without : VS := (vSeq (vExpr (vCall φ_look_at_coins (vaCons (vVar 0) vaNil)))
    (vSeq (vExpr (vCall φ_look_at_coins (vaCons (vVar 1) vaNil)))
    (vSeq (vSet 2 (vBlt dictF (vaCons (vVar 0) vaNil)))
    (vSeq (vFor (vIter (vVar 1)) (gT 2 (gsCons (gN 3) (gsCons (gN 4) gsNil))) (vSeq (vIf (vB (vOp2 ltF (vDGet (vVar 2) (vVar 3) (vC (.int 0))) (vVar 4))) vNever vsNil)
    (vDAug 2 isubF (vVar 3) (vVar 4))))
    (vRet (vBlt tupleF (vaCons (vBlt sortedF (vaCons (vLc (vItems (vVar 2)) (gT 2 (gsCons (gN 3) (gsCons (gN 4) gsNil))) (vB (vOp2 gtF (vVar 4) (vC (.int 0)))) (vTup (vuCons (vVar 3) (vuCons (vVar 4) vuNil))) [3, 4]) vaNil)) vaNil)))))))
def φ_without : FS := vDef 2 5 f_without
abbrev s_look_at_amounts : Stmt := topS 33
def f_look_at_amounts : VS := (vSeq (vExpr (vCall φ_look_at_coins (vaCons (vVar 0) vaNil)))
    (vIf (vNot (vB (vCall φ_are_amounts (vaCons (vVar 1) vaNil)))) vNever vsNil))
def φ_look_at_amounts : FS := vDef 2 2 f_look_at_amounts
abbrev s_greatest_first : Stmt := topS 23
def f_greatest_first : VS := (vSeq (vExpr (vCall φ_look_at_paying (vaCons (vVar 0) (vaCons (vVar 1) vaNil))))
    (vRet (vCall φ_told_payment (vaCons (vVar 0) (vaCons (vVar 1) (vaCons (vCall φ_told_layers (vaCons (vVar 0) (vaCons (vVar 1) vaNil))) vaNil))))))
def φ_greatest_first : FS := vDef 2 2 f_greatest_first
abbrev s_look_at_asked : Stmt := topS 32
def f_look_at_asked : VS := (vSeq (vExpr (vCall φ_look_at_amounts (vaCons (vVar 0) (vaCons (vVar 1) vaNil))))
    (vIf (vB (vOp2 gtF (vCall φ_told_size (vaCons (vVar 0) vaNil)) (vC (.int 4000)))) vNever vsNil))
def φ_look_at_asked : FS := vDef 2 2 f_look_at_asked
abbrev s_shows_pay_all : Stmt := topS 38
def f_shows_pay_all : VS := (vSeq (vExpr (vCall φ_look_at_amounts (vaCons (vVar 0) (vaCons (vVar 1) vaNil))))
    (vSeq (vIf (vOr (vB (vOp2 gtF (vCall φ_told_size (vaCons (vVar 0) vaNil)) (vC (.int 4000)))) (vOr (vNot (vB (vCall φ_is_told (vaCons (vVar 2) (vaCons (vTup (vuCons (vC (.int 2)) vuNil)) vaNil))))) (vB (vOp2 neF (vIdx (vVar 2) (vC (.int 0))) (vC (.str "paid")))))) (vRet (vC (.bool false))) vsNil)
    (vSeq (vIf (vOr (vNot (vB (vIsi "tuple" (vIdx (vVar 2) (vC (.int 1)))))) (vB (vOp2 gtF (vBlt lenF (vaCons (vIdx (vVar 2) (vC (.int 1))) vaNil)) (vBlt lenF (vaCons (vVar 1) vaNil))))) (vRet (vC (.bool false))) vsNil)
    (vSeq (vIf (vB (vOp2 neF (vBlt lenF (vaCons (vIdx (vVar 2) (vC (.int 1))) vaNil)) (vOp2 subF (vBlt lenF (vaCons (vCall φ_told_rows (vaCons (vVar 0) (vaCons (vVar 1) vaNil))) vaNil)) (vC (.int 1))))) (vRet (vC (.bool false))) vsNil)
    (vSeq (vSet 3 (vBlt dictF (vaCons (vVar 0) vaNil)))
    (vSeq (vFor (vZip (vuCons (vIdx (vVar 2) (vC (.int 1))) (vuCons (vVar 1) vuNil))) (gT 2 (gsCons (gN 4) (gsCons (gN 5) gsNil))) (vSeq (vIf (vOr (vNot (vB (vCall φ_are_coins (vaCons (vVar 4) vaNil)))) (vB (vOp2 neF (vCall φ_told_sum (vaCons (vVar 4) vaNil)) (vVar 5)))) (vRet (vC (.bool false))) vsNil)
    (vFor (vIter (vVar 4)) (gT 2 (gsCons (gN 6) (gsCons (gN 7) gsNil))) (vSeq (vStore 3 (vVar 6) (vOp2 subF (vDGet (vVar 3) (vVar 6) (vC (.int 0))) (vVar 7)))
    (vIf (vB (vOp2 ltF (vIdx (vVar 3) (vVar 6)) (vC (.int 0)))) (vRet (vC (.bool false))) vsNil)))))
    (vRet (vC (.bool true)))))))))
def φ_shows_pay_all : FS := vDef 3 8 f_shows_pay_all
abbrev s_pay_all : Stmt := topS 37
def f_pay_all : VS := (vSeq (vExpr (vCall φ_look_at_asked (vaCons (vVar 0) (vaCons (vVar 1) vaNil))))
    (vRet (vTup (vuCons (vC (.str "paid")) (vuCons (vBlt tupleF (vaCons (vCall φ_told_payments (vaCons (vVar 0) (vaCons (vCall φ_told_rows (vaCons (vVar 0) (vaCons (vVar 1) vaNil))) vaNil))) vaNil)) vuNil)))))
def φ_pay_all : FS := vDef 2 2 f_pay_all
abbrev s_how_many_paid : Stmt := topS 39
def f_how_many_paid : VS := (vSeq (vExpr (vCall φ_look_at_asked (vaCons (vVar 0) (vaCons (vVar 1) vaNil))))
    (vRet (vOp2 subF (vBlt lenF (vaCons (vCall φ_told_rows (vaCons (vVar 0) (vaCons (vVar 1) vaNil))) vaNil)) (vC (.int 1)))))
def φ_how_many_paid : FS := vDef 2 2 f_how_many_paid
abbrev s_by_greatest_first : Stmt := topS 40
def f_by_greatest_first : VS := (vSeq (vExpr (vCall φ_look_at_amounts (vaCons (vVar 0) (vaCons (vVar 1) vaNil))))
    (vSeq (vPar [2, 3] (vaCons (vLst vuNil) (vaCons (vVar 0) vaNil)))
    (vSeq (vFor (vIter (vVar 1)) (gN 4) (vSeq (vSet 5 (vCall φ_greatest_first (vaCons (vVar 3) (vaCons (vVar 4) vaNil))))
    (vSeq (vIf (vB (vOp2 isF (vVar 5) (vC .none))) vBk vsNil)
    (vSeq (vExpr (vMut "list" appendG 2 (vuCons (vVar 5) vuNil)))
    (vSet 3 (vCall φ_without (vaCons (vVar 3) (vaCons (vVar 5) vaNil))))))))
    (vRet (vTup (vuCons (vBlt tupleF (vaCons (vVar 2) vaNil)) (vuCons (vVar 3) vuNil)))))))
def φ_by_greatest_first : FS := vDef 2 6 f_by_greatest_first
abbrev s_all_left : Stmt := topS 41
def f_all_left : VS := (vSeq (vExpr (vCall φ_look_at_asked (vaCons (vVar 0) (vaCons (vVar 1) vaNil))))
    (vSeq (vSet 2 (vCall φ_told_rows (vaCons (vVar 0) (vaCons (vVar 1) vaNil))))
    (vRet (vIfE (vB (vOp2 eqF (vBlt lenF (vaCons (vVar 2) vaNil)) (vOp2 addF (vBlt lenF (vaCons (vVar 1) vaNil)) (vC (.int 1))))) (vBltD lenDF (vIdx (vVar 2) (vNeg (vC (.int 1))))) (vC (.int 0))))))
def φ_all_left : FS := vDef 2 3 f_all_left
abbrev s_lots_of : Stmt := topS 42
def f_lots_of : VS := (vSeq (vExpr (vCall φ_look_at_asked (vaCons (vVar 0) (vaCons (vTup vuNil) vaNil))))
    (vRet (vCall φ_told_size (vaCons (vVar 0) vaNil))))
def φ_lots_of : FS := vDef 1 1 f_lots_of
abbrev s_lacking_for : Stmt := topS 43
def f_lacking_for : VS := (vSeq (vExpr (vCall φ_look_at_coins (vaCons (vVar 0) vaNil)))
    (vSeq (vIf (vNot (vB (vCall φ_is_int (vaCons (vVar 1) (vaCons (vC (.int 1)) (vaCons (vC (.int 2000)) vaNil)))))) vNever vsNil)
    (vSeq (vExpr (vCall φ_look_at_asked (vaCons (vVar 0) (vaCons (vVar 2) vaNil))))
    (vSeq (vFor (vRng (vaCons (vC (.int 21)) vaNil)) (gN 3) (vSeq (vSet 4 (vBlt dictF (vaCons (vVar 0) vaNil)))
    (vSeq (vStore 4 (vVar 1) (vOp2 addF (vDGet (vVar 4) (vVar 1) (vC (.int 0))) (vVar 3)))
    (vSeq (vSet 5 (vBlt tupleF (vaCons (vBlt sortedF (vaCons (vLc (vItems (vVar 4)) (gT 2 (gsCons (gN 6) (gsCons (gN 7) gsNil))) (vB (vOp2 gtF (vVar 7) (vC (.int 0)))) (vTup (vuCons (vVar 6) (vuCons (vVar 7) vuNil))) [6, 7]) vaNil)) vaNil)))
    (vSeq (vExpr (vCall φ_look_at_asked (vaCons (vVar 5) (vaCons (vVar 2) vaNil))))
    (vIf (vB (vOp2 eqF (vBlt lenF (vaCons (vCall φ_told_rows (vaCons (vVar 5) (vaCons (vVar 2) vaNil))) vaNil)) (vOp2 addF (vBlt lenF (vaCons (vVar 2) vaNil)) (vC (.int 1))))) (vRet (vVar 3)) vsNil))))))
    (vRet (vC .none))))))
def φ_lacking_for : FS := vDef 3 8 f_lacking_for
abbrev s__law_made : Stmt := topS 51
def f__law_made : VS := (vSeq (vSet 1 (vBlt ssF (vaCons (vLc (vRng (vaCons (vC (.int 3)) vaNil)) (gN 7) tTrue (vBlt intF (vaCons (vOp2 addF (vC (.int 1)) (vCall φ__law_take (vaCons (vVar 0) (vaCons (vC (.int 9)) vaNil)))) vaNil)) [7]) vaNil)))
    (vSeq (vPar [2, 3] (vaCons (vLst vuNil) (vaCons (vTup vuNil) vaNil)))
    (vSeq (vFor (vRng (vaCons (vOp2 addF (vC (.int 1)) (vCall φ__law_take (vaCons (vVar 0) (vaCons (vC (.int 12)) vaNil)))) vaNil)) (gN 4) (vSeq (vSet 5 (vBlt tupleF (vaCons (vLc (vIter (vVar 1)) (gN 8) (vB (vOp2 eqF (vCall φ__law_take (vaCons (vVar 0) (vaCons (vC (.int 3)) vaNil))) (vC (.int 0)))) (vTup (vuCons (vVar 8) (vuCons (vBlt intF (vaCons (vOp2 addF (vC (.int 1)) (vCall φ__law_take (vaCons (vVar 0) (vaCons (vC (.int 2)) vaNil)))) vaNil)) vuNil))) [8]) vaNil)))
    (vSeq (vSet 6 (vCall φ_together (vaCons (vVar 3) (vaCons (vVar 5) vaNil))))
    (vIf (vB (vOp2 leF (vCall φ_lots_of (vaCons (vVar 6) vaNil)) (vC (.int 300)))) (vPar [2, 3] (vaCons (vOp2 addF (vVar 2) (vLst (vuCons (vVar 5) vuNil))) (vaCons (vVar 6) vaNil))) vsNil))))
    (vRet (vTup (vuCons (vVar 2) (vuCons (vVar 3) vuNil)))))))
def φ__law_made : FS := vDef 1 9 f__law_made
abbrev s__law_right : Stmt := topS 52
def f__law_right : VS := (vSeq (vFor (vRng (vaCons (vC (.int 4)) vaNil)) (gN 1) (vSeq (vAsg (gT 2 (gsCons (gN 2) (gsCons (gN 3) gsNil))) (vCall φ__law_made (vaCons (vVar 0) vaNil)))
    (vSeq (vSet 4 (vCall φ__law_some (vaCons (vVar 0) (vaCons (vVar 2) (vaCons (vBlt lenF (vaCons (vVar 2) vaNil)) vaNil)))))
    (vSeq (vSet 5 (vBlt tupleF (vaCons (vLc (vIter (vVar 4)) (gN 12) tTrue (vCall φ__law_sum (vaCons (vVar 12) vaNil)) [12]) vaNil)))
    (vSeq (vIf (vB (vOp2 isntF (vCall φ_shows_pay_all (vaCons (vVar 3) (vaCons (vVar 5) (vaCons (vTup (vuCons (vC (.str "paid")) (vuCons (vBlt tupleF (vaCons (vVar 4) vaNil)) vuNil))) vaNil)))) (vC (.bool true)))) (vRet (vC (.bool false))) vsNil)
    (vSeq (vSet 6 (vCall φ_pay_all (vaCons (vVar 3) (vaCons (vVar 5) vaNil))))
    (vSeq (vIf (vOr (vB (vOp2 neF (vBlt lenF (vaCons (vIdx (vVar 6) (vC (.int 1))) vaNil)) (vBlt lenF (vaCons (vVar 5) vaNil)))) (vB (vOp2 isntF (vCall φ_shows_pay_all (vaCons (vVar 3) (vaCons (vVar 5) (vaCons (vVar 6) vaNil)))) (vC (.bool true))))) (vRet (vC (.bool false))) vsNil)
    (vSeq (vIf (vOr (vB (vOp2 neF (vCall φ_all_left (vaCons (vVar 3) (vaCons (vVar 5) vaNil))) (vC (.int 1)))) (vB (vOp2 neF (vCall φ_worth_of (vaCons (vVar 3) vaNil)) (vBlt sumF (vaCons (vVar 5) vaNil))))) (vRet (vC (.bool false))) vsNil)
    (vSeq (vAsg (gT 2 (gsCons (gN 7) (gsCons (gN 8) gsNil))) (vCall φ_by_greatest_first (vaCons (vVar 3) (vaCons (vVar 5) vaNil))))
    (vSeq (vIf (vOr (vB (vOp2 gtF (vBlt lenF (vaCons (vVar 7) vaNil)) (vBlt lenF (vaCons (vVar 5) vaNil)))) (vB (vOp2 neF (vCall φ_worth_of (vaCons (vVar 8) vaNil)) (vOp2 subF (vCall φ_worth_of (vaCons (vVar 3) vaNil)) (vBlt sumF (vaCons (vSlice (vVar 5) voNone (voSome (vBlt lenF (vaCons (vVar 7) vaNil)))) vaNil)))))) (vRet (vC (.bool false))) vsNil)
    (vSeq (vIf (vB (vOp2 eqF (vVar 3) (vTup vuNil))) vCt vsNil)
    (vSeq (vSet 9 (vIdx (vCall φ__law_of (vaCons (vVar 0) (vaCons (vBlt listF (vaCons (vVar 3) vaNil)) vaNil))) (vC (.int 0))))
    (vSeq (vSet 10 (vCall φ_without (vaCons (vVar 3) (vaCons (vTup (vuCons (vTup (vuCons (vVar 9) (vuCons (vC (.int 1)) vuNil))) vuNil)) vaNil))))
    (vSeq (vIf (vOr (vB (vOp2 geF (vCall φ_how_many_paid (vaCons (vVar 10) (vaCons (vVar 5) vaNil))) (vBlt lenF (vaCons (vVar 5) vaNil)))) (vB (vOp2 isntF (vCall φ_shows_pay_all (vaCons (vVar 10) (vaCons (vVar 5) (vaCons (vVar 6) vaNil)))) (vC (.bool false))))) (vRet (vC (.bool false))) vsNil)
    (vSeq (vIf (vB (vOp2 neF (vCall φ_lacking_for (vaCons (vVar 10) (vaCons (vVar 9) (vaCons (vVar 5) vaNil)))) (vC (.int 1)))) (vRet (vC (.bool false))) vsNil)
    (vSeq (vSet 11 (vCall φ_together (vaCons (vVar 3) (vaCons (vTup (vuCons (vTup (vuCons (vVar 9) (vuCons (vC (.int 1)) vuNil))) vuNil)) vaNil))))
    (vSeq (vIf (vAnd (vB (vOp2 leF (vCall φ_lots_of (vaCons (vVar 11) vaNil)) (vC (.int 600)))) (vB (vOp2 neF (vCall φ_how_many_paid (vaCons (vVar 11) (vaCons (vVar 5) vaNil))) (vBlt lenF (vaCons (vVar 5) vaNil))))) (vRet (vC (.bool false))) vsNil)
    (vIf (vAnd (vB (vOp2 leF (vCall φ_lots_of (vaCons (vVar 11) vaNil)) (vC (.int 600)))) (vB (vOp2 ltF (vBlt lenF (vaCons (vVar 5) vaNil)) (vC (.int 12))))) (vIf (vB (vOp2 neF (vCall φ_how_many_paid (vaCons (vVar 11) (vaCons (vOp2 addF (vVar 5) (vTup (vuCons (vVar 9) vuNil))) vaNil))) (vOp2 addF (vBlt lenF (vaCons (vVar 5) vaNil)) (vC (.int 1))))) (vRet (vC (.bool false))) vsNil) vsNil))))))))))))))))))
    (vRet (vC (.bool true))))
def φ__law_right : FS := vDef 1 13 f__law_right
abbrev s_law : Stmt := topS 53
def f_law : VS := (vRet (vBlt allF (vaCons (vLc (vIter (vCall φ__law_cells (vaCons (vVar 0) (vaCons (vC (.int 3)) vaNil)))) (gN 1) tTrue (vCall φ__law_right (vaCons (vCall φ__law_pot (vaCons (vVar 0) (vaCons (vVar 1) vaNil))) vaNil)) [1]) vaNil)))
def φ_law : FS := vDef 1 2 f_law
end K47
namespace K47
open PySem PySem.Spec PyProof.Rows L2 VL
theorem sc_is_int : FnScope ["value", "low", "high"] ["value", "low", "high"] (defScope s_is_int) := ⟨rfl, rfl, rfl, by decide +kernel, rfl, by decide +kernel, by decide +kernel⟩
theorem ok_is_int {P : Program} {w : World} {K : PySem.W.Frag} {mg : Str → Option Value} {base : Heap} {f : Addr} {fd : FuncData} (Fn : Fun K "is_int" "is_int" s_is_int f fd)
    (mz_isinstance : mg "isinstance" = none)
    (mz_int : mg "int" = none)
    (mz_bool : mg "bool" = none) :
    FnOk P w K mg base CX0 1 f fd ["value", "low", "high"] (spV K φ_is_int) :=
  okV Fn sc_is_int rfl rfl fun cdv A outer s H E hr => by
    have nd := sc_is_int.nd
    exact (vss_one (vs_ret (ve_and (ve_isi ve_var mz_isinstance mz_int (by first | rfl | decide +kernel)) (ve_and (ve_not (ve_isi ve_var mz_isinstance mz_bool (by first | rfl | decide +kernel))) (ve_one (ve_chain o_le o_le ve_var ve_var ve_var))))))
theorem sc_is_told : FnScope ["value", "sizes"] ["value", "sizes"] (defScope s_is_told) := ⟨rfl, rfl, rfl, by decide +kernel, rfl, by decide +kernel, by decide +kernel⟩
theorem ok_is_told {P : Program} {w : World} {K : PySem.W.Frag} {mg : Str → Option Value} {base : Heap} {f : Addr} {fd : FuncData} (Fn : Fun K "is_told" "is_told" s_is_told f fd)
    (mz_isinstance : mg "isinstance" = none)
    (mz_tuple : mg "tuple" = none)
    (mz_len : mg "len" = none)
    (mz_str : mg "str" = none) :
    FnOk P w K mg base CX0 1 f fd ["value", "sizes"] (spV K φ_is_told) :=
  okV Fn sc_is_told rfl rfl fun cdv A outer s H E hr => by
    have nd := sc_is_told.nd
    exact (vss_one (vs_ret (ve_and (ve_isi ve_var mz_isinstance mz_tuple (by first | rfl | decide +kernel)) (ve_and (ve_in (hu65 hr) (ve_blt (b_len) mz_len (by first | rfl | decide +kernel) (va_cons ve_var va_nil)) ve_var) (ve_one (ve_isi (ve_idx (hu65 hr) ve_var ve_int) mz_isinstance mz_str (by first | rfl | decide +kernel)))))))
theorem sc_is_rising : FnScope ["some", "one", "other"] ["some"] (defScope s_is_rising) := ⟨rfl, rfl, rfl, by decide +kernel, rfl, by decide +kernel, by decide +kernel⟩
theorem ok_is_rising {P : Program} {w : World} {K : PySem.W.Frag} {mg : Str → Option Value} {base : Heap} {f : Addr} {fd : FuncData} (Fn : Fun K "is_rising" "is_rising" s_is_rising f fd)
    (mz_zip : mg "zip" = none)
    (mz_all : mg "all" = none) :
    FnOk P w K mg base CX0 1 f fd ["some"] (spV K φ_is_rising) :=
  okV Fn sc_is_rising rfl rfl fun cdv A outer s H E hr => by
    have nd := sc_is_rising.nd
    exact (vss_one (vs_ret (ve_blt (b_all rfl) mz_all (by first | rfl | decide +kernel) (va_cons (ve_lc [("one", 1), ("other", 2)] rfl nd (vi_zip mz_zip (vu_cons ve_var (vu_cons (ve_slice ve_var (vo_some ve_int) vo_none) vu_nil))) (blkOk_by (by kernel_rfl)) (fun _ _ _ _ _ => (vg_tup rfl (vgs_cons (vg_name nd) (vgs_cons (vg_name nd) vgs_nil)))) (fun _ _ _ _ _ => vts_nil) (fun _ _ _ _ _ => (ve_cmp o_lt ve_var ve_var))) va_nil))))
theorem sc_told_sum : FnScope ["coins", "face", "count"] ["coins"] (defScope s_told_sum) := ⟨rfl, rfl, rfl, by decide +kernel, rfl, by decide +kernel, by decide +kernel⟩
theorem ok_told_sum {P : Program} {w : World} {K : PySem.W.Frag} {mg : Str → Option Value} {base : Heap} {f : Addr} {fd : FuncData} (Fn : Fun K "told_sum" "told_sum" s_told_sum f fd)
    (mz_sum : mg "sum" = none) :
    FnOk P w K mg base CX0 1 f fd ["coins"] (spV K φ_told_sum) :=
  okV Fn sc_told_sum rfl rfl fun cdv A outer s H E hr => by
    have nd := sc_told_sum.nd
    exact (vss_one (vs_ret (ve_blt (b_sum rfl) mz_sum (by first | rfl | decide +kernel) (va_cons (ve_lc [("face", 1), ("count", 2)] rfl nd (vi_any ve_var) (blkOk_by (by kernel_rfl)) (fun _ _ _ _ _ => (vg_tup rfl (vgs_cons (vg_name nd) (vgs_cons (vg_name nd) vgs_nil)))) (fun _ _ _ _ _ => vts_nil) (fun _ _ _ _ _ => (ve_op o_mul ve_var ve_var))) va_nil))))
theorem sc_told_layers : FnScope ["coins", "most", "layers", "face", "count", "ahead", "made", "taken", "amount"] ["coins", "most"] (defScope s_told_layers) := ⟨rfl, rfl, rfl, by decide +kernel, rfl, by decide +kernel, by decide +kernel⟩
theorem ok_told_layers {P : Program} {w : World} {K : PySem.W.Frag} {mg : Str → Option Value} {base : Heap} {f : Addr} {fd : FuncData} (Fn : Fun K "told_layers" "told_layers" s_told_layers f fd)
    (mz_range : mg "range" = none) :
    FnOk P w K mg base CX0 1 f fd ["coins", "most"] (spV K φ_told_layers) :=
  okV Fn sc_told_layers rfl rfl fun cdv A outer s H E hr => by
    have nd := sc_told_layers.nd
    exact (vss_cons (vs_set nd (ve_lst (vu_cons (ve_op o_add (ve_lst (vu_cons ve_bl vu_nil)) (ve_op o_mul (ve_lst (vu_cons ve_bl vu_nil)) ve_var)) vu_nil)))
    (vss_cons (vs_for rfl (vi_any ve_var) (vg_tup rfl (vgs_cons (vg_name nd) (vgs_cons (vg_name nd) vgs_nil))) (vss_cons (vs_par rfl nd (va_cons (ve_idx (hu65 hr) ve_var (ve_neg ve_int)) (va_cons (ve_op o_mul (ve_lst (vu_cons ve_bl vu_nil)) (ve_op o_add ve_var ve_int)) va_nil)))
    (vss_cons (vs_set nd (ve_op o_mul (ve_lst (vu_cons ve_int vu_nil)) (ve_op o_add ve_var ve_int)))
    (vss_cons (vs_for rfl (vi_range1 (ve_op o_add ve_var ve_int) mz_range) (vg_name nd) (vss_one (vs_if (vt_val (ve_idx (hu65 hr) ve_var ve_var)) (vss_one (vs_store (hu1 hr) ve_bl ve_var)) (vss_one (vs_if (vt_w (vw_and (vt_cmp o_ge ve_var ve_var) (vw_and (vt_val (ve_idx (hu65 hr) ve_var (ve_op o_sub ve_var ve_var))) (vw_and1 (vt_cmp o_lt (ve_idx (hu65 hr) ve_var (ve_op o_sub ve_var ve_var)) ve_var))))) (vss_one (vs_sub2 (hu1 hr) rfl (ve_tup (vu_cons ve_bl (vu_cons (ve_op o_add (ve_idx (hu65 hr) ve_var (ve_op o_sub ve_var ve_var)) ve_int) vu_nil))) ve_var ve_var)) vss_nil)))))
    (vss_one (vs_expr (ve_mut PySem.F.plainAttrs_list PySem.F.slot_list_append PySem.F.type_list_append m_append (vu_cons ve_var vu_nil))))))))
    (vss_one (vs_ret ve_var))))
theorem sc_told_payment : FnScope ["coins", "amount", "layers", "found", "at", "face", "count", "many"] ["coins", "amount", "layers"] (defScope s_told_payment) := ⟨rfl, rfl, rfl, by decide +kernel, rfl, by decide +kernel, by decide +kernel⟩
theorem ok_told_payment {P : Program} {w : World} {K : PySem.W.Frag} {mg : Str → Option Value} {base : Heap} {f : Addr} {fd : FuncData} (Fn : Fun K "told_payment" "told_payment" s_told_payment f fd)
    (mz_len : mg "len" = none)
    (mz_range : mg "range" = none)
    (mz_min : mg "min" = none)
    (mz_tuple : mg "tuple" = none) :
    FnOk P w K mg base CX0 1 f fd ["coins", "amount", "layers"] (spV K φ_told_payment) :=
  okV Fn sc_told_payment rfl rfl fun cdv A outer s H E hr => by
    have nd := sc_told_payment.nd
    exact (vss_cons (vs_if (vt_not (vt_val (ve_idx (hu65 hr) (ve_idx (hu65 hr) ve_var (ve_neg ve_int)) ve_var))) (vss_one (vs_ret ve_non)) vss_nil)
    (vss_cons (vs_set nd (ve_lst vu_nil))
    (vss_cons (vs_for rfl (vi_range3 (ve_op o_sub (ve_blt (b_len) mz_len (by first | rfl | decide +kernel) (va_cons ve_var va_nil)) ve_int) (ve_neg ve_int) (ve_neg ve_int) mz_range) (vg_name nd) (vss_cons (vs_asg (ve_idx (hu65 hr) ve_var ve_var) (vg_tup rfl (vgs_cons (vg_name nd) (vgs_cons (vg_name nd) vgs_nil))))
    (vss_cons (vs_set nd (ve_blt (b_min2 rfl) mz_min (by first | rfl | decide +kernel) (va_cons ve_var (va_cons (ve_op o_fdiv ve_var ve_var) va_nil))))
    (vss_cons (vs_while (vt_not (vt_val (ve_idx (hu65 hr) (ve_idx (hu65 hr) ve_var ve_var) (ve_op o_sub ve_var (ve_op o_mul ve_var ve_var))))) (vss_one (vs_aug nd i_sub ve_int)))
    (vss_cons (vs_aug nd i_sub (ve_op o_mul ve_var ve_var))
    (vss_one (vs_if (vt_cmp o_gt ve_var ve_int) (vss_one (vs_expr (ve_mut PySem.F.plainAttrs_list PySem.F.slot_list_append PySem.F.type_list_append m_append (vu_cons (ve_tup (vu_cons ve_var (vu_cons ve_var vu_nil))) vu_nil)))) vss_nil)))))))
    (vss_one (vs_ret (ve_bty (b_tuple) mz_tuple (by first | rfl | decide +kernel) (va_cons (ve_rev ve_var) va_nil)))))))
theorem sc_told_size : FnScope ["coins", "found", "face", "count"] ["coins"] (defScope s_told_size) := ⟨rfl, rfl, rfl, by decide +kernel, rfl, by decide +kernel, by decide +kernel⟩
theorem ok_told_size {P : Program} {w : World} {K : PySem.W.Frag} {mg : Str → Option Value} {base : Heap} {f : Addr} {fd : FuncData} (Fn : Fun K "told_size" "told_size" s_told_size f fd)
     :
    FnOk P w K mg base CX0 1 f fd ["coins"] (spV K φ_told_size) :=
  okV Fn sc_told_size rfl rfl fun cdv A outer s H E hr => by
    have nd := sc_told_size.nd
    exact (vss_cons (vs_set nd ve_int)
    (vss_cons (vs_for rfl (vi_any ve_var) (vg_tup rfl (vgs_cons (vg_name nd) (vgs_cons (vg_name nd) vgs_nil))) (vss_one (vs_aug nd i_mul (ve_op o_add ve_var ve_int))))
    (vss_one (vs_ret ve_var))))
theorem sc_told_moves : FnScope ["coins", "amount", "found", "face", "count", "longer", "row", "left", "many"] ["coins", "amount"] (defScope s_told_moves) := ⟨rfl, rfl, rfl, by decide +kernel, rfl, by decide +kernel, by decide +kernel⟩
theorem ok_told_moves {P : Program} {w : World} {K : PySem.W.Frag} {mg : Str → Option Value} {base : Heap} {f : Addr} {fd : FuncData} (Fn : Fun K "told_moves" "told_moves" s_told_moves f fd)
    (mz_min : mg "min" = none)
    (mz_range : mg "range" = none) :
    FnOk P w K mg base CX0 1 f fd ["coins", "amount"] (spV K φ_told_moves) :=
  okV Fn sc_told_moves rfl rfl fun cdv A outer s H E hr => by
    have nd := sc_told_moves.nd
    exact (vss_cons (vs_set nd (ve_lst (vu_cons (ve_tup (vu_cons (ve_tup vu_nil) (vu_cons ve_var vu_nil))) vu_nil)))
    (vss_cons (vs_for rfl (vi_any ve_var) (vg_tup rfl (vgs_cons (vg_name nd) (vgs_cons (vg_name nd) vgs_nil))) (vss_cons (vs_set nd (ve_lst vu_nil))
    (vss_cons (vs_for rfl (vi_any ve_var) (vg_tup rfl (vgs_cons (vg_name nd) (vgs_cons (vg_name nd) vgs_nil))) (vss_one (vs_expr (ve_mut PySem.F.plainAttrs_list PySem.F.slot_list_extend PySem.F.type_list_extend m_extend (vu_cons (ve_lc [("many", 8)] rfl nd (vi_range1 (ve_op o_add (ve_blt (b_min2 rfl) mz_min (by first | rfl | decide +kernel) (va_cons ve_var (va_cons (ve_op o_fdiv ve_var ve_var) va_nil))) ve_int) mz_range) (blkOk_by (by kernel_rfl)) (fun _ _ _ _ _ => (vg_name nd)) (fun _ _ _ _ _ => vts_nil) (fun _ _ _ _ _ => (ve_tup (vu_cons (ve_tup (vu_star ve_var (vu_cons ve_var vu_nil))) (vu_cons (ve_op o_sub ve_var (ve_op o_mul ve_var ve_var)) vu_nil))))) vu_nil)))))
    (vss_one (vs_set nd ve_var)))))
    (vss_one (vs_ret (ve_lc [("row", 6), ("left", 7)] rfl nd (vi_any ve_var) (blkOk_by (by kernel_rfl)) (fun _ _ _ _ _ => (vg_tup rfl (vgs_cons (vg_name nd) (vgs_cons (vg_name nd) vgs_nil)))) (fun _ _ _ _ _ => (vts_one (vt_cmp (o_eq (hu64 hr)) ve_var ve_int))) (fun _ _ _ _ _ => ve_var))))))
theorem sc_told_payments : FnScope ["coins", "rows", "found", "state", "row", "move", "many", "face", "count", "here"] ["coins", "rows"] (defScope s_told_payments) := ⟨rfl, rfl, rfl, by decide +kernel, rfl, by decide +kernel, by decide +kernel⟩
theorem ok_told_payments {P : Program} {w : World} {K : PySem.W.Frag} {mg : Str → Option Value} {base : Heap} {f : Addr} {fd : FuncData} (Fn : Fun K "told_payments" "told_payments" s_told_payments f fd)
    (mz_sorted : mg "sorted" = none)
    (mz_zip : mg "zip" = none)
    (mz_tuple : mg "tuple" = none) :
    FnOk P w K mg base CX0 1 f fd ["coins", "rows"] (spV K φ_told_payments) :=
  okV Fn sc_told_payments rfl rfl fun cdv A outer s H E hr => by
    have nd := sc_told_payments.nd
    exact (vss_cons (vs_par rfl nd (va_cons (ve_lst vu_nil) (va_cons (ve_idx (hu65 hr) (ve_bltD (b_sortK rfl (hu64 hr)) mz_sorted (by first | rfl | decide +kernel) (ve_idx (hu65 hr) ve_var (ve_neg ve_int))) ve_int) va_nil)))
    (vss_cons (vs_for rfl (vi_any (ve_revT ve_var)) (vg_name nd) (vss_cons (vs_set nd (ve_idx (hu65 hr) ve_var ve_var))
    (vss_cons (vs_expr (ve_mut PySem.F.plainAttrs_list PySem.F.slot_list_append PySem.F.type_list_append m_append (vu_cons (ve_bty (b_tuple) mz_tuple (by first | rfl | decide +kernel) (va_cons (ve_lc [("many", 6), ("face", 7), ("count", 8)] rfl nd (vi_zip mz_zip (vu_cons ve_var (vu_cons ve_var vu_nil))) (blkOk_by (by kernel_rfl)) (fun _ _ _ _ _ => (vg_tup rfl (vgs_cons (vg_tup rfl (vgs_cons (vg_name nd) (vgs_cons (vg_name nd) vgs_nil))) (vgs_cons (vg_name nd) vgs_nil)))) (fun _ _ _ _ _ => (vts_one (vt_cmp o_gt ve_var ve_int))) (fun _ _ _ _ _ => (ve_tup (vu_cons ve_var (vu_cons ve_var vu_nil))))) va_nil)) vu_nil)))
    (vss_one (vs_set nd (ve_bty b_tupleW mz_tuple (by first | rfl | decide +kernel) (va_cons (ve_lc [("here", 9), ("many", 6)] rfl nd (vi_zip mz_zip (vu_cons ve_var (vu_cons ve_var vu_nil))) (blkOk_by (by kernel_rfl)) (fun _ _ _ _ _ => (vg_tup rfl (vgs_cons (vg_name nd) (vgs_cons (vg_name nd) vgs_nil)))) (fun _ _ _ _ _ => vts_nil) (fun _ _ _ _ _ => (ve_op o_add ve_var ve_var))) va_nil)))))))
    (vss_one (vs_ret (ve_rev ve_var)))))
theorem sc__law_pot : FnScope ["script", "place", "cell", "own", "small"] ["script", "place"] (defScope s__law_pot) := ⟨rfl, rfl, rfl, by decide +kernel, rfl, by decide +kernel, by decide +kernel⟩
theorem ok__law_pot {P : Program} {w : World} {K : PySem.W.Frag} {mg : Str → Option Value} {base : Heap} {f : Addr} {fd : FuncData} (Fn : Fun K "_law_pot" "_law_pot" s__law_pot f fd)
    (mz_len : mg "len" = none)
    (mz_sum : mg "sum" = none)
    (mz_int : mg "int" = none)
    (mz_abs : mg "abs" = none) :
    FnOk P w K mg base CX0 1 f fd ["script", "place"] (spV K φ__law_pot) :=
  okV Fn sc__law_pot rfl rfl fun cdv A outer s H E hr => by
    have nd := sc__law_pot.nd
    exact (vss_cons (vs_set nd (ve_ifE (vt_cmp o_lt ve_var (ve_blt (b_len) mz_len (by first | rfl | decide +kernel) (va_cons ve_var va_nil))) (ve_idx (hu65 hr) ve_var ve_var) (ve_op o_add (ve_op o_add (ve_op o_mod (ve_bty (b_int) mz_int (by first | rfl | decide +kernel) (va_cons (ve_blt (b_sum rfl) mz_sum (by first | rfl | decide +kernel) (va_cons (ve_slice ve_var vo_none (vo_some ve_int)) va_nil)) va_nil)) ve_int) (ve_op o_mul ve_int ve_var)) ve_int)))
    (vss_cons (vs_set nd (ve_op o_mul (ve_op o_mod (ve_bty (b_int) mz_int (by first | rfl | decide +kernel) (va_cons (ve_blt (b_abs) mz_abs (by first | rfl | decide +kernel) (va_cons ve_var va_nil)) va_nil)) (ve_op o_pow (ve_op o_pow ve_int ve_int) ve_int)) (ve_bty (b_int) mz_int (by first | rfl | decide +kernel) (va_cons (ve_cmp o_ge (ve_blt (b_abs) mz_abs (by first | rfl | decide +kernel) (va_cons ve_var va_nil)) (ve_op o_pow ve_int ve_int)) va_nil))))
    (vss_cons (vs_set nd (ve_op o_mod (ve_bty (b_int) mz_int (by first | rfl | decide +kernel) (va_cons ve_var va_nil)) ve_int))
    (vss_one (vs_ret (ve_lst (vu_cons ve_var (vu_cons (ve_op o_mod (ve_bty (b_int) mz_int (by first | rfl | decide +kernel) (va_cons (ve_op o_add (ve_op o_add (ve_op o_mul ve_var ve_int) (ve_op o_mul (ve_op o_mul ve_int ve_var) ve_var)) ve_int) va_nil)) ve_int) (vu_cons ve_int vu_nil)))))))))
theorem sc__law_take : FnScope ["pot", "upto", "digit", "prime", "mixture"] ["pot", "upto"] (defScope s__law_take) := ⟨rfl, rfl, rfl, by decide +kernel, rfl, by decide +kernel, by decide +kernel⟩
theorem ok__law_take {P : Program} {w : World} {K : PySem.W.Frag} {mg : Str → Option Value} {base : Heap} {f : Addr} {fd : FuncData} (Fn : Fun K "_law_take" "_law_take" s__law_take f fd)
    (mz_int : mg "int" = none) :
    FnOk P w K mg base CX0 1 f fd ["pot", "upto"] (spV K φ__law_take) :=
  okV Fn sc__law_take rfl rfl fun cdv A outer s H E hr => by
    have nd := sc__law_take.nd
    exact (vss_cons (vs_if (vt_cmp o_gt (ve_idx (hu65 hr) ve_var ve_int) ve_int) (vss_cons (vs_set nd (ve_op o_mod (ve_bty (b_int) mz_int (by first | rfl | decide +kernel) (va_cons (ve_idx (hu65 hr) ve_var ve_int) va_nil)) ve_var))
    (vss_cons (vs_store (hu1 hr) (ve_op o_fdiv (ve_idx (hu65 hr) ve_var ve_int) ve_var) ve_int)
    (vss_one (vs_ret ve_var)))) vss_nil)
    (vss_cons (vs_store (hu1 hr) (ve_op o_add (ve_idx (hu65 hr) ve_var ve_int) ve_int) ve_int)
    (vss_cons (vs_set nd (ve_idx (hu65 hr) (ve_lst (vu_cons ve_int (vu_cons ve_int (vu_cons ve_int (vu_cons ve_int (vu_cons ve_int vu_nil)))))) (ve_op o_mod (ve_bty (b_int) mz_int (by first | rfl | decide +kernel) (va_cons (ve_idx (hu65 hr) ve_var ve_int) va_nil)) ve_int)))
    (vss_cons (vs_set nd (ve_op o_mod (ve_bty (b_int) mz_int (by first | rfl | decide +kernel) (va_cons (ve_op o_pow (ve_bty (b_int) mz_int (by first | rfl | decide +kernel) (va_cons (ve_op o_add (ve_op o_add (ve_idx (hu65 hr) ve_var ve_int) (ve_op o_mul (ve_op o_mul ve_int (ve_idx (hu65 hr) ve_var ve_int)) (ve_idx (hu65 hr) ve_var ve_int))) ve_int) va_nil)) ve_int) va_nil)) ve_var))
    (vss_cons (vs_set nd (ve_op o_mod (ve_bty (b_int) mz_int (by first | rfl | decide +kernel) (va_cons (ve_op o_mul ve_var (ve_op o_add (ve_op o_mod (ve_bty (b_int) mz_int (by first | rfl | decide +kernel) (va_cons ve_var va_nil)) ve_int) (ve_op o_mul ve_int (ve_idx (hu65 hr) ve_var ve_int)))) va_nil)) ve_int))
    (vss_one (vs_ret (ve_op o_mod (ve_bty (b_int) mz_int (by first | rfl | decide +kernel) (va_cons (ve_op o_fdiv ve_var ve_int) va_nil)) ve_var))))))))
theorem sc__law_cells : FnScope ["script", "most"] ["script", "most"] (defScope s__law_cells) := ⟨rfl, rfl, rfl, by decide +kernel, rfl, by decide +kernel, by decide +kernel⟩
theorem ok__law_cells {P : Program} {w : World} {K : PySem.W.Frag} {mg : Str → Option Value} {base : Heap} {f : Addr} {fd : FuncData} (Fn : Fun K "_law_cells" "_law_cells" s__law_cells f fd)
    (mz_len : mg "len" = none)
    (mz_min : mg "min" = none)
    (mz_max : mg "max" = none)
    (mz_list : mg "list" = none)
    (mz_range : mg "range" = none) :
    FnOk P w K mg base CX0 1 f fd ["script", "most"] (spV K φ__law_cells) :=
  okV Fn sc__law_cells rfl rfl fun cdv A outer s H E hr => by
    have nd := sc__law_cells.nd
    exact (vss_one (vs_ret (ve_lstRg1 rfl (ve_blt (b_max2 rfl) mz_max (by first | rfl | decide +kernel) (va_cons ve_int (va_cons (ve_blt (b_min2 rfl) mz_min (by first | rfl | decide +kernel) (va_cons ve_var (va_cons (ve_blt (b_len) mz_len (by first | rfl | decide +kernel) (va_cons ve_var va_nil)) va_nil))) va_nil))) mz_list mz_range)))
theorem sc__law_sum : FnScope ["coins", "face", "count"] ["coins"] (defScope s__law_sum) := ⟨rfl, rfl, rfl, by decide +kernel, rfl, by decide +kernel, by decide +kernel⟩
theorem ok__law_sum {P : Program} {w : World} {K : PySem.W.Frag} {mg : Str → Option Value} {base : Heap} {f : Addr} {fd : FuncData} (Fn : Fun K "_law_sum" "_law_sum" s__law_sum f fd)
    (mz_sum : mg "sum" = none) :
    FnOk P w K mg base CX0 1 f fd ["coins"] (spV K φ__law_sum) :=
  okV Fn sc__law_sum rfl rfl fun cdv A outer s H E hr => by
    have nd := sc__law_sum.nd
    exact (vss_one (vs_ret (ve_blt (b_sum rfl) mz_sum (by first | rfl | decide +kernel) (va_cons (ve_lc [("face", 1), ("count", 2)] rfl nd (vi_any ve_var) (blkOk_by (by kernel_rfl)) (fun _ _ _ _ _ => (vg_tup rfl (vgs_cons (vg_name nd) (vgs_cons (vg_name nd) vgs_nil)))) (fun _ _ _ _ _ => vts_nil) (fun _ _ _ _ _ => (ve_op o_mul ve_var ve_var))) va_nil))))
theorem sc_are_ints : FnScope ["value", "low", "high", "one"] ["value", "low", "high"] (defScope s_are_ints) := ⟨rfl, rfl, rfl, by decide +kernel, rfl, by decide +kernel, by decide +kernel⟩
theorem ok_are_ints {P : Program} {w : World} {K : PySem.W.Frag} {mg : Str → Option Value} {base : Heap} {f : Addr} {fd : FuncData} (Fn : Fun K "are_ints" "are_ints" s_are_ints f fd)
    (mz_isinstance : mg "isinstance" = none)
    (mz_tuple : mg "tuple" = none)
    (mz_all : mg "all" = none)
    {a_is_int : Addr} {d_is_int : FuncData} (G_is_int : FnOk P w K mg base CX0 1 a_is_int d_is_int ["value", "low", "high"] (spV K φ_is_int)) (m_is_int : mg "is_int" = some (.ref a_is_int)) (k_is_int : PySem.W.keepIn K (.ref a_is_int) = true) (b_is_int : Binds K d_is_int ["value", "low", "high"] []) :
    FnOk P w K mg base CX0 2 f fd ["value", "low", "high"] (spV K φ_are_ints) :=
  okV Fn sc_are_ints rfl rfl fun cdv A outer s H E hr => by
    have nd := sc_are_ints.nd
    exact (vss_one (vs_ret (ve_and (ve_isi ve_var mz_isinstance mz_tuple (by first | rfl | decide +kernel)) (ve_one (ve_blt (b_all rfl) mz_all (by first | rfl | decide +kernel) (va_cons (ve_lc [("one", 3)] rfl nd (vi_any ve_var) (blkOk_by (by kernel_rfl)) (fun _ _ _ _ _ => (vg_name nd)) (fun _ _ _ _ _ => vts_nil) (fun _ _ _ _ _ => (ve_call G_is_int (hr.mono (by decide)) m_is_int k_is_int b_is_int (va_cons ve_var (va_cons ve_var (va_cons ve_var va_nil)))))) va_nil))))))
theorem sc_told_rows : FnScope ["coins", "amounts", "rows", "amount", "moves", "made", "state", "move", "face", "count", "many", "here"] ["coins", "amounts"] (defScope s_told_rows) := ⟨rfl, rfl, rfl, by decide +kernel, rfl, by decide +kernel, by decide +kernel⟩
theorem ok_told_rows {P : Program} {w : World} {K : PySem.W.Frag} {mg : Str → Option Value} {base : Heap} {f : Addr} {fd : FuncData} (Fn : Fun K "told_rows" "told_rows" s_told_rows f fd)
    (mz_tuple : mg "tuple" = none)
    (mz_sorted : mg "sorted" = none)
    (mz_zip : mg "zip" = none)
    (mz_all : mg "all" = none)
    {a_told_moves : Addr} {d_told_moves : FuncData} (G_told_moves : FnOk P w K mg base CX0 1 a_told_moves d_told_moves ["coins", "amount"] (spV K φ_told_moves)) (m_told_moves : mg "told_moves" = some (.ref a_told_moves)) (k_told_moves : PySem.W.keepIn K (.ref a_told_moves) = true) (b_told_moves : Binds K d_told_moves ["coins", "amount"] []) :
    FnOk P w K mg base CX0 2 f fd ["coins", "amounts"] (spV K φ_told_rows) :=
  okV Fn sc_told_rows rfl rfl fun cdv A outer s H E hr => by
    have nd := sc_told_rows.nd
    exact (vss_cons (vs_set nd (ve_lst (vu_cons (ve_disp1 (hu1 hr) (ve_bty b_tupleW mz_tuple (by first | rfl | decide +kernel) (va_cons (ve_lc [("face", 8), ("count", 9)] rfl nd (vi_any ve_var) (blkOk_by (by kernel_rfl)) (fun _ _ _ _ _ => (vg_tup rfl (vgs_cons (vg_name nd) (vgs_cons (vg_name nd) vgs_nil)))) (fun _ _ _ _ _ => vts_nil) (fun _ _ _ _ _ => ve_var)) va_nil)) ve_non) vu_nil)))
    (vss_cons (vs_for rfl (vi_any ve_var) (vg_name nd) (vss_cons (vs_par rfl nd (va_cons (ve_call G_told_moves (hr.mono (by decide)) m_told_moves k_told_moves b_told_moves (va_cons ve_var (va_cons ve_var va_nil))) (va_cons ve_dnewT va_nil)))
    (vss_cons (vs_for rfl (vi_any (ve_bltD (b_sortK rfl (hu64 hr)) mz_sorted (by first | rfl | decide +kernel) (ve_idx (hu65 hr) ve_var (ve_neg ve_int)))) (vg_name nd) (vss_one (vs_for rfl (vi_any ve_var) (vg_name nd) (vss_one (vs_if (vt_val (ve_blt (b_all rfl) mz_all (by first | rfl | decide +kernel) (va_cons (ve_lc [("many", 10), ("here", 11)] rfl nd (vi_zip mz_zip (vu_cons ve_var (vu_cons ve_var vu_nil))) (blkOk_by (by kernel_rfl)) (fun _ _ _ _ _ => (vg_tup rfl (vgs_cons (vg_name nd) (vgs_cons (vg_name nd) vgs_nil)))) (fun _ _ _ _ _ => vts_nil) (fun _ _ _ _ _ => (ve_cmp o_le ve_var ve_var))) va_nil))) (vss_one (vs_expr (ve_mut PySem.F.plainAttrs_dict PySem.F.slot_dict_setdefault PySem.F.type_dict_setdefault (m_setdef (hu1 hr)) (vu_cons (ve_bty b_tupleW mz_tuple (by first | rfl | decide +kernel) (va_cons (ve_lc [("here", 11), ("many", 10)] rfl nd (vi_zip mz_zip (vu_cons ve_var (vu_cons ve_var vu_nil))) (blkOk_by (by kernel_rfl)) (fun _ _ _ _ _ => (vg_tup rfl (vgs_cons (vg_name nd) (vgs_cons (vg_name nd) vgs_nil)))) (fun _ _ _ _ _ => vts_nil) (fun _ _ _ _ _ => (ve_op o_sub ve_var ve_var))) va_nil)) (vu_cons ve_var vu_nil))))) vss_nil)))))
    (vss_cons (vs_if (vt_demp (hu64 hr) ve_var) (vss_one vs_break) vss_nil)
    (vss_one (vs_expr (ve_mut PySem.F.plainAttrs_list PySem.F.slot_list_append PySem.F.type_list_append m_append (vu_cons ve_var vu_nil))))))))
    (vss_one (vs_ret ve_var))))
theorem sc__law_of : FnScope ["pot", "some"] ["pot", "some"] (defScope s__law_of) := ⟨rfl, rfl, rfl, by decide +kernel, rfl, by decide +kernel, by decide +kernel⟩
theorem ok__law_of {P : Program} {w : World} {K : PySem.W.Frag} {mg : Str → Option Value} {base : Heap} {f : Addr} {fd : FuncData} (Fn : Fun K "_law_of" "_law_of" s__law_of f fd)
    (mz_len : mg "len" = none)
    {a__law_take : Addr} {d__law_take : FuncData} (G__law_take : FnOk P w K mg base CX0 1 a__law_take d__law_take ["pot", "upto"] (spV K φ__law_take)) (m__law_take : mg "_law_take" = some (.ref a__law_take)) (k__law_take : PySem.W.keepIn K (.ref a__law_take) = true) (b__law_take : Binds K d__law_take ["pot", "upto"] []) :
    FnOk P w K mg base CX0 2 f fd ["pot", "some"] (spV K φ__law_of) :=
  okV Fn sc__law_of rfl rfl fun cdv A outer s H E hr => by
    have nd := sc__law_of.nd
    exact (vss_one (vs_ret (ve_idx (hu65 hr) ve_var (ve_call G__law_take (hr.mono (by decide)) m__law_take k__law_take b__law_take (va_cons ve_var (va_cons (ve_blt (b_len) mz_len (by first | rfl | decide +kernel) (va_cons ve_var va_nil)) va_nil))))))
theorem sc__law_some : FnScope ["pot", "pool", "many", "rests", "found", "lap"] ["pot", "pool", "many"] (defScope s__law_some) := ⟨rfl, rfl, rfl, by decide +kernel, rfl, by decide +kernel, by decide +kernel⟩
theorem ok__law_some {P : Program} {w : World} {K : PySem.W.Frag} {mg : Str → Option Value} {base : Heap} {f : Addr} {fd : FuncData} (Fn : Fun K "_law_some" "_law_some" s__law_some f fd)
    (mz_list : mg "list" = none)
    (mz_range : mg "range" = none)
    (mz_len : mg "len" = none)
    {a__law_take : Addr} {d__law_take : FuncData} (G__law_take : FnOk P w K mg base CX0 1 a__law_take d__law_take ["pot", "upto"] (spV K φ__law_take)) (m__law_take : mg "_law_take" = some (.ref a__law_take)) (k__law_take : PySem.W.keepIn K (.ref a__law_take) = true) (b__law_take : Binds K d__law_take ["pot", "upto"] []) :
    FnOk P w K mg base CX0 2 f fd ["pot", "pool", "many"] (spV K φ__law_some) :=
  okV Fn sc__law_some rfl rfl fun cdv A outer s H E hr => by
    have nd := sc__law_some.nd
    exact (vss_cons (vs_par rfl nd (va_cons (ve_bty (b_list) mz_list (by first | rfl | decide +kernel) (va_cons ve_var va_nil)) (va_cons (ve_lst vu_nil) va_nil)))
    (vss_cons (vs_for rfl (vi_range1 ve_var mz_range) (vg_name nd) (vss_one (vs_expr (ve_mut PySem.F.plainAttrs_list PySem.F.slot_list_append PySem.F.type_list_append m_append (vu_cons (ve_mut PySem.F.plainAttrs_list PySem.F.slot_list_pop PySem.F.type_list_pop m_popAt (vu_cons (ve_call G__law_take (hr.mono (by decide)) m__law_take k__law_take b__law_take (va_cons ve_var (va_cons (ve_blt (b_len) mz_len (by first | rfl | decide +kernel) (va_cons ve_var va_nil)) va_nil))) vu_nil)) vu_nil)))))
    (vss_one (vs_ret ve_var))))
theorem sc_are_coins : FnScope ["value", "one", "face", "count"] ["value"] (defScope s_are_coins) := ⟨rfl, rfl, rfl, by decide +kernel, rfl, by decide +kernel, by decide +kernel⟩
theorem ok_are_coins {P : Program} {w : World} {K : PySem.W.Frag} {mg : Str → Option Value} {base : Heap} {f : Addr} {fd : FuncData} (Fn : Fun K "are_coins" "are_coins" s_are_coins f fd)
    (mz_isinstance : mg "isinstance" = none)
    (mz_tuple : mg "tuple" = none)
    (mz_len : mg "len" = none)
    (mz_all : mg "all" = none)
    {t_MOST_FACES : Tok} (g_MOST_FACES : mg "MOST_FACES" = some (.int 12 t_MOST_FACES))
    {t_MOST_FACE : Tok} (g_MOST_FACE : mg "MOST_FACE" = some (.int 10000 t_MOST_FACE))
    {a_are_ints : Addr} {d_are_ints : FuncData} (G_are_ints : FnOk P w K mg base CX0 2 a_are_ints d_are_ints ["value", "low", "high"] (spV K φ_are_ints)) (m_are_ints : mg "are_ints" = some (.ref a_are_ints)) (k_are_ints : PySem.W.keepIn K (.ref a_are_ints) = true) (b_are_ints : Binds K d_are_ints ["value", "low", "high"] [])
    {a_is_rising : Addr} {d_is_rising : FuncData} (G_is_rising : FnOk P w K mg base CX0 1 a_is_rising d_is_rising ["some"] (spV K φ_is_rising)) (m_is_rising : mg "is_rising" = some (.ref a_is_rising)) (k_is_rising : PySem.W.keepIn K (.ref a_is_rising) = true) (b_is_rising : Binds K d_is_rising ["some"] []) :
    FnOk P w K mg base CX0 3 f fd ["value"] (spV K φ_are_coins) :=
  okV Fn sc_are_coins rfl rfl fun cdv A outer s H E hr => by
    have nd := sc_are_coins.nd
    exact (vss_cons (vs_if (vt_w (vw_or (vt_not (vt_val (ve_isi ve_var mz_isinstance mz_tuple (by first | rfl | decide +kernel)))) (vw_or1 (vt_cmp o_gt (ve_blt (b_len) mz_len (by first | rfl | decide +kernel) (va_cons ve_var va_nil)) (ve_gint g_MOST_FACES))))) (vss_one (vs_ret ve_bl)) vss_nil)
    (vss_cons (vs_if (vt_not (vt_val (ve_blt (b_all rfl) mz_all (by first | rfl | decide +kernel) (va_cons (ve_lc [("one", 1)] rfl nd (vi_any ve_var) (blkOk_by (by kernel_rfl)) (fun _ _ _ _ _ => (vg_name nd)) (fun _ _ _ _ _ => vts_nil) (fun _ _ _ _ _ => (ve_and (ve_call G_are_ints (hr.mono (by decide)) m_are_ints k_are_ints b_are_ints (va_cons ve_var (va_cons ve_int (va_cons (ve_gint g_MOST_FACE) va_nil)))) (ve_one (ve_cmp (o_eq (hu64 hr)) (ve_blt (b_len) mz_len (by first | rfl | decide +kernel) (va_cons ve_var va_nil)) ve_int))))) va_nil)))) (vss_one (vs_ret ve_bl)) vss_nil)
    (vss_one (vs_ret (ve_call G_is_rising (hr.mono (by decide)) m_is_rising k_is_rising b_is_rising (va_cons (ve_lc [("face", 2), ("count", 3)] rfl nd (vi_any ve_var) (blkOk_by (by kernel_rfl)) (fun _ _ _ _ _ => (vg_tup rfl (vgs_cons (vg_name nd) (vgs_cons (vg_name nd) vgs_nil)))) (fun _ _ _ _ _ => vts_nil) (fun _ _ _ _ _ => ve_var)) va_nil))))))
theorem sc_are_amounts : FnScope ["value"] ["value"] (defScope s_are_amounts) := ⟨rfl, rfl, rfl, by decide +kernel, rfl, by decide +kernel, by decide +kernel⟩
theorem ok_are_amounts {P : Program} {w : World} {K : PySem.W.Frag} {mg : Str → Option Value} {base : Heap} {f : Addr} {fd : FuncData} (Fn : Fun K "are_amounts" "are_amounts" s_are_amounts f fd)
    (mz_len : mg "len" = none)
    {t_MOST_AMOUNT_short : Tok} (g_MOST_AMOUNT_short : mg "MOST_AMOUNT_short" = some (.int 2000 t_MOST_AMOUNT_short))
    {t_MOST_ASKED : Tok} (g_MOST_ASKED : mg "MOST_ASKED" = some (.int 12 t_MOST_ASKED))
    {a_are_ints : Addr} {d_are_ints : FuncData} (G_are_ints : FnOk P w K mg base CX0 2 a_are_ints d_are_ints ["value", "low", "high"] (spV K φ_are_ints)) (m_are_ints : mg "are_ints" = some (.ref a_are_ints)) (k_are_ints : PySem.W.keepIn K (.ref a_are_ints) = true) (b_are_ints : Binds K d_are_ints ["value", "low", "high"] []) :
    FnOk P w K mg base CX0 3 f fd ["value"] (spV K φ_are_amounts) :=
  okV Fn sc_are_amounts rfl rfl fun cdv A outer s H E hr => by
    have nd := sc_are_amounts.nd
    exact (vss_one (vs_ret (ve_and (ve_call G_are_ints (hr.mono (by decide)) m_are_ints k_are_ints b_are_ints (va_cons ve_var (va_cons ve_int (va_cons (ve_gint g_MOST_AMOUNT_short) va_nil)))) (ve_one (ve_cmp o_le (ve_blt (b_len) mz_len (by first | rfl | decide +kernel) (va_cons ve_var va_nil)) (ve_gint g_MOST_ASKED))))))
theorem sc_look_at_coins : FnScope ["coins"] ["coins"] (defScope s_look_at_coins) := ⟨rfl, rfl, rfl, by decide +kernel, rfl, by decide +kernel, by decide +kernel⟩
theorem ok_look_at_coins {P : Program} {w : World} {K : PySem.W.Frag} {mg : Str → Option Value} {base : Heap} {f : Addr} {fd : FuncData} (Fn : Fun K "look_at_coins" "look_at_coins" s_look_at_coins f fd)
    {a_are_coins : Addr} {d_are_coins : FuncData} (G_are_coins : FnOk P w K mg base CX0 3 a_are_coins d_are_coins ["value"] (spV K φ_are_coins)) (m_are_coins : mg "are_coins" = some (.ref a_are_coins)) (k_are_coins : PySem.W.keepIn K (.ref a_are_coins) = true) (b_are_coins : Binds K d_are_coins ["value"] []) :
    FnOk P w K mg base CX0 4 f fd ["coins"] (spV K φ_look_at_coins) :=
  okV Fn sc_look_at_coins rfl rfl fun cdv A outer s H E hr => by
    have nd := sc_look_at_coins.nd
    exact (vss_one (vs_if (vt_not (vt_val (ve_call G_are_coins (hr.mono (by decide)) m_are_coins k_are_coins b_are_coins (va_cons ve_var va_nil)))) (vss_one vs_never) vss_nil))
theorem sc_look_at_paying : FnScope ["coins", "amount"] ["coins", "amount"] (defScope s_look_at_paying) := ⟨rfl, rfl, rfl, by decide +kernel, rfl, by decide +kernel, by decide +kernel⟩
theorem ok_look_at_paying {P : Program} {w : World} {K : PySem.W.Frag} {mg : Str → Option Value} {base : Heap} {f : Addr} {fd : FuncData} (Fn : Fun K "look_at_paying" "look_at_paying" s_look_at_paying f fd)
    {t_MOST_AMOUNT_coins : Tok} (g_MOST_AMOUNT_coins : mg "MOST_AMOUNT_coins" = some (.int 10000 t_MOST_AMOUNT_coins))
    {a_look_at_coins : Addr} {d_look_at_coins : FuncData} (G_look_at_coins : FnOk P w K mg base CX0 4 a_look_at_coins d_look_at_coins ["coins"] (spV K φ_look_at_coins)) (m_look_at_coins : mg "look_at_coins" = some (.ref a_look_at_coins)) (k_look_at_coins : PySem.W.keepIn K (.ref a_look_at_coins) = true) (b_look_at_coins : Binds K d_look_at_coins ["coins"] [])
    {a_is_int : Addr} {d_is_int : FuncData} (G_is_int : FnOk P w K mg base CX0 1 a_is_int d_is_int ["value", "low", "high"] (spV K φ_is_int)) (m_is_int : mg "is_int" = some (.ref a_is_int)) (k_is_int : PySem.W.keepIn K (.ref a_is_int) = true) (b_is_int : Binds K d_is_int ["value", "low", "high"] []) :
    FnOk P w K mg base CX0 5 f fd ["coins", "amount"] (spV K φ_look_at_paying) :=
  okV Fn sc_look_at_paying rfl rfl fun cdv A outer s H E hr => by
    have nd := sc_look_at_paying.nd
    exact (vss_cons (vs_expr (ve_call G_look_at_coins (hr.mono (by decide)) m_look_at_coins k_look_at_coins b_look_at_coins (va_cons ve_var va_nil)))
    (vss_one (vs_if (vt_not (vt_val (ve_call G_is_int (hr.mono (by decide)) m_is_int k_is_int b_is_int (va_cons ve_var (va_cons ve_int (va_cons (ve_gint g_MOST_AMOUNT_coins) va_nil)))))) (vss_one vs_never) vss_nil)))
theorem sc_worth_of : FnScope ["coins"] ["coins"] (defScope s_worth_of) := ⟨rfl, rfl, rfl, by decide +kernel, rfl, by decide +kernel, by decide +kernel⟩
theorem ok_worth_of {P : Program} {w : World} {K : PySem.W.Frag} {mg : Str → Option Value} {base : Heap} {f : Addr} {fd : FuncData} (Fn : Fun K "worth_of" "worth_of" s_worth_of f fd)
    {a_look_at_coins : Addr} {d_look_at_coins : FuncData} (G_look_at_coins : FnOk P w K mg base CX0 4 a_look_at_coins d_look_at_coins ["coins"] (spV K φ_look_at_coins)) (m_look_at_coins : mg "look_at_coins" = some (.ref a_look_at_coins)) (k_look_at_coins : PySem.W.keepIn K (.ref a_look_at_coins) = true) (b_look_at_coins : Binds K d_look_at_coins ["coins"] [])
    {a_told_sum : Addr} {d_told_sum : FuncData} (G_told_sum : FnOk P w K mg base CX0 1 a_told_sum d_told_sum ["coins"] (spV K φ_told_sum)) (m_told_sum : mg "told_sum" = some (.ref a_told_sum)) (k_told_sum : PySem.W.keepIn K (.ref a_told_sum) = true) (b_told_sum : Binds K d_told_sum ["coins"] []) :
    FnOk P w K mg base CX0 5 f fd ["coins"] (spV K φ_worth_of) :=
  okV Fn sc_worth_of rfl rfl fun cdv A outer s H E hr => by
    have nd := sc_worth_of.nd
    exact (vss_cons (vs_expr (ve_call G_look_at_coins (hr.mono (by decide)) m_look_at_coins k_look_at_coins b_look_at_coins (va_cons ve_var va_nil)))
    (vss_one (vs_ret (ve_call G_told_sum (hr.mono (by decide)) m_told_sum k_told_sum b_told_sum (va_cons ve_var va_nil)))))
theorem sc_together : FnScope ["one", "other", "found", "face", "count", "made"] ["one", "other"] (defScope s_together) := ⟨rfl, rfl, rfl, by decide +kernel, rfl, by decide +kernel, by decide +kernel⟩
theorem ok_together {P : Program} {w : World} {K : PySem.W.Frag} {mg : Str → Option Value} {base : Heap} {f : Addr} {fd : FuncData} (Fn : Fun K "together" "together" s_together f fd)
    (mz_dict : mg "dict" = none)
    (mz_sorted : mg "sorted" = none)
    (mz_tuple : mg "tuple" = none)
    {a_look_at_coins : Addr} {d_look_at_coins : FuncData} (G_look_at_coins : FnOk P w K mg base CX0 4 a_look_at_coins d_look_at_coins ["coins"] (spV K φ_look_at_coins)) (m_look_at_coins : mg "look_at_coins" = some (.ref a_look_at_coins)) (k_look_at_coins : PySem.W.keepIn K (.ref a_look_at_coins) = true) (b_look_at_coins : Binds K d_look_at_coins ["coins"] [])
    {a_are_coins : Addr} {d_are_coins : FuncData} (G_are_coins : FnOk P w K mg base CX0 3 a_are_coins d_are_coins ["value"] (spV K φ_are_coins)) (m_are_coins : mg "are_coins" = some (.ref a_are_coins)) (k_are_coins : PySem.W.keepIn K (.ref a_are_coins) = true) (b_are_coins : Binds K d_are_coins ["value"] []) :
    FnOk P w K mg base CX0 5 f fd ["one", "other"] (spV K φ_together) :=
  okV Fn sc_together rfl rfl fun cdv A outer s H E hr => by
    have nd := sc_together.nd
    exact (vss_cons (vs_expr (ve_call G_look_at_coins (hr.mono (by decide)) m_look_at_coins k_look_at_coins b_look_at_coins (va_cons ve_var va_nil)))
    (vss_cons (vs_expr (ve_call G_look_at_coins (hr.mono (by decide)) m_look_at_coins k_look_at_coins b_look_at_coins (va_cons ve_var va_nil)))
    (vss_cons (vs_set nd (ve_bty ((b_dict rfl)) mz_dict (by first | rfl | decide +kernel) (va_cons ve_var va_nil)))
    (vss_cons (vs_for rfl (vi_any ve_var) (vg_tup rfl (vgs_cons (vg_name nd) (vgs_cons (vg_name nd) vgs_nil))) (vss_one (vs_store (hu1 hr) (ve_op o_add (ve_dget (hu1 hr) ve_var ve_var ve_int) ve_var) ve_var)))
    (vss_cons (vs_set nd (ve_bty (b_tuple) mz_tuple (by first | rfl | decide +kernel) (va_cons (ve_sortit rfl (hu64 hr) ve_var mz_sorted) va_nil)))
    (vss_cons (vs_if (vt_not (vt_val (ve_call G_are_coins (hr.mono (by decide)) m_are_coins k_are_coins b_are_coins (va_cons ve_var va_nil)))) (vss_one vs_never) vss_nil)
    (vss_one (vs_ret ve_var))))))))
theorem sc_without : FnScope ["coins", "some", "found", "face", "count"] ["coins", "some"] (defScope s_without) := ⟨rfl, rfl, rfl, by decide +kernel, rfl, by decide +kernel, by decide +kernel⟩
theorem ok_without {P : Program} {w : World} {K : PySem.W.Frag} {mg : Str → Option Value} {base : Heap} {f : Addr} {fd : FuncData} (Fn : Fun K "without" "without" s_without f fd)
    (mz_dict : mg "dict" = none)
    (mz_sorted : mg "sorted" = none)
    (mz_tuple : mg "tuple" = none)
    {a_look_at_coins : Addr} {d_look_at_coins : FuncData} (G_look_at_coins : FnOk P w K mg base CX0 4 a_look_at_coins d_look_at_coins ["coins"] (spV K φ_look_at_coins)) (m_look_at_coins : mg "look_at_coins" = some (.ref a_look_at_coins)) (k_look_at_coins : PySem.W.keepIn K (.ref a_look_at_coins) = true) (b_look_at_coins : Binds K d_look_at_coins ["coins"] []) :
    FnOk P w K mg base CX0 5 f fd ["coins", "some"] (spV K φ_without) :=
  okV Fn sc_without rfl rfl fun cdv A outer s H E hr => by
    have nd := sc_without.nd
    exact (vss_cons (vs_expr (ve_call G_look_at_coins (hr.mono (by decide)) m_look_at_coins k_look_at_coins b_look_at_coins (va_cons ve_var va_nil)))
    (vss_cons (vs_expr (ve_call G_look_at_coins (hr.mono (by decide)) m_look_at_coins k_look_at_coins b_look_at_coins (va_cons ve_var va_nil)))
    (vss_cons (vs_set nd (ve_bty ((b_dict rfl)) mz_dict (by first | rfl | decide +kernel) (va_cons ve_var va_nil)))
    (vss_cons (vs_for rfl (vi_any ve_var) (vg_tup rfl (vgs_cons (vg_name nd) (vgs_cons (vg_name nd) vgs_nil))) (vss_cons (vs_if (vt_cmp o_lt (ve_dget (hu1 hr) ve_var ve_var ve_int) ve_var) (vss_one vs_never) vss_nil)
    (vss_one (vs_daug (hu1 hr) i_sub ve_var ve_var))))
    (vss_one (vs_ret (ve_bty (b_tuple) mz_tuple (by first | rfl | decide +kernel) (va_cons (ve_blt (b_sorted (hu64 hr)) mz_sorted (by first | rfl | decide +kernel) (va_cons (ve_lc [("face", 3), ("count", 4)] rfl nd (vi_items ve_var) (blkOk_by (by kernel_rfl)) (fun _ _ _ _ _ => (vg_tup rfl (vgs_cons (vg_name nd) (vgs_cons (vg_name nd) vgs_nil)))) (fun _ _ _ _ _ => (vts_one (vt_cmp o_gt ve_var ve_int))) (fun _ _ _ _ _ => (ve_tup (vu_cons ve_var (vu_cons ve_var vu_nil))))) va_nil)) va_nil))))))))
theorem sc_look_at_amounts : FnScope ["coins", "amounts"] ["coins", "amounts"] (defScope s_look_at_amounts) := ⟨rfl, rfl, rfl, by decide +kernel, rfl, by decide +kernel, by decide +kernel⟩
theorem ok_look_at_amounts {P : Program} {w : World} {K : PySem.W.Frag} {mg : Str → Option Value} {base : Heap} {f : Addr} {fd : FuncData} (Fn : Fun K "look_at_amounts" "look_at_amounts" s_look_at_amounts f fd)
    {a_look_at_coins : Addr} {d_look_at_coins : FuncData} (G_look_at_coins : FnOk P w K mg base CX0 4 a_look_at_coins d_look_at_coins ["coins"] (spV K φ_look_at_coins)) (m_look_at_coins : mg "look_at_coins" = some (.ref a_look_at_coins)) (k_look_at_coins : PySem.W.keepIn K (.ref a_look_at_coins) = true) (b_look_at_coins : Binds K d_look_at_coins ["coins"] [])
    {a_are_amounts : Addr} {d_are_amounts : FuncData} (G_are_amounts : FnOk P w K mg base CX0 3 a_are_amounts d_are_amounts ["value"] (spV K φ_are_amounts)) (m_are_amounts : mg "are_amounts" = some (.ref a_are_amounts)) (k_are_amounts : PySem.W.keepIn K (.ref a_are_amounts) = true) (b_are_amounts : Binds K d_are_amounts ["value"] []) :
    FnOk P w K mg base CX0 5 f fd ["coins", "amounts"] (spV K φ_look_at_amounts) :=
  okV Fn sc_look_at_amounts rfl rfl fun cdv A outer s H E hr => by
    have nd := sc_look_at_amounts.nd
    exact (vss_cons (vs_expr (ve_call G_look_at_coins (hr.mono (by decide)) m_look_at_coins k_look_at_coins b_look_at_coins (va_cons ve_var va_nil)))
    (vss_one (vs_if (vt_not (vt_val (ve_call G_are_amounts (hr.mono (by decide)) m_are_amounts k_are_amounts b_are_amounts (va_cons ve_var va_nil)))) (vss_one vs_never) vss_nil)))
theorem sc_greatest_first : FnScope ["coins", "amount"] ["coins", "amount"] (defScope s_greatest_first) := ⟨rfl, rfl, rfl, by decide +kernel, rfl, by decide +kernel, by decide +kernel⟩
theorem ok_greatest_first {P : Program} {w : World} {K : PySem.W.Frag} {mg : Str → Option Value} {base : Heap} {f : Addr} {fd : FuncData} (Fn : Fun K "greatest_first" "greatest_first" s_greatest_first f fd)
    {a_look_at_paying : Addr} {d_look_at_paying : FuncData} (G_look_at_paying : FnOk P w K mg base CX0 5 a_look_at_paying d_look_at_paying ["coins", "amount"] (spV K φ_look_at_paying)) (m_look_at_paying : mg "look_at_paying" = some (.ref a_look_at_paying)) (k_look_at_paying : PySem.W.keepIn K (.ref a_look_at_paying) = true) (b_look_at_paying : Binds K d_look_at_paying ["coins", "amount"] [])
    {a_told_payment : Addr} {d_told_payment : FuncData} (G_told_payment : FnOk P w K mg base CX0 1 a_told_payment d_told_payment ["coins", "amount", "layers"] (spV K φ_told_payment)) (m_told_payment : mg "told_payment" = some (.ref a_told_payment)) (k_told_payment : PySem.W.keepIn K (.ref a_told_payment) = true) (b_told_payment : Binds K d_told_payment ["coins", "amount", "layers"] [])
    {a_told_layers : Addr} {d_told_layers : FuncData} (G_told_layers : FnOk P w K mg base CX0 1 a_told_layers d_told_layers ["coins", "most"] (spV K φ_told_layers)) (m_told_layers : mg "told_layers" = some (.ref a_told_layers)) (k_told_layers : PySem.W.keepIn K (.ref a_told_layers) = true) (b_told_layers : Binds K d_told_layers ["coins", "most"] []) :
    FnOk P w K mg base CX0 6 f fd ["coins", "amount"] (spV K φ_greatest_first) :=
  okV Fn sc_greatest_first rfl rfl fun cdv A outer s H E hr => by
    have nd := sc_greatest_first.nd
    exact (vss_cons (vs_expr (ve_call G_look_at_paying (hr.mono (by decide)) m_look_at_paying k_look_at_paying b_look_at_paying (va_cons ve_var (va_cons ve_var va_nil))))
    (vss_one (vs_ret (ve_call G_told_payment (hr.mono (by decide)) m_told_payment k_told_payment b_told_payment (va_cons ve_var (va_cons ve_var (va_cons (ve_call G_told_layers (hr.mono (by decide)) m_told_layers k_told_layers b_told_layers (va_cons ve_var (va_cons ve_var va_nil))) va_nil)))))))
theorem sc_look_at_asked : FnScope ["coins", "amounts"] ["coins", "amounts"] (defScope s_look_at_asked) := ⟨rfl, rfl, rfl, by decide +kernel, rfl, by decide +kernel, by decide +kernel⟩
theorem ok_look_at_asked {P : Program} {w : World} {K : PySem.W.Frag} {mg : Str → Option Value} {base : Heap} {f : Addr} {fd : FuncData} (Fn : Fun K "look_at_asked" "look_at_asked" s_look_at_asked f fd)
    {t_MOST_STATES : Tok} (g_MOST_STATES : mg "MOST_STATES" = some (.int 4000 t_MOST_STATES))
    {a_look_at_amounts : Addr} {d_look_at_amounts : FuncData} (G_look_at_amounts : FnOk P w K mg base CX0 5 a_look_at_amounts d_look_at_amounts ["coins", "amounts"] (spV K φ_look_at_amounts)) (m_look_at_amounts : mg "look_at_amounts" = some (.ref a_look_at_amounts)) (k_look_at_amounts : PySem.W.keepIn K (.ref a_look_at_amounts) = true) (b_look_at_amounts : Binds K d_look_at_amounts ["coins", "amounts"] [])
    {a_told_size : Addr} {d_told_size : FuncData} (G_told_size : FnOk P w K mg base CX0 1 a_told_size d_told_size ["coins"] (spV K φ_told_size)) (m_told_size : mg "told_size" = some (.ref a_told_size)) (k_told_size : PySem.W.keepIn K (.ref a_told_size) = true) (b_told_size : Binds K d_told_size ["coins"] []) :
    FnOk P w K mg base CX0 6 f fd ["coins", "amounts"] (spV K φ_look_at_asked) :=
  okV Fn sc_look_at_asked rfl rfl fun cdv A outer s H E hr => by
    have nd := sc_look_at_asked.nd
    exact (vss_cons (vs_expr (ve_call G_look_at_amounts (hr.mono (by decide)) m_look_at_amounts k_look_at_amounts b_look_at_amounts (va_cons ve_var (va_cons ve_var va_nil))))
    (vss_one (vs_if (vt_cmp o_gt (ve_call G_told_size (hr.mono (by decide)) m_told_size k_told_size b_told_size (va_cons ve_var va_nil)) (ve_gint g_MOST_STATES)) (vss_one vs_never) vss_nil)))
theorem sc_shows_pay_all : FnScope ["coins", "amounts", "value", "there", "payment", "amount", "face", "count"] ["coins", "amounts", "value"] (defScope s_shows_pay_all) := ⟨rfl, rfl, rfl, by decide +kernel, rfl, by decide +kernel, by decide +kernel⟩
theorem ok_shows_pay_all {P : Program} {w : World} {K : PySem.W.Frag} {mg : Str → Option Value} {base : Heap} {f : Addr} {fd : FuncData} (Fn : Fun K "shows_pay_all" "shows_pay_all" s_shows_pay_all f fd)
    (mz_isinstance : mg "isinstance" = none)
    (mz_tuple : mg "tuple" = none)
    (mz_len : mg "len" = none)
    (mz_dict : mg "dict" = none)
    (mz_zip : mg "zip" = none)
    {t_MOST_STATES : Tok} (g_MOST_STATES : mg "MOST_STATES" = some (.int 4000 t_MOST_STATES))
    {t_PAID : Tok} (g_PAID : mg "PAID" = some (.str "paid" t_PAID))
    {a_look_at_amounts : Addr} {d_look_at_amounts : FuncData} (G_look_at_amounts : FnOk P w K mg base CX0 5 a_look_at_amounts d_look_at_amounts ["coins", "amounts"] (spV K φ_look_at_amounts)) (m_look_at_amounts : mg "look_at_amounts" = some (.ref a_look_at_amounts)) (k_look_at_amounts : PySem.W.keepIn K (.ref a_look_at_amounts) = true) (b_look_at_amounts : Binds K d_look_at_amounts ["coins", "amounts"] [])
    {a_told_size : Addr} {d_told_size : FuncData} (G_told_size : FnOk P w K mg base CX0 1 a_told_size d_told_size ["coins"] (spV K φ_told_size)) (m_told_size : mg "told_size" = some (.ref a_told_size)) (k_told_size : PySem.W.keepIn K (.ref a_told_size) = true) (b_told_size : Binds K d_told_size ["coins"] [])
    {a_is_told : Addr} {d_is_told : FuncData} (G_is_told : FnOk P w K mg base CX0 1 a_is_told d_is_told ["value", "sizes"] (spV K φ_is_told)) (m_is_told : mg "is_told" = some (.ref a_is_told)) (k_is_told : PySem.W.keepIn K (.ref a_is_told) = true) (b_is_told : Binds K d_is_told ["value", "sizes"] [])
    {a_told_rows : Addr} {d_told_rows : FuncData} (G_told_rows : FnOk P w K mg base CX0 2 a_told_rows d_told_rows ["coins", "amounts"] (spV K φ_told_rows)) (m_told_rows : mg "told_rows" = some (.ref a_told_rows)) (k_told_rows : PySem.W.keepIn K (.ref a_told_rows) = true) (b_told_rows : Binds K d_told_rows ["coins", "amounts"] [])
    {a_are_coins : Addr} {d_are_coins : FuncData} (G_are_coins : FnOk P w K mg base CX0 3 a_are_coins d_are_coins ["value"] (spV K φ_are_coins)) (m_are_coins : mg "are_coins" = some (.ref a_are_coins)) (k_are_coins : PySem.W.keepIn K (.ref a_are_coins) = true) (b_are_coins : Binds K d_are_coins ["value"] [])
    {a_told_sum : Addr} {d_told_sum : FuncData} (G_told_sum : FnOk P w K mg base CX0 1 a_told_sum d_told_sum ["coins"] (spV K φ_told_sum)) (m_told_sum : mg "told_sum" = some (.ref a_told_sum)) (k_told_sum : PySem.W.keepIn K (.ref a_told_sum) = true) (b_told_sum : Binds K d_told_sum ["coins"] []) :
    FnOk P w K mg base CX0 6 f fd ["coins", "amounts", "value"] (spV K φ_shows_pay_all) :=
  okV Fn sc_shows_pay_all rfl rfl fun cdv A outer s H E hr => by
    have nd := sc_shows_pay_all.nd
    exact (vss_cons (vs_expr (ve_call G_look_at_amounts (hr.mono (by decide)) m_look_at_amounts k_look_at_amounts b_look_at_amounts (va_cons ve_var (va_cons ve_var va_nil))))
    (vss_cons (vs_if (vt_w (vw_or (vt_cmp o_gt (ve_call G_told_size (hr.mono (by decide)) m_told_size k_told_size b_told_size (va_cons ve_var va_nil)) (ve_gint g_MOST_STATES)) (vw_or (vt_not (vt_val (ve_call G_is_told (hr.mono (by decide)) m_is_told k_is_told b_is_told (va_cons ve_var (va_cons (ve_tup (vu_cons ve_int vu_nil)) va_nil))))) (vw_or1 (vt_cmp (o_ne (hu64 hr)) (ve_idx (hu65 hr) ve_var ve_int) (ve_gstr g_PAID)))))) (vss_one (vs_ret ve_bl)) vss_nil)
    (vss_cons (vs_if (vt_w (vw_or (vt_not (vt_val (ve_isi (ve_idx (hu65 hr) ve_var ve_int) mz_isinstance mz_tuple (by first | rfl | decide +kernel)))) (vw_or1 (vt_cmp o_gt (ve_blt (b_len) mz_len (by first | rfl | decide +kernel) (va_cons (ve_idx (hu65 hr) ve_var ve_int) va_nil)) (ve_blt (b_len) mz_len (by first | rfl | decide +kernel) (va_cons ve_var va_nil)))))) (vss_one (vs_ret ve_bl)) vss_nil)
    (vss_cons (vs_if (vt_cmp (o_ne (hu64 hr)) (ve_blt (b_len) mz_len (by first | rfl | decide +kernel) (va_cons (ve_idx (hu65 hr) ve_var ve_int) va_nil)) (ve_op o_sub (ve_blt (b_len) mz_len (by first | rfl | decide +kernel) (va_cons (ve_call G_told_rows (hr.mono (by decide)) m_told_rows k_told_rows b_told_rows (va_cons ve_var (va_cons ve_var va_nil))) va_nil)) ve_int)) (vss_one (vs_ret ve_bl)) vss_nil)
    (vss_cons (vs_set nd (ve_bty ((b_dict rfl)) mz_dict (by first | rfl | decide +kernel) (va_cons ve_var va_nil)))
    (vss_cons (vs_for rfl (vi_zip mz_zip (vu_cons (ve_idx (hu65 hr) ve_var ve_int) (vu_cons ve_var vu_nil))) (vg_tup rfl (vgs_cons (vg_name nd) (vgs_cons (vg_name nd) vgs_nil))) (vss_cons (vs_if (vt_w (vw_or (vt_not (vt_val (ve_call G_are_coins (hr.mono (by decide)) m_are_coins k_are_coins b_are_coins (va_cons ve_var va_nil)))) (vw_or1 (vt_cmp (o_ne (hu64 hr)) (ve_call G_told_sum (hr.mono (by decide)) m_told_sum k_told_sum b_told_sum (va_cons ve_var va_nil)) ve_var)))) (vss_one (vs_ret ve_bl)) vss_nil)
    (vss_one (vs_for rfl (vi_any ve_var) (vg_tup rfl (vgs_cons (vg_name nd) (vgs_cons (vg_name nd) vgs_nil))) (vss_cons (vs_store (hu1 hr) (ve_op o_sub (ve_dget (hu1 hr) ve_var ve_var ve_int) ve_var) ve_var)
    (vss_one (vs_if (vt_cmp o_lt (ve_idx (hu65 hr) ve_var ve_var) ve_int) (vss_one (vs_ret ve_bl)) vss_nil)))))))
    (vss_one (vs_ret ve_bl))))))))
theorem sc_pay_all : FnScope ["coins", "amounts"] ["coins", "amounts"] (defScope s_pay_all) := ⟨rfl, rfl, rfl, by decide +kernel, rfl, by decide +kernel, by decide +kernel⟩
theorem ok_pay_all {P : Program} {w : World} {K : PySem.W.Frag} {mg : Str → Option Value} {base : Heap} {f : Addr} {fd : FuncData} (Fn : Fun K "pay_all" "pay_all" s_pay_all f fd)
    (mz_tuple : mg "tuple" = none)
    {t_PAID : Tok} (g_PAID : mg "PAID" = some (.str "paid" t_PAID))
    {a_look_at_asked : Addr} {d_look_at_asked : FuncData} (G_look_at_asked : FnOk P w K mg base CX0 6 a_look_at_asked d_look_at_asked ["coins", "amounts"] (spV K φ_look_at_asked)) (m_look_at_asked : mg "look_at_asked" = some (.ref a_look_at_asked)) (k_look_at_asked : PySem.W.keepIn K (.ref a_look_at_asked) = true) (b_look_at_asked : Binds K d_look_at_asked ["coins", "amounts"] [])
    {a_told_payments : Addr} {d_told_payments : FuncData} (G_told_payments : FnOk P w K mg base CX0 1 a_told_payments d_told_payments ["coins", "rows"] (spV K φ_told_payments)) (m_told_payments : mg "told_payments" = some (.ref a_told_payments)) (k_told_payments : PySem.W.keepIn K (.ref a_told_payments) = true) (b_told_payments : Binds K d_told_payments ["coins", "rows"] [])
    {a_told_rows : Addr} {d_told_rows : FuncData} (G_told_rows : FnOk P w K mg base CX0 2 a_told_rows d_told_rows ["coins", "amounts"] (spV K φ_told_rows)) (m_told_rows : mg "told_rows" = some (.ref a_told_rows)) (k_told_rows : PySem.W.keepIn K (.ref a_told_rows) = true) (b_told_rows : Binds K d_told_rows ["coins", "amounts"] []) :
    FnOk P w K mg base CX0 7 f fd ["coins", "amounts"] (spV K φ_pay_all) :=
  okV Fn sc_pay_all rfl rfl fun cdv A outer s H E hr => by
    have nd := sc_pay_all.nd
    exact (vss_cons (vs_expr (ve_call G_look_at_asked (hr.mono (by decide)) m_look_at_asked k_look_at_asked b_look_at_asked (va_cons ve_var (va_cons ve_var va_nil))))
    (vss_one (vs_ret (ve_tup (vu_cons (ve_gstr g_PAID) (vu_cons (ve_bty (b_tuple) mz_tuple (by first | rfl | decide +kernel) (va_cons (ve_call G_told_payments (hr.mono (by decide)) m_told_payments k_told_payments b_told_payments (va_cons ve_var (va_cons (ve_call G_told_rows (hr.mono (by decide)) m_told_rows k_told_rows b_told_rows (va_cons ve_var (va_cons ve_var va_nil))) va_nil))) va_nil)) vu_nil))))))
theorem sc_how_many_paid : FnScope ["coins", "amounts"] ["coins", "amounts"] (defScope s_how_many_paid) := ⟨rfl, rfl, rfl, by decide +kernel, rfl, by decide +kernel, by decide +kernel⟩
theorem ok_how_many_paid {P : Program} {w : World} {K : PySem.W.Frag} {mg : Str → Option Value} {base : Heap} {f : Addr} {fd : FuncData} (Fn : Fun K "how_many_paid" "how_many_paid" s_how_many_paid f fd)
    (mz_len : mg "len" = none)
    {a_look_at_asked : Addr} {d_look_at_asked : FuncData} (G_look_at_asked : FnOk P w K mg base CX0 6 a_look_at_asked d_look_at_asked ["coins", "amounts"] (spV K φ_look_at_asked)) (m_look_at_asked : mg "look_at_asked" = some (.ref a_look_at_asked)) (k_look_at_asked : PySem.W.keepIn K (.ref a_look_at_asked) = true) (b_look_at_asked : Binds K d_look_at_asked ["coins", "amounts"] [])
    {a_told_rows : Addr} {d_told_rows : FuncData} (G_told_rows : FnOk P w K mg base CX0 2 a_told_rows d_told_rows ["coins", "amounts"] (spV K φ_told_rows)) (m_told_rows : mg "told_rows" = some (.ref a_told_rows)) (k_told_rows : PySem.W.keepIn K (.ref a_told_rows) = true) (b_told_rows : Binds K d_told_rows ["coins", "amounts"] []) :
    FnOk P w K mg base CX0 7 f fd ["coins", "amounts"] (spV K φ_how_many_paid) :=
  okV Fn sc_how_many_paid rfl rfl fun cdv A outer s H E hr => by
    have nd := sc_how_many_paid.nd
    exact (vss_cons (vs_expr (ve_call G_look_at_asked (hr.mono (by decide)) m_look_at_asked k_look_at_asked b_look_at_asked (va_cons ve_var (va_cons ve_var va_nil))))
    (vss_one (vs_ret (ve_op o_sub (ve_blt (b_len) mz_len (by first | rfl | decide +kernel) (va_cons (ve_call G_told_rows (hr.mono (by decide)) m_told_rows k_told_rows b_told_rows (va_cons ve_var (va_cons ve_var va_nil))) va_nil)) ve_int))))
theorem sc_by_greatest_first : FnScope ["coins", "amounts", "found", "left", "amount", "payment"] ["coins", "amounts"] (defScope s_by_greatest_first) := ⟨rfl, rfl, rfl, by decide +kernel, rfl, by decide +kernel, by decide +kernel⟩
theorem ok_by_greatest_first {P : Program} {w : World} {K : PySem.W.Frag} {mg : Str → Option Value} {base : Heap} {f : Addr} {fd : FuncData} (Fn : Fun K "by_greatest_first" "by_greatest_first" s_by_greatest_first f fd)
    (mz_tuple : mg "tuple" = none)
    {a_look_at_amounts : Addr} {d_look_at_amounts : FuncData} (G_look_at_amounts : FnOk P w K mg base CX0 5 a_look_at_amounts d_look_at_amounts ["coins", "amounts"] (spV K φ_look_at_amounts)) (m_look_at_amounts : mg "look_at_amounts" = some (.ref a_look_at_amounts)) (k_look_at_amounts : PySem.W.keepIn K (.ref a_look_at_amounts) = true) (b_look_at_amounts : Binds K d_look_at_amounts ["coins", "amounts"] [])
    {a_greatest_first : Addr} {d_greatest_first : FuncData} (G_greatest_first : FnOk P w K mg base CX0 6 a_greatest_first d_greatest_first ["coins", "amount"] (spV K φ_greatest_first)) (m_greatest_first : mg "greatest_first" = some (.ref a_greatest_first)) (k_greatest_first : PySem.W.keepIn K (.ref a_greatest_first) = true) (b_greatest_first : Binds K d_greatest_first ["coins", "amount"] [])
    {a_without : Addr} {d_without : FuncData} (G_without : FnOk P w K mg base CX0 5 a_without d_without ["coins", "some"] (spV K φ_without)) (m_without : mg "without" = some (.ref a_without)) (k_without : PySem.W.keepIn K (.ref a_without) = true) (b_without : Binds K d_without ["coins", "some"] []) :
    FnOk P w K mg base CX0 7 f fd ["coins", "amounts"] (spV K φ_by_greatest_first) :=
  okV Fn sc_by_greatest_first rfl rfl fun cdv A outer s H E hr => by
    have nd := sc_by_greatest_first.nd
    exact (vss_cons (vs_expr (ve_call G_look_at_amounts (hr.mono (by decide)) m_look_at_amounts k_look_at_amounts b_look_at_amounts (va_cons ve_var (va_cons ve_var va_nil))))
    (vss_cons (vs_par rfl nd (va_cons (ve_lst vu_nil) (va_cons ve_var va_nil)))
    (vss_cons (vs_for rfl (vi_any ve_var) (vg_name nd) (vss_cons (vs_set nd (ve_call G_greatest_first (hr.mono (by decide)) m_greatest_first k_greatest_first b_greatest_first (va_cons ve_var (va_cons ve_var va_nil))))
    (vss_cons (vs_if (vt_cmp o_is ve_var ve_non) (vss_one vs_break) vss_nil)
    (vss_cons (vs_expr (ve_mut PySem.F.plainAttrs_list PySem.F.slot_list_append PySem.F.type_list_append m_append (vu_cons ve_var vu_nil)))
    (vss_one (vs_set nd (ve_call G_without (hr.mono (by decide)) m_without k_without b_without (va_cons ve_var (va_cons ve_var va_nil)))))))))
    (vss_one (vs_ret (ve_tup (vu_cons (ve_bty (b_tuple) mz_tuple (by first | rfl | decide +kernel) (va_cons ve_var va_nil)) (vu_cons ve_var vu_nil))))))))
theorem sc_all_left : FnScope ["coins", "amounts", "rows"] ["coins", "amounts"] (defScope s_all_left) := ⟨rfl, rfl, rfl, by decide +kernel, rfl, by decide +kernel, by decide +kernel⟩
theorem ok_all_left {P : Program} {w : World} {K : PySem.W.Frag} {mg : Str → Option Value} {base : Heap} {f : Addr} {fd : FuncData} (Fn : Fun K "all_left" "all_left" s_all_left f fd)
    (mz_len : mg "len" = none)
    {a_look_at_asked : Addr} {d_look_at_asked : FuncData} (G_look_at_asked : FnOk P w K mg base CX0 6 a_look_at_asked d_look_at_asked ["coins", "amounts"] (spV K φ_look_at_asked)) (m_look_at_asked : mg "look_at_asked" = some (.ref a_look_at_asked)) (k_look_at_asked : PySem.W.keepIn K (.ref a_look_at_asked) = true) (b_look_at_asked : Binds K d_look_at_asked ["coins", "amounts"] [])
    {a_told_rows : Addr} {d_told_rows : FuncData} (G_told_rows : FnOk P w K mg base CX0 2 a_told_rows d_told_rows ["coins", "amounts"] (spV K φ_told_rows)) (m_told_rows : mg "told_rows" = some (.ref a_told_rows)) (k_told_rows : PySem.W.keepIn K (.ref a_told_rows) = true) (b_told_rows : Binds K d_told_rows ["coins", "amounts"] []) :
    FnOk P w K mg base CX0 7 f fd ["coins", "amounts"] (spV K φ_all_left) :=
  okV Fn sc_all_left rfl rfl fun cdv A outer s H E hr => by
    have nd := sc_all_left.nd
    exact (vss_cons (vs_expr (ve_call G_look_at_asked (hr.mono (by decide)) m_look_at_asked k_look_at_asked b_look_at_asked (va_cons ve_var (va_cons ve_var va_nil))))
    (vss_cons (vs_set nd (ve_call G_told_rows (hr.mono (by decide)) m_told_rows k_told_rows b_told_rows (va_cons ve_var (va_cons ve_var va_nil))))
    (vss_one (vs_ret (ve_ifE (vt_cmp (o_eq (hu64 hr)) (ve_blt (b_len) mz_len (by first | rfl | decide +kernel) (va_cons ve_var va_nil)) (ve_op o_add (ve_blt (b_len) mz_len (by first | rfl | decide +kernel) (va_cons ve_var va_nil)) ve_int)) (ve_bltD b_lenD mz_len (by first | rfl | decide +kernel) (ve_idx (hu65 hr) ve_var (ve_neg ve_int))) ve_int)))))
theorem sc_lots_of : FnScope ["coins"] ["coins"] (defScope s_lots_of) := ⟨rfl, rfl, rfl, by decide +kernel, rfl, by decide +kernel, by decide +kernel⟩
theorem ok_lots_of {P : Program} {w : World} {K : PySem.W.Frag} {mg : Str → Option Value} {base : Heap} {f : Addr} {fd : FuncData} (Fn : Fun K "lots_of" "lots_of" s_lots_of f fd)
    {a_look_at_asked : Addr} {d_look_at_asked : FuncData} (G_look_at_asked : FnOk P w K mg base CX0 6 a_look_at_asked d_look_at_asked ["coins", "amounts"] (spV K φ_look_at_asked)) (m_look_at_asked : mg "look_at_asked" = some (.ref a_look_at_asked)) (k_look_at_asked : PySem.W.keepIn K (.ref a_look_at_asked) = true) (b_look_at_asked : Binds K d_look_at_asked ["coins", "amounts"] [])
    {a_told_size : Addr} {d_told_size : FuncData} (G_told_size : FnOk P w K mg base CX0 1 a_told_size d_told_size ["coins"] (spV K φ_told_size)) (m_told_size : mg "told_size" = some (.ref a_told_size)) (k_told_size : PySem.W.keepIn K (.ref a_told_size) = true) (b_told_size : Binds K d_told_size ["coins"] []) :
    FnOk P w K mg base CX0 7 f fd ["coins"] (spV K φ_lots_of) :=
  okV Fn sc_lots_of rfl rfl fun cdv A outer s H E hr => by
    have nd := sc_lots_of.nd
    exact (vss_cons (vs_expr (ve_call G_look_at_asked (hr.mono (by decide)) m_look_at_asked k_look_at_asked b_look_at_asked (va_cons ve_var (va_cons (ve_tup vu_nil) va_nil))))
    (vss_one (vs_ret (ve_call G_told_size (hr.mono (by decide)) m_told_size k_told_size b_told_size (va_cons ve_var va_nil)))))
theorem sc_lacking_for : FnScope ["coins", "face", "amounts", "more", "found", "made", "one", "many"] ["coins", "face", "amounts"] (defScope s_lacking_for) := ⟨rfl, rfl, rfl, by decide +kernel, rfl, by decide +kernel, by decide +kernel⟩
theorem ok_lacking_for {P : Program} {w : World} {K : PySem.W.Frag} {mg : Str → Option Value} {base : Heap} {f : Addr} {fd : FuncData} (Fn : Fun K "lacking_for" "lacking_for" s_lacking_for f fd)
    (mz_range : mg "range" = none)
    (mz_dict : mg "dict" = none)
    (mz_sorted : mg "sorted" = none)
    (mz_tuple : mg "tuple" = none)
    (mz_len : mg "len" = none)
    {t_MOST_AMOUNT_short : Tok} (g_MOST_AMOUNT_short : mg "MOST_AMOUNT_short" = some (.int 2000 t_MOST_AMOUNT_short))
    {a_look_at_coins : Addr} {d_look_at_coins : FuncData} (G_look_at_coins : FnOk P w K mg base CX0 4 a_look_at_coins d_look_at_coins ["coins"] (spV K φ_look_at_coins)) (m_look_at_coins : mg "look_at_coins" = some (.ref a_look_at_coins)) (k_look_at_coins : PySem.W.keepIn K (.ref a_look_at_coins) = true) (b_look_at_coins : Binds K d_look_at_coins ["coins"] [])
    {a_is_int : Addr} {d_is_int : FuncData} (G_is_int : FnOk P w K mg base CX0 1 a_is_int d_is_int ["value", "low", "high"] (spV K φ_is_int)) (m_is_int : mg "is_int" = some (.ref a_is_int)) (k_is_int : PySem.W.keepIn K (.ref a_is_int) = true) (b_is_int : Binds K d_is_int ["value", "low", "high"] [])
    {a_look_at_asked : Addr} {d_look_at_asked : FuncData} (G_look_at_asked : FnOk P w K mg base CX0 6 a_look_at_asked d_look_at_asked ["coins", "amounts"] (spV K φ_look_at_asked)) (m_look_at_asked : mg "look_at_asked" = some (.ref a_look_at_asked)) (k_look_at_asked : PySem.W.keepIn K (.ref a_look_at_asked) = true) (b_look_at_asked : Binds K d_look_at_asked ["coins", "amounts"] [])
    {a_told_rows : Addr} {d_told_rows : FuncData} (G_told_rows : FnOk P w K mg base CX0 2 a_told_rows d_told_rows ["coins", "amounts"] (spV K φ_told_rows)) (m_told_rows : mg "told_rows" = some (.ref a_told_rows)) (k_told_rows : PySem.W.keepIn K (.ref a_told_rows) = true) (b_told_rows : Binds K d_told_rows ["coins", "amounts"] []) :
    FnOk P w K mg base CX0 7 f fd ["coins", "face", "amounts"] (spV K φ_lacking_for) :=
  okV Fn sc_lacking_for rfl rfl fun cdv A outer s H E hr => by
    have nd := sc_lacking_for.nd
    exact (vss_cons (vs_expr (ve_call G_look_at_coins (hr.mono (by decide)) m_look_at_coins k_look_at_coins b_look_at_coins (va_cons ve_var va_nil)))
    (vss_cons (vs_if (vt_not (vt_val (ve_call G_is_int (hr.mono (by decide)) m_is_int k_is_int b_is_int (va_cons ve_var (va_cons ve_int (va_cons (ve_gint g_MOST_AMOUNT_short) va_nil)))))) (vss_one vs_never) vss_nil)
    (vss_cons (vs_expr (ve_call G_look_at_asked (hr.mono (by decide)) m_look_at_asked k_look_at_asked b_look_at_asked (va_cons ve_var (va_cons ve_var va_nil))))
    (vss_cons (vs_for rfl (vi_range1 ve_int mz_range) (vg_name nd) (vss_cons (vs_set nd (ve_bty ((b_dict rfl)) mz_dict (by first | rfl | decide +kernel) (va_cons ve_var va_nil)))
    (vss_cons (vs_store (hu1 hr) (ve_op o_add (ve_dget (hu1 hr) ve_var ve_var ve_int) ve_var) ve_var)
    (vss_cons (vs_set nd (ve_bty (b_tuple) mz_tuple (by first | rfl | decide +kernel) (va_cons (ve_blt (b_sorted (hu64 hr)) mz_sorted (by first | rfl | decide +kernel) (va_cons (ve_lc [("one", 6), ("many", 7)] rfl nd (vi_items ve_var) (blkOk_by (by kernel_rfl)) (fun _ _ _ _ _ => (vg_tup rfl (vgs_cons (vg_name nd) (vgs_cons (vg_name nd) vgs_nil)))) (fun _ _ _ _ _ => (vts_one (vt_cmp o_gt ve_var ve_int))) (fun _ _ _ _ _ => (ve_tup (vu_cons ve_var (vu_cons ve_var vu_nil))))) va_nil)) va_nil)))
    (vss_cons (vs_expr (ve_call G_look_at_asked (hr.mono (by decide)) m_look_at_asked k_look_at_asked b_look_at_asked (va_cons ve_var (va_cons ve_var va_nil))))
    (vss_one (vs_if (vt_cmp (o_eq (hu64 hr)) (ve_blt (b_len) mz_len (by first | rfl | decide +kernel) (va_cons (ve_call G_told_rows (hr.mono (by decide)) m_told_rows k_told_rows b_told_rows (va_cons ve_var (va_cons ve_var va_nil))) va_nil)) (ve_op o_add (ve_blt (b_len) mz_len (by first | rfl | decide +kernel) (va_cons ve_var va_nil)) ve_int)) (vss_one (vs_ret ve_var)) vss_nil)))))))
    (vss_one (vs_ret ve_non))))))
theorem sc__law_made : FnScope ["pot", "faces", "payments", "coins", "turn", "payment", "more", "at", "face"] ["pot"] (defScope s__law_made) := ⟨rfl, rfl, rfl, by decide +kernel, rfl, by decide +kernel, by decide +kernel⟩
theorem ok__law_made {P : Program} {w : World} {K : PySem.W.Frag} {mg : Str → Option Value} {base : Heap} {f : Addr} {fd : FuncData} (Fn : Fun K "_law_made" "_law_made" s__law_made f fd)
    (mz_range : mg "range" = none)
    (mz_int : mg "int" = none)
    (mz_sorted : mg "sorted" = none)
    (mz_set : mg "set" = none)
    (mz_tuple : mg "tuple" = none)
    {a__law_take : Addr} {d__law_take : FuncData} (G__law_take : FnOk P w K mg base CX0 1 a__law_take d__law_take ["pot", "upto"] (spV K φ__law_take)) (m__law_take : mg "_law_take" = some (.ref a__law_take)) (k__law_take : PySem.W.keepIn K (.ref a__law_take) = true) (b__law_take : Binds K d__law_take ["pot", "upto"] [])
    {a_together : Addr} {d_together : FuncData} (G_together : FnOk P w K mg base CX0 5 a_together d_together ["one", "other"] (spV K φ_together)) (m_together : mg "together" = some (.ref a_together)) (k_together : PySem.W.keepIn K (.ref a_together) = true) (b_together : Binds K d_together ["one", "other"] [])
    {a_lots_of : Addr} {d_lots_of : FuncData} (G_lots_of : FnOk P w K mg base CX0 7 a_lots_of d_lots_of ["coins"] (spV K φ_lots_of)) (m_lots_of : mg "lots_of" = some (.ref a_lots_of)) (k_lots_of : PySem.W.keepIn K (.ref a_lots_of) = true) (b_lots_of : Binds K d_lots_of ["coins"] []) :
    FnOk P w K mg base CX0 8 f fd ["pot"] (spV K φ__law_made) :=
  okV Fn sc__law_made rfl rfl fun cdv A outer s H E hr => by
    have nd := sc__law_made.nd
    exact (vss_cons (vs_set nd (ve_sortset rfl mz_sorted mz_set (va_cons (ve_lc [("at", 7)] rfl nd (vi_range1 ve_int mz_range) (blkOk_by (by kernel_rfl)) (fun _ _ _ _ _ => (vg_name nd)) (fun _ _ _ _ _ => vts_nil) (fun _ _ _ _ _ => (ve_bty (b_int) mz_int (by first | rfl | decide +kernel) (va_cons (ve_op o_add ve_int (ve_call G__law_take (hr.mono (by decide)) m__law_take k__law_take b__law_take (va_cons ve_var (va_cons ve_int va_nil)))) va_nil)))) va_nil)))
    (vss_cons (vs_par rfl nd (va_cons (ve_lst vu_nil) (va_cons (ve_tup vu_nil) va_nil)))
    (vss_cons (vs_for rfl (vi_range1 (ve_op o_add ve_int (ve_call G__law_take (hr.mono (by decide)) m__law_take k__law_take b__law_take (va_cons ve_var (va_cons ve_int va_nil)))) mz_range) (vg_name nd) (vss_cons (vs_set nd (ve_bty (b_tuple) mz_tuple (by first | rfl | decide +kernel) (va_cons (ve_lc [("face", 8)] rfl nd (vi_any ve_var) (blkOk_by (by kernel_rfl)) (fun _ _ _ _ _ => (vg_name nd)) (fun _ _ _ _ _ => (vts_one (vt_cmp (o_eq (hu64 hr)) (ve_call G__law_take (hr.mono (by decide)) m__law_take k__law_take b__law_take (va_cons ve_var (va_cons ve_int va_nil))) ve_int))) (fun _ _ _ _ _ => (ve_tup (vu_cons ve_var (vu_cons (ve_bty (b_int) mz_int (by first | rfl | decide +kernel) (va_cons (ve_op o_add ve_int (ve_call G__law_take (hr.mono (by decide)) m__law_take k__law_take b__law_take (va_cons ve_var (va_cons ve_int va_nil)))) va_nil)) vu_nil))))) va_nil)))
    (vss_cons (vs_set nd (ve_call G_together (hr.mono (by decide)) m_together k_together b_together (va_cons ve_var (va_cons ve_var va_nil))))
    (vss_one (vs_if (vt_cmp o_le (ve_call G_lots_of (hr.mono (by decide)) m_lots_of k_lots_of b_lots_of (va_cons ve_var va_nil)) ve_int) (vss_one (vs_par rfl nd (va_cons (ve_op o_add ve_var (ve_lst (vu_cons ve_var vu_nil))) (va_cons ve_var va_nil)))) vss_nil)))))
    (vss_one (vs_ret (ve_tup (vu_cons ve_var (vu_cons ve_var vu_nil))))))))
theorem sc__law_right : FnScope ["pot", "lap", "payments", "coins", "mixed", "amounts", "told", "first", "left", "face", "short", "more", "payment"] ["pot"] (defScope s__law_right) := ⟨rfl, rfl, rfl, by decide +kernel, rfl, by decide +kernel, by decide +kernel⟩
theorem ok__law_right {P : Program} {w : World} {K : PySem.W.Frag} {mg : Str → Option Value} {base : Heap} {f : Addr} {fd : FuncData} (Fn : Fun K "_law_right" "_law_right" s__law_right f fd)
    (mz_range : mg "range" = none)
    (mz_len : mg "len" = none)
    (mz_tuple : mg "tuple" = none)
    (mz_sum : mg "sum" = none)
    (mz_list : mg "list" = none)
    {a__law_made : Addr} {d__law_made : FuncData} (G__law_made : FnOk P w K mg base CX0 8 a__law_made d__law_made ["pot"] (spV K φ__law_made)) (m__law_made : mg "_law_made" = some (.ref a__law_made)) (k__law_made : PySem.W.keepIn K (.ref a__law_made) = true) (b__law_made : Binds K d__law_made ["pot"] [])
    {a__law_some : Addr} {d__law_some : FuncData} (G__law_some : FnOk P w K mg base CX0 2 a__law_some d__law_some ["pot", "pool", "many"] (spV K φ__law_some)) (m__law_some : mg "_law_some" = some (.ref a__law_some)) (k__law_some : PySem.W.keepIn K (.ref a__law_some) = true) (b__law_some : Binds K d__law_some ["pot", "pool", "many"] [])
    {a__law_sum : Addr} {d__law_sum : FuncData} (G__law_sum : FnOk P w K mg base CX0 1 a__law_sum d__law_sum ["coins"] (spV K φ__law_sum)) (m__law_sum : mg "_law_sum" = some (.ref a__law_sum)) (k__law_sum : PySem.W.keepIn K (.ref a__law_sum) = true) (b__law_sum : Binds K d__law_sum ["coins"] [])
    {a_shows_pay_all : Addr} {d_shows_pay_all : FuncData} (G_shows_pay_all : FnOk P w K mg base CX0 6 a_shows_pay_all d_shows_pay_all ["coins", "amounts", "value"] (spV K φ_shows_pay_all)) (m_shows_pay_all : mg "shows_pay_all" = some (.ref a_shows_pay_all)) (k_shows_pay_all : PySem.W.keepIn K (.ref a_shows_pay_all) = true) (b_shows_pay_all : Binds K d_shows_pay_all ["coins", "amounts", "value"] [])
    {a_pay_all : Addr} {d_pay_all : FuncData} (G_pay_all : FnOk P w K mg base CX0 7 a_pay_all d_pay_all ["coins", "amounts"] (spV K φ_pay_all)) (m_pay_all : mg "pay_all" = some (.ref a_pay_all)) (k_pay_all : PySem.W.keepIn K (.ref a_pay_all) = true) (b_pay_all : Binds K d_pay_all ["coins", "amounts"] [])
    {a_all_left : Addr} {d_all_left : FuncData} (G_all_left : FnOk P w K mg base CX0 7 a_all_left d_all_left ["coins", "amounts"] (spV K φ_all_left)) (m_all_left : mg "all_left" = some (.ref a_all_left)) (k_all_left : PySem.W.keepIn K (.ref a_all_left) = true) (b_all_left : Binds K d_all_left ["coins", "amounts"] [])
    {a_worth_of : Addr} {d_worth_of : FuncData} (G_worth_of : FnOk P w K mg base CX0 5 a_worth_of d_worth_of ["coins"] (spV K φ_worth_of)) (m_worth_of : mg "worth_of" = some (.ref a_worth_of)) (k_worth_of : PySem.W.keepIn K (.ref a_worth_of) = true) (b_worth_of : Binds K d_worth_of ["coins"] [])
    {a_by_greatest_first : Addr} {d_by_greatest_first : FuncData} (G_by_greatest_first : FnOk P w K mg base CX0 7 a_by_greatest_first d_by_greatest_first ["coins", "amounts"] (spV K φ_by_greatest_first)) (m_by_greatest_first : mg "by_greatest_first" = some (.ref a_by_greatest_first)) (k_by_greatest_first : PySem.W.keepIn K (.ref a_by_greatest_first) = true) (b_by_greatest_first : Binds K d_by_greatest_first ["coins", "amounts"] [])
    {a__law_of : Addr} {d__law_of : FuncData} (G__law_of : FnOk P w K mg base CX0 2 a__law_of d__law_of ["pot", "some"] (spV K φ__law_of)) (m__law_of : mg "_law_of" = some (.ref a__law_of)) (k__law_of : PySem.W.keepIn K (.ref a__law_of) = true) (b__law_of : Binds K d__law_of ["pot", "some"] [])
    {a_without : Addr} {d_without : FuncData} (G_without : FnOk P w K mg base CX0 5 a_without d_without ["coins", "some"] (spV K φ_without)) (m_without : mg "without" = some (.ref a_without)) (k_without : PySem.W.keepIn K (.ref a_without) = true) (b_without : Binds K d_without ["coins", "some"] [])
    {a_how_many_paid : Addr} {d_how_many_paid : FuncData} (G_how_many_paid : FnOk P w K mg base CX0 7 a_how_many_paid d_how_many_paid ["coins", "amounts"] (spV K φ_how_many_paid)) (m_how_many_paid : mg "how_many_paid" = some (.ref a_how_many_paid)) (k_how_many_paid : PySem.W.keepIn K (.ref a_how_many_paid) = true) (b_how_many_paid : Binds K d_how_many_paid ["coins", "amounts"] [])
    {a_lacking_for : Addr} {d_lacking_for : FuncData} (G_lacking_for : FnOk P w K mg base CX0 7 a_lacking_for d_lacking_for ["coins", "face", "amounts"] (spV K φ_lacking_for)) (m_lacking_for : mg "lacking_for" = some (.ref a_lacking_for)) (k_lacking_for : PySem.W.keepIn K (.ref a_lacking_for) = true) (b_lacking_for : Binds K d_lacking_for ["coins", "face", "amounts"] [])
    {a_together : Addr} {d_together : FuncData} (G_together : FnOk P w K mg base CX0 5 a_together d_together ["one", "other"] (spV K φ_together)) (m_together : mg "together" = some (.ref a_together)) (k_together : PySem.W.keepIn K (.ref a_together) = true) (b_together : Binds K d_together ["one", "other"] [])
    {a_lots_of : Addr} {d_lots_of : FuncData} (G_lots_of : FnOk P w K mg base CX0 7 a_lots_of d_lots_of ["coins"] (spV K φ_lots_of)) (m_lots_of : mg "lots_of" = some (.ref a_lots_of)) (k_lots_of : PySem.W.keepIn K (.ref a_lots_of) = true) (b_lots_of : Binds K d_lots_of ["coins"] []) :
    FnOk P w K mg base CX0 9 f fd ["pot"] (spV K φ__law_right) :=
  okV Fn sc__law_right rfl rfl fun cdv A outer s H E hr => by
    have nd := sc__law_right.nd
    exact (vss_cons (vs_for rfl (vi_range1 ve_int mz_range) (vg_name nd) (vss_cons (vs_asg (ve_call G__law_made (hr.mono (by decide)) m__law_made k__law_made b__law_made (va_cons ve_var va_nil)) (vg_tup rfl (vgs_cons (vg_name nd) (vgs_cons (vg_name nd) vgs_nil))))
    (vss_cons (vs_set nd (ve_call G__law_some (hr.mono (by decide)) m__law_some k__law_some b__law_some (va_cons ve_var (va_cons ve_var (va_cons (ve_blt (b_len) mz_len (by first | rfl | decide +kernel) (va_cons ve_var va_nil)) va_nil)))))
    (vss_cons (vs_set nd (ve_bty (b_tuple) mz_tuple (by first | rfl | decide +kernel) (va_cons (ve_lc [("payment", 12)] rfl nd (vi_any ve_var) (blkOk_by (by kernel_rfl)) (fun _ _ _ _ _ => (vg_name nd)) (fun _ _ _ _ _ => vts_nil) (fun _ _ _ _ _ => (ve_call G__law_sum (hr.mono (by decide)) m__law_sum k__law_sum b__law_sum (va_cons ve_var va_nil)))) va_nil)))
    (vss_cons (vs_if (vt_cmp o_isnt (ve_call G_shows_pay_all (hr.mono (by decide)) m_shows_pay_all k_shows_pay_all b_shows_pay_all (va_cons ve_var (va_cons ve_var (va_cons (ve_tup (vu_cons ve_str (vu_cons (ve_bty (b_tuple) mz_tuple (by first | rfl | decide +kernel) (va_cons ve_var va_nil)) vu_nil))) va_nil)))) ve_bl) (vss_one (vs_ret ve_bl)) vss_nil)
    (vss_cons (vs_set nd (ve_call G_pay_all (hr.mono (by decide)) m_pay_all k_pay_all b_pay_all (va_cons ve_var (va_cons ve_var va_nil))))
    (vss_cons (vs_if (vt_w (vw_or (vt_cmp (o_ne (hu64 hr)) (ve_blt (b_len) mz_len (by first | rfl | decide +kernel) (va_cons (ve_idx (hu65 hr) ve_var ve_int) va_nil)) (ve_blt (b_len) mz_len (by first | rfl | decide +kernel) (va_cons ve_var va_nil))) (vw_or1 (vt_cmp o_isnt (ve_call G_shows_pay_all (hr.mono (by decide)) m_shows_pay_all k_shows_pay_all b_shows_pay_all (va_cons ve_var (va_cons ve_var (va_cons ve_var va_nil)))) ve_bl)))) (vss_one (vs_ret ve_bl)) vss_nil)
    (vss_cons (vs_if (vt_w (vw_or (vt_cmp (o_ne (hu64 hr)) (ve_call G_all_left (hr.mono (by decide)) m_all_left k_all_left b_all_left (va_cons ve_var (va_cons ve_var va_nil))) ve_int) (vw_or1 (vt_cmp (o_ne (hu64 hr)) (ve_call G_worth_of (hr.mono (by decide)) m_worth_of k_worth_of b_worth_of (va_cons ve_var va_nil)) (ve_blt (b_sum rfl) mz_sum (by first | rfl | decide +kernel) (va_cons ve_var va_nil)))))) (vss_one (vs_ret ve_bl)) vss_nil)
    (vss_cons (vs_asg (ve_call G_by_greatest_first (hr.mono (by decide)) m_by_greatest_first k_by_greatest_first b_by_greatest_first (va_cons ve_var (va_cons ve_var va_nil))) (vg_tup rfl (vgs_cons (vg_name nd) (vgs_cons (vg_name nd) vgs_nil))))
    (vss_cons (vs_if (vt_w (vw_or (vt_cmp o_gt (ve_blt (b_len) mz_len (by first | rfl | decide +kernel) (va_cons ve_var va_nil)) (ve_blt (b_len) mz_len (by first | rfl | decide +kernel) (va_cons ve_var va_nil))) (vw_or1 (vt_cmp (o_ne (hu64 hr)) (ve_call G_worth_of (hr.mono (by decide)) m_worth_of k_worth_of b_worth_of (va_cons ve_var va_nil)) (ve_op o_sub (ve_call G_worth_of (hr.mono (by decide)) m_worth_of k_worth_of b_worth_of (va_cons ve_var va_nil)) (ve_blt (b_sum rfl) mz_sum (by first | rfl | decide +kernel) (va_cons (ve_slice ve_var vo_none (vo_some (ve_blt (b_len) mz_len (by first | rfl | decide +kernel) (va_cons ve_var va_nil)))) va_nil))))))) (vss_one (vs_ret ve_bl)) vss_nil)
    (vss_cons (vs_if (vt_cmp (o_eq (hu64 hr)) ve_var (ve_tup vu_nil)) (vss_one vs_continue) vss_nil)
    (vss_cons (vs_set nd (ve_idx (hu65 hr) (ve_call G__law_of (hr.mono (by decide)) m__law_of k__law_of b__law_of (va_cons ve_var (va_cons (ve_bty (b_list) mz_list (by first | rfl | decide +kernel) (va_cons ve_var va_nil)) va_nil))) ve_int))
    (vss_cons (vs_set nd (ve_call G_without (hr.mono (by decide)) m_without k_without b_without (va_cons ve_var (va_cons (ve_tup (vu_cons (ve_tup (vu_cons ve_var (vu_cons ve_int vu_nil))) vu_nil)) va_nil))))
    (vss_cons (vs_if (vt_w (vw_or (vt_cmp o_ge (ve_call G_how_many_paid (hr.mono (by decide)) m_how_many_paid k_how_many_paid b_how_many_paid (va_cons ve_var (va_cons ve_var va_nil))) (ve_blt (b_len) mz_len (by first | rfl | decide +kernel) (va_cons ve_var va_nil))) (vw_or1 (vt_cmp o_isnt (ve_call G_shows_pay_all (hr.mono (by decide)) m_shows_pay_all k_shows_pay_all b_shows_pay_all (va_cons ve_var (va_cons ve_var (va_cons ve_var va_nil)))) ve_bl)))) (vss_one (vs_ret ve_bl)) vss_nil)
    (vss_cons (vs_if (vt_cmp (o_ne (hu64 hr)) (ve_call G_lacking_for (hr.mono (by decide)) m_lacking_for k_lacking_for b_lacking_for (va_cons ve_var (va_cons ve_var (va_cons ve_var va_nil)))) ve_int) (vss_one (vs_ret ve_bl)) vss_nil)
    (vss_cons (vs_set nd (ve_call G_together (hr.mono (by decide)) m_together k_together b_together (va_cons ve_var (va_cons (ve_tup (vu_cons (ve_tup (vu_cons ve_var (vu_cons ve_int vu_nil))) vu_nil)) va_nil))))
    (vss_cons (vs_if (vt_w (vw_and (vt_cmp o_le (ve_call G_lots_of (hr.mono (by decide)) m_lots_of k_lots_of b_lots_of (va_cons ve_var va_nil)) ve_int) (vw_and1 (vt_cmp (o_ne (hu64 hr)) (ve_call G_how_many_paid (hr.mono (by decide)) m_how_many_paid k_how_many_paid b_how_many_paid (va_cons ve_var (va_cons ve_var va_nil))) (ve_blt (b_len) mz_len (by first | rfl | decide +kernel) (va_cons ve_var va_nil)))))) (vss_one (vs_ret ve_bl)) vss_nil)
    (vss_one (vs_if (vt_w (vw_and (vt_cmp o_le (ve_call G_lots_of (hr.mono (by decide)) m_lots_of k_lots_of b_lots_of (va_cons ve_var va_nil)) ve_int) (vw_and1 (vt_cmp o_lt (ve_blt (b_len) mz_len (by first | rfl | decide +kernel) (va_cons ve_var va_nil)) ve_int)))) (vss_one (vs_if (vt_cmp (o_ne (hu64 hr)) (ve_call G_how_many_paid (hr.mono (by decide)) m_how_many_paid k_how_many_paid b_how_many_paid (va_cons ve_var (va_cons (ve_op o_add ve_var (ve_tup (vu_cons ve_var vu_nil))) va_nil))) (ve_op o_add (ve_blt (b_len) mz_len (by first | rfl | decide +kernel) (va_cons ve_var va_nil)) ve_int)) (vss_one (vs_ret ve_bl)) vss_nil)) vss_nil)))))))))))))))))))
    (vss_one (vs_ret ve_bl)))
theorem sc_law : FnScope ["script", "place"] ["script"] (defScope s_law) := ⟨rfl, rfl, rfl, by decide +kernel, rfl, by decide +kernel, by decide +kernel⟩
theorem ok_law {P : Program} {w : World} {K : PySem.W.Frag} {mg : Str → Option Value} {base : Heap} {f : Addr} {fd : FuncData} (Fn : Fun K "law" "law" s_law f fd)
    (mz_all : mg "all" = none)
    {a__law_cells : Addr} {d__law_cells : FuncData} (G__law_cells : FnOk P w K mg base CX0 1 a__law_cells d__law_cells ["script", "most"] (spV K φ__law_cells)) (m__law_cells : mg "_law_cells" = some (.ref a__law_cells)) (k__law_cells : PySem.W.keepIn K (.ref a__law_cells) = true) (b__law_cells : Binds K d__law_cells ["script", "most"] [])
    {a__law_right : Addr} {d__law_right : FuncData} (G__law_right : FnOk P w K mg base CX0 9 a__law_right d__law_right ["pot"] (spV K φ__law_right)) (m__law_right : mg "_law_right" = some (.ref a__law_right)) (k__law_right : PySem.W.keepIn K (.ref a__law_right) = true) (b__law_right : Binds K d__law_right ["pot"] [])
    {a__law_pot : Addr} {d__law_pot : FuncData} (G__law_pot : FnOk P w K mg base CX0 1 a__law_pot d__law_pot ["script", "place"] (spV K φ__law_pot)) (m__law_pot : mg "_law_pot" = some (.ref a__law_pot)) (k__law_pot : PySem.W.keepIn K (.ref a__law_pot) = true) (b__law_pot : Binds K d__law_pot ["script", "place"] []) :
    FnOk P w K mg base CX0 10 f fd ["script"] (spV K φ_law) :=
  okV Fn sc_law rfl rfl fun cdv A outer s H E hr => by
    have nd := sc_law.nd
    exact (vss_one (vs_ret (ve_blt (b_all rfl) mz_all (by first | rfl | decide +kernel) (va_cons (ve_lc [("place", 1)] rfl nd (vi_any (ve_call G__law_cells (hr.mono (by decide)) m__law_cells k__law_cells b__law_cells (va_cons ve_var (va_cons ve_int va_nil)))) (blkOk_by (by kernel_rfl)) (fun _ _ _ _ _ => (vg_name nd)) (fun _ _ _ _ _ => vts_nil) (fun _ _ _ _ _ => (ve_call G__law_right (hr.mono (by decide)) m__law_right k__law_right b__law_right (va_cons (ve_call G__law_pot (hr.mono (by decide)) m__law_pot k__law_pot b__law_pot (va_cons ve_var (va_cons ve_var va_nil))) va_nil)))) va_nil))))
end K47
namespace K47
open PySem PySem.Spec PyProof.Rows L2 VL
theorem all_mk {l : PySem.W.OpenLaw} {w : World} {K : PySem.W.Frag} {h : Heap} {mg : Str → Option Value} {fa : Addr} (X : K.In h) (G : h.Ns mainGlobals mg) (hfa : mg "law" = some (.ref fa))
    {a_is_int : Addr} {od_is_int an_is_int : Option Addr} {sl_is_int : Array (Option Value)} {oc_is_int kV_is_int dc_is_int pm_is_int cd_is_int ct_is_int : Value}
    {a_is_told : Addr} {od_is_told an_is_told : Option Addr} {sl_is_told : Array (Option Value)} {oc_is_told kV_is_told dc_is_told pm_is_told cd_is_told ct_is_told : Value}
    {a_is_rising : Addr} {od_is_rising an_is_rising : Option Addr} {sl_is_rising : Array (Option Value)} {oc_is_rising kV_is_rising dc_is_rising pm_is_rising cd_is_rising ct_is_rising : Value}
    {a_told_sum : Addr} {od_told_sum an_told_sum : Option Addr} {sl_told_sum : Array (Option Value)} {oc_told_sum kV_told_sum dc_told_sum pm_told_sum cd_told_sum ct_told_sum : Value}
    {a_told_layers : Addr} {od_told_layers an_told_layers : Option Addr} {sl_told_layers : Array (Option Value)} {oc_told_layers kV_told_layers dc_told_layers pm_told_layers cd_told_layers ct_told_layers : Value}
    {a_told_payment : Addr} {od_told_payment an_told_payment : Option Addr} {sl_told_payment : Array (Option Value)} {oc_told_payment kV_told_payment dc_told_payment pm_told_payment cd_told_payment ct_told_payment : Value}
    {a_told_size : Addr} {od_told_size an_told_size : Option Addr} {sl_told_size : Array (Option Value)} {oc_told_size kV_told_size dc_told_size pm_told_size cd_told_size ct_told_size : Value}
    {a_told_moves : Addr} {od_told_moves an_told_moves : Option Addr} {sl_told_moves : Array (Option Value)} {oc_told_moves kV_told_moves dc_told_moves pm_told_moves cd_told_moves ct_told_moves : Value}
    {a_told_payments : Addr} {od_told_payments an_told_payments : Option Addr} {sl_told_payments : Array (Option Value)} {oc_told_payments kV_told_payments dc_told_payments pm_told_payments cd_told_payments ct_told_payments : Value}
    {a__law_pot : Addr} {od__law_pot an__law_pot : Option Addr} {sl__law_pot : Array (Option Value)} {oc__law_pot kV__law_pot dc__law_pot pm__law_pot cd__law_pot ct__law_pot : Value}
    {a__law_take : Addr} {od__law_take an__law_take : Option Addr} {sl__law_take : Array (Option Value)} {oc__law_take kV__law_take dc__law_take pm__law_take cd__law_take ct__law_take : Value}
    {a__law_cells : Addr} {od__law_cells an__law_cells : Option Addr} {sl__law_cells : Array (Option Value)} {oc__law_cells kV__law_cells dc__law_cells pm__law_cells cd__law_cells ct__law_cells : Value}
    {a__law_sum : Addr} {od__law_sum an__law_sum : Option Addr} {sl__law_sum : Array (Option Value)} {oc__law_sum kV__law_sum dc__law_sum pm__law_sum cd__law_sum ct__law_sum : Value}
    {a_are_ints : Addr} {od_are_ints an_are_ints : Option Addr} {sl_are_ints : Array (Option Value)} {oc_are_ints kV_are_ints dc_are_ints pm_are_ints cd_are_ints ct_are_ints : Value}
    {a_told_rows : Addr} {od_told_rows an_told_rows : Option Addr} {sl_told_rows : Array (Option Value)} {oc_told_rows kV_told_rows dc_told_rows pm_told_rows cd_told_rows ct_told_rows : Value}
    {a__law_of : Addr} {od__law_of an__law_of : Option Addr} {sl__law_of : Array (Option Value)} {oc__law_of kV__law_of dc__law_of pm__law_of cd__law_of ct__law_of : Value}
    {a__law_some : Addr} {od__law_some an__law_some : Option Addr} {sl__law_some : Array (Option Value)} {oc__law_some kV__law_some dc__law_some pm__law_some cd__law_some ct__law_some : Value}
    {a_are_coins : Addr} {od_are_coins an_are_coins : Option Addr} {sl_are_coins : Array (Option Value)} {oc_are_coins kV_are_coins dc_are_coins pm_are_coins cd_are_coins ct_are_coins : Value}
    {a_are_amounts : Addr} {od_are_amounts an_are_amounts : Option Addr} {sl_are_amounts : Array (Option Value)} {oc_are_amounts kV_are_amounts dc_are_amounts pm_are_amounts cd_are_amounts ct_are_amounts : Value}
    {a_look_at_coins : Addr} {od_look_at_coins an_look_at_coins : Option Addr} {sl_look_at_coins : Array (Option Value)} {oc_look_at_coins kV_look_at_coins dc_look_at_coins pm_look_at_coins cd_look_at_coins ct_look_at_coins : Value}
    {a_look_at_paying : Addr} {od_look_at_paying an_look_at_paying : Option Addr} {sl_look_at_paying : Array (Option Value)} {oc_look_at_paying kV_look_at_paying dc_look_at_paying pm_look_at_paying cd_look_at_paying ct_look_at_paying : Value}
    {a_worth_of : Addr} {od_worth_of an_worth_of : Option Addr} {sl_worth_of : Array (Option Value)} {oc_worth_of kV_worth_of dc_worth_of pm_worth_of cd_worth_of ct_worth_of : Value}
    {a_together : Addr} {od_together an_together : Option Addr} {sl_together : Array (Option Value)} {oc_together kV_together dc_together pm_together cd_together ct_together : Value}
    {a_without : Addr} {od_without an_without : Option Addr} {sl_without : Array (Option Value)} {oc_without kV_without dc_without pm_without cd_without ct_without : Value}
    {a_look_at_amounts : Addr} {od_look_at_amounts an_look_at_amounts : Option Addr} {sl_look_at_amounts : Array (Option Value)} {oc_look_at_amounts kV_look_at_amounts dc_look_at_amounts pm_look_at_amounts cd_look_at_amounts ct_look_at_amounts : Value}
    {a_greatest_first : Addr} {od_greatest_first an_greatest_first : Option Addr} {sl_greatest_first : Array (Option Value)} {oc_greatest_first kV_greatest_first dc_greatest_first pm_greatest_first cd_greatest_first ct_greatest_first : Value}
    {a_look_at_asked : Addr} {od_look_at_asked an_look_at_asked : Option Addr} {sl_look_at_asked : Array (Option Value)} {oc_look_at_asked kV_look_at_asked dc_look_at_asked pm_look_at_asked cd_look_at_asked ct_look_at_asked : Value}
    {a_shows_pay_all : Addr} {od_shows_pay_all an_shows_pay_all : Option Addr} {sl_shows_pay_all : Array (Option Value)} {oc_shows_pay_all kV_shows_pay_all dc_shows_pay_all pm_shows_pay_all cd_shows_pay_all ct_shows_pay_all : Value}
    {a_pay_all : Addr} {od_pay_all an_pay_all : Option Addr} {sl_pay_all : Array (Option Value)} {oc_pay_all kV_pay_all dc_pay_all pm_pay_all cd_pay_all ct_pay_all : Value}
    {a_how_many_paid : Addr} {od_how_many_paid an_how_many_paid : Option Addr} {sl_how_many_paid : Array (Option Value)} {oc_how_many_paid kV_how_many_paid dc_how_many_paid pm_how_many_paid cd_how_many_paid ct_how_many_paid : Value}
    {a_by_greatest_first : Addr} {od_by_greatest_first an_by_greatest_first : Option Addr} {sl_by_greatest_first : Array (Option Value)} {oc_by_greatest_first kV_by_greatest_first dc_by_greatest_first pm_by_greatest_first cd_by_greatest_first ct_by_greatest_first : Value}
    {a_all_left : Addr} {od_all_left an_all_left : Option Addr} {sl_all_left : Array (Option Value)} {oc_all_left kV_all_left dc_all_left pm_all_left cd_all_left ct_all_left : Value}
    {a_lots_of : Addr} {od_lots_of an_lots_of : Option Addr} {sl_lots_of : Array (Option Value)} {oc_lots_of kV_lots_of dc_lots_of pm_lots_of cd_lots_of ct_lots_of : Value}
    {a_lacking_for : Addr} {od_lacking_for an_lacking_for : Option Addr} {sl_lacking_for : Array (Option Value)} {oc_lacking_for kV_lacking_for dc_lacking_for pm_lacking_for cd_lacking_for ct_lacking_for : Value}
    {a__law_made : Addr} {od__law_made an__law_made : Option Addr} {sl__law_made : Array (Option Value)} {oc__law_made kV__law_made dc__law_made pm__law_made cd__law_made ct__law_made : Value}
    {a__law_right : Addr} {od__law_right an__law_right : Option Addr} {sl__law_right : Array (Option Value)} {oc__law_right kV__law_right dc__law_right pm__law_right cd__law_right ct__law_right : Value}
    {a_law : Addr} {od_law an_law : Option Addr} {sl_law : Array (Option Value)} {oc_law kV_law dc_law pm_law cd_law ct_law : Value}
    {t_MOST_FACES : Tok} {t_MOST_FACE : Tok} {t_MOST_AMOUNT_short : Tok} {t_MOST_ASKED : Tok} {t_MOST_AMOUNT_coins : Tok} {t_MOST_STATES : Tok} {t_PAID : Tok}
    (ais_int : PySem.W.nsIn K mainGlobals "is_int" = some (some (.ref a_is_int)))
    (lis_int : K.lookup a_is_int = some ⟨oc_is_int, od_is_int, .func (PySem.W.fnOf "is_int" "is_int" (defArgs s_is_int) (defBody s_is_int) (defScope s_is_int) .none kV_is_int dc_is_int pm_is_int an_is_int cd_is_int ct_is_int), sl_is_int⟩)
    (cis_int : PySem.W.codeIn K cd_is_int "is_int" = true)
    (kis_int : PySem.W.keepIn K (.ref a_is_int) = true)
    (ais_told : PySem.W.nsIn K mainGlobals "is_told" = some (some (.ref a_is_told)))
    (lis_told : K.lookup a_is_told = some ⟨oc_is_told, od_is_told, .func (PySem.W.fnOf "is_told" "is_told" (defArgs s_is_told) (defBody s_is_told) (defScope s_is_told) .none kV_is_told dc_is_told pm_is_told an_is_told cd_is_told ct_is_told), sl_is_told⟩)
    (cis_told : PySem.W.codeIn K cd_is_told "is_told" = true)
    (kis_told : PySem.W.keepIn K (.ref a_is_told) = true)
    (ais_rising : PySem.W.nsIn K mainGlobals "is_rising" = some (some (.ref a_is_rising)))
    (lis_rising : K.lookup a_is_rising = some ⟨oc_is_rising, od_is_rising, .func (PySem.W.fnOf "is_rising" "is_rising" (defArgs s_is_rising) (defBody s_is_rising) (defScope s_is_rising) .none kV_is_rising dc_is_rising pm_is_rising an_is_rising cd_is_rising ct_is_rising), sl_is_rising⟩)
    (cis_rising : PySem.W.codeIn K cd_is_rising "is_rising" = true)
    (kis_rising : PySem.W.keepIn K (.ref a_is_rising) = true)
    (atold_sum : PySem.W.nsIn K mainGlobals "told_sum" = some (some (.ref a_told_sum)))
    (ltold_sum : K.lookup a_told_sum = some ⟨oc_told_sum, od_told_sum, .func (PySem.W.fnOf "told_sum" "told_sum" (defArgs s_told_sum) (defBody s_told_sum) (defScope s_told_sum) .none kV_told_sum dc_told_sum pm_told_sum an_told_sum cd_told_sum ct_told_sum), sl_told_sum⟩)
    (ctold_sum : PySem.W.codeIn K cd_told_sum "told_sum" = true)
    (ktold_sum : PySem.W.keepIn K (.ref a_told_sum) = true)
    (atold_layers : PySem.W.nsIn K mainGlobals "told_layers" = some (some (.ref a_told_layers)))
    (ltold_layers : K.lookup a_told_layers = some ⟨oc_told_layers, od_told_layers, .func (PySem.W.fnOf "told_layers" "told_layers" (defArgs s_told_layers) (defBody s_told_layers) (defScope s_told_layers) .none kV_told_layers dc_told_layers pm_told_layers an_told_layers cd_told_layers ct_told_layers), sl_told_layers⟩)
    (ctold_layers : PySem.W.codeIn K cd_told_layers "told_layers" = true)
    (ktold_layers : PySem.W.keepIn K (.ref a_told_layers) = true)
    (atold_payment : PySem.W.nsIn K mainGlobals "told_payment" = some (some (.ref a_told_payment)))
    (ltold_payment : K.lookup a_told_payment = some ⟨oc_told_payment, od_told_payment, .func (PySem.W.fnOf "told_payment" "told_payment" (defArgs s_told_payment) (defBody s_told_payment) (defScope s_told_payment) .none kV_told_payment dc_told_payment pm_told_payment an_told_payment cd_told_payment ct_told_payment), sl_told_payment⟩)
    (ctold_payment : PySem.W.codeIn K cd_told_payment "told_payment" = true)
    (ktold_payment : PySem.W.keepIn K (.ref a_told_payment) = true)
    (atold_size : PySem.W.nsIn K mainGlobals "told_size" = some (some (.ref a_told_size)))
    (ltold_size : K.lookup a_told_size = some ⟨oc_told_size, od_told_size, .func (PySem.W.fnOf "told_size" "told_size" (defArgs s_told_size) (defBody s_told_size) (defScope s_told_size) .none kV_told_size dc_told_size pm_told_size an_told_size cd_told_size ct_told_size), sl_told_size⟩)
    (ctold_size : PySem.W.codeIn K cd_told_size "told_size" = true)
    (ktold_size : PySem.W.keepIn K (.ref a_told_size) = true)
    (atold_moves : PySem.W.nsIn K mainGlobals "told_moves" = some (some (.ref a_told_moves)))
    (ltold_moves : K.lookup a_told_moves = some ⟨oc_told_moves, od_told_moves, .func (PySem.W.fnOf "told_moves" "told_moves" (defArgs s_told_moves) (defBody s_told_moves) (defScope s_told_moves) .none kV_told_moves dc_told_moves pm_told_moves an_told_moves cd_told_moves ct_told_moves), sl_told_moves⟩)
    (ctold_moves : PySem.W.codeIn K cd_told_moves "told_moves" = true)
    (ktold_moves : PySem.W.keepIn K (.ref a_told_moves) = true)
    (atold_payments : PySem.W.nsIn K mainGlobals "told_payments" = some (some (.ref a_told_payments)))
    (ltold_payments : K.lookup a_told_payments = some ⟨oc_told_payments, od_told_payments, .func (PySem.W.fnOf "told_payments" "told_payments" (defArgs s_told_payments) (defBody s_told_payments) (defScope s_told_payments) .none kV_told_payments dc_told_payments pm_told_payments an_told_payments cd_told_payments ct_told_payments), sl_told_payments⟩)
    (ctold_payments : PySem.W.codeIn K cd_told_payments "told_payments" = true)
    (ktold_payments : PySem.W.keepIn K (.ref a_told_payments) = true)
    (a_law_pot : PySem.W.nsIn K mainGlobals "_law_pot" = some (some (.ref a__law_pot)))
    (l_law_pot : K.lookup a__law_pot = some ⟨oc__law_pot, od__law_pot, .func (PySem.W.fnOf "_law_pot" "_law_pot" (defArgs s__law_pot) (defBody s__law_pot) (defScope s__law_pot) .none kV__law_pot dc__law_pot pm__law_pot an__law_pot cd__law_pot ct__law_pot), sl__law_pot⟩)
    (c_law_pot : PySem.W.codeIn K cd__law_pot "_law_pot" = true)
    (k_law_pot : PySem.W.keepIn K (.ref a__law_pot) = true)
    (a_law_take : PySem.W.nsIn K mainGlobals "_law_take" = some (some (.ref a__law_take)))
    (l_law_take : K.lookup a__law_take = some ⟨oc__law_take, od__law_take, .func (PySem.W.fnOf "_law_take" "_law_take" (defArgs s__law_take) (defBody s__law_take) (defScope s__law_take) .none kV__law_take dc__law_take pm__law_take an__law_take cd__law_take ct__law_take), sl__law_take⟩)
    (c_law_take : PySem.W.codeIn K cd__law_take "_law_take" = true)
    (k_law_take : PySem.W.keepIn K (.ref a__law_take) = true)
    (a_law_cells : PySem.W.nsIn K mainGlobals "_law_cells" = some (some (.ref a__law_cells)))
    (l_law_cells : K.lookup a__law_cells = some ⟨oc__law_cells, od__law_cells, .func (PySem.W.fnOf "_law_cells" "_law_cells" (defArgs s__law_cells) (defBody s__law_cells) (defScope s__law_cells) .none kV__law_cells dc__law_cells pm__law_cells an__law_cells cd__law_cells ct__law_cells), sl__law_cells⟩)
    (c_law_cells : PySem.W.codeIn K cd__law_cells "_law_cells" = true)
    (k_law_cells : PySem.W.keepIn K (.ref a__law_cells) = true)
    (a_law_sum : PySem.W.nsIn K mainGlobals "_law_sum" = some (some (.ref a__law_sum)))
    (l_law_sum : K.lookup a__law_sum = some ⟨oc__law_sum, od__law_sum, .func (PySem.W.fnOf "_law_sum" "_law_sum" (defArgs s__law_sum) (defBody s__law_sum) (defScope s__law_sum) .none kV__law_sum dc__law_sum pm__law_sum an__law_sum cd__law_sum ct__law_sum), sl__law_sum⟩)
    (c_law_sum : PySem.W.codeIn K cd__law_sum "_law_sum" = true)
    (k_law_sum : PySem.W.keepIn K (.ref a__law_sum) = true)
    (aare_ints : PySem.W.nsIn K mainGlobals "are_ints" = some (some (.ref a_are_ints)))
    (lare_ints : K.lookup a_are_ints = some ⟨oc_are_ints, od_are_ints, .func (PySem.W.fnOf "are_ints" "are_ints" (defArgs s_are_ints) (defBody s_are_ints) (defScope s_are_ints) .none kV_are_ints dc_are_ints pm_are_ints an_are_ints cd_are_ints ct_are_ints), sl_are_ints⟩)
    (care_ints : PySem.W.codeIn K cd_are_ints "are_ints" = true)
    (kare_ints : PySem.W.keepIn K (.ref a_are_ints) = true)
    (atold_rows : PySem.W.nsIn K mainGlobals "told_rows" = some (some (.ref a_told_rows)))
    (ltold_rows : K.lookup a_told_rows = some ⟨oc_told_rows, od_told_rows, .func (PySem.W.fnOf "told_rows" "told_rows" (defArgs s_told_rows) (defBody s_told_rows) (defScope s_told_rows) .none kV_told_rows dc_told_rows pm_told_rows an_told_rows cd_told_rows ct_told_rows), sl_told_rows⟩)
    (ctold_rows : PySem.W.codeIn K cd_told_rows "told_rows" = true)
    (ktold_rows : PySem.W.keepIn K (.ref a_told_rows) = true)
    (a_law_of : PySem.W.nsIn K mainGlobals "_law_of" = some (some (.ref a__law_of)))
    (l_law_of : K.lookup a__law_of = some ⟨oc__law_of, od__law_of, .func (PySem.W.fnOf "_law_of" "_law_of" (defArgs s__law_of) (defBody s__law_of) (defScope s__law_of) .none kV__law_of dc__law_of pm__law_of an__law_of cd__law_of ct__law_of), sl__law_of⟩)
    (c_law_of : PySem.W.codeIn K cd__law_of "_law_of" = true)
    (k_law_of : PySem.W.keepIn K (.ref a__law_of) = true)
    (a_law_some : PySem.W.nsIn K mainGlobals "_law_some" = some (some (.ref a__law_some)))
    (l_law_some : K.lookup a__law_some = some ⟨oc__law_some, od__law_some, .func (PySem.W.fnOf "_law_some" "_law_some" (defArgs s__law_some) (defBody s__law_some) (defScope s__law_some) .none kV__law_some dc__law_some pm__law_some an__law_some cd__law_some ct__law_some), sl__law_some⟩)
    (c_law_some : PySem.W.codeIn K cd__law_some "_law_some" = true)
    (k_law_some : PySem.W.keepIn K (.ref a__law_some) = true)
    (aare_coins : PySem.W.nsIn K mainGlobals "are_coins" = some (some (.ref a_are_coins)))
    (lare_coins : K.lookup a_are_coins = some ⟨oc_are_coins, od_are_coins, .func (PySem.W.fnOf "are_coins" "are_coins" (defArgs s_are_coins) (defBody s_are_coins) (defScope s_are_coins) .none kV_are_coins dc_are_coins pm_are_coins an_are_coins cd_are_coins ct_are_coins), sl_are_coins⟩)
    (care_coins : PySem.W.codeIn K cd_are_coins "are_coins" = true)
    (kare_coins : PySem.W.keepIn K (.ref a_are_coins) = true)
    (aare_amounts : PySem.W.nsIn K mainGlobals "are_amounts" = some (some (.ref a_are_amounts)))
    (lare_amounts : K.lookup a_are_amounts = some ⟨oc_are_amounts, od_are_amounts, .func (PySem.W.fnOf "are_amounts" "are_amounts" (defArgs s_are_amounts) (defBody s_are_amounts) (defScope s_are_amounts) .none kV_are_amounts dc_are_amounts pm_are_amounts an_are_amounts cd_are_amounts ct_are_amounts), sl_are_amounts⟩)
    (care_amounts : PySem.W.codeIn K cd_are_amounts "are_amounts" = true)
    (kare_amounts : PySem.W.keepIn K (.ref a_are_amounts) = true)
    (alook_at_coins : PySem.W.nsIn K mainGlobals "look_at_coins" = some (some (.ref a_look_at_coins)))
    (llook_at_coins : K.lookup a_look_at_coins = some ⟨oc_look_at_coins, od_look_at_coins, .func (PySem.W.fnOf "look_at_coins" "look_at_coins" (defArgs s_look_at_coins) (defBody s_look_at_coins) (defScope s_look_at_coins) .none kV_look_at_coins dc_look_at_coins pm_look_at_coins an_look_at_coins cd_look_at_coins ct_look_at_coins), sl_look_at_coins⟩)
    (clook_at_coins : PySem.W.codeIn K cd_look_at_coins "look_at_coins" = true)
    (klook_at_coins : PySem.W.keepIn K (.ref a_look_at_coins) = true)
    (alook_at_paying : PySem.W.nsIn K mainGlobals "look_at_paying" = some (some (.ref a_look_at_paying)))
    (llook_at_paying : K.lookup a_look_at_paying = some ⟨oc_look_at_paying, od_look_at_paying, .func (PySem.W.fnOf "look_at_paying" "look_at_paying" (defArgs s_look_at_paying) (defBody s_look_at_paying) (defScope s_look_at_paying) .none kV_look_at_paying dc_look_at_paying pm_look_at_paying an_look_at_paying cd_look_at_paying ct_look_at_paying), sl_look_at_paying⟩)
    (clook_at_paying : PySem.W.codeIn K cd_look_at_paying "look_at_paying" = true)
    (klook_at_paying : PySem.W.keepIn K (.ref a_look_at_paying) = true)
    (aworth_of : PySem.W.nsIn K mainGlobals "worth_of" = some (some (.ref a_worth_of)))
    (lworth_of : K.lookup a_worth_of = some ⟨oc_worth_of, od_worth_of, .func (PySem.W.fnOf "worth_of" "worth_of" (defArgs s_worth_of) (defBody s_worth_of) (defScope s_worth_of) .none kV_worth_of dc_worth_of pm_worth_of an_worth_of cd_worth_of ct_worth_of), sl_worth_of⟩)
    (cworth_of : PySem.W.codeIn K cd_worth_of "worth_of" = true)
    (kworth_of : PySem.W.keepIn K (.ref a_worth_of) = true)
    (atogether : PySem.W.nsIn K mainGlobals "together" = some (some (.ref a_together)))
    (ltogether : K.lookup a_together = some ⟨oc_together, od_together, .func (PySem.W.fnOf "together" "together" (defArgs s_together) (defBody s_together) (defScope s_together) .none kV_together dc_together pm_together an_together cd_together ct_together), sl_together⟩)
    (ctogether : PySem.W.codeIn K cd_together "together" = true)
    (ktogether : PySem.W.keepIn K (.ref a_together) = true)
    (awithout : PySem.W.nsIn K mainGlobals "without" = some (some (.ref a_without)))
    (lwithout : K.lookup a_without = some ⟨oc_without, od_without, .func (PySem.W.fnOf "without" "without" (defArgs s_without) (defBody s_without) (defScope s_without) .none kV_without dc_without pm_without an_without cd_without ct_without), sl_without⟩)
    (cwithout : PySem.W.codeIn K cd_without "without" = true)
    (kwithout : PySem.W.keepIn K (.ref a_without) = true)
    (alook_at_amounts : PySem.W.nsIn K mainGlobals "look_at_amounts" = some (some (.ref a_look_at_amounts)))
    (llook_at_amounts : K.lookup a_look_at_amounts = some ⟨oc_look_at_amounts, od_look_at_amounts, .func (PySem.W.fnOf "look_at_amounts" "look_at_amounts" (defArgs s_look_at_amounts) (defBody s_look_at_amounts) (defScope s_look_at_amounts) .none kV_look_at_amounts dc_look_at_amounts pm_look_at_amounts an_look_at_amounts cd_look_at_amounts ct_look_at_amounts), sl_look_at_amounts⟩)
    (clook_at_amounts : PySem.W.codeIn K cd_look_at_amounts "look_at_amounts" = true)
    (klook_at_amounts : PySem.W.keepIn K (.ref a_look_at_amounts) = true)
    (agreatest_first : PySem.W.nsIn K mainGlobals "greatest_first" = some (some (.ref a_greatest_first)))
    (lgreatest_first : K.lookup a_greatest_first = some ⟨oc_greatest_first, od_greatest_first, .func (PySem.W.fnOf "greatest_first" "greatest_first" (defArgs s_greatest_first) (defBody s_greatest_first) (defScope s_greatest_first) .none kV_greatest_first dc_greatest_first pm_greatest_first an_greatest_first cd_greatest_first ct_greatest_first), sl_greatest_first⟩)
    (cgreatest_first : PySem.W.codeIn K cd_greatest_first "greatest_first" = true)
    (kgreatest_first : PySem.W.keepIn K (.ref a_greatest_first) = true)
    (alook_at_asked : PySem.W.nsIn K mainGlobals "look_at_asked" = some (some (.ref a_look_at_asked)))
    (llook_at_asked : K.lookup a_look_at_asked = some ⟨oc_look_at_asked, od_look_at_asked, .func (PySem.W.fnOf "look_at_asked" "look_at_asked" (defArgs s_look_at_asked) (defBody s_look_at_asked) (defScope s_look_at_asked) .none kV_look_at_asked dc_look_at_asked pm_look_at_asked an_look_at_asked cd_look_at_asked ct_look_at_asked), sl_look_at_asked⟩)
    (clook_at_asked : PySem.W.codeIn K cd_look_at_asked "look_at_asked" = true)
    (klook_at_asked : PySem.W.keepIn K (.ref a_look_at_asked) = true)
    (ashows_pay_all : PySem.W.nsIn K mainGlobals "shows_pay_all" = some (some (.ref a_shows_pay_all)))
    (lshows_pay_all : K.lookup a_shows_pay_all = some ⟨oc_shows_pay_all, od_shows_pay_all, .func (PySem.W.fnOf "shows_pay_all" "shows_pay_all" (defArgs s_shows_pay_all) (defBody s_shows_pay_all) (defScope s_shows_pay_all) .none kV_shows_pay_all dc_shows_pay_all pm_shows_pay_all an_shows_pay_all cd_shows_pay_all ct_shows_pay_all), sl_shows_pay_all⟩)
    (cshows_pay_all : PySem.W.codeIn K cd_shows_pay_all "shows_pay_all" = true)
    (kshows_pay_all : PySem.W.keepIn K (.ref a_shows_pay_all) = true)
    (apay_all : PySem.W.nsIn K mainGlobals "pay_all" = some (some (.ref a_pay_all)))
    (lpay_all : K.lookup a_pay_all = some ⟨oc_pay_all, od_pay_all, .func (PySem.W.fnOf "pay_all" "pay_all" (defArgs s_pay_all) (defBody s_pay_all) (defScope s_pay_all) .none kV_pay_all dc_pay_all pm_pay_all an_pay_all cd_pay_all ct_pay_all), sl_pay_all⟩)
    (cpay_all : PySem.W.codeIn K cd_pay_all "pay_all" = true)
    (kpay_all : PySem.W.keepIn K (.ref a_pay_all) = true)
    (ahow_many_paid : PySem.W.nsIn K mainGlobals "how_many_paid" = some (some (.ref a_how_many_paid)))
    (lhow_many_paid : K.lookup a_how_many_paid = some ⟨oc_how_many_paid, od_how_many_paid, .func (PySem.W.fnOf "how_many_paid" "how_many_paid" (defArgs s_how_many_paid) (defBody s_how_many_paid) (defScope s_how_many_paid) .none kV_how_many_paid dc_how_many_paid pm_how_many_paid an_how_many_paid cd_how_many_paid ct_how_many_paid), sl_how_many_paid⟩)
    (chow_many_paid : PySem.W.codeIn K cd_how_many_paid "how_many_paid" = true)
    (khow_many_paid : PySem.W.keepIn K (.ref a_how_many_paid) = true)
    (aby_greatest_first : PySem.W.nsIn K mainGlobals "by_greatest_first" = some (some (.ref a_by_greatest_first)))
    (lby_greatest_first : K.lookup a_by_greatest_first = some ⟨oc_by_greatest_first, od_by_greatest_first, .func (PySem.W.fnOf "by_greatest_first" "by_greatest_first" (defArgs s_by_greatest_first) (defBody s_by_greatest_first) (defScope s_by_greatest_first) .none kV_by_greatest_first dc_by_greatest_first pm_by_greatest_first an_by_greatest_first cd_by_greatest_first ct_by_greatest_first), sl_by_greatest_first⟩)
    (cby_greatest_first : PySem.W.codeIn K cd_by_greatest_first "by_greatest_first" = true)
    (kby_greatest_first : PySem.W.keepIn K (.ref a_by_greatest_first) = true)
    (aall_left : PySem.W.nsIn K mainGlobals "all_left" = some (some (.ref a_all_left)))
    (lall_left : K.lookup a_all_left = some ⟨oc_all_left, od_all_left, .func (PySem.W.fnOf "all_left" "all_left" (defArgs s_all_left) (defBody s_all_left) (defScope s_all_left) .none kV_all_left dc_all_left pm_all_left an_all_left cd_all_left ct_all_left), sl_all_left⟩)
    (call_left : PySem.W.codeIn K cd_all_left "all_left" = true)
    (kall_left : PySem.W.keepIn K (.ref a_all_left) = true)
    (alots_of : PySem.W.nsIn K mainGlobals "lots_of" = some (some (.ref a_lots_of)))
    (llots_of : K.lookup a_lots_of = some ⟨oc_lots_of, od_lots_of, .func (PySem.W.fnOf "lots_of" "lots_of" (defArgs s_lots_of) (defBody s_lots_of) (defScope s_lots_of) .none kV_lots_of dc_lots_of pm_lots_of an_lots_of cd_lots_of ct_lots_of), sl_lots_of⟩)
    (clots_of : PySem.W.codeIn K cd_lots_of "lots_of" = true)
    (klots_of : PySem.W.keepIn K (.ref a_lots_of) = true)
    (alacking_for : PySem.W.nsIn K mainGlobals "lacking_for" = some (some (.ref a_lacking_for)))
    (llacking_for : K.lookup a_lacking_for = some ⟨oc_lacking_for, od_lacking_for, .func (PySem.W.fnOf "lacking_for" "lacking_for" (defArgs s_lacking_for) (defBody s_lacking_for) (defScope s_lacking_for) .none kV_lacking_for dc_lacking_for pm_lacking_for an_lacking_for cd_lacking_for ct_lacking_for), sl_lacking_for⟩)
    (clacking_for : PySem.W.codeIn K cd_lacking_for "lacking_for" = true)
    (klacking_for : PySem.W.keepIn K (.ref a_lacking_for) = true)
    (a_law_made : PySem.W.nsIn K mainGlobals "_law_made" = some (some (.ref a__law_made)))
    (l_law_made : K.lookup a__law_made = some ⟨oc__law_made, od__law_made, .func (PySem.W.fnOf "_law_made" "_law_made" (defArgs s__law_made) (defBody s__law_made) (defScope s__law_made) .none kV__law_made dc__law_made pm__law_made an__law_made cd__law_made ct__law_made), sl__law_made⟩)
    (c_law_made : PySem.W.codeIn K cd__law_made "_law_made" = true)
    (k_law_made : PySem.W.keepIn K (.ref a__law_made) = true)
    (a_law_right : PySem.W.nsIn K mainGlobals "_law_right" = some (some (.ref a__law_right)))
    (l_law_right : K.lookup a__law_right = some ⟨oc__law_right, od__law_right, .func (PySem.W.fnOf "_law_right" "_law_right" (defArgs s__law_right) (defBody s__law_right) (defScope s__law_right) .none kV__law_right dc__law_right pm__law_right an__law_right cd__law_right ct__law_right), sl__law_right⟩)
    (c_law_right : PySem.W.codeIn K cd__law_right "_law_right" = true)
    (k_law_right : PySem.W.keepIn K (.ref a__law_right) = true)
    (alaw : PySem.W.nsIn K mainGlobals "law" = some (some (.ref a_law)))
    (llaw : K.lookup a_law = some ⟨oc_law, od_law, .func (PySem.W.fnOf "law" "law" (defArgs s_law) (defBody s_law) (defScope s_law) .none kV_law dc_law pm_law an_law cd_law ct_law), sl_law⟩)
    (claw : PySem.W.codeIn K cd_law "law" = true)
    (klaw : PySem.W.keepIn K (.ref a_law) = true)
    (zisinstance : PySem.W.nsIn K mainGlobals "isinstance" = some none)
    (zint : PySem.W.nsIn K mainGlobals "int" = some none)
    (zbool : PySem.W.nsIn K mainGlobals "bool" = some none)
    (ztuple : PySem.W.nsIn K mainGlobals "tuple" = some none)
    (zlen : PySem.W.nsIn K mainGlobals "len" = some none)
    (zstr : PySem.W.nsIn K mainGlobals "str" = some none)
    (zzip : PySem.W.nsIn K mainGlobals "zip" = some none)
    (zall : PySem.W.nsIn K mainGlobals "all" = some none)
    (zsum : PySem.W.nsIn K mainGlobals "sum" = some none)
    (zrange : PySem.W.nsIn K mainGlobals "range" = some none)
    (zmin : PySem.W.nsIn K mainGlobals "min" = some none)
    (zsorted : PySem.W.nsIn K mainGlobals "sorted" = some none)
    (zabs : PySem.W.nsIn K mainGlobals "abs" = some none)
    (zmax : PySem.W.nsIn K mainGlobals "max" = some none)
    (zlist : PySem.W.nsIn K mainGlobals "list" = some none)
    (zdict : PySem.W.nsIn K mainGlobals "dict" = some none)
    (zset : PySem.W.nsIn K mainGlobals "set" = some none)
    (gMOST_FACES : PySem.W.nsIn K mainGlobals "MOST_FACES" = some (some (.int 12 t_MOST_FACES)))
    (gMOST_FACE : PySem.W.nsIn K mainGlobals "MOST_FACE" = some (some (.int 10000 t_MOST_FACE)))
    (gMOST_AMOUNT_short : PySem.W.nsIn K mainGlobals "MOST_AMOUNT_short" = some (some (.int 2000 t_MOST_AMOUNT_short)))
    (gMOST_ASKED : PySem.W.nsIn K mainGlobals "MOST_ASKED" = some (some (.int 12 t_MOST_ASKED)))
    (gMOST_AMOUNT_coins : PySem.W.nsIn K mainGlobals "MOST_AMOUNT_coins" = some (some (.int 10000 t_MOST_AMOUNT_coins)))
    (gMOST_STATES : PySem.W.nsIn K mainGlobals "MOST_STATES" = some (some (.int 4000 t_MOST_STATES)))
    (gPAID : PySem.W.nsIn K mainGlobals "PAID" = some (some (.str "paid" t_PAID))) :
    ∃ fd : FuncData, (∀ (s : Shared) (v : Value), BindsTo s fd ⟨[v], []⟩ [("script", v)]) ∧ ∀ base : Heap, K.In base → base.Ns mainGlobals mg → FnOk l.prog w K mg base CX0 10 fa fd ["script"] (spV K φ_law) := by
  have e := hfa.symm.trans (PySem.W.mg_of X G alaw)
  cases e
  have F_is_int := fun_mk (st := s_is_int) lis_int cis_int kis_int
  have F_is_told := fun_mk (st := s_is_told) lis_told cis_told kis_told
  have F_is_rising := fun_mk (st := s_is_rising) lis_rising cis_rising kis_rising
  have F_told_sum := fun_mk (st := s_told_sum) ltold_sum ctold_sum ktold_sum
  have F_told_layers := fun_mk (st := s_told_layers) ltold_layers ctold_layers ktold_layers
  have F_told_payment := fun_mk (st := s_told_payment) ltold_payment ctold_payment ktold_payment
  have F_told_size := fun_mk (st := s_told_size) ltold_size ctold_size ktold_size
  have F_told_moves := fun_mk (st := s_told_moves) ltold_moves ctold_moves ktold_moves
  have F_told_payments := fun_mk (st := s_told_payments) ltold_payments ctold_payments ktold_payments
  have F__law_pot := fun_mk (st := s__law_pot) l_law_pot c_law_pot k_law_pot
  have F__law_take := fun_mk (st := s__law_take) l_law_take c_law_take k_law_take
  have F__law_cells := fun_mk (st := s__law_cells) l_law_cells c_law_cells k_law_cells
  have F__law_sum := fun_mk (st := s__law_sum) l_law_sum c_law_sum k_law_sum
  have F_are_ints := fun_mk (st := s_are_ints) lare_ints care_ints kare_ints
  have F_told_rows := fun_mk (st := s_told_rows) ltold_rows ctold_rows ktold_rows
  have F__law_of := fun_mk (st := s__law_of) l_law_of c_law_of k_law_of
  have F__law_some := fun_mk (st := s__law_some) l_law_some c_law_some k_law_some
  have F_are_coins := fun_mk (st := s_are_coins) lare_coins care_coins kare_coins
  have F_are_amounts := fun_mk (st := s_are_amounts) lare_amounts care_amounts kare_amounts
  have F_look_at_coins := fun_mk (st := s_look_at_coins) llook_at_coins clook_at_coins klook_at_coins
  have F_look_at_paying := fun_mk (st := s_look_at_paying) llook_at_paying clook_at_paying klook_at_paying
  have F_worth_of := fun_mk (st := s_worth_of) lworth_of cworth_of kworth_of
  have F_together := fun_mk (st := s_together) ltogether ctogether ktogether
  have F_without := fun_mk (st := s_without) lwithout cwithout kwithout
  have F_look_at_amounts := fun_mk (st := s_look_at_amounts) llook_at_amounts clook_at_amounts klook_at_amounts
  have F_greatest_first := fun_mk (st := s_greatest_first) lgreatest_first cgreatest_first kgreatest_first
  have F_look_at_asked := fun_mk (st := s_look_at_asked) llook_at_asked clook_at_asked klook_at_asked
  have F_shows_pay_all := fun_mk (st := s_shows_pay_all) lshows_pay_all cshows_pay_all kshows_pay_all
  have F_pay_all := fun_mk (st := s_pay_all) lpay_all cpay_all kpay_all
  have F_how_many_paid := fun_mk (st := s_how_many_paid) lhow_many_paid chow_many_paid khow_many_paid
  have F_by_greatest_first := fun_mk (st := s_by_greatest_first) lby_greatest_first cby_greatest_first kby_greatest_first
  have F_all_left := fun_mk (st := s_all_left) lall_left call_left kall_left
  have F_lots_of := fun_mk (st := s_lots_of) llots_of clots_of klots_of
  have F_lacking_for := fun_mk (st := s_lacking_for) llacking_for clacking_for klacking_for
  have F__law_made := fun_mk (st := s__law_made) l_law_made c_law_made k_law_made
  have F__law_right := fun_mk (st := s__law_right) l_law_right c_law_right k_law_right
  have F_law := fun_mk (st := s_law) llaw claw klaw
  have b_is_int := F_is_int.binds (ps := ["value", "low", "high"]) fun _ _ _ _ _ _ us hl => match us, hl with | [_, _, _], _ => rfl
  have b_is_told := F_is_told.binds (ps := ["value", "sizes"]) fun _ _ _ _ _ _ us hl => match us, hl with | [_, _], _ => rfl
  have b_is_rising := F_is_rising.binds (ps := ["some"]) fun _ _ _ _ _ _ us hl => match us, hl with | [_], _ => rfl
  have b_told_sum := F_told_sum.binds (ps := ["coins"]) fun _ _ _ _ _ _ us hl => match us, hl with | [_], _ => rfl
  have b_told_layers := F_told_layers.binds (ps := ["coins", "most"]) fun _ _ _ _ _ _ us hl => match us, hl with | [_, _], _ => rfl
  have b_told_payment := F_told_payment.binds (ps := ["coins", "amount", "layers"]) fun _ _ _ _ _ _ us hl => match us, hl with | [_, _, _], _ => rfl
  have b_told_size := F_told_size.binds (ps := ["coins"]) fun _ _ _ _ _ _ us hl => match us, hl with | [_], _ => rfl
  have b_told_moves := F_told_moves.binds (ps := ["coins", "amount"]) fun _ _ _ _ _ _ us hl => match us, hl with | [_, _], _ => rfl
  have b_told_payments := F_told_payments.binds (ps := ["coins", "rows"]) fun _ _ _ _ _ _ us hl => match us, hl with | [_, _], _ => rfl
  have b__law_pot := F__law_pot.binds (ps := ["script", "place"]) fun _ _ _ _ _ _ us hl => match us, hl with | [_, _], _ => rfl
  have b__law_take := F__law_take.binds (ps := ["pot", "upto"]) fun _ _ _ _ _ _ us hl => match us, hl with | [_, _], _ => rfl
  have b__law_cells := F__law_cells.binds (ps := ["script", "most"]) fun _ _ _ _ _ _ us hl => match us, hl with | [_, _], _ => rfl
  have b__law_sum := F__law_sum.binds (ps := ["coins"]) fun _ _ _ _ _ _ us hl => match us, hl with | [_], _ => rfl
  have b_are_ints := F_are_ints.binds (ps := ["value", "low", "high"]) fun _ _ _ _ _ _ us hl => match us, hl with | [_, _, _], _ => rfl
  have b_told_rows := F_told_rows.binds (ps := ["coins", "amounts"]) fun _ _ _ _ _ _ us hl => match us, hl with | [_, _], _ => rfl
  have b__law_of := F__law_of.binds (ps := ["pot", "some"]) fun _ _ _ _ _ _ us hl => match us, hl with | [_, _], _ => rfl
  have b__law_some := F__law_some.binds (ps := ["pot", "pool", "many"]) fun _ _ _ _ _ _ us hl => match us, hl with | [_, _, _], _ => rfl
  have b_are_coins := F_are_coins.binds (ps := ["value"]) fun _ _ _ _ _ _ us hl => match us, hl with | [_], _ => rfl
  have b_are_amounts := F_are_amounts.binds (ps := ["value"]) fun _ _ _ _ _ _ us hl => match us, hl with | [_], _ => rfl
  have b_look_at_coins := F_look_at_coins.binds (ps := ["coins"]) fun _ _ _ _ _ _ us hl => match us, hl with | [_], _ => rfl
  have b_look_at_paying := F_look_at_paying.binds (ps := ["coins", "amount"]) fun _ _ _ _ _ _ us hl => match us, hl with | [_, _], _ => rfl
  have b_worth_of := F_worth_of.binds (ps := ["coins"]) fun _ _ _ _ _ _ us hl => match us, hl with | [_], _ => rfl
  have b_together := F_together.binds (ps := ["one", "other"]) fun _ _ _ _ _ _ us hl => match us, hl with | [_, _], _ => rfl
  have b_without := F_without.binds (ps := ["coins", "some"]) fun _ _ _ _ _ _ us hl => match us, hl with | [_, _], _ => rfl
  have b_look_at_amounts := F_look_at_amounts.binds (ps := ["coins", "amounts"]) fun _ _ _ _ _ _ us hl => match us, hl with | [_, _], _ => rfl
  have b_greatest_first := F_greatest_first.binds (ps := ["coins", "amount"]) fun _ _ _ _ _ _ us hl => match us, hl with | [_, _], _ => rfl
  have b_look_at_asked := F_look_at_asked.binds (ps := ["coins", "amounts"]) fun _ _ _ _ _ _ us hl => match us, hl with | [_, _], _ => rfl
  have b_shows_pay_all := F_shows_pay_all.binds (ps := ["coins", "amounts", "value"]) fun _ _ _ _ _ _ us hl => match us, hl with | [_, _, _], _ => rfl
  have b_pay_all := F_pay_all.binds (ps := ["coins", "amounts"]) fun _ _ _ _ _ _ us hl => match us, hl with | [_, _], _ => rfl
  have b_how_many_paid := F_how_many_paid.binds (ps := ["coins", "amounts"]) fun _ _ _ _ _ _ us hl => match us, hl with | [_, _], _ => rfl
  have b_by_greatest_first := F_by_greatest_first.binds (ps := ["coins", "amounts"]) fun _ _ _ _ _ _ us hl => match us, hl with | [_, _], _ => rfl
  have b_all_left := F_all_left.binds (ps := ["coins", "amounts"]) fun _ _ _ _ _ _ us hl => match us, hl with | [_, _], _ => rfl
  have b_lots_of := F_lots_of.binds (ps := ["coins"]) fun _ _ _ _ _ _ us hl => match us, hl with | [_], _ => rfl
  have b_lacking_for := F_lacking_for.binds (ps := ["coins", "face", "amounts"]) fun _ _ _ _ _ _ us hl => match us, hl with | [_, _, _], _ => rfl
  have b__law_made := F__law_made.binds (ps := ["pot"]) fun _ _ _ _ _ _ us hl => match us, hl with | [_], _ => rfl
  have b__law_right := F__law_right.binds (ps := ["pot"]) fun _ _ _ _ _ _ us hl => match us, hl with | [_], _ => rfl
  refine ⟨(PySem.W.fnOf "law" "law" (defArgs s_law) (defBody s_law) (defScope s_law) .none kV_law dc_law pm_law an_law cd_law ct_law), fun s v => .of_eq rfl, fun base _ _ => ?_⟩
  have G_is_int := ok_is_int (P := l.prog) (w := w) (mg := mg) (base := base) F_is_int (PySem.W.mg_none_of X G zisinstance) (PySem.W.mg_none_of X G zint) (PySem.W.mg_none_of X G zbool)
  have G_is_told := ok_is_told (P := l.prog) (w := w) (mg := mg) (base := base) F_is_told (PySem.W.mg_none_of X G zisinstance) (PySem.W.mg_none_of X G ztuple) (PySem.W.mg_none_of X G zlen) (PySem.W.mg_none_of X G zstr)
  have G_is_rising := ok_is_rising (P := l.prog) (w := w) (mg := mg) (base := base) F_is_rising (PySem.W.mg_none_of X G zzip) (PySem.W.mg_none_of X G zall)
  have G_told_sum := ok_told_sum (P := l.prog) (w := w) (mg := mg) (base := base) F_told_sum (PySem.W.mg_none_of X G zsum)
  have G_told_layers := ok_told_layers (P := l.prog) (w := w) (mg := mg) (base := base) F_told_layers (PySem.W.mg_none_of X G zrange)
  have G_told_payment := ok_told_payment (P := l.prog) (w := w) (mg := mg) (base := base) F_told_payment (PySem.W.mg_none_of X G zlen) (PySem.W.mg_none_of X G zrange) (PySem.W.mg_none_of X G zmin) (PySem.W.mg_none_of X G ztuple)
  have G_told_size := ok_told_size (P := l.prog) (w := w) (mg := mg) (base := base) F_told_size
  have G_told_moves := ok_told_moves (P := l.prog) (w := w) (mg := mg) (base := base) F_told_moves (PySem.W.mg_none_of X G zmin) (PySem.W.mg_none_of X G zrange)
  have G_told_payments := ok_told_payments (P := l.prog) (w := w) (mg := mg) (base := base) F_told_payments (PySem.W.mg_none_of X G zsorted) (PySem.W.mg_none_of X G zzip) (PySem.W.mg_none_of X G ztuple)
  have G__law_pot := ok__law_pot (P := l.prog) (w := w) (mg := mg) (base := base) F__law_pot (PySem.W.mg_none_of X G zlen) (PySem.W.mg_none_of X G zsum) (PySem.W.mg_none_of X G zint) (PySem.W.mg_none_of X G zabs)
  have G__law_take := ok__law_take (P := l.prog) (w := w) (mg := mg) (base := base) F__law_take (PySem.W.mg_none_of X G zint)
  have G__law_cells := ok__law_cells (P := l.prog) (w := w) (mg := mg) (base := base) F__law_cells (PySem.W.mg_none_of X G zlen) (PySem.W.mg_none_of X G zmin) (PySem.W.mg_none_of X G zmax) (PySem.W.mg_none_of X G zlist) (PySem.W.mg_none_of X G zrange)
  have G__law_sum := ok__law_sum (P := l.prog) (w := w) (mg := mg) (base := base) F__law_sum (PySem.W.mg_none_of X G zsum)
  have G_are_ints := ok_are_ints (P := l.prog) (w := w) (mg := mg) (base := base) F_are_ints (PySem.W.mg_none_of X G zisinstance) (PySem.W.mg_none_of X G ztuple) (PySem.W.mg_none_of X G zall) G_is_int (PySem.W.mg_of X G ais_int) kis_int b_is_int
  have G_told_rows := ok_told_rows (P := l.prog) (w := w) (mg := mg) (base := base) F_told_rows (PySem.W.mg_none_of X G ztuple) (PySem.W.mg_none_of X G zsorted) (PySem.W.mg_none_of X G zzip) (PySem.W.mg_none_of X G zall) G_told_moves (PySem.W.mg_of X G atold_moves) ktold_moves b_told_moves
  have G__law_of := ok__law_of (P := l.prog) (w := w) (mg := mg) (base := base) F__law_of (PySem.W.mg_none_of X G zlen) G__law_take (PySem.W.mg_of X G a_law_take) k_law_take b__law_take
  have G__law_some := ok__law_some (P := l.prog) (w := w) (mg := mg) (base := base) F__law_some (PySem.W.mg_none_of X G zlist) (PySem.W.mg_none_of X G zrange) (PySem.W.mg_none_of X G zlen) G__law_take (PySem.W.mg_of X G a_law_take) k_law_take b__law_take
  have G_are_coins := ok_are_coins (P := l.prog) (w := w) (mg := mg) (base := base) F_are_coins (PySem.W.mg_none_of X G zisinstance) (PySem.W.mg_none_of X G ztuple) (PySem.W.mg_none_of X G zlen) (PySem.W.mg_none_of X G zall) (PySem.W.mg_of X G gMOST_FACES) (PySem.W.mg_of X G gMOST_FACE) G_are_ints (PySem.W.mg_of X G aare_ints) kare_ints b_are_ints G_is_rising (PySem.W.mg_of X G ais_rising) kis_rising b_is_rising
  have G_are_amounts := ok_are_amounts (P := l.prog) (w := w) (mg := mg) (base := base) F_are_amounts (PySem.W.mg_none_of X G zlen) (PySem.W.mg_of X G gMOST_AMOUNT_short) (PySem.W.mg_of X G gMOST_ASKED) G_are_ints (PySem.W.mg_of X G aare_ints) kare_ints b_are_ints
  have G_look_at_coins := ok_look_at_coins (P := l.prog) (w := w) (mg := mg) (base := base) F_look_at_coins G_are_coins (PySem.W.mg_of X G aare_coins) kare_coins b_are_coins
  have G_look_at_paying := ok_look_at_paying (P := l.prog) (w := w) (mg := mg) (base := base) F_look_at_paying (PySem.W.mg_of X G gMOST_AMOUNT_coins) G_look_at_coins (PySem.W.mg_of X G alook_at_coins) klook_at_coins b_look_at_coins G_is_int (PySem.W.mg_of X G ais_int) kis_int b_is_int
  have G_worth_of := ok_worth_of (P := l.prog) (w := w) (mg := mg) (base := base) F_worth_of G_look_at_coins (PySem.W.mg_of X G alook_at_coins) klook_at_coins b_look_at_coins G_told_sum (PySem.W.mg_of X G atold_sum) ktold_sum b_told_sum
  have G_together := ok_together (P := l.prog) (w := w) (mg := mg) (base := base) F_together (PySem.W.mg_none_of X G zdict) (PySem.W.mg_none_of X G zsorted) (PySem.W.mg_none_of X G ztuple) G_look_at_coins (PySem.W.mg_of X G alook_at_coins) klook_at_coins b_look_at_coins G_are_coins (PySem.W.mg_of X G aare_coins) kare_coins b_are_coins
  have G_without := ok_without (P := l.prog) (w := w) (mg := mg) (base := base) F_without (PySem.W.mg_none_of X G zdict) (PySem.W.mg_none_of X G zsorted) (PySem.W.mg_none_of X G ztuple) G_look_at_coins (PySem.W.mg_of X G alook_at_coins) klook_at_coins b_look_at_coins
  have G_look_at_amounts := ok_look_at_amounts (P := l.prog) (w := w) (mg := mg) (base := base) F_look_at_amounts G_look_at_coins (PySem.W.mg_of X G alook_at_coins) klook_at_coins b_look_at_coins G_are_amounts (PySem.W.mg_of X G aare_amounts) kare_amounts b_are_amounts
  have G_greatest_first := ok_greatest_first (P := l.prog) (w := w) (mg := mg) (base := base) F_greatest_first G_look_at_paying (PySem.W.mg_of X G alook_at_paying) klook_at_paying b_look_at_paying G_told_payment (PySem.W.mg_of X G atold_payment) ktold_payment b_told_payment G_told_layers (PySem.W.mg_of X G atold_layers) ktold_layers b_told_layers
  have G_look_at_asked := ok_look_at_asked (P := l.prog) (w := w) (mg := mg) (base := base) F_look_at_asked (PySem.W.mg_of X G gMOST_STATES) G_look_at_amounts (PySem.W.mg_of X G alook_at_amounts) klook_at_amounts b_look_at_amounts G_told_size (PySem.W.mg_of X G atold_size) ktold_size b_told_size
  have G_shows_pay_all := ok_shows_pay_all (P := l.prog) (w := w) (mg := mg) (base := base) F_shows_pay_all (PySem.W.mg_none_of X G zisinstance) (PySem.W.mg_none_of X G ztuple) (PySem.W.mg_none_of X G zlen) (PySem.W.mg_none_of X G zdict) (PySem.W.mg_none_of X G zzip) (PySem.W.mg_of X G gMOST_STATES) (PySem.W.mg_of X G gPAID) G_look_at_amounts (PySem.W.mg_of X G alook_at_amounts) klook_at_amounts b_look_at_amounts G_told_size (PySem.W.mg_of X G atold_size) ktold_size b_told_size G_is_told (PySem.W.mg_of X G ais_told) kis_told b_is_told G_told_rows (PySem.W.mg_of X G atold_rows) ktold_rows b_told_rows G_are_coins (PySem.W.mg_of X G aare_coins) kare_coins b_are_coins G_told_sum (PySem.W.mg_of X G atold_sum) ktold_sum b_told_sum
  have G_pay_all := ok_pay_all (P := l.prog) (w := w) (mg := mg) (base := base) F_pay_all (PySem.W.mg_none_of X G ztuple) (PySem.W.mg_of X G gPAID) G_look_at_asked (PySem.W.mg_of X G alook_at_asked) klook_at_asked b_look_at_asked G_told_payments (PySem.W.mg_of X G atold_payments) ktold_payments b_told_payments G_told_rows (PySem.W.mg_of X G atold_rows) ktold_rows b_told_rows
  have G_how_many_paid := ok_how_many_paid (P := l.prog) (w := w) (mg := mg) (base := base) F_how_many_paid (PySem.W.mg_none_of X G zlen) G_look_at_asked (PySem.W.mg_of X G alook_at_asked) klook_at_asked b_look_at_asked G_told_rows (PySem.W.mg_of X G atold_rows) ktold_rows b_told_rows
  have G_by_greatest_first := ok_by_greatest_first (P := l.prog) (w := w) (mg := mg) (base := base) F_by_greatest_first (PySem.W.mg_none_of X G ztuple) G_look_at_amounts (PySem.W.mg_of X G alook_at_amounts) klook_at_amounts b_look_at_amounts G_greatest_first (PySem.W.mg_of X G agreatest_first) kgreatest_first b_greatest_first G_without (PySem.W.mg_of X G awithout) kwithout b_without
  have G_all_left := ok_all_left (P := l.prog) (w := w) (mg := mg) (base := base) F_all_left (PySem.W.mg_none_of X G zlen) G_look_at_asked (PySem.W.mg_of X G alook_at_asked) klook_at_asked b_look_at_asked G_told_rows (PySem.W.mg_of X G atold_rows) ktold_rows b_told_rows
  have G_lots_of := ok_lots_of (P := l.prog) (w := w) (mg := mg) (base := base) F_lots_of G_look_at_asked (PySem.W.mg_of X G alook_at_asked) klook_at_asked b_look_at_asked G_told_size (PySem.W.mg_of X G atold_size) ktold_size b_told_size
  have G_lacking_for := ok_lacking_for (P := l.prog) (w := w) (mg := mg) (base := base) F_lacking_for (PySem.W.mg_none_of X G zrange) (PySem.W.mg_none_of X G zdict) (PySem.W.mg_none_of X G zsorted) (PySem.W.mg_none_of X G ztuple) (PySem.W.mg_none_of X G zlen) (PySem.W.mg_of X G gMOST_AMOUNT_short) G_look_at_coins (PySem.W.mg_of X G alook_at_coins) klook_at_coins b_look_at_coins G_is_int (PySem.W.mg_of X G ais_int) kis_int b_is_int G_look_at_asked (PySem.W.mg_of X G alook_at_asked) klook_at_asked b_look_at_asked G_told_rows (PySem.W.mg_of X G atold_rows) ktold_rows b_told_rows
  have G__law_made := ok__law_made (P := l.prog) (w := w) (mg := mg) (base := base) F__law_made (PySem.W.mg_none_of X G zrange) (PySem.W.mg_none_of X G zint) (PySem.W.mg_none_of X G zsorted) (PySem.W.mg_none_of X G zset) (PySem.W.mg_none_of X G ztuple) G__law_take (PySem.W.mg_of X G a_law_take) k_law_take b__law_take G_together (PySem.W.mg_of X G atogether) ktogether b_together G_lots_of (PySem.W.mg_of X G alots_of) klots_of b_lots_of
  have G__law_right := ok__law_right (P := l.prog) (w := w) (mg := mg) (base := base) F__law_right (PySem.W.mg_none_of X G zrange) (PySem.W.mg_none_of X G zlen) (PySem.W.mg_none_of X G ztuple) (PySem.W.mg_none_of X G zsum) (PySem.W.mg_none_of X G zlist) G__law_made (PySem.W.mg_of X G a_law_made) k_law_made b__law_made G__law_some (PySem.W.mg_of X G a_law_some) k_law_some b__law_some G__law_sum (PySem.W.mg_of X G a_law_sum) k_law_sum b__law_sum G_shows_pay_all (PySem.W.mg_of X G ashows_pay_all) kshows_pay_all b_shows_pay_all G_pay_all (PySem.W.mg_of X G apay_all) kpay_all b_pay_all G_all_left (PySem.W.mg_of X G aall_left) kall_left b_all_left G_worth_of (PySem.W.mg_of X G aworth_of) kworth_of b_worth_of G_by_greatest_first (PySem.W.mg_of X G aby_greatest_first) kby_greatest_first b_by_greatest_first G__law_of (PySem.W.mg_of X G a_law_of) k_law_of b__law_of G_without (PySem.W.mg_of X G awithout) kwithout b_without G_how_many_paid (PySem.W.mg_of X G ahow_many_paid) khow_many_paid b_how_many_paid G_lacking_for (PySem.W.mg_of X G alacking_for) klacking_for b_lacking_for G_together (PySem.W.mg_of X G atogether) ktogether b_together G_lots_of (PySem.W.mg_of X G alots_of) klots_of b_lots_of
  exact ok_law F_law (PySem.W.mg_none_of X G zall) G__law_cells (PySem.W.mg_of X G a_law_cells) k_law_cells b__law_cells G__law_right (PySem.W.mg_of X G a_law_right) k_law_right b__law_right G__law_pot (PySem.W.mg_of X G a_law_pot) k_law_pot b__law_pot
end K47
local macro_rules | `(tactic| array_mem_dec) => `(tactic| repeat (first | exact VL.Le.nil | refine VL.Le.keep ?_ | refine VL.Le.loose rfl ?_ | exact VL.Le.refl _))
local macro_rules | `(tactic| sizeOf_list_dec) => `(tactic| first
  | refine VL.w_seq ?_ | refine VL.k_nx ?_ | refine VL.k_rt ?_ | refine VL.k_bk ?_ | refine VL.k_ct ?_ | refine VL.w_nil ?_ | refine VL.w_bk ?_ | refine VL.w_ct ?_ | refine VL.w_pass ?_ | refine VL.w_retN ?_
  | refine VL.w_op2 ?_ | refine VL.w_varF rfl ?_ | refine VL.w_c ?_ | refine VL.w_b ?_ | refine VL.k_b ?_ | refine VL.w_acons ?_ | refine VL.w_anil ?_ | refine VL.w_call ?_ | refine VL.w_blt ?_
  | refine VL.k_pow4 ?_ | refine VL.k_op rfl rfl rfl ?_ | refine VL.k_eqI ?_ | refine VL.k_neI ?_
  | refine VL.k_mul (by first | assumption | (apply VL.mulOk_l; omega) | (apply VL.mulOk_r; omega)) ?_
  | refine VL.w_set ?_ | refine VL.k_setF rfl ?_ | refine VL.k_setO rfl ?_ | refine VL.w_expr ?_ | refine VL.w_ret ?_ | refine VL.k_retF ?_ | refine VL.k_retO ?_ | refine VL.k_retB rfl ?_
  | refine VL.w_varZ rfl ?_ | refine VL.w_varO rfl ?_ | refine VL.w_varP rfl ?_ | refine VL.w_varS rfl ?_ | refine VL.k_setB rfl rfl ?_
  | refine VL.w_use ?_ | refine VL.k_useF ?_ | refine VL.k_useO ?_ | refine VL.k_useB rfl ?_ | refine VL.w_unil ?_ | refine VL.w_ucons ?_ | refine VL.w_ustar ?_ | refine VL.k_star rfl ?_
  | refine VL.w_tup' ?_ | refine VL.k_tup rfl ?_ | refine VL.w_lst' ?_ | refine VL.k_lst rfl ?_
  | refine VL.w_idx ?_ | refine VL.w_not ?_ | refine VL.w_notV ?_ | refine VL.w_neg ?_ | refine VL.k_neg ?_ | refine VL.w_tt ?_
  | refine VL.w_isi ?_ | refine VL.w_aug rfl ?_ | refine VL.k_augI rfl ?_ | refine VL.k_augS rfl ?_
  | refine VL.k_augMul (by first | assumption | (apply VL.mulOk_l; omega) | (apply VL.mulOk_r; omega)) rfl ?_
  | refine VL.w_asg ?_ | refine VL.wg_name rfl ?_ | refine VL.wg_tup rfl ?_ | refine VL.wgs_cons ?_ | refine VL.wgs_nil ?_
  | refine VL.w_iter ?_ | refine VL.k_it rfl ?_ | refine VL.w_rng ?_ | refine VL.w_lc ?_ | refine VL.w_par ?_ | refine VL.k_par2 rfl rfl rfl rfl ?_ | refine VL.k_par3 rfl rfl rfl rfl rfl rfl ?_
  | refine VL.w_mut rfl ?_ | refine VL.w_store ?_ | refine VL.w_slice ?_ | refine VL.w_onone ?_ | refine VL.w_osome ?_ | refine VL.k_o ?_ | refine VL.w_in ?_ | refine VL.w_dnew ?_
  | refine VL.k_int ?_ | refine VL.k_lenF ?_ | refine VL.k_tupL ?_ | refine VL.k_isBB ?_ | refine VL.k_isntBB ?_ | refine VL.k_isN ?_ | refine VL.k_isntN ?_
  | refine VL.w_sortIt ?_ | refine VL.w_zip ?_ | refine VL.w_lstRg ?_ | refine VL.w_andV ?_ | refine VL.w_orV ?_ | refine VL.w_and ?_ | refine VL.w_or ?_ | refine VL.w_chain ?_)
local macro_rules | `(tactic| array_get_dec) => `(tactic| repeat sizeOf_list_dec)
namespace K47
open PySem PySem.Spec PyProof.Rows L2 VL
/-! ### the law's helpers -/
abbrev pot (a b c : Int) : PyData := .list [.int a, .int b, .int c]
theorem p0 (a b c : Int) : L2.atI [PyData.int a, .int b, .int c] 0 = some (.int a) := L2.atI_nat (j := 0) rfl
theorem p1 (a b c : Int) : L2.atI [PyData.int a, .int b, .int c] 1 = some (.int b) := L2.atI_nat (j := 1) rfl
theorem p2 (a b c : Int) : L2.atI [PyData.int a, .int b, .int c] 2 = some (.int c) := L2.atI_nat (j := 2) rfl
theorem ix0 : ixN 3 0 = some 0 := by decide
theorem ix2 : ixN 3 2 = some 2 := by decide
theorem mul_l {i j : Int} (h : i.natAbs < 2 ^ 64) : mulOk i j = true := by simp [mulOk, h]
theorem mul_r {i j : Int} (h : j.natAbs < 2 ^ 64) : mulOk i j = true := by simp [mulOk, h]
theorem bits_le {i : Int} {n : Nat} (h0 : 0 ≤ i) (h : i < 2 ^ n) : Builtin.Int.intBits i ≤ n := by
  unfold Builtin.Int.intBits
  split
  · omega
  · rename_i hz
    have hz : i.natAbs ≠ 0 := by simpa using hz
    have h2 : i.natAbs < 2 ^ n := by
      have : ((i.natAbs : Nat) : Int) < ((2 ^ n : Nat) : Int) := by rw [Int.natCast_pow]; simp; omega
      exact_mod_cast this
    have := (Nat.log2_lt hz).mpr h2
    omega
theorem log_le {u : Int} (h0 : 0 < u) (h : u ≤ 1000000) : u.natAbs.log2 < 9000 := by
  have h1 : u.natAbs < 2 ^ 20 := by
    have e : (2 : Nat) ^ 20 = 1048576 := by decide
    omega
  have h2 : u.natAbs ≠ 0 := by omega
  have := (Nat.log2_lt h2 (k := 20)).mpr h1
  omega
theorem e_take_1 {a b c u : Int} (ha : 0 < a) (hu : 0 < u) (hu2 : u ≤ 1000000) :
    φ__law_take [.pw false (pot a b c), .fz (.int u)] = some (.fz (.int (a % u)), [.pw false (pot (a / u) b c), .fz (.int u)]) := by
  have hl := log_le hu hu2
  simp [φ__law_take, f__law_take, vDef, vRet, vRetN, vAndV, vOrV, vNotV, vIsi, vVar, vC, rd, rdw, tyN, kit_ii, kit_ib, kit_tt, kit_ss, kit_it, vB, vChain, leF, ltF, gtF, geF, eqF, neF, isF, isntF, addF, subF, mulF, fdivF, modF, vOp2, vBlt, vaCons, vaNil, rdAll, lenF, VL.intF, absF, max2F, min2F, allF, anyF, listF, tupleF, sumF, sortedF, vCall, VL.free?, toArgs, toArg, apart, ownB, wb, wb1, SV.own, lk, backS, noBr, use, vUse, SV.fzd, SV.d, SV.k, SV.wr, vSeq, vSet, held, vIf, vAnd, vOr, vNot, vNever, vsNil, vExpr, vIdx, dk, dkOf, dkOw, isTupD, dgetF, key?, seq?, vTup, vuCons, vuNil, vuStar, vLst, vIn, inD, vMut, tyOwn, doM, appendG, vAug, iaddF, isubF, ntF, heldAll, VL.putAll, vPar, vStore, hasV, doSet, setG, moved, vIter, vRng, gN, gT, gsCons, gsNil, vAsg, vNeg, vIfE, vSlice, voNone, voSome, in62, SV.isP, vCnt, isLT, cntF, p0, p1, p2, ha, hu, hl, ix0]
theorem pri (c : Int) : ∃ p : Int, L2.atI [PyData.int 2147483647, .int 2147483629, .int 2147483587, .int 2147483579, .int 2147483563] (c % 5) = some (.int p) ∧ 0 < p ∧ p < 2147483648 := by
  have h : c % 5 = 0 ∨ c % 5 = 1 ∨ c % 5 = 2 ∨ c % 5 = 3 ∨ c % 5 = 4 := by omega
  rcases h with h | h | h | h | h <;> rw [h]
  · exact ⟨_, L2.atI_nat (j := 0) rfl, by omega, by omega⟩
  · exact ⟨_, L2.atI_nat (j := 1) rfl, by omega, by omega⟩
  · exact ⟨_, L2.atI_nat (j := 2) rfl, by omega, by omega⟩
  · exact ⟨_, L2.atI_nat (j := 3) rfl, by omega, by omega⟩
  · exact ⟨_, L2.atI_nat (j := 4) rfl, by omega, by omega⟩
theorem e_take_0 {a b c u : Int} (ha : ¬ 0 < a) (hb : 0 ≤ b) (hb2 : b < 2305843009213693951) (hc : 0 ≤ c) (hc2 : c ≤ 1000000) (hu : 0 < u) (hu2 : u ≤ 1000000) :
    ∃ d : Int, 0 ≤ d ∧ d < u ∧ φ__law_take [.pw false (pot a b c), .fz (.int u)] = some (.fz (.int d), [.pw false (pot a b (c + 1)), .fz (.int u)]) := by
  obtain ⟨p, hp, hp0, hp1⟩ := pri (c + 1)
  have h5 : (5 : Nat) ≤ sizeLine := by rw [PySem.sizeLine_eq]; omega
  have m1 : mulOk 95257 (c + 1) = true := mul_l (by decide)
  have m2 : mulOk (95257 * (c + 1)) (c + 1) = true := mul_r (by omega)
  have m3 : mulOk 419 (c + 1) = true := mul_l (by decide)
  have hq : 95257 * (c + 1) * (c + 1) ≤ 95257 * 1000001 * 1000001 := Int.mul_le_mul (by omega) (by omega) (by omega) (by omega)
  have hq0 : 0 ≤ 95257 * (c + 1) * (c + 1) := Int.mul_nonneg (by omega) (by omega)
  have hbits : (Builtin.Int.intBits (b + 95257 * (c + 1) * (c + 1) + 3163) : Int) * 3 ≤ 134217728 := by
    have := bits_le (i := b + 95257 * (c + 1) * (c + 1) + 3163) (n := 64) (by omega) (by omega)
    omega
  generalize hx : (b + 95257 * (c + 1) * (c + 1) + 3163) ^ 3 = x
  have m4 : mulOk (x % p) (x % p % 13441 + 419 * (c + 1)) = true := by
    have h1 := Int.emod_nonneg x (show p ≠ 0 by omega)
    have h2 := Int.emod_lt_of_pos x hp0
    exact mul_l (by omega)
  refine ⟨((x % p * (x % p % 13441 + 419 * (c + 1))) % 2305843009213693907 / 229) % u, Int.emod_nonneg _ (show u ≠ 0 by omega), Int.emod_lt_of_pos _ hu, ?_⟩
  have hf : Nat.log2 229 < 9000 := by decide
  simp [φ__law_take, f__law_take, vDef, vRet, vRetN, vAndV, vOrV, vNotV, vIsi, vVar, vC, rd, rdw, tyN, kit_ii, kit_ib, kit_tt, kit_ss, kit_it, vB, vChain, leF, ltF, gtF, geF, eqF, neF, isF, isntF, addF, subF, mulF, fdivF, modF, vOp2, vBlt, vaCons, vaNil, rdAll, lenF, VL.intF, absF, max2F, min2F, allF, anyF, listF, tupleF, sumF, sortedF, vCall, VL.free?, toArgs, toArg, apart, ownB, wb, wb1, SV.own, lk, backS, noBr, use, vUse, SV.fzd, SV.d, SV.k, SV.wr, vSeq, vSet, held, vIf, vAnd, vOr, vNot, vNever, vsNil, vExpr, vIdx, dk, dkOf, dkOw, isTupD, dgetF, key?, seq?, vTup, vuCons, vuNil, vuStar, vLst, vIn, inD, vMut, tyOwn, doM, appendG, vAug, iaddF, isubF, ntF, heldAll, VL.putAll, vPar, vStore, hasV, doSet, setG, moved, vIter, vRng, gN, gT, gsCons, gsNil, vAsg, vNeg, vIfE, vSlice, voNone, voSome, in62, SV.isP, vCnt, isLT, cntF, powF, p0, p1, p2, ha, ix2, h5, hp, m1, m2, m3, m4, hbits, hx, hp0, hu, hf]
def PotOk (n : Nat) (d : PyData) : Prop := ∃ a b c : Int, d = pot a b c ∧ 0 ≤ a ∧ 0 ≤ b ∧ b < 2305843009213693951 ∧ 0 ≤ c ∧ c ≤ n
theorem e_take {n : Nat} {d : PyData} {u : Int} (h : PotOk n d) (hn : n < 1000000) (hu : 0 < u) (hu2 : u ≤ 1000000) :
    ∃ (v : Int) (d' : PyData), 0 ≤ v ∧ v < u ∧ φ__law_take [.pw false d, .fz (.int u)] = some (.fz (.int v), [.pw false d', .fz (.int u)]) ∧ PotOk (n + 1) d' := by
  obtain ⟨a, b, c, rfl, h1, h2, h3, h4, h5⟩ := h
  by_cases ha : 0 < a
  · exact ⟨a % u, pot (a / u) b c, Int.emod_nonneg _ (by omega), Int.emod_lt_of_pos _ hu, e_take_1 ha hu hu2, a / u, b, c, rfl, Int.ediv_nonneg h1 (by omega), h2, h3, h4, by omega⟩
  · obtain ⟨v, h6, h7, h8⟩ := e_take_0 (a := a) (b := b) (c := c) (u := u) ha h2 h3 h4 (by omega) hu hu2
    exact ⟨v, pot a b (c + 1), h6, h7, h8, a, b, c + 1, rfl, h1, h2, h3, by omega, by omega⟩
theorem wb_pot {env : EV} {d d' : PyData} {u v : Int} (h : env[0]? = some (some (.pw false d))) : wb env [.br 0, .fz (.int u)] [.pw false d', .fz (.int v)] = env.set 0 (some (.pw false d')) := by
  unfold wb
  apply List.ext_getElem?
  intro i
  rw [List.getElem?_mapIdx]
  cases i with
  | zero =>
    have hl := (List.getElem?_eq_some_iff.mp h).1
    rw [h, List.getElem?_set_self hl]
    simp [wb1, SV.own, lk, backS]
  | succ i =>
    rw [List.getElem?_set_ne (by omega)]
    cases env[i + 1]? with
    | none => rfl
    | some o =>
      cases o with
      | none => rfl
      | some s => cases s <;> simp [wb1, SV.own, lk]
theorem powF_ii (i j : Int) (h0 : 0 ≤ j) (h : (Builtin.Int.intBits i : Int) * j ≤ 134217728) : powF (.int i) (.int j) = some (.fz (.int (i ^ j.toNat))) := by
  show (if (decide (0 ≤ j) && decide ((Builtin.Int.intBits i : Int) * j ≤ 2 ^ 27)) = true then some (R.fz (PyData.int (i ^ j.toNat))) else none) = _
  rw [if_pos (by simp [h0]; exact h)]
theorem e_pot {ns : List Int} {pl : Int} (h0 : 0 ≤ pl) (h1 : pl ≤ 2) : ∃ d outs, φ__law_pot [.sc ns, .fz (.int pl)] = some (.ow false d, outs) ∧ PotOk 0 d := by
  have cell : ∃ cell : Int, vSet 2 (vIfE (vB (vOp2 ltF (vVar 1) (vBlt lenF (vaCons (vVar 0) vaNil)))) (vIdx (vVar 0) (vVar 1)) (vOp2 addF (vOp2 addF (vOp2 modF (vBlt VL.intF (vaCons (vBlt sumF (vaCons (vSlice (vVar 0) voNone (voSome (vC (.int 1)))) vaNil)) vaNil)) (vC (.int 1000211))) (vOp2 mulF (vC (.int 4639)) (vVar 1))) (vC (.int 3163)))) [some (.sc ns), some (.fz (.int pl)), none, none, none] = some (.nx, [some (.sc ns), some (.fz (.int pl)), some (.fz (.int cell)), none, none]) := by
    by_cases c : pl < ns.length
    · have hl : pl.toNat < ns.length := by omega
      have e : L2.atI (ns.map PyData.int) pl = some (.int ns[pl.toNat]) := by
        have : pl = ((pl.toNat : Nat) : Int) := by omega
        conv => lhs; rw [this]
        refine L2.atI_nat ?_
        rw [List.getElem?_map, List.getElem?_eq_getElem hl]; rfl
      exact ⟨ns[pl.toNat], by simp [vDef, vRet, vRetN, vAndV, vOrV, vNotV, vIsi, vVar, vC, rd, rdw, tyN, kit_ii, kit_ib, kit_tt, kit_ss, kit_it, vB, vChain, leF, ltF, gtF, geF, eqF, neF, isF, isntF, addF, subF, mulF, fdivF, modF, vOp2, vBlt, vaCons, vaNil, rdAll, lenF, VL.intF, absF, max2F, min2F, allF, anyF, listF, tupleF, sumF, sortedF, vCall, VL.free?, toArgs, toArg, apart, ownB, wb, wb1, SV.own, lk, backS, noBr, use, vUse, SV.fzd, SV.d, SV.k, SV.wr, vSeq, vSet, held, vIf, vAnd, vOr, vNot, vNever, vsNil, vExpr, vIdx, dk, dkOf, dkOw, isTupD, dgetF, key?, seq?, vTup, vuCons, vuNil, vuStar, vLst, vIn, inD, vMut, tyOwn, doM, appendG, vAug, iaddF, isubF, ntF, heldAll, VL.putAll, vPar, vStore, hasV, doSet, setG, moved, vIter, vRng, gN, gT, gsCons, gsNil, vAsg, vNeg, vIfE, vSlice, voNone, voSome, in62, SV.isP, vCnt, isLT, cntF, c, e]⟩
    · have ec : ∃ ms : List Int, VL.cutD (ns.map PyData.int) none (some 1) = ms.map .int := ⟨_, by unfold VL.cutD; rw [← List.map_drop, ← List.map_take]⟩
      obtain ⟨ms, ec⟩ := ec
      have em : mulOk 4639 pl = true := mul_l (by decide)
      exact ⟨ms.sum % 1000211 + 4639 * pl + 3163, by simp [vDef, vRet, vRetN, vAndV, vOrV, vNotV, vIsi, vVar, vC, rd, rdw, tyN, kit_ii, kit_ib, kit_tt, kit_ss, kit_it, vB, vChain, leF, ltF, gtF, geF, eqF, neF, isF, isntF, addF, subF, mulF, fdivF, modF, vOp2, vBlt, vaCons, vaNil, rdAll, lenF, VL.intF, absF, max2F, min2F, allF, anyF, listF, tupleF, sumF, sortedF, vCall, VL.free?, toArgs, toArg, apart, ownB, wb, wb1, SV.own, lk, backS, noBr, use, vUse, SV.fzd, SV.d, SV.k, SV.wr, vSeq, vSet, held, vIf, vAnd, vOr, vNot, vNever, vsNil, vExpr, vIdx, dk, dkOf, dkOw, isTupD, dgetF, key?, seq?, vTup, vuCons, vuNil, vuStar, vLst, vIn, inD, vMut, tyOwn, doM, appendG, vAug, iaddF, isubF, ntF, heldAll, VL.putAll, vPar, vStore, hasV, doSet, setG, moved, vIter, vRng, gN, gT, gsCons, gsNil, vAsg, vNeg, vIfE, vSlice, voNone, voSome, in62, SV.isP, vCnt, isLT, cntF, c, ec, em]⟩
  obtain ⟨cell, hc⟩ := cell
  have b1 : ((Builtin.Int.intBits 10 : Nat) : Int) * 60 ≤ 134217728 := by decide +kernel
  have b2 : ((Builtin.Int.intBits (10 ^ 60) : Nat) : Int) * 5 ≤ 134217728 := by decide +kernel
  have b3 : ((Builtin.Int.intBits 10 : Nat) : Int) * 18 ≤ 134217728 := by decide +kernel
  unfold φ__law_pot f__law_pot
  simp only [vDef, List.length_cons, List.length_nil, List.map_cons, List.map_nil, if_true]
  show ∃ d outs, Option.bind (vSeq _ _ [some (.sc ns), some (.fz (.int pl)), none, none, none]) _ = _ ∧ _
  rw [seq_nx hc]
  generalize hab : (if cell < 0 then -cell else cell) = ab
  have hab0 : 0 ≤ ab := by rw [← hab]; split <;> omega
  have own : ∃ own : Int, 0 ≤ own ∧ vSet 3 (vOp2 mulF (vOp2 modF (vBlt VL.intF (vaCons (vBlt absF (vaCons (vVar 2) vaNil)) vaNil)) (vOp2 powF (vOp2 powF (vC (.int 10)) (vC (.int 60))) (vC (.int 5)))) (vBlt VL.intF (vaCons (vOp2 geF (vBlt absF (vaCons (vVar 2) vaNil)) (vOp2 powF (vC (.int 10)) (vC (.int 18)))) vaNil))) [some (.sc ns), some (.fz (.int pl)), some (.fz (.int cell)), none, none]
      = some (.nx, [some (.sc ns), some (.fz (.int pl)), some (.fz (.int cell)), some (.fz (.int own)), none]) := by
    have hb : (0 : Int) < (10 ^ 60) ^ 5 := Int.pow_pos (Int.pow_pos (by omega))
    have hb' := hb
    refine ⟨ab % (10 ^ 60) ^ 5 * (if (10 : Int) ^ 18 ≤ ab then 1 else 0), Int.mul_nonneg (Int.emod_nonneg _ (by omega)) (by split <;> omega), ?_⟩
    have q1 : vOp2 powF (vOp2 powF (vC (.int 10)) (vC (.int 60))) (vC (.int 5)) [some (.sc ns), some (.fz (.int pl)), some (.fz (.int cell)), none, none] = some (.fz (.int ((10 ^ 60) ^ 5)), [some (.sc ns), some (.fz (.int pl)), some (.fz (.int cell)), none, none]) := by
      have e1 : powF (.int 10) (.int 60) = some (.fz (.int (10 ^ 60))) := powF_ii 10 60 (by decide) b1
      have e2 : powF (.int (10 ^ 60)) (.int 5) = some (.fz (.int ((10 ^ 60) ^ 5))) := powF_ii (10 ^ 60) 5 (by decide) b2
      simp only [vOp2, vC, Option.bind_some, rd, e1, e2, Option.map_some]
    have q2 : vOp2 powF (vC (.int 10)) (vC (.int 18)) [some (.sc ns), some (.fz (.int pl)), some (.fz (.int cell)), none, none] = some (.fz (.int (10 ^ 18)), [some (.sc ns), some (.fz (.int pl)), some (.fz (.int cell)), none, none]) := by
      have e1 : powF (.int 10) (.int 18) = some (.fz (.int (10 ^ 18))) := powF_ii 10 18 (by decide) b3
      simp only [vOp2, vC, Option.bind_some, rd, e1, Option.map_some]
    generalize hB : ((10 : Int) ^ 60) ^ 5 = B at *
    generalize hC : (10 : Int) ^ 18 = C at *
    have q3 : vBlt absF (vaCons (vVar 2) vaNil) [some (.sc ns), some (.fz (.int pl)), some (.fz (.int cell)), none, none] = some (.fz (.int ab), [some (.sc ns), some (.fz (.int pl)), some (.fz (.int cell)), none, none]) := by
      simp [vDef, vRet, vRetN, vAndV, vOrV, vNotV, vIsi, vVar, vC, rd, rdw, tyN, kit_ii, kit_ib, kit_tt, kit_ss, kit_it, vB, vChain, leF, ltF, gtF, geF, eqF, neF, isF, isntF, addF, subF, mulF, fdivF, modF, vOp2, vBlt, vaCons, vaNil, rdAll, lenF, VL.intF, absF, max2F, min2F, allF, anyF, listF, tupleF, sumF, sortedF, vCall, VL.free?, toArgs, toArg, apart, ownB, wb, wb1, SV.own, lk, backS, noBr, use, vUse, SV.fzd, SV.d, SV.k, SV.wr, vSeq, vSet, held, vIf, vAnd, vOr, vNot, vNever, vsNil, vExpr, vIdx, dk, dkOf, dkOw, isTupD, dgetF, key?, seq?, vTup, vuCons, vuNil, vuStar, vLst, vIn, inD, vMut, tyOwn, doM, appendG, vAug, iaddF, isubF, ntF, heldAll, VL.putAll, vPar, vStore, hasV, doSet, setG, moved, vIter, vRng, gN, gT, gsCons, gsNil, vAsg, vNeg, vIfE, vSlice, voNone, voSome, in62, SV.isP, vCnt, isLT, cntF, hab]
    have em : ∀ x : Bool, mulOk (ab % B) (if x = true then 1 else 0) = true := fun x => mul_r (by cases x <;> decide)
    have q4 : vOp2 modF (vBlt VL.intF (vaCons (vBlt absF (vaCons (vVar 2) vaNil)) vaNil)) (vOp2 powF (vOp2 powF (vC (.int 10)) (vC (.int 60))) (vC (.int 5))) [some (.sc ns), some (.fz (.int pl)), some (.fz (.int cell)), none, none] = some (.fz (.int (ab % B)), [some (.sc ns), some (.fz (.int pl)), some (.fz (.int cell)), none, none]) := by
      generalize hf : vBlt absF (vaCons (vVar 2) vaNil) = f at *
      generalize hg : vOp2 powF (vOp2 powF (vC (.int 10)) (vC (.int 60))) (vC (.int 5)) = g at *
      simp [vOp2, vBlt, vaCons, vaNil, q3, q1, rdAll, rdw, rd, VL.intF, modF, hb]
    have q5 : vBlt VL.intF (vaCons (vOp2 geF (vBlt absF (vaCons (vVar 2) vaNil)) (vOp2 powF (vC (.int 10)) (vC (.int 18)))) vaNil) [some (.sc ns), some (.fz (.int pl)), some (.fz (.int cell)), none, none] = some (.fz (.int (if C ≤ ab then 1 else 0)), [some (.sc ns), some (.fz (.int pl)), some (.fz (.int cell)), none, none]) := by
      generalize hf : vBlt absF (vaCons (vVar 2) vaNil) = f at *
      generalize hg : vOp2 powF (vC (.int 10)) (vC (.int 18)) = g at *
      simp [vOp2, vBlt, vaCons, vaNil, q3, q2, rdAll, rdw, rd, VL.intF, geF]
    have em' : mulOk (ab % B) (if C ≤ ab then 1 else 0) = true := mul_r (by split <;> decide)
    have q6 : ∀ f g : VE, f [some (.sc ns), some (.fz (.int pl)), some (.fz (.int cell)), none, none] = some (.fz (.int (ab % B)), [some (.sc ns), some (.fz (.int pl)), some (.fz (.int cell)), none, none]) → g [some (.sc ns), some (.fz (.int pl)), some (.fz (.int cell)), none, none] = some (.fz (.int (if C ≤ ab then 1 else 0)), [some (.sc ns), some (.fz (.int pl)), some (.fz (.int cell)), none, none]) →
        vSet 3 (vOp2 mulF f g) [some (.sc ns), some (.fz (.int pl)), some (.fz (.int cell)), none, none] = some (.nx, [some (.sc ns), some (.fz (.int pl)), some (.fz (.int cell)), some (.fz (.int (ab % B * (if C ≤ ab then 1 else 0)))), none]) := fun f g hf hg => by
      simp [vSet, vOp2, hf, hg, rd, mulF, em', held, VL.free?]
    exact q6 _ _ q4 q5
  obtain ⟨own, ho, hown⟩ := own
  rw [seq_nx hown]
  have m1 : mulOk (cell % 2305843009213693951) 72161 = true := mul_r (by decide)
  have m2 : mulOk 10853 pl = true := mul_l (by decide)
  have m3 : mulOk (10853 * pl) pl = true := mul_r (by omega)
  have h3 : (3 : Nat) ≤ sizeLine := by rw [PySem.sizeLine_eq]; omega
  have hlt := Int.emod_lt_of_pos (cell % 2305843009213693951 * 72161 + 10853 * pl * pl + 2843) (show (0 : Int) < 2305843009213693921 by decide)
  have hge := Int.emod_nonneg (cell % 2305843009213693951 * 72161 + 10853 * pl * pl + 2843) (show (2305843009213693921 : Int) ≠ 0 by decide)
  refine ⟨pot own ((cell % 2305843009213693951 * 72161 + 10853 * pl * pl + 2843) % 2305843009213693921) 0, [.sc ns, .fz (.int pl)], ?_, own, _, 0, rfl, ho, hge, by omega, by omega, by omega⟩
  simp [vDef, vRet, vRetN, vAndV, vOrV, vNotV, vIsi, vVar, vC, rd, rdw, tyN, kit_ii, kit_ib, kit_tt, kit_ss, kit_it, vB, vChain, leF, ltF, gtF, geF, eqF, neF, isF, isntF, addF, subF, mulF, fdivF, modF, vOp2, vBlt, vaCons, vaNil, rdAll, lenF, VL.intF, absF, max2F, min2F, allF, anyF, listF, tupleF, sumF, sortedF, vCall, VL.free?, toArgs, toArg, apart, ownB, wb, wb1, SV.own, lk, backS, noBr, use, vUse, SV.fzd, SV.d, SV.k, SV.wr, vSeq, vSet, held, vIf, vAnd, vOr, vNot, vNever, vsNil, vExpr, vIdx, dk, dkOf, dkOw, isTupD, dgetF, key?, seq?, vTup, vuCons, vuNil, vuStar, vLst, vIn, inD, vMut, tyOwn, doM, appendG, vAug, iaddF, isubF, ntF, heldAll, VL.putAll, vPar, vStore, hasV, doSet, setG, moved, vIter, vRng, gN, gT, gsCons, gsNil, vAsg, vNeg, vIfE, vSlice, voNone, voSome, in62, SV.isP, vCnt, isLT, cntF, m1, m2, m3, h3]
theorem e_cells (ns : List Int) : ∃ (n : Nat) (outs : List SV), n ≤ 3 ∧ φ__law_cells [.sc ns, .fz (.int 3)] = some (.ow false (.list ((List.range n).map fun i : Nat => PyData.int i)), outs) := by
  have e : ∃ m : Int, (if (if (ns.length : Int) < 3 then (ns.length : Int) else 3) > 1 then (if (ns.length : Int) < 3 then (ns.length : Int) else 3) else 1) = m ∧ 1 ≤ m ∧ m ≤ 3 := ⟨_, rfl, by split <;> omega, by split <;> split <;> omega⟩
  obtain ⟨m, hm, m1, m3⟩ := e
  refine ⟨m.toNat, [.sc ns, .fz (.int 3)], by omega, ?_⟩
  have hin : (-4611686018427387904 ≤ m ∧ m < 4611686018427387904) ∧ m ≤ 16777216 := by omega
  simp [φ__law_cells, f__law_cells, vLstRg, vDef, vRet, vRetN, vAndV, vOrV, vNotV, vIsi, vVar, vC, rd, rdw, tyN, kit_ii, kit_ib, kit_tt, kit_ss, kit_it, vB, vChain, leF, ltF, gtF, geF, eqF, neF, isF, isntF, addF, subF, mulF, fdivF, modF, vOp2, vBlt, vaCons, vaNil, rdAll, lenF, VL.intF, absF, max2F, min2F, allF, anyF, listF, tupleF, sumF, sortedF, vCall, VL.free?, toArgs, toArg, apart, ownB, wb, wb1, SV.own, lk, backS, noBr, use, vUse, SV.fzd, SV.d, SV.k, SV.wr, vSeq, vSet, held, vIf, vAnd, vOr, vNot, vNever, vsNil, vExpr, vIdx, dk, dkOf, dkOw, isTupD, dgetF, key?, seq?, vTup, vuCons, vuNil, vuStar, vLst, vIn, inD, vMut, tyOwn, doM, appendG, vAug, iaddF, isubF, ntF, heldAll, VL.putAll, vPar, vStore, hasV, doSet, setG, moved, vIter, vRng, gN, gT, gsCons, gsNil, vAsg, vNeg, vIfE, vSlice, voNone, voSome, in62, SV.isP, vCnt, isLT, cntF, hm, rangeD, hin]

theorem pot_mono {n m : Nat} {d : PyData} (h : PotOk n d) (hl : n ≤ m) : PotOk m d := by
  obtain ⟨a, b, c, e, h1, h2, h3, h4, h5⟩ := h
  exact ⟨a, b, c, e, h1, h2, h3, h4, by omega⟩
theorem wb_pot' {t : EV} {d d' : PyData} {rs : List R} {outs : List SV} (hr : noBr rs = true) : wb (some (.pw false d) :: t) (.br 0 :: rs) (.pw false d' :: outs) = some (.pw false d') :: t := by
  have h := wb_noBr (env := some (.pw false d) :: t) (outs := outs) hr
  unfold wb at h ⊢
  apply List.ext_getElem?
  intro i
  have hi := congrArg (fun l : EV => l[i]?) h
  simp only [List.getElem?_mapIdx] at hi ⊢
  cases i with
  | zero => simp [wb1, SV.own, lk, backS]
  | succ i =>
    simp only [List.getElem?_cons_succ] at hi ⊢
    refine Eq.trans ?_ hi
    have e : ∀ x, wb1 (.br 0 :: rs) (.pw false d' :: outs) (i + 1) x = wb1 rs outs (i + 1) x := fun x => by
      have : lk (i + 1) (.br 0 :: rs) (.pw false d' :: outs) = lk (i + 1) rs outs := by simp [lk]
      unfold wb1; rw [this]
    rw [show wb1 (.br 0 :: rs) (.pw false d' :: outs) (i + 1) = wb1 rs outs (i + 1) from funext e]
theorem i_law_of {n : Nat} {d : PyData} {xs : List PyData} (hd : PotOk n d) (hn : n < 1000000) (h0 : 0 < xs.length) (h1 : xs.length ≤ 1000) :
    ∃ (v : Nat) (x d' : PyData), xs[v]? = some x ∧ PotOk (n + 1) d' ∧ Ca φ__law_of [.pw false d, .pw false (.list xs)] fun r outs => r = .fz x ∧ ∃ t, outs = .pw false d' :: t := by
  obtain ⟨v, d', h2, h3, h4, h5⟩ := e_take (u := (xs.length : Int)) hd hn (by omega) (by omega)
  have hv : v.toNat < xs.length := by omega
  refine ⟨v.toNat, xs[v.toNat], d', List.getElem?_eq_getElem hv, h5, ?_⟩
  unfold φ__law_of f__law_of
  refine ca_def' rfl ?_
  array_get_dec
  refine k_len rfl rfl ?_
  array_get_dec
  refine k_callB (P := fun r outs => r = .fz (.int v) ∧ outs = [.pw false d', .fz (.int xs.length)]) rfl rfl ⟨_, _, h4, rfl, rfl⟩ fun r outs ⟨hr, ho⟩ => ?_
  subst hr ho
  rw [wb_pot' rfl]
  refine k_idxL (xs := xs) (j := v) rfl rfl rfl rfl (d := xs[v.toNat]) ?_ ?_
  · have : v = ((v.toNat : Nat) : Int) := by omega
    conv => lhs; rw [this]
    exact L2.atI_nat (List.getElem?_eq_getElem hv)
  · array_get_dec
    exact ⟨_, rfl, fun outs ho => ⟨rfl, get0 (ho 0 _ (by omega) rfl)⟩⟩
theorem k_take {n : Nat} {t : EV} {d : PyData} {Q : R → EV → Prop} {u : Int} (hd : PotOk n d) (hn : n < 1000000) (hu : 0 < u) (hu2 : u ≤ 1000000)
    (q : ∀ v d', 0 ≤ v → v < u → PotOk (n + 1) d' → Q (.fz (.int v)) (some (.pw false d') :: t)) : kCall φ__law_take Q [.br 0, .fz (.int u)] (some (.pw false d) :: t) := by
  obtain ⟨v, d', h1, h2, h3, h4⟩ := e_take hd hn hu hu2
  refine k_callB (P := fun r outs => r = .fz (.int v) ∧ outs = [.pw false d', .fz (.int u)]) rfl rfl ⟨_, _, h3, rfl, rfl⟩ fun r outs ⟨hr, ho⟩ => ?_
  subst hr ho
  rw [wb_pot' rfl]
  exact q v d' h1 h2 h4
theorem k_of {n : Nat} {t : EV} {d : PyData} {xs : List PyData} {Q : R → EV → Prop} (hd : PotOk n d) (hn : n < 1000000) (h0 : 0 < xs.length) (h1 : xs.length ≤ 1000)
    (q : ∀ (v : Nat) (x d' : PyData), xs[v]? = some x → PotOk (n + 1) d' → Q (.fz x) (some (.pw false d') :: t)) : kCall φ__law_of Q [.br 0, .ow false (.list xs)] (some (.pw false d) :: t) := by
  obtain ⟨v, x, d', g1, g2, g3⟩ := i_law_of hd hn h0 h1
  refine k_callB rfl rfl g3 fun r outs ⟨hr, t', ho⟩ => ?_
  subst hr ho
  rw [wb_pot' rfl]
  exact q v x d' g1 g2
/-- the law, once a cell's part is shown -/
theorem law_of_right (hR : ∀ d, PotOk 0 d → Is φ__law_right [.pw false d] (.fz (.bool true))) (ns : List Int) (_ : ns.length ≤ 63) : ∃ outs, φ_law [.sc ns] = some (.fz (.bool true), outs) := by
  obtain ⟨n, outs, n3, hc⟩ := e_cells ns
  show Is φ_law _ _
  unfold φ_law f_law
  refine is_def' rfl ?_
  array_get_dec
  refine k_call rfl rfl ⟨outs, hc⟩ ?_
  array_get_dec
  refine k_lcM (fun i : Nat => PyData.int i) (fun _ => PyData.bool true) (by rw [List.length_range, PySem.sizeLine_eq]; omega) (fun i hi => ?_) ?_
  · have hi := List.mem_range.mp hi
    obtain ⟨d, o1, hp, hok⟩ := e_pot (ns := ns) (pl := (i : Int)) (by omega) (by omega)
    array_get_dec
    refine k_call rfl rfl ⟨o1, hp⟩ ?_
    array_get_dec
    refine k_call rfl rfl (hR d hok) ?_
    array_get_dec
    exact ⟨rfl, by array_mem_dec⟩
  · array_get_dec
    refine k_allM ?_
    array_get_dec
    exact k_fin' (by simp [fin])
end K47

namespace K47
open VL
/-! ### the mathematics: floats -/
abbrev Cs := List (Int × Int)
/-- a sum over coins, each face weighed -/
def S (w : Int → Int) : Cs → Int
  | [] => 0
  | p :: t => w p.1 * p.2 + S w t
def wt : Cs → Int := S fun f => f
def many : Cs → Int := S fun _ => 1
def low (x : Int) : Cs → Int := S fun f => if f < x then f else 0
theorem S_append (w : Int → Int) : ∀ a b : Cs, S w (a ++ b) = S w a + S w b
  | [], b => by simp [S]
  | p :: a, b => by simp only [List.cons_append, S, S_append w a b]; omega
theorem S_perm (w : Int → Int) {a b : Cs} (h : a.Perm b) : S w a = S w b := by
  induction h with
  | nil => rfl
  | cons x _ ih => simp only [S, ih]
  | swap x y l => simp only [S]; omega
  | trans _ _ h1 h2 => exact h1.trans h2
theorem S_nonneg {w : Int → Int} : ∀ {a : Cs}, (∀ p ∈ a, 0 ≤ w p.1 ∧ 0 ≤ p.2) → 0 ≤ S w a
  | [], _ => by simp [S]
  | p :: a, h => by
    have h1 := h p (by simp)
    have h2 := S_nonneg (a := a) fun q hq => h q (by simp [hq])
    have h3 := Int.mul_nonneg h1.1 h1.2
    simp only [S]; omega
theorem S_mono {w v : Int → Int} : ∀ {a : Cs}, (∀ p ∈ a, w p.1 ≤ v p.1 ∧ 0 ≤ p.2) → S w a ≤ S v a
  | [], _ => by simp [S]
  | p :: a, h => by
    have h1 := h p (by simp)
    have h2 := S_mono (a := a) fun q hq => h q (by simp [hq])
    have h3 := Int.mul_le_mul_of_nonneg_right h1.1 h1.2
    simp only [S]; omega
/-- ascending, each face once, at least one of each -/
def Asc (cs : Cs) : Prop := cs.Pairwise (fun p q => p.1 < q.1) ∧ ∀ p ∈ cs, 1 ≤ p.1 ∧ 1 ≤ p.2
theorem Asc.tail {p : Int × Int} {t : Cs} (h : Asc (p :: t)) : Asc t := ⟨(List.pairwise_cons.mp h.1).2, fun q hq => h.2 q (by simp [hq])⟩
theorem Asc.head {p : Int × Int} {t : Cs} (h : Asc (p :: t)) : ∀ q ∈ t, p.1 < q.1 := (List.pairwise_cons.mp h.1).1
theorem low_head {cs : Cs} {x : Int} (h : ∀ q ∈ cs, x ≤ q.1) : low x cs = 0 := by
  induction cs with
  | nil => rfl
  | cons p t ih =>
    have h1 := h p (by simp)
    have := ih fun q hq => h q (by simp [hq])
    simp only [low, S] at this ⊢
    rw [if_neg (by omega), this]; omega
theorem low_nonneg {cs : Cs} (h : Asc cs) (x : Int) : 0 ≤ low x cs := S_nonneg fun p hp => by
  have := h.2 p hp
  constructor
  · split <;> omega
  · omega
def keys (cs : Cs) : List Int := cs.map (·.1)
def addD (d : Cs) (f c : Int) : Cs := if f ∈ keys d then d.map (fun p => if p.1 = f then (p.1, p.2 + c) else p) else d ++ [(f, c)]
theorem keys_addD {d : Cs} {f c : Int} : keys (addD d f c) = if f ∈ keys d then keys d else keys d ++ [f] := by
  unfold addD
  split
  · unfold keys
    rw [List.map_map]
    apply List.map_congr_left
    intro p _
    simp only [Function.comp]
    split <;> rfl
  · simp [keys]
theorem mem_keys_addD {d : Cs} {f c x : Int} : x ∈ keys (addD d f c) ↔ x ∈ keys d ∨ x = f := by
  rw [keys_addD]
  split
  · constructor
    · exact .inl
    · rintro (h | rfl)
      · exact h
      · assumption
  · simp
theorem nodup_addD {d : Cs} {f c : Int} (h : (keys d).Nodup) : (keys (addD d f c)).Nodup := by
  rw [keys_addD]
  split
  · exact h
  · rename_i n
    rw [List.nodup_append]
    exact ⟨h, by simp, fun a ha b hb => by simp at hb; subst hb; intro e; exact n (e ▸ ha)⟩
theorem S_upd (w : Int → Int) (f c : Int) : ∀ {d : Cs}, (keys d).Nodup → f ∈ keys d → S w (d.map (fun p => if p.1 = f then (p.1, p.2 + c) else p)) = S w d + w f * c
  | [], _, h => by simp [keys] at h
  | p :: d, n, h => by
    have n' := List.nodup_cons.mp n
    by_cases e : p.1 = f
    · have : d.map (fun p => if p.1 = f then (p.1, p.2 + c) else p) = d := by
        rw [List.map_congr_left (g := id)]
        · simp
        · intro q hq
          have : q.1 ≠ f := fun z => n'.1 (by rw [show (fun x : Int × Int => x.1) p = p.1 from rfl, e, ← z]; exact List.mem_map.mpr ⟨q, hq, rfl⟩)
          simp [this]
      rw [List.map_cons, if_pos e, this]
      simp only [S, e]
      rw [Int.mul_add]; omega
    · have hm : f ∈ keys d := by
        rcases List.mem_cons.mp h with z | z
        · exact absurd z.symm e
        · exact z
      rw [List.map_cons, if_neg e]
      simp only [S, S_upd w f c n'.2 hm]; omega
theorem S_addD (w : Int → Int) {d : Cs} {f c : Int} (n : (keys d).Nodup) : S w (addD d f c) = S w d + w f * c := by
  unfold addD
  split
  · rename_i h; exact S_upd w f c n h
  · rw [S_append]; simp [S]
def addAll (d more : Cs) : Cs := more.foldl (fun d p => addD d p.1 p.2) d
theorem nodup_addAll : ∀ {more d : Cs}, (keys d).Nodup → (keys (addAll d more)).Nodup
  | [], _, h => h
  | p :: more, d, h => nodup_addAll (more := more) (nodup_addD h)
theorem S_addAll (w : Int → Int) : ∀ {more d : Cs}, (keys d).Nodup → S w (addAll d more) = S w d + S w more
  | [], _, _ => by simp [addAll, S]
  | p :: more, d, h => by
    have h1 := S_addAll w (more := more) (d := addD d p.1 p.2) (nodup_addD h)
    rw [S_addD w h] at h1
    show S w (addAll (addD d p.1 p.2) more) = _
    rw [h1]; simp only [S]; omega
theorem mem_addAll : ∀ {more d : Cs} {x : Int}, x ∈ keys (addAll d more) ↔ x ∈ keys d ∨ x ∈ keys more
  | [], d, x => by simp [addAll, keys]
  | p :: more, d, x => by
    show x ∈ keys (addAll (addD d p.1 p.2) more) ↔ _
    rw [mem_addAll, mem_keys_addD]
    simp only [keys, List.map_cons, List.mem_cons, or_assoc]
theorem pos_addD {d : Cs} {f c : Int} (h : ∀ p ∈ d, 1 ≤ p.1 ∧ 1 ≤ p.2) (hf : 1 ≤ f ∧ 1 ≤ c) : ∀ p ∈ addD d f c, 1 ≤ p.1 ∧ 1 ≤ p.2 := by
  unfold addD
  split
  · intro p hp
    obtain ⟨q, hq, rfl⟩ := List.mem_map.mp hp
    have := h q hq
    split
    · exact ⟨this.1, by show 1 ≤ q.2 + c; omega⟩
    · exact this
  · intro p hp
    rcases List.mem_append.mp hp with hp | hp
    · exact h p hp
    · simp at hp; subst hp; exact hf
theorem pos_addAll : ∀ {more d : Cs}, (∀ p ∈ d, 1 ≤ p.1 ∧ 1 ≤ p.2) → (∀ p ∈ more, 1 ≤ p.1 ∧ 1 ≤ p.2) → ∀ p ∈ addAll d more, 1 ≤ p.1 ∧ 1 ≤ p.2
  | [], _, h, _ => h
  | p :: more, d, h, h' => pos_addAll (more := more) (pos_addD h (h' p (by simp))) fun q hq => h' q (by simp [hq])
theorem len_addD {d : Cs} {f c : Int} : (addD d f c).length ≤ d.length + 1 := by
  unfold addD
  split <;> simp
theorem len_addAll : ∀ {more d : Cs}, (addAll d more).length ≤ d.length + more.length
  | [], _ => by simp [addAll]
  | p :: more, d => by
    have h1 := len_addAll (more := more) (d := addD d p.1 p.2)
    have h2 := len_addD (d := d) (f := p.1) (c := p.2)
    show (addAll (addD d p.1 p.2) more).length ≤ _
    simp only [List.length_cons]; omega
theorem many_one : ∀ {cs : Cs}, (∀ p ∈ cs, 1 ≤ p.2) → ∀ p ∈ cs, p.2 ≤ many cs
  | [], _, p, hp => by cases hp
  | q :: cs, h, p, hp => by
    have h0 := h q (by simp)
    have hn : 0 ≤ many cs := S_nonneg fun r hr => ⟨by omega, by have := h r (by simp [hr]); omega⟩
    have e : many (q :: cs) = q.2 + many cs := by simp [many, S]
    rcases List.mem_cons.mp hp with rfl | hp
    · omega
    · have := many_one (cs := cs) (fun r hr => h r (by simp [hr])) p hp; omega
theorem mem_wt : ∀ {cs : Cs}, Asc cs → ∀ p ∈ cs, p.1 ≤ wt cs
  | [], _, p, hp => by cases hp
  | q :: cs, h, p, hp => by
    have h0 := h.2 q (by simp)
    have hn : 0 ≤ wt cs := S_nonneg fun r hr => by have := h.2 r (by simp [hr]); omega
    have e : wt (q :: cs) = q.1 * q.2 + wt cs := by simp [wt, S]
    have hm : q.1 * 1 ≤ q.1 * q.2 := Int.mul_le_mul_of_nonneg_left h0.2 (by omega)
    rcases List.mem_cons.mp hp with rfl | hp
    · omega
    · have := mem_wt h.tail p hp; omega
theorem asc_uniq : ∀ {as bs : Cs}, as.Pairwise (fun p q => p.1 < q.1) → bs.Pairwise (fun p q => p.1 < q.1) → as.Perm bs → as = bs := fun ha hb p =>
  List.Perm.eq_of_pairwise (le := fun p q : Int × Int => p.1 < q.1) (fun a b _ _ h1 h2 => by omega) ha hb p
/-! ### the greatest no above the next amount -/
/-- the lots that come of two -/
structure Tog (a b t : Cs) : Prop where
  asc : Asc t
  S : ∀ w, S w t = S w a + S w b
  key : ∀ x, x ∈ keys t ↔ x ∈ keys a ∨ x ∈ keys b
theorem asc_one {f c : Int} (hf : 1 ≤ f) (hc : 1 ≤ c) : Asc [(f, c)] := ⟨by simp, fun p hp => by simp at hp; subst hp; exact ⟨hf, hc⟩⟩
end K47

namespace K47
open VL
/-! ### vectors: so many of each face -/
abbrev Vec := List Int
def vsub : Vec → Vec → Vec := List.zipWith (· - ·)
def vadd : Vec → Vec → Vec := List.zipWith (· + ·)
def lev (a b : Vec) : Bool := (List.zip a b).all fun p => decide (p.1 ≤ p.2)
/-- what a vector of coins is worth -/
def wv (cs : Cs) (v : Vec) : Int := ((List.zip cs v).map fun p => p.1.1 * p.2).sum
theorem vsub_len {a b : Vec} {n : Nat} (ha : a.length = n) (hb : b.length = n) : (vsub a b).length = n := by simp [vsub, ha, hb]
theorem vadd_len {a b : Vec} {n : Nat} (ha : a.length = n) (hb : b.length = n) : (vadd a b).length = n := by simp [vadd, ha, hb]
theorem vadd_vsub : ∀ {a b : Vec}, a.length = b.length → vadd (vsub a b) b = a
  | [], [], _ => rfl
  | x :: a, y :: b, h => by
    have := vadd_vsub (a := a) (b := b) (by simpa using h)
    simp only [vadd, vsub, List.zipWith_cons_cons] at this ⊢
    rw [this]; congr 1; omega
  | [], _ :: _, h => by simp at h
  | _ :: _, [], h => by simp at h
theorem vsub_comm : ∀ {a b c : Vec}, vsub (vsub a b) c = vsub a (vadd b c)
  | [], _, _ => by simp [vsub]
  | _ :: _, [], _ => by simp [vsub, vadd]
  | _ :: _, _ :: _, [] => by simp [vsub, vadd]
  | x :: a, y :: b, z :: c => by
    have := vsub_comm (a := a) (b := b) (c := c)
    simp only [vsub, vadd, List.zipWith_cons_cons] at this ⊢
    rw [this]; congr 1; omega
theorem vw_sub : ∀ {cs : Cs} {a b : Vec}, a.length = cs.length → b.length = cs.length → wv cs (vsub a b) = wv cs a - wv cs b
  | [], a, b, ha, hb => by simp [wv]
  | c :: cs, [], _, h, _ => by simp at h
  | c :: cs, _ :: _, [], _, h => by simp at h
  | c :: cs, x :: a, y :: b, ha, hb => by
    have := vw_sub (cs := cs) (a := a) (b := b) (by simpa using ha) (by simpa using hb)
    simp only [wv, vsub, List.zipWith_cons_cons, List.zip_cons_cons, List.map_cons, List.sum_cons] at this ⊢
    rw [this, Int.mul_sub]; omega
def vnn (v : Vec) : Prop := ∀ x ∈ v, 0 ≤ x
theorem vnn_sub : ∀ {a b : Vec}, a.length = b.length → lev b a = true → vnn (vsub a b)
  | [], [], _, _ => by simp [vsub, vnn]
  | x :: a, y :: b, h, l => by
    simp only [lev, List.zip_cons_cons, List.all_cons, Bool.and_eq_true, decide_eq_true_eq] at l
    have := vnn_sub (a := a) (b := b) (by simpa using h) l.2
    intro z hz
    simp only [vsub, List.zipWith_cons_cons, List.mem_cons] at hz
    rcases hz with rfl | hz
    · omega
    · exact this z hz
  | [], _ :: _, h, _ => by simp at h
  | _ :: _, [], h, _ => by simp at h
theorem vw_nn : ∀ {cs : Cs} {v : Vec}, (∀ p ∈ cs, 1 ≤ p.1) → vnn v → 0 ≤ wv cs v
  | [], v, _, _ => by simp [wv]
  | c :: cs, [], _, _ => by simp [wv]
  | c :: cs, x :: v, h, n => by
    have h1 := vw_nn (cs := cs) (v := v) (fun p hp => h p (by simp [hp])) fun y hy => n y (by simp [hy])
    have h2 := Int.mul_nonneg (show 0 ≤ c.1 by have := h c (by simp); omega) (n x (by simp))
    simp only [wv, List.zip_cons_cons, List.map_cons, List.sum_cons] at h1 ⊢
    omega
/-- worth nothing: none of each -/
theorem vw_zero : ∀ {cs : Cs} {v : Vec}, (∀ p ∈ cs, 1 ≤ p.1) → v.length = cs.length → vnn v → wv cs v = 0 → v = List.replicate cs.length 0
  | [], v, _, h, _, _ => by simp at h; simp [h]
  | c :: cs, [], _, h, _, _ => by simp at h
  | c :: cs, x :: v, h, hl, n, e => by
    have h1 := vw_nn (cs := cs) (v := v) (fun p hp => h p (by simp [hp])) fun y hy => n y (by simp [hy])
    have hc := h c (by simp)
    have hx := n x (by simp)
    have h2 := Int.mul_nonneg (show 0 ≤ c.1 by omega) hx
    simp only [wv, List.zip_cons_cons, List.map_cons, List.sum_cons] at h1 e
    have e0 : wv cs v = 0 := by simp only [wv]; omega
    have ex : c.1 * x = 0 := by omega
    have x0 : x = 0 := by
      rcases Int.mul_eq_zero.mp ex with h | h
      · omega
      · exact h
    rw [vw_zero (cs := cs) (fun p hp => h p (by simp [hp])) (by simpa using hl) (fun y hy => n y (by simp [hy])) e0, x0]
    rfl
/-! ### the moves that pay an amount -/
def mvAll : Cs → List (Vec × Int) → List (Vec × Int)
  | [], found => found
  | c :: cs, found => mvAll cs (found.flatMap fun q => (List.range ((if q.2 / c.1 < c.2 then q.2 / c.1 else c.2) + 1).toNat).map fun (m : Nat) => (q.1 ++ [(m : Int)], q.2 - (m : Int) * c.1))
def movesP (cs : Cs) (a : Int) : List Vec := ((mvAll cs [([], a)]).filter fun q => decide (q.2 = 0)).map (·.1)
/-- m fits into cs and pays a -/
def Mv (cs : Cs) (a : Int) (m : Vec) : Prop := m.length = cs.length ∧ vnn m ∧ (∀ (i : Nat) (c : Int × Int) (x : Int), cs[i]? = some c → m[i]? = some x → x ≤ c.2) ∧ wv cs m = a
def Fits : Cs → Vec → Prop
  | [], m => m = []
  | c :: cs, m => ∃ x t, m = x :: t ∧ 0 ≤ x ∧ x ≤ c.2 ∧ Fits cs t
theorem Fits.len : ∀ {cs : Cs} {m : Vec}, Fits cs m → m.length = cs.length
  | [], _, h => by rw [h]; rfl
  | c :: cs, _, ⟨x, t, e, _, _, h⟩ => by rw [e]; simp [h.len]
theorem Fits.nn : ∀ {cs : Cs} {m : Vec}, Fits cs m → vnn m
  | [], _, h => by rw [h]; intro x hx; simp at hx
  | c :: cs, _, ⟨x, t, e, h0, _, h⟩ => by
    rw [e]; intro y hy
    rcases List.mem_cons.mp hy with rfl | hy
    · exact h0
    · exact h.nn y hy
theorem mem_mvAll : ∀ {cs : Cs} {found : List (Vec × Int)} {r : Vec} {l : Int}, (∀ p ∈ cs, 1 ≤ p.1 ∧ 0 ≤ p.2) → (∀ q ∈ found, 0 ≤ q.2) →
    ((r, l) ∈ mvAll cs found ↔ ∃ q ∈ found, ∃ m, Fits cs m ∧ r = q.1 ++ m ∧ l = q.2 - wv cs m ∧ 0 ≤ l)
  | [], found, r, l, _, hf => by
    simp only [mvAll]
    constructor
    · intro h
      exact ⟨(r, l), h, [], rfl, by simp, by simp [wv], hf _ h⟩
    · rintro ⟨q, hq, m, rfl, h1, h2, _⟩
      have : (r, l) = q := by rw [h1, h2]; simp [wv]
      rw [this]; exact hq
  | c :: cs, found, r, l, hc, hf => by
    have c1 := hc c (by simp)
    have hk : ∀ x : Int, 0 ≤ x → 0 ≤ x / c.1 := fun x h => Int.ediv_nonneg h (by omega)
    rw [mvAll, mem_mvAll (fun p hp => hc p (by simp [hp])) (fun q hq => ?_)]
    · constructor
      · rintro ⟨q, hq, m, fm, h1, h2, h3⟩
        obtain ⟨q0, hq0, hq⟩ := List.mem_flatMap.mp hq
        obtain ⟨k, hk2, rfl⟩ := List.mem_map.mp hq
        have hk3 := List.mem_range.mp hk2
        have n0 := hk q0.2 (hf q0 hq0)
        refine ⟨q0, hq0, (k : Int) :: m, ⟨k, m, rfl, by omega, ?_, fm⟩, by rw [h1]; simp, ?_, h3⟩
        · split at hk3 <;> omega
        · rw [h2]
          simp only [wv, List.zip_cons_cons, List.map_cons, List.sum_cons]
          rw [Int.mul_comm c.1]; omega
      · rintro ⟨q0, hq0, m, ⟨x, t, rfl, x0, x1, ft⟩, h1, h2, h3⟩
        have n0 := hk q0.2 (hf q0 hq0)
        have wn : 0 ≤ wv cs t := vw_nn (fun p hp => (hc p (by simp [hp])).1) ft.nn
        have e2 : l = q0.2 - c.1 * x - wv cs t := by
          rw [h2]
          simp only [wv, List.zip_cons_cons, List.map_cons, List.sum_cons]; omega
        have hx : x ≤ q0.2 / c.1 := (Int.le_ediv_iff_mul_le (by omega)).mpr (by rw [Int.mul_comm]; omega)
        refine ⟨(q0.1 ++ [x], q0.2 - x * c.1), List.mem_flatMap.mpr ⟨q0, hq0, List.mem_map.mpr ⟨x.toNat, List.mem_range.mpr ?_, ?_⟩⟩, t, ft, by rw [h1]; simp, ?_, h3⟩
        · split <;> omega
        · rw [Int.toNat_of_nonneg x0]
        · show l = q0.2 - x * c.1 - wv cs t
          rw [Int.mul_comm x]; exact e2
    · obtain ⟨q0, hq0, hq⟩ := List.mem_flatMap.mp hq
      obtain ⟨k, hk2, rfl⟩ := List.mem_map.mp hq
      have hk3 := List.mem_range.mp hk2
      have n0 := hk q0.2 (hf q0 hq0)
      have h1 : (k : Int) ≤ q0.2 / c.1 := by split at hk3 <;> omega
      have h2 := (Int.le_ediv_iff_mul_le (show 0 < c.1 by omega)).mp h1
      show 0 ≤ q0.2 - (k : Int) * c.1
      omega
theorem mem_moves {cs : Cs} {a : Int} {m : Vec} (hc : ∀ p ∈ cs, 1 ≤ p.1 ∧ 0 ≤ p.2) (ha : 0 ≤ a) : m ∈ movesP cs a ↔ Fits cs m ∧ wv cs m = a := by
  unfold movesP
  simp only [List.mem_map, List.mem_filter, decide_eq_true_eq]
  constructor
  · rintro ⟨⟨r, l⟩, ⟨h1, h2⟩, rfl⟩
    obtain ⟨q, hq, m, fm, e1, e2, e3⟩ := (mem_mvAll hc (fun q hq => by simp at hq; subst hq; exact ha)).mp h1
    simp only [List.mem_singleton] at hq
    subst hq
    dsimp only at e1 e2 h2 ⊢
    rw [List.nil_append] at e1
    subst e1
    exact ⟨fm, by omega⟩
  · rintro ⟨fm, e⟩
    exact ⟨(m, 0), ⟨(mem_mvAll hc (fun q hq => by simp at hq; subst hq; exact ha)).mpr ⟨([], a), by simp, m, fm, by simp, by show 0 = a - wv cs m; omega, by omega⟩, rfl⟩, rfl⟩
/-- how many there are -/
def size : Cs → Nat
  | [] => 1
  | c :: cs => (c.2 + 1).toNat * size cs
theorem size_pos : ∀ {cs : Cs}, (∀ p ∈ cs, 0 ≤ p.2) → 1 ≤ size cs
  | [], _ => by simp [size]
  | c :: cs, h => by
    have h1 := size_pos (cs := cs) fun p hp => h p (by simp [hp])
    have h2 := h c (by simp)
    have h3 : 1 ≤ (c.2 + 1).toNat := by omega
    have := Nat.mul_le_mul h3 h1
    simpa [size] using this
theorem len_mvAll : ∀ {cs : Cs} {found : List (Vec × Int)}, (mvAll cs found).length ≤ found.length * size cs
  | [], found => by simp [mvAll, size]
  | c :: cs, found => by
    rw [mvAll, size]
    refine Nat.le_trans len_mvAll ?_
    rw [← Nat.mul_assoc]
    refine Nat.mul_le_mul_right _ ?_
    rw [List.length_flatMap]
    induction found with
    | nil => simp
    | cons q t ih =>
      rw [List.map_cons, List.sum_cons, List.length_cons, Nat.add_mul]
      have : ((List.range ((if q.2 / c.1 < c.2 then q.2 / c.1 else c.2) + 1).toNat).map fun (m : Nat) => (q.1 ++ [(m : Int)], q.2 - (m : Int) * c.1)).length ≤ 1 * (c.2 + 1).toNat := by
        rw [List.length_map, List.length_range]
        split <;> omega
      omega
end K47

namespace K47
/-! ### sizes, when some coins are added -/
theorem grow2 {x y : Nat} (hx : 1 ≤ x) (hy : 1 ≤ y) : (x + 2) * (y + 2) ≤ 3 * (x * y + 2) := by
  obtain ⟨a, rfl⟩ : ∃ a, x = a + 1 := ⟨x - 1, by omega⟩
  obtain ⟨b, rfl⟩ : ∃ b, y = b + 1 := ⟨y - 1, by omega⟩
  have e1 : (a + 1 + 2) * (b + 1 + 2) = a * b + 3 * a + 3 * b + 9 := by
    simp only [Nat.add_mul, Nat.mul_add]; omega
  have e2 : (a + 1) * (b + 1) = a * b + a + b + 1 := by
    simp only [Nat.add_mul, Nat.mul_add]; omega
  rw [e1, e2]; omega
theorem grow3 {x y z : Nat} (hx : 1 ≤ x) (hy : 1 ≤ y) (hz : 1 ≤ z) (h : x * y * z ≤ 300) : (x + 2) * (y + 2) * (z + 2) ≤ 2718 := by
  have h1 := Nat.mul_le_mul_right (z + 2) (grow2 hx hy)
  have h2 := grow2 (x := x * y) (y := z) (Nat.mul_le_mul hx hy) hz
  have e : 3 * (x * y + 2) * (z + 2) = 3 * ((x * y + 2) * (z + 2)) := Nat.mul_assoc _ _ _
  omega
end K47

namespace K47
open VL
/-! ### rows of states -/
abbrev Row := List (Vec × Option Vec)
def ksV (D : Row) : List Vec := D.map (·.1)
def sdef (D : Row) (s m : Vec) : Row := if s ∈ ksV D then D else D ++ [(s, some m)]
def stepOne (ms : List Vec) (s : Vec) (D : Row) : Row := ms.foldl (fun D m => if lev m s = true then sdef D (vsub s m) m else D) D
def stepAll (ms : List Vec) (ss : List Vec) (D : Row) : Row := ss.foldl (fun D s => stepOne ms s D) D
theorem ks_sdef {D : Row} {s m t : Vec} : t ∈ ksV (sdef D s m) ↔ t ∈ ksV D ∨ t = s := by
  unfold sdef
  split
  · rename_i h
    constructor
    · exact .inl
    · rintro (h2 | rfl)
      · exact h2
      · exact h
  · simp [ksV]
theorem nd_sdef {D : Row} {s m : Vec} (h : (ksV D).Nodup) : (ksV (sdef D s m)).Nodup := by
  unfold sdef
  split
  · exact h
  · rename_i z
    simp only [ksV, List.map_append, List.map_cons, List.map_nil] at z ⊢
    rw [List.nodup_append]
    refine ⟨h, by simp, fun a ha b hb => ?_⟩
    simp at hb; subst hb
    exact fun e => z (e ▸ ha)
theorem val_sdef {D : Row} {s m : Vec} {q : Vec × Option Vec} (h : q ∈ sdef D s m) : q ∈ D ∨ q = (s, some m) := by
  unfold sdef at h
  split at h
  · exact .inl h
  · simpa using h
/-- what a fold of setdefaults keeps -/
structure RowInv (P : Vec → Vec → Prop) (D : Row) : Prop where
  nd : (ksV D).Nodup
  val : ∀ q ∈ D, ∃ m, q.2 = some m ∧ P q.1 m
theorem RowInv.sdef {P : Vec → Vec → Prop} {D : Row} {s m : Vec} (h : RowInv P D) (p : P s m) : RowInv P (sdef D s m) := ⟨nd_sdef h.nd, fun q hq => by
  rcases val_sdef hq with hq | rfl
  · exact h.val q hq
  · exact ⟨m, rfl, p⟩⟩
theorem inv_stepOne {P : Vec → Vec → Prop} {s : Vec} : ∀ {ms : List Vec} {D : Row}, RowInv P D → (∀ m ∈ ms, lev m s = true → P (vsub s m) m) → RowInv P (stepOne ms s D)
  | [], D, h, _ => h
  | m :: ms, D, h, hp => by
    show RowInv P (stepOne ms s (if lev m s = true then sdef D (vsub s m) m else D))
    refine inv_stepOne ?_ fun m' hm => hp m' (by simp [hm])
    split
    · rename_i l; exact h.sdef (hp m (by simp) l)
    · exact h
theorem mem_stepOne {s t : Vec} : ∀ {ms : List Vec} {D : Row}, t ∈ ksV (stepOne ms s D) ↔ t ∈ ksV D ∨ ∃ m ∈ ms, lev m s = true ∧ t = vsub s m
  | [], D => by simp [stepOne]
  | m :: ms, D => by
    show t ∈ ksV (stepOne ms s (if lev m s = true then sdef D (vsub s m) m else D)) ↔ _
    rw [mem_stepOne]
    constructor
    · rintro (h | ⟨m', h1, h2, h3⟩)
      · split at h
        · rename_i l
          rcases ks_sdef.mp h with h | h
          · exact .inl h
          · exact .inr ⟨m, by simp, l, h⟩
        · exact .inl h
      · exact .inr ⟨m', by simp [h1], h2, h3⟩
    · rintro (h | ⟨m', h1, h2, h3⟩)
      · left
        split
        · exact ks_sdef.mpr (.inl h)
        · exact h
      · rcases List.mem_cons.mp h1 with rfl | h1
        · left; rw [if_pos h2]; exact ks_sdef.mpr (.inr h3)
        · exact .inr ⟨m', h1, h2, h3⟩
theorem inv_stepAll {P : Vec → Vec → Prop} {ms : List Vec} : ∀ {ss : List Vec} {D : Row}, RowInv P D → (∀ s ∈ ss, ∀ m ∈ ms, lev m s = true → P (vsub s m) m) → RowInv P (stepAll ms ss D)
  | [], D, h, _ => h
  | s :: ss, D, h, hp => by
    show RowInv P (stepAll ms ss _)
    exact inv_stepAll (inv_stepOne h (hp s (by simp))) fun s' hs => hp s' (by simp [hs])
theorem mem_stepAll {ms : List Vec} {t : Vec} : ∀ {ss : List Vec} {D : Row}, t ∈ ksV (stepAll ms ss D) ↔ t ∈ ksV D ∨ ∃ s ∈ ss, ∃ m ∈ ms, lev m s = true ∧ t = vsub s m
  | [], D => by simp [stepAll]
  | s :: ss, D => by
    show t ∈ ksV (stepAll ms ss _) ↔ _
    rw [mem_stepAll, mem_stepOne]
    constructor
    · rintro ((h | h) | ⟨s', h1, h2⟩)
      · exact .inl h
      · exact .inr ⟨s, by simp, h⟩
      · exact .inr ⟨s', by simp [h1], h2⟩
    · rintro (h | ⟨s', h1, h2⟩)
      · exact .inl (.inl h)
      · rcases List.mem_cons.mp h1 with rfl | h1
        · exact .inl (.inr h2)
        · exact .inr ⟨s', h1, h2⟩
/-! ### the box -/
def box : Cs → List Vec
  | [] => [[]]
  | c :: cs => (List.range (c.2 + 1).toNat).flatMap fun (x : Nat) => (box cs).map ((x : Int) :: ·)
theorem box_len : ∀ cs : Cs, (box cs).length = size cs
  | [] => rfl
  | c :: cs => by
    rw [box, List.length_flatMap, size, ← box_len cs]
    simp only [List.length_map]
    rw [List.map_const', List.length_range]
    generalize (c.2 + 1).toNat = n
    induction n with
    | zero => simp
    | succ n ih => simp only [List.replicate_succ, List.sum_cons, ih, Nat.add_mul]; omega
theorem mem_box : ∀ {cs : Cs} {v : Vec}, Fits cs v → v ∈ box cs
  | [], v, h => by rw [h]; simp [box]
  | c :: cs, _, ⟨x, t, e, h0, h1, h⟩ => by
    rw [e, box]
    refine List.mem_flatMap.mpr ⟨x.toNat, List.mem_range.mpr (by omega), List.mem_map.mpr ⟨t, mem_box h, ?_⟩⟩
    rw [Int.toNat_of_nonneg h0]
theorem nodup_sub {α : Type} [DecidableEq α] : ∀ {l F : List α}, l.Nodup → (∀ x ∈ l, x ∈ F) → l.length ≤ F.length
  | [], _, _, _ => by simp
  | x :: l, F, n, h => by
    have n' := List.nodup_cons.mp n
    have hx := h x (by simp)
    have := nodup_sub (l := l) (F := F.erase x) n'.2 fun y hy => (List.mem_erase_of_ne (fun z : y = x => n'.1 (z ▸ hy))).mpr (h y (by simp [hy]))
    rw [List.length_erase_of_mem hx] at this
    have : 1 ≤ F.length := List.length_pos_of_mem hx
    simp only [List.length_cons]; omega
theorem row_len {cs : Cs} {D : Row} (n : (ksV D).Nodup) (h : ∀ s ∈ ksV D, Fits cs s) : D.length ≤ size cs := by
  have := nodup_sub n fun s hs => mem_box (h s hs)
  rw [box_len] at this
  simpa [ksV] using this
theorem fits_sub : ∀ {cs : Cs} {s m : Vec}, Fits cs s → Fits cs m → lev m s = true → Fits cs (vsub s m)
  | [], s, m, hs, hm, _ => by rw [hs, hm]; rfl
  | c :: cs, _, _, ⟨x, t, e, x0, x1, h⟩, ⟨y, u, e2, y0, y1, h2⟩, l => by
    subst e e2
    simp only [lev, List.zip_cons_cons, List.all_cons, Bool.and_eq_true, decide_eq_true_eq] at l
    exact ⟨x - y, vsub t u, rfl, by omega, by omega, fits_sub h h2 l.2⟩
/-! ### all rows -/
section
variable (ord : List Vec → List Vec)
def step (cs : Cs) (a : Int) (D : Row) : Row := stepAll (movesP cs a) (ord (ksV D)) []
def rowsGo (cs : Cs) : List Int → Row → List Row
  | [], _ => []
  | a :: as, D => if step ord cs a D = [] then [] else step ord cs a D :: rowsGo cs as (step ord cs a D)
def row0 (cs : Cs) : Row := [(cs.map (·.2), none)]
end
structure RowOk (cs : Cs) (W : Int) (D : Row) : Prop where
  nd : (ksV D).Nodup
  fit : ∀ s ∈ ksV D, Fits cs s ∧ wv cs s = W
  ne : D ≠ []
theorem fits_self : ∀ {cs : Cs}, (∀ p ∈ cs, 0 ≤ p.2) → Fits cs (cs.map (·.2))
  | [], _ => rfl
  | c :: cs, h => ⟨c.2, cs.map (·.2), rfl, h c (by simp), by omega, fits_self fun p hp => h p (by simp [hp])⟩
theorem wv_self : ∀ cs : Cs, wv cs (cs.map (·.2)) = wt cs
  | [] => rfl
  | c :: cs => by
    have := wv_self cs
    simp only [wv, wt, S, List.map_cons, List.zip_cons_cons, List.sum_cons] at this ⊢
    rw [this]
theorem row0_ok {cs : Cs} (h : ∀ p ∈ cs, 0 ≤ p.2) : RowOk cs (wt cs) (row0 cs) := ⟨by simp [row0, ksV], fun s hs => by
  simp [row0, ksV] at hs
  subst hs
  exact ⟨fits_self h, wv_self cs⟩, by simp [row0]⟩
section
variable {ord : List Vec → List Vec} (ho : ∀ l t, t ∈ ord l ↔ t ∈ l) {cs : Cs} {W a : Int} {D : Row} {as : List Int}
include ho
theorem step_inv (hc : ∀ p ∈ cs, 1 ≤ p.1 ∧ 0 ≤ p.2) (ha : 0 ≤ a) (ok : RowOk cs W D) :
    RowInv (fun s m => Fits cs m ∧ wv cs m = a ∧ Fits cs s ∧ wv cs s = W - a ∧ vadd s m ∈ ksV D) (step ord cs a D) := by
  refine inv_stepAll ⟨by simp [ksV], fun q hq => by simp at hq⟩ fun s hs m hm l => ?_
  have hs' := (ho _ _).mp hs
  obtain ⟨f1, f2⟩ := ok.fit s hs'
  obtain ⟨g1, g2⟩ := (mem_moves hc ha).mp hm
  refine ⟨g1, g2, fits_sub f1 g1 l, ?_, ?_⟩
  · rw [vw_sub f1.len g1.len, f2, g2]
  · rw [vadd_vsub (by rw [f1.len, g1.len])]; exact hs'
theorem step_mem (hc : ∀ p ∈ cs, 1 ≤ p.1 ∧ 0 ≤ p.2) (ha : 0 ≤ a) {s m : Vec} (hs : s ∈ ksV D) (fm : Fits cs m) (e : wv cs m = a) (l : lev m s = true) : vsub s m ∈ ksV (step ord cs a D) :=
  mem_stepAll.mpr (.inr ⟨s, (ho _ _).mpr hs, m, (mem_moves hc ha).mpr ⟨fm, e⟩, l, rfl⟩)
theorem step_ok (hc : ∀ p ∈ cs, 1 ≤ p.1 ∧ 0 ≤ p.2) (ha : 0 ≤ a) (ok : RowOk cs W D) (ne : step ord cs a D ≠ []) : RowOk cs (W - a) (step ord cs a D) := by
  have h := step_inv ho hc ha ok
  refine ⟨h.nd, fun s hs => ?_, ne⟩
  obtain ⟨q, hq, rfl⟩ := List.mem_map.mp hs
  obtain ⟨m, _, p⟩ := h.val q hq
  exact ⟨p.2.2.1, p.2.2.2.1⟩
theorem rowsGo_len : ∀ {as : List Int} {D : Row}, (rowsGo ord cs as D).length ≤ as.length
  | [], _ => by simp [rowsGo]
  | a :: as, D => by
    rw [rowsGo]
    split
    · simp
    · simp only [List.length_cons]
      have := rowsGo_len (as := as) (D := step ord cs a D)
      omega
/-- the amounts can be paid out of s -/
def Pays (cs : Cs) : List Int → Vec → Prop
  | [], _ => True
  | a :: as, s => ∃ m, Fits cs m ∧ wv cs m = a ∧ lev m s = true ∧ Pays cs as (vsub s m)
theorem pays_len (hc : ∀ p ∈ cs, 1 ≤ p.1 ∧ 0 ≤ p.2) : ∀ {as : List Int} {D : Row} {s : Vec}, (∀ a ∈ as, 0 ≤ a) → s ∈ ksV D → Pays cs as s → (rowsGo ord cs as D).length = as.length
  | [], _, _, _, _, _ => rfl
  | a :: as, D, s, ha, hs, ⟨m, h1, h2, h3, h4⟩ => by
    have hm := step_mem ho hc (ha a (by simp)) hs h1 h2 h3
    rw [rowsGo, if_neg (fun z => by rw [z] at hm; simp [ksV] at hm), List.length_cons, List.length_cons, pays_len hc (fun x hx => ha x (by simp [hx])) hm h4]
theorem rows_ok (hc : ∀ p ∈ cs, 1 ≤ p.1 ∧ 0 ≤ p.2) : ∀ {as : List Int} {D : Row} {W : Int}, (∀ a ∈ as, 0 ≤ a) → RowOk cs W D → (rowsGo ord cs as D).length = as.length → ∃ E, (D :: rowsGo ord cs as D).getLast? = some E ∧ RowOk cs (W - as.sum) E
  | [], D, W, _, ok, _ => ⟨D, rfl, by simpa using ok⟩
  | a :: as, D, W, ha, ok, hl => by
    rw [rowsGo] at hl ⊢
    split at hl
    · simp at hl
    · rename_i ne
      rw [if_neg ne]
      obtain ⟨E, h1, h2⟩ := rows_ok hc (as := as) (fun x hx => ha x (by simp [hx])) (step_ok ho hc (ha a (by simp)) ok ne) (by simpa using hl)
      refine ⟨E, by rw [List.getLast?_cons_cons]; exact h1, ?_⟩
      rw [List.sum_cons, show W - (a + as.sum) = W - a - as.sum by omega]; exact h2
/-- what all cost is no more than what is there -/
theorem rows_sum (hc : ∀ p ∈ cs, 1 ≤ p.1 ∧ 0 ≤ p.2) (ha : ∀ a ∈ as, 0 ≤ a) (ok : RowOk cs W D) (hl : (rowsGo ord cs as D).length = as.length) : as.sum ≤ W := by
  obtain ⟨E, _, e⟩ := rows_ok ho hc ha ok hl
  obtain ⟨q, hq⟩ := List.exists_mem_of_ne_nil _ e.ne
  obtain ⟨f1, f2⟩ := e.fit q.1 (List.mem_map.mpr ⟨q, hq, rfl⟩)
  have := vw_nn (cs := cs) (fun p hp => (hc p hp).1) f1.nn
  omega
theorem last_one (hc : ∀ p ∈ cs, 1 ≤ p.1 ∧ 0 ≤ p.2) (ok : RowOk cs 0 D) : D.length = 1 := by
  have all : ∀ s ∈ ksV D, s = List.replicate cs.length 0 := fun s hs => vw_zero (fun p hp => (hc p hp).1) (ok.fit s hs).1.len (ok.fit s hs).1.nn (ok.fit s hs).2
  have n := ok.nd
  have ne := ok.ne
  match D, ne with
  | [q], _ => rfl
  | q :: r :: t, _ =>
    simp only [ksV, List.map_cons, List.nodup_cons] at n
    exact absurd (by rw [all q.1 (by simp [ksV]), all r.1 (by simp [ksV])]; simp) n.1
end
end K47

namespace K47
open VL
/-! ### payments and vectors -/
def Sv (w : Int → Int) (cs : Cs) (v : Vec) : Int := ((List.zip cs v).map fun p => w p.1.1 * p.2).sum
theorem Sv_id (cs : Cs) (v : Vec) : Sv (fun f => f) cs v = wv cs v := rfl
theorem Sv_nil (w : Int → Int) (v : Vec) : Sv w [] v = 0 := by simp [Sv]
theorem Sv_cons (w : Int → Int) (c : Int × Int) (cs : Cs) (x : Int) (v : Vec) : Sv w (c :: cs) (x :: v) = w c.1 * x + Sv w cs v := by simp [Sv]
theorem Sv_add (w : Int → Int) : ∀ {cs : Cs} {a b : Vec}, a.length = cs.length → b.length = cs.length → Sv w cs (vadd a b) = Sv w cs a + Sv w cs b
  | [], a, b, _, _ => by simp [Sv]
  | c :: cs, [], _, h, _ => by simp at h
  | c :: cs, _ :: _, [], _, h => by simp at h
  | c :: cs, x :: a, y :: b, ha, hb => by
    have := Sv_add w (cs := cs) (a := a) (b := b) (by simpa using ha) (by simpa using hb)
    simp only [vadd, List.zipWith_cons_cons] at this ⊢
    rw [Sv_cons, Sv_cons, Sv_cons, this, Int.mul_add]; omega
theorem Sv_self (w : Int → Int) : ∀ cs : Cs, Sv w cs (cs.map (·.2)) = S w cs
  | [] => rfl
  | c :: cs => by rw [List.map_cons, Sv_cons, Sv_self w cs]; rfl
theorem Sv_nn {w : Int → Int} : ∀ {cs : Cs} {v : Vec}, (∀ f, 0 ≤ w f) → vnn v → 0 ≤ Sv w cs v
  | [], v, _, _ => by simp [Sv]
  | c :: cs, [], _, _ => by simp [Sv]
  | c :: cs, x :: v, h, n => by
    have h1 := Sv_nn (cs := cs) (v := v) h fun y hy => n y (by simp [hy])
    have h2 := Int.mul_nonneg (h c.1) (n x (by simp))
    rw [Sv_cons]; omega
def pay (cs : Cs) (m : Vec) : Cs := ((List.zip cs m).filter fun p => decide (0 < p.2)).map fun p => (p.1.1, p.2)
theorem pay_cons (c : Int × Int) (cs : Cs) (x : Int) (m : Vec) : pay (c :: cs) (x :: m) = if 0 < x then (c.1, x) :: pay cs m else pay cs m := by
  unfold pay
  rw [List.zip_cons_cons, List.filter_cons]
  split
  · rename_i h; rw [if_pos (by simpa using h)]; rfl
  · rename_i h; rw [if_neg (by simpa using h)]
theorem S_pay (w : Int → Int) : ∀ {cs : Cs} {m : Vec}, vnn m → S w (pay cs m) = Sv w cs m
  | [], m, _ => by simp [pay, S, Sv]
  | c :: cs, [], _ => by simp [pay, S, Sv]
  | c :: cs, x :: m, n => by
    have h1 := S_pay w (cs := cs) (m := m) fun y hy => n y (by simp [hy])
    have h2 := n x (by simp)
    rw [pay_cons, Sv_cons]
    split
    · simp only [S]; rw [h1]
    · have : x = 0 := by omega
      subst this
      rw [h1]; omega
theorem mem_pay : ∀ {cs : Cs} {m : Vec} {p : Int × Int}, p ∈ pay cs m → ∃ c ∈ cs, c.1 = p.1 ∧ 0 < p.2
  | [], m, p, h => by simp [pay] at h
  | c :: cs, [], p, h => by simp [pay] at h
  | c :: cs, x :: m, p, h => by
    rw [pay_cons] at h
    split at h
    · rename_i hx
      rcases List.mem_cons.mp h with rfl | h
      · exact ⟨c, by simp, rfl, hx⟩
      · obtain ⟨d, h1, h2⟩ := mem_pay h; exact ⟨d, by simp [h1], h2⟩
    · obtain ⟨d, h1, h2⟩ := mem_pay h; exact ⟨d, by simp [h1], h2⟩
theorem pay_le : ∀ {cs : Cs} {m : Vec} {p : Int × Int}, Fits cs m → p ∈ pay cs m → ∃ c ∈ cs, c.1 = p.1 ∧ p.2 ≤ c.2
  | [], m, p, _, h => by simp [pay] at h
  | c :: cs, _, p, ⟨x, m, e, x0, x1, f⟩, h => by
    subst e
    rw [pay_cons] at h
    split at h
    · rcases List.mem_cons.mp h with rfl | h
      · exact ⟨c, by simp, rfl, x1⟩
      · obtain ⟨d, h1, h2⟩ := pay_le f h; exact ⟨d, by simp [h1], h2⟩
    · obtain ⟨d, h1, h2⟩ := pay_le f h; exact ⟨d, by simp [h1], h2⟩
theorem asc_pay : ∀ {cs : Cs} {m : Vec}, Asc cs → Asc (pay cs m)
  | [], m, _ => ⟨by simp [pay], fun p hp => by simp [pay] at hp⟩
  | c :: cs, [], _ => ⟨by simp [pay], fun p hp => by simp [pay] at hp⟩
  | c :: cs, x :: m, h => by
    have ih := asc_pay (cs := cs) (m := m) h.tail
    rw [pay_cons]
    split
    · rename_i hx
      refine ⟨List.pairwise_cons.mpr ⟨fun q hq => ?_, ih.1⟩, fun q hq => ?_⟩
      · obtain ⟨d, h1, h2, _⟩ := mem_pay hq
        have := h.head d h1
        show c.1 < q.1
        omega
      · rcases List.mem_cons.mp hq with rfl | hq
        · have := (h.2 c (by simp)).1
          exact ⟨this, by show 1 ≤ x; omega⟩
        · exact ih.2 q hq
    · exact ih
theorem len_pay {cs : Cs} {m : Vec} : (pay cs m).length ≤ cs.length := by
  unfold pay
  rw [List.length_map]
  refine Nat.le_trans (List.length_filter_le _ _) ?_
  rw [List.length_zip]; omega
/-! ### so many of one face -/
def ind (x f : Int) : Int := if f = x then 1 else 0
def cnt (x : Int) (p : Cs) : Int := S (ind x) p
theorem ind_nn (x f : Int) : 0 ≤ ind x f := by unfold ind; split <;> omega
theorem cnt_nn {p : Cs} (h : Asc p) (x : Int) : 0 ≤ cnt x p := S_nonneg fun q hq => ⟨ind_nn _ _, by have := (h.2 q hq).2; omega⟩
theorem cnt_out {x : Int} : ∀ {p : Cs}, x ∉ keys p → cnt x p = 0
  | [], _ => rfl
  | q :: p, h => by
    simp only [keys, List.map_cons, List.mem_cons, not_or] at h
    have := cnt_out (x := x) (p := p) h.2
    simp only [cnt, S, ind] at this ⊢
    rw [if_neg (fun z => h.1 z.symm), this]; omega
theorem cnt_in {x : Int} : ∀ {p : Cs} {q : Int × Int}, (keys p).Nodup → q ∈ p → q.1 = x → cnt x p = q.2
  | q0 :: p, q, n, h, e => by
    simp only [keys, List.map_cons, List.nodup_cons] at n
    rcases List.mem_cons.mp h with rfl | h
    · have := cnt_out (x := q.1) (p := p) n.1
      simp only [cnt, S] at this ⊢
      rw [← e, this]
      simp [ind]
    · have ih := cnt_in n.2 h e
      simp only [cnt, S] at ih ⊢
      rw [ih]
      have : q0.1 ≠ x := fun z => n.1 (by rw [z, ← e]; exact List.mem_map.mpr ⟨q, h, rfl⟩)
      simp [ind, this]
theorem asc_nd {p : Cs} (h : Asc p) : (keys p).Nodup := by
  have := h.1
  unfold keys
  rw [List.nodup_iff_pairwise_ne, List.pairwise_map]
  exact this.imp fun h => by omega
/-- coins in rising sequence are known by how many there are of each -/
theorem asc_ext {a b : Cs} (ha : Asc a) (hb : Asc b) (h : ∀ x, cnt x a = cnt x b) : a = b := by
  have sub : ∀ {a b : Cs}, Asc a → Asc b → (∀ x, cnt x a = cnt x b) → ∀ q ∈ a, q ∈ b := by
    intro a b ha hb h q hq
    have e := cnt_in (asc_nd ha) hq rfl
    have q2 := (ha.2 q hq).2
    have hk : q.1 ∈ keys b := Decidable.byContradiction fun z => by
      have := cnt_out z
      have := h q.1
      omega
    obtain ⟨r, hr, er⟩ := List.mem_map.mp hk
    have e2 := cnt_in (asc_nd hb) hr er
    have : r = q := Prod.ext er (by rw [← e2, ← h, e])
    exact this ▸ hr
  refine asc_uniq ha.1 hb.1 ?_
  have nd : ∀ {a : Cs}, Asc a → a.Nodup := fun h => h.1.imp fun {x y} l z => by rw [z] at l; omega
  exact (List.perm_ext_iff_of_nodup (nd ha) (nd hb)).mpr fun q => ⟨sub ha hb h q, sub hb ha (fun x => (h x).symm) q⟩
/-! ### planted payments -/
def vec (cs : Cs) (p : Cs) : Vec := cs.map fun q => cnt q.1 p
theorem cnt_cons (x : Int) (q : Int × Int) (p : Cs) : cnt x (q :: p) = ind x q.1 * q.2 + cnt x p := rfl
theorem Sv_map (w : Int → Int) (g : Int → Int) : ∀ cs : Cs, Sv w cs (cs.map fun q => g q.1) = (cs.map fun q => w q.1 * g q.1).sum
  | [] => rfl
  | c :: cs => by rw [List.map_cons, Sv_cons, Sv_map w g cs, List.map_cons, List.sum_cons]
theorem Sv_vec (w : Int → Int) {cs : Cs} (n : (keys cs).Nodup) : ∀ {p : Cs}, (∀ f ∈ keys p, f ∈ keys cs) → Sv w cs (vec cs p) = S w p
  | [], _ => by
    unfold vec
    rw [Sv_map w (fun x => cnt x [])]
    simp only [cnt, S]
    have : ∀ cs : Cs, (cs.map fun q => w q.1 * 0).sum = 0 := by
      intro cs
      induction cs with
      | nil => rfl
      | cons c cs ih => simp only [List.map_cons, List.sum_cons, ih]; omega
    exact this cs
  | q :: p, h => by
    have ih := Sv_vec w n (p := p) fun f hf => h f (by simp [keys] at hf ⊢; exact .inr hf)
    unfold vec at ih ⊢
    rw [Sv_map w (fun x => cnt x p)] at ih
    rw [Sv_map w (fun x => cnt x (q :: p))]
    simp only [S]
    rw [← ih]
    have hq := h q.1 (by simp [keys])
    have one : ∀ {cs : Cs}, (keys cs).Nodup → (cs.map fun c => w c.1 * cnt c.1 (q :: p)).sum = (if q.1 ∈ keys cs then w q.1 * q.2 else 0) + (cs.map fun c => w c.1 * cnt c.1 p).sum := by
      intro cs
      induction cs with
      | nil => intro _; simp [keys]
      | cons c cs ih =>
        intro n
        simp only [keys, List.map_cons, List.nodup_cons] at n
        have ih := ih n.2
        simp only [List.map_cons, List.sum_cons]
        rw [ih, cnt_cons]
        have mk : q.1 ∈ keys (c :: cs) ↔ q.1 = c.1 ∨ q.1 ∈ keys cs := by simp [keys]
        by_cases e : q.1 = c.1
        · have h1 : q.1 ∉ keys cs := fun z => n.1 (e ▸ z)
          have h2 : ind c.1 q.1 = 1 := by simp [ind, e]
          rw [if_pos (mk.mpr (.inl e)), if_neg h1, h2, Int.one_mul, Int.mul_add, e]; omega
        · have h2 : ind c.1 q.1 = 0 := by simp [ind, e]
          rw [h2, Int.zero_mul, Int.zero_add]
          by_cases m : q.1 ∈ keys cs
          · rw [if_pos m, if_pos (mk.mpr (.inr m))]; omega
          · rw [if_neg m, if_neg (fun z => (mk.mp z).elim e m)]; omega
    rw [one n, if_pos hq]
theorem pays_of {cs : Cs} (n : (keys cs).Nodup) : ∀ {ps : List Cs} {s : Vec}, (∀ p ∈ ps, Asc p ∧ ∀ f ∈ keys p, f ∈ keys cs) → s.length = cs.length → (∀ q ∈ List.zip cs s, (ps.map (cnt q.1.1)).sum ≤ q.2 ∧ q.2 ≤ q.1.2) → Pays cs (ps.map wt) s
  | [], s, _, _, _ => trivial
  | p :: ps, s, hp, hl, hs => by
    obtain ⟨ap, kp⟩ := hp p (by simp)
    have tn : ∀ x, 0 ≤ (ps.map (cnt x)).sum := fun x => by
      have : ∀ l : List Cs, (∀ p ∈ l, Asc p) → 0 ≤ (l.map (cnt x)).sum := by
        intro l
        induction l with
        | nil => intro _; simp
        | cons a l ih =>
          intro h
          have := ih fun p hp => h p (by simp [hp])
          have := cnt_nn (h a (by simp)) x
          simp only [List.map_cons, List.sum_cons]; omega
      exact this ps fun q hq => (hp q (by simp [hq])).1
    have hs' : ∀ q ∈ List.zip cs s, cnt q.1.1 p + (ps.map (cnt q.1.1)).sum ≤ q.2 ∧ q.2 ≤ q.1.2 := fun q hq => by simpa using hs q hq
    have key : ∀ (cs : Cs) (s : Vec), s.length = cs.length → (∀ q ∈ List.zip cs s, cnt q.1.1 p + (ps.map (cnt q.1.1)).sum ≤ q.2 ∧ q.2 ≤ q.1.2) → Fits cs (vec cs p) ∧ lev (vec cs p) s = true ∧ ∀ q ∈ List.zip cs (vsub s (vec cs p)), (ps.map (cnt q.1.1)).sum ≤ q.2 ∧ q.2 ≤ q.1.2 := by
      intro cs
      induction cs with
      | nil => intro s h _; exact ⟨rfl, by simp [lev, vec], fun q hq => by simp at hq⟩
      | cons c cs ih =>
        intro s h hq
        match s, h with
        | x :: s, h =>
          obtain ⟨i1, i2, i3⟩ := ih s (by simpa using h) fun q h => hq q (by simp [h])
          have h0 := hq (c, x) (by simp)
          have h1 := cnt_nn ap c.1
          have h2 := tn c.1
          dsimp only at h0
          refine ⟨⟨cnt c.1 p, vec cs p, rfl, h1, by omega, i1⟩, ?_, fun q hq => ?_⟩
          · simp only [lev, vec, List.map_cons, List.zip_cons_cons, List.all_cons, Bool.and_eq_true, decide_eq_true_eq] at i2 ⊢
            exact ⟨by omega, i2⟩
          · simp only [vsub, vec, List.map_cons, List.zipWith_cons_cons, List.zip_cons_cons, List.mem_cons] at hq i3
            rcases hq with rfl | hq
            · dsimp only; omega
            · exact i3 q hq
    obtain ⟨k1, k2, k3⟩ := key cs s hl hs'
    refine ⟨vec cs p, k1, ?_, k2, pays_of n (fun q hq => hp q (by simp [hq])) (vsub_len hl (by simp [vec])) k3⟩
    have := Sv_vec (fun f => f) n kp
    exact this
/-! ### back through the rows -/
def lookR (D : Row) (s : Vec) : Option (Option Vec) := (D.find? fun q => decide (q.1 = s)).map (·.2)
theorem look_mem {D : Row} {s : Vec} (h : s ∈ ksV D) : ∃ q ∈ D, q.1 = s ∧ lookR D s = some q.2 := by
  obtain ⟨q, hq, e⟩ := List.mem_map.mp h
  cases hf : D.find? fun q => decide (q.1 = s) with
  | none =>
    have := List.find?_eq_none.mp hf q hq
    simp [e] at this
  | some r => exact ⟨r, List.mem_of_find?_eq_some hf, by simpa using List.find?_some hf, by simp [lookR, hf]⟩
def Back : List Row → Vec → List Vec → Vec → Prop
  | [], s, ms, s' => ms = [] ∧ s' = s
  | E :: Es, s, ms, s' => ∃ m t, lookR E s = some (some m) ∧ m.length = s.length ∧ ms = m :: t ∧ Back Es (vadd s m) t s'
theorem Back.app : ∀ {l1 l2 : List Row} {s s1 s2 : Vec} {a b : List Vec}, Back l1 s a s1 → Back l2 s1 b s2 → Back (l1 ++ l2) s (a ++ b) s2
  | [], _, _, _, _, _, _, ⟨rfl, rfl⟩, h => h
  | _ :: _, _, _, _, _, _, _, ⟨m, t, h1, h0, rfl, h2⟩, h => ⟨m, t ++ _, h1, h0, rfl, h2.app h⟩
/-- the moves that pay the amounts -/
def Good (cs : Cs) : List Vec → List Int → Prop
  | [], as => as = []
  | m :: ms, as => ∃ a t, as = a :: t ∧ Fits cs m ∧ wv cs m = a ∧ Good cs ms t
section
variable {ord : List Vec → List Vec} (ho : ∀ l t, t ∈ ord l ↔ t ∈ l) {cs : Cs}
include ho
theorem back_rows (hc : ∀ p ∈ cs, 1 ≤ p.1 ∧ 0 ≤ p.2) : ∀ {as : List Int} {D E : Row} {W : Int} {s : Vec}, (∀ a ∈ as, 0 ≤ a) → RowOk cs W D → (rowsGo ord cs as D).length = as.length → (D :: rowsGo ord cs as D).getLast? = some E → s ∈ ksV E →
    ∃ ms s0, Back (rowsGo ord cs as D).reverse s ms s0 ∧ s0 ∈ ksV D ∧ Good cs ms.reverse as ∧ Fits cs s ∧ ∀ w, Sv w cs s0 = Sv w cs s + (ms.map (Sv w cs)).sum
  | [], D, E, W, s, _, ok, _, hE, hs => by
    simp only [rowsGo, List.getLast?_singleton, Option.some.injEq] at hE
    subst hE
    exact ⟨[], s, ⟨rfl, rfl⟩, hs, rfl, (ok.fit s hs).1, fun w => by simp⟩
  | a :: as, D, E, W, s, ha, ok, hl, hE, hs => by
    rw [rowsGo] at hl hE ⊢
    split at hl
    · simp at hl
    · rename_i ne
      rw [if_neg ne] at hE ⊢
      have ok2 := step_ok ho hc (ha a (by simp)) ok ne
      obtain ⟨ms, s1, b1, b2, b3, b4, b5⟩ := back_rows hc (as := as) (fun x hx => ha x (by simp [hx])) ok2 (by simpa using hl) (by rw [List.getLast?_cons_cons] at hE; exact hE) hs
      obtain ⟨q, hq, e1, e2⟩ := look_mem b2
      obtain ⟨m, em, p1, p2, p3, p4, p5⟩ := (step_inv ho hc (ha a (by simp)) ok).val q hq
      subst e1
      have lm : m.length = q.1.length := by rw [p1.len, p3.len]
      refine ⟨ms ++ [m], vadd q.1 m, ?_, p5, ?_, b4, fun w => ?_⟩
      · rw [List.reverse_cons]
        exact b1.app ⟨m, [], by rw [e2, em], lm, rfl, rfl, rfl⟩
      · rw [List.reverse_append]
        exact ⟨a, as, rfl, p1, p2, b3⟩
      · rw [Sv_add w p3.len p1.len, b5 w, List.map_append, List.sum_append]
        simp only [List.map_cons, List.map_nil, List.sum_cons, List.sum_nil]
        omega
end
end K47

namespace K47
open VL
/-! ### what can be paid, face by face -/
def Can (cs : Cs) (x : Int) : Prop := ∃ v, Fits cs v ∧ wv cs v = x
theorem fits_snoc : ∀ {cs : Cs} {c : Int × Int} {v : Vec}, Fits (cs ++ [c]) v ↔ ∃ t k, v = t ++ [k] ∧ Fits cs t ∧ 0 ≤ k ∧ k ≤ c.2
  | [], c, v => by
    constructor
    · rintro ⟨x, t, rfl, h0, h1, rfl⟩; exact ⟨[], x, rfl, rfl, h0, h1⟩
    · rintro ⟨t, k, rfl, rfl, h0, h1⟩; exact ⟨k, [], rfl, h0, h1, rfl⟩
  | d :: cs, c, v => by
    constructor
    · rintro ⟨x, t, rfl, h0, h1, h⟩
      obtain ⟨t', k, rfl, h2, h3⟩ := fits_snoc.mp h
      exact ⟨x :: t', k, rfl, ⟨x, t', rfl, h0, h1, h2⟩, h3⟩
    · rintro ⟨_, k, rfl, ⟨x, t, rfl, h0, h1, h2⟩, h3⟩
      exact ⟨x, t ++ [k], rfl, h0, h1, fits_snoc.mpr ⟨t, k, rfl, h2, h3⟩⟩
theorem wv_snoc : ∀ {cs : Cs} {c : Int × Int} {t : Vec} {k : Int}, t.length = cs.length → wv (cs ++ [c]) (t ++ [k]) = wv cs t + c.1 * k
  | [], c, t, k, h => by
    have : t = [] := by simpa using h
    subst this; simp [wv]
  | d :: cs, c, [], k, h => by simp at h
  | d :: cs, c, x :: t, k, h => by
    have := wv_snoc (cs := cs) (c := c) (t := t) (k := k) (by simpa using h)
    simp only [wv, List.cons_append, List.zip_cons_cons, List.map_cons, List.sum_cons] at this ⊢
    omega
theorem can_snoc {cs : Cs} {c : Int × Int} {x : Int} : Can (cs ++ [c]) x ↔ ∃ k, 0 ≤ k ∧ k ≤ c.2 ∧ Can cs (x - c.1 * k) := by
  constructor
  · rintro ⟨v, h1, h2⟩
    obtain ⟨t, k, rfl, h3, h4, h5⟩ := fits_snoc.mp h1
    rw [wv_snoc h3.len] at h2
    exact ⟨k, h4, h5, t, h3, by omega⟩
  · rintro ⟨k, h4, h5, t, h3, e⟩
    exact ⟨t ++ [k], fits_snoc.mpr ⟨t, k, rfl, h3, h4, h5⟩, by rw [wv_snoc h3.len, e]; omega⟩
theorem can_nil {x : Int} : Can [] x ↔ x = 0 := by
  constructor
  · rintro ⟨v, _, h⟩; simp [wv] at h; exact h.symm
  · rintro rfl; exact ⟨[], rfl, by simp [wv]⟩
theorem can_nn {cs : Cs} {x : Int} (hc : ∀ p ∈ cs, 1 ≤ p.1) (h : Can cs x) : 0 ≤ x := by
  obtain ⟨v, h1, rfl⟩ := h
  exact vw_nn hc h1.nn
/-! ### a layer -/
def bg (l : List Bool) (i : Int) : Bool := l.getD i.toNat false
def ig (l : List Int) (i : Int) : Int := l.getD i.toNat 0
def stL (ahead : List Bool) (f c : Int) (st : List Bool × List Int) (x : Nat) : List Bool × List Int :=
  if bg ahead x = true then (st.1.set x true, st.2)
  else if decide (f ≤ (x : Int)) && (bg st.1 (x - f) && decide (ig st.2 (x - f) < c)) then (st.1.set x true, st.2.set x (ig st.2 (x - f) + 1)) else st
def layL (ahead : List Bool) (f c : Int) (N n : Nat) : List Bool × List Int := (List.range n).foldl (stL ahead f c) (List.replicate N false, List.replicate N 0)
theorem layL_succ (ahead : List Bool) (f c : Int) (N n : Nat) : layL ahead f c N (n + 1) = stL ahead f c (layL ahead f c N n) n := by
  unfold layL; rw [List.range_succ, List.foldl_append]; rfl
structure LayInv (A : Int → Prop) (f c : Int) (N n : Nat) (st : List Bool × List Int) : Prop where
  l1 : st.1.length = N
  l2 : st.2.length = N
  mm : ∀ y : Nat, y < n → (st.1.getD y false = true ↔ ∃ k, 0 ≤ k ∧ k ≤ c ∧ A (y - f * k))
  tk : ∀ y : Nat, y < n → st.1.getD y false = true → 0 ≤ st.2.getD y 0 ∧ st.2.getD y 0 ≤ c ∧ A (y - f * st.2.getD y 0) ∧ ∀ k, 0 ≤ k → k < st.2.getD y 0 → ¬ A (y - f * k)
  re : ∀ y : Nat, n ≤ y → st.1.getD y false = false ∧ st.2.getD y 0 = 0
theorem getD_set_eq {α : Type} {l : List α} {i : Nat} {x d : α} (h : i < l.length) : (l.set i x).getD i d = x := by simp [List.getD, h]
theorem getD_set_ne {α : Type} {l : List α} {i j : Nat} {x d : α} (h : i ≠ j) : (l.set i x).getD j d = l.getD j d := by simp [List.getD, List.getElem?_set_ne h]
theorem lay_inv {ahead : List Bool} {A : Int → Prop} {f c : Int} {N : Nat} (hf : 1 ≤ f) (h0 : 0 ≤ c) (hA : ∀ y : Nat, y < N → (ahead.getD y false = true ↔ A y)) (nn : ∀ z, A z → 0 ≤ z) : ∀ n : Nat, n ≤ N → LayInv A f c N n (layL ahead f c N n)
  | 0, _ => ⟨by simp [layL], by simp [layL], fun y h => by omega, fun y h => by omega, fun y _ => by
      constructor <;> simp only [layL, List.range_zero, List.foldl_nil, List.getD, List.getElem?_replicate] <;> split <;> rfl⟩
  | n + 1, hn => by
    have ih := lay_inv hf h0 hA nn n (by omega)
    rw [layL_succ]
    generalize layL ahead f c N n = st at ih ⊢
    obtain ⟨l1, l2, mk, tk, re⟩ := ih
    have r0 := re n (Nat.le_refl n)
    have old : ∀ y : Nat, y < n + 1 → y ≠ n → y < n := fun y h1 h2 => by omega
    unfold stL
    by_cases ha : bg ahead n = true
    · rw [if_pos ha]
      have An : A n := (hA n (by omega)).mp (by simpa [bg] using ha)
      refine ⟨by simp [l1], l2, fun y hy => ?_, fun y hy hm => ?_, fun y hy => ?_⟩
      · by_cases e : y = n
        · subst e
          rw [getD_set_eq (by omega)]
          exact ⟨fun _ => ⟨0, by omega, h0, by simpa using An⟩, fun _ => rfl⟩
        · rw [getD_set_ne (fun z => e z.symm)]; exact mk y (old y hy e)
      · by_cases e : y = n
        · subst e
          rw [r0.2]
          exact ⟨by omega, h0, by simpa using An, fun k h1 h2 => by omega⟩
        · rw [getD_set_ne (fun z => e z.symm)] at hm; exact tk y (old y hy e) hm
      · rw [getD_set_ne (by omega)]; exact re y (by omega)
    · rw [if_neg ha]
      have nA : ¬ A n := fun z => ha (by simpa [bg] using (hA n (by omega)).mpr z)
      by_cases hb : (decide (f ≤ (n : Int)) && (bg st.1 (n - f) && decide (ig st.2 (n - f) < c))) = true
      · rw [if_pos hb]
        simp only [Bool.and_eq_true, decide_eq_true_eq, bg, ig] at hb
        obtain ⟨b1, b2, b3⟩ := hb
        have hm : ((n : Int) - f).toNat < n := by omega
        have ec : ((((n : Int) - f).toNat : Nat) : Int) = (n : Int) - f := by omega
        obtain ⟨t0, t1, t2, t3⟩ := tk _ hm b2
        rw [ec] at t2 t3
        have b3 := of_decide_eq_true b3
        obtain ⟨t, ht⟩ : ∃ t, st.2.getD ((n : Int) - f).toNat 0 = t := ⟨_, rfl⟩
        rw [ht] at t0 t1 t2 t3 b3
        have e1 : (n : Int) - f * (t + 1) = (n : Int) - f - f * t := by rw [Int.mul_add]; omega
        have hig : ig st.2 (n - f) = t := ht
        rw [hig]
        refine ⟨by simp [l1], by simp [l2], fun y hy => ?_, fun y hy hm2 => ?_, fun y hy => ?_⟩
        · by_cases e : y = n
          · subst e
            rw [getD_set_eq (by omega)]
            exact ⟨fun _ => ⟨t + 1, by omega, by omega, by rw [e1]; exact t2⟩, fun _ => rfl⟩
          · rw [getD_set_ne (fun z => e z.symm)]; exact mk y (old y hy e)
        · by_cases e : y = n
          · subst e
            rw [getD_set_eq (by omega)]
            refine ⟨by omega, by omega, by rw [e1]; exact t2, fun k h1 h2 => ?_⟩
            by_cases k0 : k = 0
            · subst k0; simpa using nA
            · have := t3 (k - 1) (by omega) (by omega)
              rw [Int.mul_sub, Int.mul_one] at this
              rw [show (y : Int) - f * k = (y : Int) - f - (f * k - f) by omega]
              exact this
          · rw [getD_set_ne (fun z => e z.symm)] at hm2 ⊢; exact tk y (old y hy e) hm2
        · rw [getD_set_ne (by omega), getD_set_ne (by omega)]; exact re y (by omega)
      · rw [if_neg hb]
        refine ⟨l1, l2, fun y hy => ?_, fun y hy hm => ?_, fun y hy => re y (by omega)⟩
        · by_cases e : y = n
          · subst e
            rw [r0.1]
            refine ⟨fun z => by simp at z, ?_⟩
            rintro ⟨k, k0, k1, ak⟩
            exfalso
            apply hb
            have kp : k ≠ 0 := fun z => by subst z; exact nA (by simpa using ak)
            have k1' : 1 ≤ k := by omega
            have hz := nn _ ak
            have hfk : f ≤ f * k := by
              have := Int.mul_le_mul_of_nonneg_left k1' (show 0 ≤ f by omega)
              rwa [Int.mul_one] at this
            have hm : ((y : Int) - f).toNat < y := by omega
            have ec : ((((y : Int) - f).toNat : Nat) : Int) = (y : Int) - f := by omega
            have ak' : A ((y : Int) - f - f * (k - 1)) := by
              rw [Int.mul_sub, Int.mul_one, show (y : Int) - f - (f * k - f) = (y : Int) - f * k by omega]; exact ak
            have mm := (mk _ hm).mpr ⟨k - 1, by omega, by omega, by rw [ec]; exact ak'⟩
            obtain ⟨t0, t1, t2, t3⟩ := tk _ hm mm
            have : st.2.getD ((y : Int) - f).toNat 0 ≤ k - 1 := Int.not_lt.mp fun z => by
              have := t3 (k - 1) (by omega) z
              rw [ec] at this
              exact this ak'
            simp only [Bool.and_eq_true, decide_eq_true_eq, bg, ig]
            exact ⟨by omega, mm, decide_eq_true (by omega)⟩
          · exact mk y (old y hy e)
        · by_cases e : y = n
          · subst e; rw [r0.1] at hm; simp at hm
          · exact tk y (old y hy e) hm
/-- the layer of cs -/
structure LayOk (cs : Cs) (N : Nat) (L : List Bool) : Prop where
  len : L.length = N
  can : ∀ y : Nat, y < N → (L.getD y false = true ↔ Can cs y)
theorem lay_next {cs : Cs} {c : Int × Int} {N : Nat} {L : List Bool} (hc : ∀ p ∈ cs, 1 ≤ p.1) (h1 : 1 ≤ c.1) (h2 : 0 ≤ c.2) (h : LayOk cs N L) : LayOk (cs ++ [c]) N (layL L c.1 c.2 N N).1 := by
  have := lay_inv (A := Can cs) h1 h2 h.can (fun z hz => can_nn hc hz) N (Nat.le_refl N)
  exact ⟨this.l1, fun y hy => by rw [this.mm y hy, can_snoc]⟩
theorem lay_first {N : Nat} : LayOk [] (N + 1) (true :: List.replicate N false) := ⟨by simp, fun y hy => by
  rw [can_nil]
  cases y with
  | zero => simp
  | succ y =>
    have : (true :: List.replicate N false).getD (y + 1) false = false := by
      simp only [List.getD, List.getElem?_cons_succ, List.getElem?_replicate]
      split <;> rfl
    rw [this]
    constructor
    · intro h; simp at h
    · intro h; omega⟩
end K47

namespace K47
open PySem PySem.Spec PyProof.Rows L2 VL
abbrev pI (p : Int × Int) : PyData := .tuple [.int p.1, .int p.2]
abbrev cE (cs : Cs) : PyData := .tuple (cs.map pI)
abbrev tup (ns : List Int) : PyData := .tuple (ns.map .int)
theorem size_le {n : Nat} (h : n ≤ 100000) : n ≤ sizeLine := by rw [PySem.sizeLine_eq]; omega
theorem i_is_int (v lo hi : Int) : Is φ_is_int [.fz (.int v), .fz (.int lo), .fz (.int hi)] (.fz (.bool (decide (lo ≤ v) && decide (v ≤ hi)))) := by
  unfold φ_is_int f_is_int
  refine is_def' rfl ?_
  array_get_dec
  refine k_isi rfl rfl kit_ii ?_
  array_get_dec
  refine k_if_t rfl ?_
  array_get_dec
  refine k_isi rfl rfl kit_ib ?_
  array_get_dec
  refine k_if_t rfl ?_
  array_get_dec
  refine k_ch2 rfl rfl rfl (k_if (fun h => ?_) fun h => ?_)
  · array_get_dec
    exact k_fin' (by simp [fin, h])
  · array_get_dec
    exact k_fin' (by simp [fin, h])
theorem i_are_ints (vs : List Int) (lo hi : Int) (hl : vs.length ≤ sizeLine) : Is φ_are_ints [.fz (tup vs), .fz (.int lo), .fz (.int hi)] (.fz (.bool (vs.all fun v => decide (lo ≤ v) && decide (v ≤ hi)))) := by
  unfold φ_are_ints f_are_ints
  refine is_def' rfl ?_
  array_get_dec
  refine k_isi rfl rfl kit_tt ?_
  array_get_dec
  refine k_if_t rfl ?_
  array_get_dec
  refine k_lcM (fun v => .int v) (fun v => .bool (decide (lo ≤ v) && decide (v ≤ hi))) hl (fun v hv => ?_) ?_
  · array_get_dec
    refine k_call rfl rfl (i_is_int _ _ _) ?_
    array_get_dec
    exact ⟨rfl, by array_mem_dec⟩
  · array_get_dec
    refine k_allM ?_
    array_get_dec
    exact k_fin' rfl
end K47

namespace K47
open PySem PySem.Spec PyProof.Rows L2 VL
/-! ### ascending -/
theorem zip_ints (xs : List Int) : List.zipWith pairD (xs.map PyData.int) ((xs.drop 1).map PyData.int) = (xs.zip (xs.drop 1)).map pI := by
  rw [List.zipWith_map, ← List.map_uncurry_zip_eq_zipWith]; rfl
theorem wk_pI {α : Type} (ps : List (Int × Int)) : ((ps.map pI).all wkT) = true := by
  rw [List.all_map, List.all_eq_true]; intro p _; rfl
theorem zip_rise {xs : List Int} (h : xs.Pairwise (· < ·)) : ((xs.zip (xs.drop 1)).all fun p => decide (p.1 < p.2)) = true := by
  rw [List.all_eq_true]
  intro p hp
  obtain ⟨i, hi⟩ := List.mem_iff_getElem?.mp hp
  rw [List.getElem?_zip_eq_some, List.getElem?_drop] at hi
  obtain ⟨h1, h2⟩ := hi
  obtain ⟨l1, e1⟩ := List.getElem?_eq_some_iff.mp h1
  obtain ⟨l2, e2⟩ := List.getElem?_eq_some_iff.mp h2
  have := List.pairwise_iff_getElem.mp h i (1 + i) l1 l2 (by omega)
  rw [e1, e2] at this
  simpa using this
theorem cut1 (xs : List Int) : VL.cutD (xs.map PyData.int) (some 1) none = (xs.drop 1).map PyData.int := by
  unfold VL.cutD
  have e1 : HT.sIx (xs.map PyData.int).length 0 (some 1) = min 1 xs.length := by
    unfold HT.sIx; simp
  have e2 : HT.sIx (xs.map PyData.int).length (xs.map PyData.int).length none = xs.length := by
    unfold HT.sIx; simp
  rw [e1, e2]
  cases xs with
  | nil => rfl
  | cons x xs => 
    rw [List.take_of_length_le (by simp)]
    simp
theorem i_is_risingT {xs : List Int} (h : xs.Pairwise (· < ·)) (hl : xs.length ≤ sizeLine) : Is φ_is_rising [.fz (tup xs)] (.fz (.bool true)) := by
  unfold φ_is_rising f_is_rising
  refine is_def' rfl ?_
  array_get_dec
  refine k_slT rfl ?_
  rw [cut1]
  array_get_dec
  refine ⟨_, _, _, rfl, rfl, by rw [zip_ints]; exact wk_pI (α := Unit) _, ?_⟩
  rw [zip_ints]
  refine k_lcM pI (fun p => .bool (decide (p.1 < p.2))) (by rw [List.length_zip]; omega) (fun p hp => ?_) ?_
  · array_get_dec
    exact ⟨rfl, by array_mem_dec⟩
  · array_get_dec
    refine k_allM ?_
    rw [zip_rise h]
    array_get_dec
    exact k_fin' rfl
theorem i_is_risingL {xs : List Int} (h : xs.Pairwise (· < ·)) (hl : xs.length ≤ sizeLine) : Is φ_is_rising [.pw false (.list (xs.map .int))] (.fz (.bool true)) := by
  unfold φ_is_rising f_is_rising
  refine is_def' rfl ?_
  array_get_dec
  refine k_slL rfl ?_
  rw [cut1]
  array_get_dec
  refine ⟨_, _, _, rfl, rfl, by rw [zip_ints]; exact wk_pI (α := Unit) _, ?_⟩
  rw [zip_ints]
  refine k_lcM pI (fun p => .bool (decide (p.1 < p.2))) (by rw [List.length_zip]; omega) (fun p hp => ?_) ?_
  · array_get_dec
    exact ⟨rfl, by array_mem_dec⟩
  · array_get_dec
    refine k_allM ?_
    rw [zip_rise h]
    array_get_dec
    exact k_fin' rfl
/-! ### coins -/
def COk (cs : Cs) : Prop := Asc cs ∧ cs.length ≤ 12 ∧ ∀ p ∈ cs, p.1 ≤ 10000 ∧ p.2 ≤ 10000
theorem COk.len {cs : Cs} (h : COk cs) : cs.length ≤ sizeLine := size_le (by have := h.2.1; omega)
theorem i_are_coins {cs : Cs} (h : COk cs) : Is φ_are_coins [.fz (cE cs)] (.fz (.bool true)) := by
  have hl := h.len
  unfold φ_are_coins f_are_coins
  refine is_def' rfl ?_
  array_get_dec
  refine w_skip (e := [some (.fz (cE cs)), none, none, none]) ?_ ?_
  · array_get_dec
    refine k_isi rfl rfl kit_tt ?_
    array_get_dec
    refine k_if_f rfl ?_
    array_get_dec
    refine ⟨?_, by array_mem_dec⟩
    have := h.2.1
    simp; omega
  array_get_dec
  refine w_skip (e := [some (.fz (cE cs)), none, none, none]) ?_ ?_
  · array_get_dec
    refine k_lcM pI (fun _ => .bool true) hl (fun p hp => ?_) ?_
    · have h1 := h.1.2 p hp
      have h2 := h.2.2 p hp
      array_get_dec
      refine k_call rfl rfl (i_are_ints [p.1, p.2] _ _ (size_le (by simp))) ?_
      array_get_dec
      refine k_if_t (by simp; omega) ?_
      array_get_dec
      exact ⟨rfl, by array_mem_dec⟩
    · array_get_dec
      refine k_allM ?_
      array_get_dec
      exact ⟨by simp, by array_mem_dec⟩
  array_get_dec
  refine k_lcM pI (fun p => .int p.1) hl (fun p hp => ?_) ?_
  · array_get_dec
    exact ⟨rfl, by array_mem_dec⟩
  · array_get_dec
    refine k_call rfl rfl (r := .fz (.bool true)) ?_ ?_
    · have := i_is_risingL (xs := cs.map (·.1)) (by rw [List.pairwise_map]; exact h.1.1) (by simpa using hl)
      rw [List.map_map] at this
      exact this
    · array_get_dec
      exact k_fin' rfl
theorem i_look_at_coins {cs : Cs} (h : COk cs) : Is φ_look_at_coins [.fz (cE cs)] (.fz .none) := by
  unfold φ_look_at_coins f_look_at_coins
  refine is_def' rfl ?_
  refine w_skip (e := [some (.fz (cE cs))]) ?_ ?_
  · array_get_dec
    refine k_call rfl rfl (i_are_coins h) ?_
    array_get_dec
    exact ⟨rfl, by array_mem_dec⟩
  array_get_dec
  exact k_fin' rfl
theorem i_told_sum {cs : Cs} (h : COk cs) : Is φ_told_sum [.fz (cE cs)] (.fz (.int (wt cs))) := by
  unfold φ_told_sum f_told_sum
  refine is_def' rfl ?_
  array_get_dec
  refine k_lcM pI (fun p => .int (p.1 * p.2)) h.len (fun p hp => ?_) ?_
  · have h2 := h.2.2 p hp
    have h1 := h.1.2 p hp
    array_get_dec
    exact ⟨rfl, by array_mem_dec⟩
  · array_get_dec
    refine k_sumM ?_
    array_get_dec
    refine k_fin' ?_
    have : ∀ cs : Cs, (cs.map fun p => p.1 * p.2).sum = wt cs := by
      intro cs
      induction cs with
      | nil => rfl
      | cons p t ih => simp only [List.map_cons, List.sum_cons, ih, wt, S]
    rw [this]; rfl
theorem i_worth_of {cs : Cs} (h : COk cs) : Is φ_worth_of [.fz (cE cs)] (.fz (.int (wt cs))) := by
  unfold φ_worth_of f_worth_of
  refine is_def' rfl ?_
  array_get_dec
  refine k_call rfl rfl (i_look_at_coins h) ?_
  array_get_dec
  refine k_call rfl rfl (i_told_sum h) ?_
  array_get_dec
  exact k_fin' rfl
end K47

namespace K47
open PySem PySem.Spec PyProof.Rows L2 VL
/-! ### sizes and what is looked at -/
theorem drop_at {α : Type} {xs : List α} {i : Nat} {x : α} (h : xs[i]? = some x) : xs.drop i = x :: xs.drop (i + 1) := (List.drop_eq_getElem_cons (List.getElem?_eq_some_iff.mp h).1).trans (by rw [(List.getElem?_eq_some_iff.mp h).2])
theorem i_told_size {cs : Cs} (h : COk cs) : Is φ_told_size [.fz (cE cs)] (.fz (.int (size cs : Nat))) := by
  unfold φ_told_size f_told_size
  refine is_def' rfl ?_
  array_get_dec
  refine w_cutK [some (.fz (cE cs)), some (.fz (.int (size cs : Nat))), none, none] ?_ ?_
  · refine w_for ?_
    array_get_dec
    refine w_forXI pI cs (fun i e => ∃ r : Int, e = [some (.fz (cE cs)), some (.fz (.int r)), none, none] ∧ r * (size (cs.drop i) : Nat) = (size cs : Nat)) (e0 := [some (.fz (cE cs)), some (.fz (.int 1)), none, none]) (by array_mem_dec) ⟨1, rfl, by simp⟩ (fun i p e hp hI => ?_) (fun e hI => ?_)
    · obtain ⟨r, rfl, hr⟩ := hI
      have h1 := h.1.2 p (List.mem_of_getElem? hp)
      have h2 := h.2.2 p (List.mem_of_getElem? hp)
      rw [drop_at hp, size] at hr
      array_get_dec
      refine ⟨[some (.fz (cE cs)), some (.fz (.int (r * (p.2 + 1)))), none, none], by array_mem_dec, _, rfl, ?_⟩
      rw [← hr, Int.mul_assoc]
      congr 1
      rw [Int.natCast_mul, Int.toNat_of_nonneg (by omega)]
    · obtain ⟨r, rfl, hr⟩ := hI
      rw [List.drop_length] at hr
      have : r = (size cs : Nat) := by simpa [size] using hr
      exact ⟨rfl, by rw [← this]; exact Le.refl _⟩
  · array_get_dec
    exact k_fin' rfl
/-- amounts as they are asked -/
def AOk (as : List Int) : Prop := as.length ≤ 12 ∧ ∀ a ∈ as, 0 ≤ a ∧ a ≤ 2000
theorem i_are_amounts {as : List Int} (h : AOk as) : Is φ_are_amounts [.fz (tup as)] (.fz (.bool true)) := by
  have h1 : (as.all fun v => decide ((0 : Int) ≤ v) && decide (v ≤ 2000)) = true := by
    rw [List.all_eq_true]; intro v hv; have := h.2 v hv; simp; omega
  have h3 := h.1
  unfold φ_are_amounts f_are_amounts
  refine is_def' rfl ?_
  array_get_dec
  refine k_call rfl rfl (i_are_ints as _ _ (size_le (by omega))) ?_
  array_get_dec
  refine k_if_t h1 ?_
  array_get_dec
  refine k_fin' ?_
  simp [fin]; omega
theorem i_look_at_amounts {cs : Cs} {as : List Int} (h : COk cs) (ha : AOk as) : Is φ_look_at_amounts [.fz (cE cs), .fz (tup as)] (.fz .none) := by
  unfold φ_look_at_amounts f_look_at_amounts
  refine is_def' rfl ?_
  array_get_dec
  refine k_call rfl rfl (i_look_at_coins h) ?_
  array_get_dec
  refine w_skip (e := [some (.fz (cE cs)), some (.fz (tup as))]) ?_ ?_
  · array_get_dec
    refine k_call rfl rfl (i_are_amounts ha) ?_
    array_get_dec
    exact ⟨rfl, by array_mem_dec⟩
  array_get_dec
  exact k_fin' rfl
theorem i_look_at_asked {cs : Cs} {as : List Int} (h : COk cs) (ha : AOk as) (hs : size cs ≤ 4000) : Is φ_look_at_asked [.fz (cE cs), .fz (tup as)] (.fz .none) := by
  unfold φ_look_at_asked f_look_at_asked
  refine is_def' rfl ?_
  array_get_dec
  refine k_call rfl rfl (i_look_at_amounts h ha) ?_
  array_get_dec
  refine w_skip (e := [some (.fz (cE cs)), some (.fz (tup as))]) ?_ ?_
  · array_get_dec
    refine k_call rfl rfl (i_told_size h) ?_
    array_get_dec
    exact ⟨by simp; omega, by array_mem_dec⟩
  array_get_dec
  exact k_fin' rfl
theorem i_lots_of {cs : Cs} (h : COk cs) (hs : size cs ≤ 4000) : Is φ_lots_of [.fz (cE cs)] (.fz (.int (size cs : Nat))) := by
  unfold φ_lots_of f_lots_of
  refine is_def' rfl ?_
  array_get_dec
  refine k_call rfl rfl (i_look_at_asked (as := []) h ⟨by simp, by simp⟩ hs) ?_
  array_get_dec
  refine k_call rfl rfl (i_told_size h) ?_
  array_get_dec
  exact k_fin' rfl
end K47

namespace K47
open PySem PySem.Spec PyProof.Rows L2 VL
/-! ### the moves -/
theorem log_ok {j : Int} (h0 : 1 ≤ j) (h : j ≤ 10000) : 0 < j ∧ j.natAbs.log2 < 9000 := ⟨by omega, (Nat.log2_lt (by omega)).mpr (Nat.lt_of_lt_of_le (show j.natAbs < 2 ^ 14 by omega) (Nat.pow_le_pow_right (by decide) (by decide)))⟩
theorem range01 (n : Nat) : rangeD 0 1 n = (List.range n).map fun (k : Nat) => PyData.int (k : Int) := by
  unfold rangeD
  apply List.map_congr_left
  intro k _
  simp
abbrev mvE (q : Vec × Int) : PyData := .tuple [tup q.1, .int q.2]
def nxt (c : Int × Int) (q : Vec × Int) : List (Vec × Int) := (List.range ((if q.2 / c.1 < c.2 then q.2 / c.1 else c.2) + 1).toNat).map fun (m : Nat) => (q.1 ++ [(m : Int)], q.2 - (m : Int) * c.1)
theorem mvAll_cons (c : Int × Int) (cs : Cs) (found : List (Vec × Int)) : mvAll (c :: cs) found = mvAll cs (found.flatMap (nxt c)) := rfl
theorem nxt_len {c : Int × Int} {q : Vec × Int} : (nxt c q).length ≤ (c.2 + 1).toNat := by
  unfold nxt
  rw [List.length_map, List.length_range]
  split <;> omega
theorem flat_len {c : Int × Int} : ∀ {found : List (Vec × Int)}, (found.flatMap (nxt c)).length ≤ found.length * (c.2 + 1).toNat
  | [] => by simp
  | q :: t => by
    rw [List.flatMap_cons, List.length_append, List.length_cons, Nat.add_mul]
    have h1 := nxt_len (c := c) (q := q)
    have h2 := flat_len (c := c) (found := t)
    omega
theorem w_longer {Q : Fl → EV → Prop} {cE0 : PyData} {a : Int} {c : Int × Int} {found : List (Vec × Int)} {e : EV} (hc1 : 1 ≤ c.1 ∧ 1 ≤ c.2) (hc2 : c.1 ≤ 10000 ∧ c.2 ≤ 10000) (hf : ∀ q ∈ found, 0 ≤ q.2 ∧ q.2 ≤ 10000 ∧ q.1.length ≤ 1000) (hl : found.length * (c.2 + 1).toNat ≤ 100000)
    (l0 : Le [some (.fz cE0), some (.fz (.int a)), none, some (.fz (.int c.1)), some (.fz (.int c.2)), some (.ow false (.list [])), none, none, none] e)
    (hq : Q .nx [some (.fz cE0), some (.fz (.int a)), none, some (.fz (.int c.1)), some (.fz (.int c.2)), some (.ow false (.list ((found.flatMap (nxt c)).map mvE))), none, none, none]) :
    W (forL (gT 2 (gsCons (gN 6) (gsCons (gN 7) gsNil))) (vExpr (vMut "list" extendG 5 (vuCons (vLc (vRng (vaCons (vOp2 addF (vBlt min2F (vaCons (vVar 4) (vaCons (vOp2 fdivF (vVar 7) (vVar 3)) vaNil))) (vC (.int 1))) vaNil)) (gN 8) tTrue (vTup (vuCons (vTup (vuStar (vVar 6) (vuCons (vVar 8) vuNil))) (vuCons (vOp2 subF (vVar 7) (vOp2 mulF (vVar 8) (vVar 3))) vuNil))) [8]) vuNil))) (found.map mvE)) e Q := by
  refine w_forXI mvE found (fun i e => e = [some (.fz cE0), some (.fz (.int a)), none, some (.fz (.int c.1)), some (.fz (.int c.2)), some (.ow false (.list (((found.take i).flatMap (nxt c)).map mvE))), none, none, none]) l0 (by simp) (fun i q e hp hI => ?_) (fun e hI => ?_)
  · subst hI
    obtain ⟨q1, q2, q3⟩ := hf q (List.mem_of_getElem? hp)
    have n0 : 0 ≤ q.2 / c.1 := Int.ediv_nonneg q1 (by omega)
    have n1 : q.2 / c.1 ≤ q.2 := Int.ediv_le_self _ q1
    have hi := (List.getElem?_eq_some_iff.mp hp).1
    have t1 := flat_len (c := c) (found := found.take i)
    have t2 := nxt_len (c := c) (q := q)
    have t3 : (found.take i).length * (c.2 + 1).toNat + (c.2 + 1).toNat ≤ found.length * (c.2 + 1).toNat := by
      have : (found.take i).length + 1 ≤ found.length := by rw [List.length_take]; omega
      have := Nat.mul_le_mul_right (c.2 + 1).toNat this
      rwa [Nat.add_mul, Nat.one_mul] at this
    array_get_dec
    refine k_fdiv (log_ok hc1.1 hc2.1) ?_
    array_get_dec
    refine k_min2 ?_
    array_get_dec
    refine k_rng1 (by simp [in62]; split <;> omega) ?_
    rw [range01]
    refine k_lcM (fun (k : Nat) => .int (k : Int)) (fun (k : Nat) => mvE (q.1 ++ [(k : Int)], q.2 - (k : Int) * c.1)) (size_le (by rw [List.length_range]; split <;> omega)) (fun k hk => ?_) ?_
    · array_get_dec
      refine k_tupH (size_le (by simp; omega)) ?_
      array_get_dec
      refine ⟨?_, by array_mem_dec⟩
      simp [mvE, tup]
    · array_get_dec
      have e1 : (List.range ((if q.2 / c.1 < c.2 then q.2 / c.1 else c.2) + 1).toNat).map (fun (k : Nat) => mvE (q.1 ++ [(k : Int)], q.2 - (k : Int) * c.1)) = (nxt c q).map mvE := by
        unfold nxt; rw [List.map_map]; rfl
      rw [e1]
      refine k_extend rfl rfl rfl (size_le (by rw [List.length_map, List.length_map]; omega)) ?_
      array_get_dec
      refine ⟨_, ?_, rfl⟩
      rw [List.take_add_one, hp, List.flatMap_append, List.map_append]
      simp only [Option.toList_some, List.flatMap_cons, List.flatMap_nil, List.append_nil]
      array_mem_dec
  · subst hI
    rw [List.take_length]
    exact hq
end K47

namespace K47
open PySem PySem.Spec PyProof.Rows L2 VL
theorem nxt_ok {c : Int × Int} {found : List (Vec × Int)} {a : Int} {i : Nat} (hc : 1 ≤ c.1) (hf : ∀ q ∈ found, 0 ≤ q.2 ∧ q.2 ≤ a ∧ q.1.length = i) : ∀ q ∈ found.flatMap (nxt c), 0 ≤ q.2 ∧ q.2 ≤ a ∧ q.1.length = i + 1 := by
  intro q hq
  obtain ⟨q0, h0, hq⟩ := List.mem_flatMap.mp hq
  obtain ⟨k, hk, rfl⟩ := List.mem_map.mp hq
  obtain ⟨f1, f2, f3⟩ := hf q0 h0
  have hk3 := List.mem_range.mp hk
  have n0 : 0 ≤ q0.2 / c.1 := Int.ediv_nonneg f1 (by omega)
  have h1 : (k : Int) ≤ q0.2 / c.1 := by split at hk3 <;> omega
  have h2 := (Int.le_ediv_iff_mul_le (show 0 < c.1 by omega)).mp h1
  have h3 : 0 ≤ (k : Int) * c.1 := Int.mul_nonneg (by omega) (by omega)
  exact ⟨by show 0 ≤ q0.2 - (k : Int) * c.1; omega, by show q0.2 - (k : Int) * c.1 ≤ a; omega, by simp [f3]⟩
theorem i_told_moves {cs : Cs} (h : COk cs) (hs : size cs ≤ 4000) {a : Int} (ha : 0 ≤ a ∧ a ≤ 2000) : Is φ_told_moves [.fz (cE cs), .fz (.int a)] (.ow false (.list ((movesP cs a).map tup))) := by
  unfold φ_told_moves f_told_moves
  refine is_def' rfl ?_
  array_get_dec
  have body : ∀ (i : Nat) (c : Int × Int) (found : List (Vec × Int)) (s2 : SV), cs[i]? = some c → mvAll (cs.drop i) found = mvAll cs [([], a)] → found.length * size (cs.drop i) ≤ size cs → (∀ q ∈ found, 0 ≤ q.2 ∧ q.2 ≤ a ∧ q.1.length = i) →
      mvAll (cs.drop (i + 1)) (found.flatMap (nxt c)) = mvAll cs [([], a)] ∧ (found.flatMap (nxt c)).length * size (cs.drop (i + 1)) ≤ size cs ∧ (∀ q ∈ found.flatMap (nxt c), 0 ≤ q.2 ∧ q.2 ≤ a ∧ q.1.length = i + 1) ∧ found.length * (c.2 + 1).toNat ≤ 4000 := by
    intro i c found s2 hp e1 e2 e3
    have h1 := h.1.2 c (List.mem_of_getElem? hp)
    rw [drop_at hp] at e1 e2
    rw [mvAll_cons] at e1
    rw [size, ← Nat.mul_assoc] at e2
    have sp : 1 ≤ size (cs.drop (i + 1)) := size_pos fun p hp => by have := (h.1.2 p (List.mem_of_mem_drop hp)).2; omega
    refine ⟨e1, Nat.le_trans (Nat.mul_le_mul_right _ flat_len) e2, nxt_ok h1.1 e3, ?_⟩
    have := Nat.mul_le_mul_left (found.length * (c.2 + 1).toNat) sp
    omega
  have last : ∀ s2 : SV, (s2 = .ow false (.list ((mvAll cs [([], a)]).map mvE)) ∨ s2 = .fz (.list ((mvAll cs [([], a)]).map mvE))) →
      W (vRet (vLc (vIter (vVar 2)) (gT 2 (gsCons (gN 6) (gsCons (gN 7) gsNil))) (vB (vOp2 eqF (vVar 7) (vC (.int 0)))) (vVar 6) [6, 7])) [some (.fz (cE cs)), some (.fz (.int a)), some s2, none, none, none, none, none, none] (Fin (.ow false (.list ((movesP cs a).map tup)))) := by
    have hl := len_mvAll (cs := cs) (found := [([], a)])
    simp only [List.length_cons, List.length_nil, Nat.zero_add, Nat.one_mul] at hl
    rintro s2 (rfl | rfl)
    all_goals
      array_get_dec
      refine k_lcF mvE (fun q => tup q.1) (fun q => decide (q.2 = 0)) (size_le (by omega)) (fun q hq => ?_) ?_
      · array_get_dec
        refine ⟨rfl, k_if (fun _ => ?_) fun _ => ?_⟩
        · array_get_dec
          exact ⟨rfl, by array_mem_dec⟩
        · array_mem_dec
      · array_get_dec
        refine k_fin' ?_
        simp only [fin, movesP, List.map_map]
        rfl
  refine w_for ?_
  array_get_dec
  refine w_forXI pI cs (fun i e => ∃ (found : List (Vec × Int)) (s2 : SV), (s2 = .ow false (.list (found.map mvE)) ∨ s2 = .fz (.list (found.map mvE))) ∧ e = [some (.fz (cE cs)), some (.fz (.int a)), some s2, none, none, none, none, none, none] ∧
    mvAll (cs.drop i) found = mvAll cs [([], a)] ∧ found.length * size (cs.drop i) ≤ size cs ∧ ∀ q ∈ found, 0 ≤ q.2 ∧ q.2 ≤ a ∧ q.1.length = i) (e0 := [some (.fz (cE cs)), some (.fz (.int a)), some (.ow false (.list [.tuple [.tuple [], .int a]])), none, none, none, none, none, none]) (by array_mem_dec)
    ⟨[([], a)], _, .inl rfl, rfl, rfl, by simp, fun q hq => by simp at hq; subst hq; exact ⟨ha.1, by simp, rfl⟩⟩ (fun i c e hp hI => ?_) (fun e hI => ?_)
  · obtain ⟨found, s2, hs2, rfl, e1, e2, e3⟩ := hI
    obtain ⟨b1, b2, b3, b4⟩ := body i c found s2 hp e1 e2 e3
    have h1 := h.1.2 c (List.mem_of_getElem? hp)
    have h2 := h.2.2 c (List.mem_of_getElem? hp)
    have hi : i < cs.length := (List.getElem?_eq_some_iff.mp hp).1
    have hl12 := h.2.1
    rcases hs2 with rfl | rfl
    all_goals
      array_get_dec
      refine w_for ?_
      array_get_dec
      refine w_longer (cE0 := cE cs) (a := a) (c := c) (found := found) h1 ⟨h2.1, h2.2⟩ (fun q hq => by have := e3 q hq; omega) (by omega) (by array_mem_dec) ?_
      array_get_dec
      exact ⟨_, by array_mem_dec, _, _, .inr rfl, rfl, b1, b2, b3⟩
  · obtain ⟨found, s2, hs2, rfl, e1, _, _⟩ := hI
    rw [List.drop_length] at e1
    have e1 : found = mvAll cs [([], a)] := e1
    subst e1
    exact k_nx (last s2 hs2)
end K47

namespace K47
open PySem PySem.Spec PyProof.Rows L2 VL
/-! ### rows as they are told -/
def optE : Option Vec → PyData
  | none => .none
  | some m => tup m
abbrev ent (q : Vec × Option Vec) : PyData × PyData := (tup q.1, optE q.2)
abbrev rowE (D : Row) : PyData := .dict (D.map ent)
abbrev kE (s : Vec) : PyData := keyW (tup s)
abbrev kys (s : Vec) : List Key := s.map Sum.inl
theorem tup_keys (s : Vec) : tup s = .tuple ((kys s).map keyD) := by simp [tup, kys, List.map_map, Function.comp_def, keyD]
theorem st_ints (x : Int) (t : Vec) : stD (PyData.int x :: t.map PyData.int) = false := rfl
theorem kE_key (s : Vec) : keyT? (kE s) = some (kys s) := by
  cases s with
  | nil => rfl
  | cons x t =>
    show keyT? (.tuple ((x :: t).map PyData.int)) = _
    have := keyT?_tup (ks := kys (x :: t)) (by
      have e := tup_keys (x :: t)
      simp only [tup, PyData.tuple.injEq] at e
      rw [← e]; exact st_ints x t)
    rw [← tup_keys] at this
    exact this
theorem tupleW_ints (s : Vec) : tupleWF [.list (s.map .int)] = some (.fz (kE s)) := by
  cases s with
  | nil => rfl
  | cons x t => rfl
theorem kys_inj {a b : Vec} : kys a = kys b ↔ a = b := by
  constructor
  · intro h
    have := congrArg (List.map fun (k : Key) => match k with | .inl i => i | .inr _ => 0) h
    simpa [kys, List.map_map, Function.comp_def] using this
  · rintro rfl; rfl
theorem eqv_tup (a b : Vec) : PyData.eqv (tup a) (tup b) = decide (a = b) := by
  rw [tup_keys, tup_keys, eqv_tupD]
  by_cases h : a = b
  · simp [h]
  · have : ¬ kys a = kys b := fun z => h (kys_inj.mp z)
    simp [h, this]
theorem dget_row : ∀ (D : Row) (s : Vec), dget (D.map ent) (tup s) = (lookR D s).map optE
  | [], s => rfl
  | q :: D, s => by
    have ih := dget_row D s
    unfold dget lookR at ih ⊢
    rw [List.map_cons, List.find?_cons, List.find?_cons]
    simp only [eqv_tup]
    by_cases h : q.1 = s
    · simp [h]
    · simp only [h, decide_false]; exact ih
theorem any_row (D : Row) (s : Vec) : ((D.map ent).any fun p => PyData.eqv p.1 (tup s)) = decide (s ∈ ksV D) := by
  induction D with
  | nil => simp [ksV]
  | cons q D ih =>
    rw [List.map_cons, List.any_cons, ih, eqv_tup]
    have mk : s ∈ ksV (q :: D) ↔ q.1 = s ∨ s ∈ ksV D := by simp [ksV, eq_comm]
    by_cases h : q.1 = s
    · simp [h, mk]
    · by_cases h3 : s ∈ ksV D
      · simp [h, h3, mk]
      · simp [h, h3, mk]
theorem sdef_row (D : Row) (s m : Vec) : sdefD (D.map ent) (kys s) (tup m) = (sdef D s m).map ent := by
  unfold sdefD
  rw [← tup_keys, dget_row]
  unfold sdef
  by_cases h : s ∈ ksV D
  · obtain ⟨q, _, _, e⟩ := look_mem h
    rw [if_pos h, e]; rfl
  · have e : lookR D s = none := by
      unfold lookR
      rw [Option.map_eq_none_iff, List.find?_eq_none]
      intro q hq z
      exact h (List.mem_map.mpr ⟨q, hq, by simpa using z⟩)
    rw [if_neg h, e]
    show dput _ _ _ = _
    unfold dput
    rw [any_row, if_neg (by simpa using h), List.map_append]
    rfl
/-! ### in sequence -/
def unt : PyData → Vec
  | .tuple ds => ds.map fun d => match d with | .int i => i | _ => 0
  | _ => []
theorem unt_tup (s : Vec) : unt (tup s) = s := by simp [unt, tup, List.map_map, Function.comp_def]
def ordV (l : List Vec) : List Vec := (sortD (l.map tup)).map unt
theorem ord_eq (l : List Vec) : sortD (l.map tup) = (ordV l).map tup := by
  unfold ordV
  rw [List.map_map]
  have : ∀ d ∈ sortD (l.map tup), d = (tup ∘ unt) d := fun d hd => by
    have : d ∈ l.map tup := (List.mergeSort_perm _ _).mem_iff.mp hd
    obtain ⟨s, _, rfl⟩ := List.mem_map.mp this
    simp only [Function.comp, unt_tup]
  exact (List.map_id _).symm.trans (List.map_congr_left this)
theorem ord_perm (l : List Vec) : (ordV l).Perm l := by
  have h : ((sortD (l.map tup)).map unt).Perm ((l.map tup).map unt) := (List.mergeSort_perm _ _).map unt
  rw [List.map_map] at h
  have : l.map (unt ∘ tup) = l := by
    rw [show (unt ∘ tup) = id from funext unt_tup, List.map_id]
  rwa [this] at h
theorem ord_mem (l : List Vec) (t : Vec) : t ∈ ordV l ↔ t ∈ l := (ord_perm l).mem_iff
theorem keys_row (D : Row) : keysD (D.map ent) = (ksV D).map tup := by simp [keysD, ksV, List.map_map, Function.comp_def]
theorem canLay_tup (a : Vec) : (tup a).canLay0 = true := by
  have : ∀ a : Vec, PyData.canLayAll0 (a.map PyData.int) = true := by
    intro a
    induction a with
    | nil => rfl
    | cons x t ih => simp [PyData.canLayAll0, PyData.canLay0, ih]
  simpa [PyData.canLay0, tup] using this a
theorem alike_tup (a b : Vec) : PySem.W.alike (tup a) (tup b) = true := by
  have : ∀ a b : Vec, PySem.W.alikeAll (a.map PyData.int) (b.map PyData.int) = true := by
    intro a
    induction a with
    | nil => intro b; simp [PySem.W.alikeAll]
    | cons x t ih =>
      intro b
      cases b with
      | nil => simp [PySem.W.alikeAll]
      | cons y u => simp [PySem.W.alikeAll, PySem.W.alike, ih u]
  simpa [PySem.W.alike, tup] using this a b
theorem depth_tup (a : Vec) : (tup a).depth ≤ 60 := by
  have : ∀ a : Vec, PyData.depthAll (a.map PyData.int) ≤ 1 := by
    intro a
    induction a with
    | nil => simp [PyData.depthAll]
    | cons x t ih => simp only [List.map_cons, PyData.depthAll, PyData.depth]; omega
  have := this a
  simp only [tup, PyData.depth]; omega
theorem sort_row {n : Nat} {D : Row} (ne : D ≠ []) (hl : D.length ≤ 4000) (hn : n ≤ 12) (h : ∀ s ∈ ksV D, s.length = n) (hd : (ksV D).Nodup) : sortKF true (D.map ent) = some (.ow false (.list ((ordV (ksV D)).map kE))) := by
  have good : ((keysD (D.map ent)).all goodK) = true := by
    rw [keys_row, List.all_eq_true]
    intro d hd
    obtain ⟨s, _, rfl⟩ := List.mem_map.mp hd
    cases s <;> rfl
  have ok : (decide ((D.map ent).length = 1) || sortOk (keysD (D.map ent))) = true := by
    cases n with
    | zero =>
      have all : ∀ s ∈ ksV D, s = [] := fun s hs => List.length_eq_zero_iff.mp (h s hs)
      have : D.length = 1 := by
        match D, ne with
        | [q], _ => rfl
        | q :: r :: t, _ =>
          simp only [ksV, List.map_cons, List.nodup_cons] at hd
          exact absurd (by rw [all q.1 (by simp [ksV]), all r.1 (by simp [ksV])]; simp) hd.1
      simp [this]
    | succ n =>
      have : sortOk (keysD (D.map ent)) = true := by
        rw [keys_row]
        unfold sortOk
        simp only [Bool.and_eq_true, decide_eq_true_eq, List.length_map, List.all_map, Bool.or_eq_true, List.all_eq_true, Function.comp]
        refine ⟨⟨⟨⟨size_le (by simp [ksV]; omega), fun a _ => canLay_tup a⟩, fun a _ b _ => alike_tup a b⟩, fun a _ => depth_tup a⟩, .inl fun a ha => ?_⟩
        have := h a ha
        cases a with
        | nil => simp at this
        | cons x t => rfl
      simp [this]
  unfold sortKF
  simp only [ok, good, Bool.and_self, if_true]
  rw [keys_row, ord_eq, List.map_map]
  rfl
end K47

namespace K47
open PySem PySem.Spec PyProof.Rows L2 VL
/-! ### told_rows -/
abbrev zI (p : Int × Int) : PyData := .tuple [.int p.1, .int p.2]
theorem zip_tup (a b : Vec) : List.zipWith pairD (a.map PyData.int) (b.map PyData.int) = (List.zip a b).map zI := by
  induction a generalizing b with
  | nil => simp
  | cons x t ih =>
    cases b with
    | nil => simp
    | cons y u => simp only [List.map_cons, List.zipWith_cons_cons, List.zip_cons_cons, ih]; rfl
theorem zip_mk {m s : Vec} (h : m.length = s.length) : zipD (tup m) (kE s) = some ((List.zip m s).map zI) := by
  cases s with
  | nil =>
    have : m = [] := by simpa using h
    subst this; rfl
  | cons y u =>
    show some (List.zipWith pairD (m.map PyData.int) ((y :: u).map PyData.int)) = _
    rw [zip_tup]
theorem zip_km {s m : Vec} (h : m.length = s.length) : zipD (kE s) (tup m) = some ((List.zip s m).map zI) := by
  cases s with
  | nil =>
    have : m = [] := by simpa using h
    subst this; rfl
  | cons y u =>
    show some (List.zipWith pairD ((y :: u).map PyData.int) (m.map PyData.int)) = _
    rw [zip_tup]
theorem wk_zI (ps : List (Int × Int)) : ((ps.map zI).all wkT) = true := by
  rw [List.all_map, List.all_eq_true]; intro p _; rfl
theorem sub_zip : ∀ (s m : Vec), (List.zip s m).map (fun p => PyData.int (p.1 - p.2)) = (vsub s m).map PyData.int
  | [], _ => by simp [vsub]
  | _ :: _, [] => by simp [vsub]
  | x :: s, y :: m => by
    have := sub_zip s m
    simp only [vsub, List.zip_cons_cons, List.map_cons, List.zipWith_cons_cons] at this ⊢
    rw [this]
theorem add_zip : ∀ (s m : Vec), (List.zip s m).map (fun p => PyData.int (p.1 + p.2)) = (vadd s m).map PyData.int
  | [], _ => by simp [vadd]
  | _ :: _, [] => by simp [vadd]
  | x :: s, y :: m => by
    have := add_zip s m
    simp only [vadd, List.zip_cons_cons, List.map_cons, List.zipWith_cons_cons] at this ⊢
    rw [this]
theorem take_next {α : Type} {l : List α} {i : Nat} {x : α} (h : l[i]? = some x) : l.take (i + 1) = l.take i ++ [x] := by rw [List.take_add_one, h]; rfl
theorem dk_row {e : EV} {D : Row} (ne : D ≠ []) : dk e (.fz (rowE D)) = some (true, D.map ent) := by
  match D, ne with
  | q :: D, _ => rfl
section
variable {cs : Cs} {as : List Int} {a : Int} {D : Row}
theorem stepOne_snoc (ms : List Vec) (m s : Vec) (D : Row) : stepOne (ms ++ [m]) s D = if lev m s = true then sdef (stepOne ms s D) (vsub s m) m else stepOne ms s D := by
  unfold stepOne; rw [List.foldl_append]; rfl
theorem stepAll_snoc (ms : List Vec) (ss : List Vec) (s : Vec) (D : Row) : stepAll ms (ss ++ [s]) D = stepOne ms s (stepAll ms ss D) := by
  unfold stepAll; rw [List.foldl_append]; rfl
/-- the body of told_rows' inner loops -/
abbrev innerB : VS := (vFor (vIter (vVar 4)) (gN 7) (vIf (vB (vBlt allF (vaCons (vLc (vZip (vuCons (vVar 7) (vuCons (vVar 6) vuNil))) (gT 2 (gsCons (gN 10) (gsCons (gN 11) gsNil))) tTrue (vOp2 leF (vVar 10) (vVar 11)) [10, 11]) vaNil))) (vExpr (vMut "dict" setdefG 5 (vuCons (vBlt tupleWF (vaCons (vLc (vZip (vuCons (vVar 6) (vuCons (vVar 7) vuNil))) (gT 2 (gsCons (gN 11) (gsCons (gN 10) gsNil))) tTrue (vOp2 subF (vVar 11) (vVar 10)) [11, 10]) vaNil)) (vuCons (vVar 7) vuNil)))) vsNil))
theorem w_inner {Q : Fl → EV → Prop} {x0 x1 x2 x3 : SV} {ms : List Vec} {s : Vec} {D0 : Row} {s4 : SV} (h4 : s4 = .ow false (.list (ms.map tup)) ∨ s4 = .fz (.list (ms.map tup))) {e : EV} (hm : ∀ m ∈ ms, m.length = s.length) (hl : s.length ≤ 12) (hD : ∀ j, (stepOne (ms.take j) s D0).length ≤ 4000)
    (l0 : Le [some x0, some x1, some x2, some x3, some s4, some (.ow true (rowE D0)), some (.fz (kE s)), none, none, none, none, none] e)
    (hq : Q .nx [some x0, some x1, some x2, some x3, some (.fz (.list (ms.map tup))), some (.ow true (rowE (stepOne ms s D0))), some (.fz (kE s)), none, none, none, none, none]) : W innerB e Q := by
  refine W.weak l0 (w_for ?_)
  have it : W (vIter (vVar 4)) [some x0, some x1, some x2, some x3, some s4, some (.ow true (rowE D0)), some (.fz (kE s)), none, none, none, none, none] fun ds e1 => ds = ms.map tup ∧ e1 = [some x0, some x1, some x2, some x3, some (.fz (.list (ms.map tup))), some (.ow true (rowE D0)), some (.fz (kE s)), none, none, none, none, none] := by
    rcases h4 with rfl | rfl
    · array_get_dec
      exact ⟨rfl, rfl⟩
    · array_get_dec
      exact ⟨rfl, rfl⟩
  refine it.imp fun ds e1 ⟨z1, z2⟩ => ?_
  subst z1 z2
  refine w_forXI tup ms (fun j e => e = [some x0, some x1, some x2, some x3, some (.fz (.list (ms.map tup))), some (.ow true (rowE (stepOne (ms.take j) s D0))), some (.fz (kE s)), none, none, none, none, none]) (Le.refl _) (by simp [stepOne]) (fun j m e hp hI => ?_) (fun e hI => ?_)
  · subst hI
    have lm := hm m (List.mem_of_getElem? hp)
    have en := stepOne_snoc (ms.take j) m s D0
    rw [← take_next hp] at en
    array_get_dec
    refine w_if ?_
    array_get_dec
    refine ⟨_, _, _, rfl, zip_mk lm, wk_zI _, ?_⟩
    refine k_lcM zI (fun p => .bool (decide (p.1 ≤ p.2))) (size_le (by rw [List.length_zip]; omega)) (fun p hp => ?_) ?_
    · array_get_dec
      exact ⟨rfl, by array_mem_dec⟩
    · array_get_dec
      refine k_allM ?_
      array_get_dec
      refine k_if (fun c => ?_) fun c => ?_
      · array_get_dec
        refine ⟨_, _, _, rfl, zip_km lm, wk_zI _, ?_⟩
        refine k_lcM zI (fun p => .int (p.1 - p.2)) (size_le (by rw [List.length_zip]; omega)) (fun p hp => ?_) ?_
        · array_get_dec
          exact ⟨rfl, by array_mem_dec⟩
        · rw [sub_zip]
          array_get_dec
          refine k_blt rfl (tupleW_ints _) ?_
          array_get_dec
          have l4 := hD j
          refine k_setdef rfl (kE_key _) (by rw [List.length_map, PySem.sizeLine_eq]; omega) fun w => ?_
          refine ⟨_, ?_, rfl⟩
          rw [sdef_row, en, if_pos (show lev m s = true from c)]
          array_mem_dec
      · array_get_dec
        refine ⟨_, ?_, rfl⟩
        rw [en, if_neg (show ¬ lev m s = true from by rw [show lev m s = false from c]; simp)]
        array_mem_dec
  · subst hI
    rw [List.take_length]
    exact hq
theorem at_last (rs : List Row) (D : Row) : L2.atI ((rs ++ [D]).map rowE) (-1) = some (rowE D) := by
  have h : L2.ixN ((rs ++ [D]).map rowE).length (-1) = some rs.length := by
    unfold L2.ixN
    rw [if_neg (by decide), if_pos (by simp; omega)]
    simp
    try omega
  unfold L2.atI
  rw [h]; simp
theorem row_bound {cs : Cs} {P : Vec → Vec → Prop} {D : Row} (h : RowInv P D) (hp : ∀ s m, P s m → Fits cs s) : D.length ≤ size cs := row_len h.nd fun s hs => by
  obtain ⟨q, hq, rfl⟩ := List.mem_map.mp hs
  obtain ⟨m, _, p⟩ := h.val q hq
  exact hp _ _ p
theorem i_told_rows (h : COk cs) (hs : size cs ≤ 4000) (ha : AOk as) : Is φ_told_rows [.fz (cE cs), .fz (tup as)] (.ow false (.list ((row0 cs :: rowsGo ordV cs as (row0 cs)).map rowE))) := by
  have hc : ∀ p ∈ cs, 1 ≤ p.1 ∧ 0 ≤ p.2 := fun p hp => by have := h.1.2 p hp; omega
  have h12 := h.2.1
  have hal := ha.1
  unfold φ_told_rows f_told_rows
  refine is_def' rfl ?_
  array_get_dec
  refine w_disp1 ?_
  array_get_dec
  refine k_lcM pI (fun p => .int p.2) h.len (fun p hp => ?_) ?_
  · array_get_dec
    exact ⟨rfl, by array_mem_dec⟩
  have e0 : cs.map (fun p : Int × Int => PyData.int p.2) = (cs.map (·.2)).map PyData.int := by rw [List.map_map]; rfl
  rw [e0]
  array_get_dec
  refine k_blt rfl (tupleW_ints _) ?_
  array_get_dec
  refine ⟨_, kE_key _, ?_⟩
  array_get_dec
  refine w_for ?_
  array_get_dec
  refine w_forXI PyData.int as (fun i e => ∃ (rs : List Row) (D : Row) (V : Int), e = [some (.fz (cE cs)), some (.fz (tup as)), some (.ow false (.list ((rs ++ [D]).map rowE))), none, none, none, none, none, none, none, none, none] ∧ RowOk cs V D ∧ rs.length ≤ i ∧
    rs ++ D :: rowsGo ordV cs (as.drop i) D = row0 cs :: rowsGo ordV cs as (row0 cs)) (e0 := [some (.fz (cE cs)), some (.fz (tup as)), some (.ow false (.list ([row0 cs].map rowE))), none, none, none, none, none, none, none, none, none])
    ?_ ⟨[], row0 cs, wt cs, rfl, row0_ok fun p hp => (hc p hp).2, by simp, by simp⟩ (fun i a e hp hI => ?_) (fun e hI => ?_)
  · rw [← tup_keys]
    array_mem_dec
  · obtain ⟨rs, D, V, rfl, ok, hi, er⟩ := hI
    have ia : i < as.length := (List.getElem?_eq_some_iff.mp hp).1
    have ra := ha.2 a (List.mem_of_getElem? hp)
    rw [drop_at hp, rowsGo] at er
    have inv := step_inv ord_mem hc ra.1 ok
    have Dl := row_len ok.nd fun s hs => (ok.fit s hs).1
    have hmv : ∀ m ∈ movesP cs a, Fits cs m := fun m hm => ((mem_moves hc ra.1).mp hm).1
    array_get_dec
    refine k_call rfl rfl (i_told_moves h hs ra) ?_
    array_get_dec
    refine w_cutK [some (.fz (cE cs)), some (.fz (tup as)), some (.ow false (.list ((rs ++ [D]).map rowE))), some (.fz (.int a)), none, some (.ow true (rowE (step ordV cs a D))), none, none, none, none, none, none] ?_ ?_
    · refine w_for ?_
      array_get_dec
      refine w_bltD ?_
      array_get_dec
      refine k_idxL (dc := .list ((rs ++ [D]).map rowE)) (xs := (rs ++ [D]).map rowE) (d := rowE D) rfl rfl rfl rfl (at_last _ _) ?_
      array_get_dec
      refine k_bltD (dk_row ok.ne) (sort_row (n := cs.length) ok.ne (by omega) h12 (fun s hs => (ok.fit s hs).1.len) ok.nd) ?_
      array_get_dec
      refine w_forXI kE (ordV (ksV D)) (fun j e => ∃ s4 : SV, (s4 = .ow false (.list ((movesP cs a).map tup)) ∨ s4 = .fz (.list ((movesP cs a).map tup))) ∧
        e = [some (.fz (cE cs)), some (.fz (tup as)), some (.ow false (.list ((rs ++ [D]).map rowE))), some (.fz (.int a)), some s4, some (.ow true (rowE (stepAll (movesP cs a) ((ordV (ksV D)).take j) []))), none, none, none, none, none, none])
        (e0 := [some (.fz (cE cs)), some (.fz (tup as)), some (.ow false (.list ((rs ++ [D]).map rowE))), some (.fz (.int a)), some (.ow false (.list ((movesP cs a).map tup))), some (.ow true (rowE [])), none, none, none, none, none, none])
        (by array_mem_dec) ⟨_, .inl rfl, by simp [stepAll]⟩ (fun j s e hp2 hI => ?_) (fun e hI => ?_)
      · obtain ⟨s4, h4, rfl⟩ := hI
        have hs2 := (ord_mem _ _).mp (List.mem_of_getElem? hp2)
        obtain ⟨f1, f2⟩ := ok.fit s hs2
        have inv2 : ∀ k, RowInv (fun s m => Fits cs s) (stepOne ((movesP cs a).take k) s (stepAll (movesP cs a) ((ordV (ksV D)).take j) [])) := fun k => by
          refine inv_stepOne (inv_stepAll ⟨by simp [ksV], fun q hq => by simp at hq⟩ fun s' hs' m hm l => ?_) fun m hm l => ?_
          · exact fits_sub (ok.fit s' ((ord_mem _ _).mp (List.mem_of_mem_take hs'))).1 (hmv m hm) l
          · exact fits_sub f1 (hmv m (List.mem_of_mem_take hm)) l
        array_get_dec
        refine w_inner h4 (fun m hm => by rw [(hmv m hm).len, f1.len]) (by rw [f1.len]; exact h12) (fun k => Nat.le_trans (row_bound (inv2 k) fun s m p => p) hs) (by array_mem_dec) ?_
        refine ⟨_, ?_, _, .inr rfl, rfl⟩
        rw [take_next hp2, stepAll_snoc]
        array_mem_dec
      · obtain ⟨s4, h4, rfl⟩ := hI
        rw [List.take_length, show stepAll (movesP cs a) (ordV (ksV D)) [] = step ordV cs a D from rfl]
        rcases h4 with rfl | rfl
        · exact ⟨rfl, by array_mem_dec⟩
        · exact ⟨rfl, by array_mem_dec⟩
    · array_get_dec
      refine w_if ?_
      array_get_dec
      refine w_demp ?_
      array_get_dec
      refine k_demp (kvs := (step ordV cs a D).map ent) rfl ?_
      array_get_dec
      refine k_if (fun c => ?_) fun c => ?_
      · have z : step ordV cs a D = [] := by
          cases hz : step ordV cs a D with
          | nil => rfl
          | cons q t => rw [hz] at c; simp at c
        rw [if_pos z] at er
        array_get_dec
        refine k_fin' ?_
        rw [← er]; rfl
      · have z : step ordV cs a D ≠ [] := fun z => by rw [z] at c; simp at c
        rw [if_neg z] at er
        array_get_dec
        refine k_append (xs := (rs ++ [D]).map rowE) rfl rfl rfl (by rw [List.length_map, List.length_append, PySem.sizeLine_eq]; simp; omega) ?_
        array_get_dec
        refine ⟨_, ?_, rs ++ [D], step ordV cs a D, V - a, rfl, step_ok ord_mem hc ra.1 ok z, by simp; omega, ?_⟩
        · rw [List.map_append (l₁ := rs ++ [D])]
          array_mem_dec
        · rw [← er]; simp
  · obtain ⟨rs, D, V, rfl, ok, hi, er⟩ := hI
    rw [List.drop_length] at er
    array_get_dec
    refine k_fin' ?_
    have er : rs ++ [D] = row0 cs :: rowsGo ordV cs as (row0 cs) := er
    rw [← er]; rfl
end
end K47

namespace K47
open PySem PySem.Spec PyProof.Rows L2 VL
section
variable {cs : Cs} {as : List Int}
abbrev paidN (cs : Cs) (as : List Int) : Nat := (rowsGo ordV cs as (row0 cs)).length
theorem i_how_many_paid (h : COk cs) (hs : size cs ≤ 4000) (ha : AOk as) : Is φ_how_many_paid [.fz (cE cs), .fz (tup as)] (.fz (.int (paidN cs as : Nat))) := by
  unfold φ_how_many_paid f_how_many_paid
  refine is_def' rfl ?_
  array_get_dec
  refine k_call rfl rfl (i_look_at_asked h ha hs) ?_
  array_get_dec
  refine k_call rfl rfl (i_told_rows h hs ha) ?_
  array_get_dec
  refine k_len rfl rfl ?_
  array_get_dec
  refine k_fin' ?_
  simp [fin, paidN]
theorem i_all_left (h : COk cs) (hs : size cs ≤ 4000) (ha : AOk as) (hl : paidN cs as = as.length) (hw : wt cs = as.sum) : Is φ_all_left [.fz (cE cs), .fz (tup as)] (.fz (.int 1)) := by
  have hc : ∀ p ∈ cs, 1 ≤ p.1 ∧ 0 ≤ p.2 := fun p hp => by have := h.1.2 p hp; omega
  obtain ⟨E, hE, ok⟩ := rows_ok ord_mem hc (fun a h => (ha.2 a h).1) (row0_ok (cs := cs) fun p hp => (hc p hp).2) hl
  have one := last_one ord_mem hc (show RowOk cs 0 E by rw [hw, Int.sub_self] at ok; exact ok)
  obtain ⟨rs, er⟩ := List.getLast?_eq_some_iff.mp hE
  unfold φ_all_left f_all_left
  refine is_def' rfl ?_
  array_get_dec
  refine k_call rfl rfl (i_look_at_asked h ha hs) ?_
  array_get_dec
  refine k_call rfl rfl (i_told_rows h hs ha) ?_
  array_get_dec
  refine w_ifE ?_
  array_get_dec
  refine k_len rfl rfl ?_
  array_get_dec
  refine k_if_t (by simp [hl]) ?_
  array_get_dec
  refine w_bltD ?_
  array_get_dec
  rw [er]
  refine k_idxL (dc := .list ((rs ++ [E]).map rowE)) (xs := (rs ++ [E]).map rowE) (d := rowE E) rfl rfl rfl rfl (at_last _ _) ?_
  array_get_dec
  refine k_bltD (dk_row ok.ne) rfl ?_
  array_get_dec
  refine k_fin' ?_
  simp [fin, one]
end
end K47

namespace K47
open PySem PySem.Spec PyProof.Rows L2 VL
abbrev zC (p : (Int × Int) × Int) : PyData := .tuple [pI p.1, .int p.2]
theorem zip_cm (cs : Cs) (m : Vec) : List.zipWith pairD (cs.map pI) (m.map PyData.int) = (List.zip cs m).map zC := by
  induction cs generalizing m with
  | nil => simp
  | cons x t ih =>
    cases m with
    | nil => simp
    | cons y u => simp only [List.map_cons, List.zipWith_cons_cons, List.zip_cons_cons, ih]; rfl
theorem wk_zC (ps : List ((Int × Int) × Int)) : ((ps.map zC).all wkT) = true := by
  rw [List.all_map, List.all_eq_true]; intro p _; rfl
theorem dget_key {D : Row} {s : Vec} {o : Option Vec} (h : lookR D s = some o) : dgetF true (D.map ent) (kE s) = some (some (optE o)) := by
  simp only [dgetF, kE_key, Option.map_some]
  rw [← tup_keys, dget_row, h]; rfl
theorem look_ne {D : Row} {s : Vec} {o : Option Vec} (h : lookR D s = some o) : D ≠ [] := fun z => by subst z; simp [lookR] at h
theorem Back.len : ∀ {Es : List Row} {s s' : Vec} {ms : List Vec}, Back Es s ms s' → ms.length = Es.length
  | [], _, _, _, ⟨rfl, _⟩ => rfl
  | _ :: _, _, _, _, ⟨m, t, _, _, rfl, h⟩ => by simp [h.len]
section
variable {cs : Cs} {as : List Int}
theorem i_told_payments (h : COk cs) (hs : size cs ≤ 4000) (ha : AOk as) (hl : paidN cs as = as.length) :
    ∃ ms s, Good cs ms as ∧ Fits cs s ∧ (∀ w, S w cs = Sv w cs s + (ms.map (Sv w cs)).sum) ∧
      Is φ_told_payments [.fz (cE cs), .pw false (.list ((row0 cs :: rowsGo ordV cs as (row0 cs)).map rowE))] (.ow false (.list (ms.map fun m => cE (pay cs m)))) := by
  have hc : ∀ p ∈ cs, 1 ≤ p.1 ∧ 0 ≤ p.2 := fun p hp => by have := h.1.2 p hp; omega
  have h12 := h.2.1
  have hal := ha.1
  obtain ⟨E, hE, ok⟩ := rows_ok ord_mem hc (fun a h => (ha.2 a h).1) (row0_ok (cs := cs) fun p hp => (hc p hp).2) hl
  obtain ⟨rs, er⟩ := List.getLast?_eq_some_iff.mp hE
  have Dl := row_len ok.nd fun s hs => (ok.fit s hs).1
  obtain ⟨s, t, es⟩ : ∃ s t, ordV (ksV E) = s :: t := by
    cases hz : ordV (ksV E) with
    | nil =>
      have h1 := (ord_perm (ksV E)).length_eq
      rw [hz] at h1
      have h2 : E.length = 0 := by simpa [ksV] using h1.symm
      exact absurd (List.length_eq_zero_iff.mp h2) ok.ne
    | cons s t => exact ⟨s, t, rfl⟩
  have hs0 : s ∈ ksV E := (ord_mem _ _).mp (by rw [es]; simp)
  obtain ⟨ms, s0, b1, b2, b3, b4, b5⟩ := back_rows ord_mem hc (fun a h => (ha.2 a h).1) (row0_ok (cs := cs) fun p hp => (hc p hp).2) hl hE hs0
  have e0 : s0 = cs.map (·.2) := by simpa [row0, ksV] using b2
  refine ⟨ms.reverse, s, b3, b4, fun w => ?_, ?_⟩
  · have := b5 w
    rw [e0, Sv_self] at this
    rw [this, List.map_reverse, List.sum_reverse]
  have bl := b1.len
  have hlen : (rowsGo ordV cs as (row0 cs)).length ≤ 12 := by have : (rowsGo ordV cs as (row0 cs)).length = as.length := hl; omega
  unfold φ_told_payments f_told_payments
  refine is_def' rfl ?_
  array_get_dec
  refine w_bltD ?_
  array_get_dec
  refine k_idxL (dc := .list ((row0 cs :: rowsGo ordV cs as (row0 cs)).map rowE)) (xs := (row0 cs :: rowsGo ordV cs as (row0 cs)).map rowE) (d := rowE E) rfl rfl rfl rfl (by rw [er]; exact at_last _ _) ?_
  array_get_dec
  refine k_bltD (dk_row ok.ne) (sort_row (n := cs.length) ok.ne (by omega) h12 (fun s hs => (ok.fit s hs).1.len) ok.nd) ?_
  array_get_dec
  rw [es]
  refine k_idxL (dc := .list ((s :: t).map kE)) (xs := (s :: t).map kE) (d := kE s) rfl rfl rfl rfl (by simp [L2.atI, L2.ixN]) ?_
  array_get_dec
  refine w_cutK [some (.fz (cE cs)), some (.pw false (.list ((row0 cs :: rowsGo ordV cs as (row0 cs)).map rowE))), some (.ow false (.list (ms.map fun m => cE (pay cs m)))), none, none, none, none, none, none, none] ?_ ?_
  · refine w_for ?_
    array_get_dec
    refine w_rev ?_
    array_get_dec
    refine k_rev (ds := (row0 cs :: rowsGo ordV cs as (row0 cs)).map rowE) rfl ?_
    have eb : backL true ((row0 cs :: rowsGo ordV cs as (row0 cs)).map rowE) = (rowsGo ordV cs as (row0 cs)).reverse.map rowE := by
      simp [backL, List.map_reverse]
    rw [eb]
    array_get_dec
    refine w_forXI rowE (rowsGo ordV cs as (row0 cs)).reverse (fun j e => ∃ t : Vec, t.length = cs.length ∧ e = [some (.fz (cE cs)), some (.pw false (.list ((row0 cs :: rowsGo ordV cs as (row0 cs)).map rowE))), some (.ow false (.list ((ms.take j).map fun m => cE (pay cs m)))), some (.fz (kE t)), none, none, none, none, none, none] ∧
      Back ((rowsGo ordV cs as (row0 cs)).reverse.drop j) t (ms.drop j) s0)
      (e0 := [some (.fz (cE cs)), some (.pw false (.list ((row0 cs :: rowsGo ordV cs as (row0 cs)).map rowE))), some (.ow false (.list [])), some (.fz (kE s)), none, none, none, none, none, none]) (by array_mem_dec) ⟨s, b4.len, by simp, by simpa using b1⟩ (fun j D e hp hI => ?_) (fun e hI => ?_)
    · obtain ⟨t, lt, rfl, bk⟩ := hI
      rw [drop_at hp] at bk
      obtain ⟨m, u, k1, k0, k2, k3⟩ := bk
      have hj : ms[j]? = some m := by
        have := congrArg (fun l => l[0]?) k2
        simpa using this
      have hu : u = ms.drop (j + 1) := by
        have := congrArg (fun l => l.drop 1) k2
        simpa [List.drop_drop] using this.symm
      subst hu
      have hD := look_ne k1
      array_get_dec
      refine k_idxD rfl (dk_row hD) (dget_key k1) ?_
      array_get_dec
      refine ⟨_, _, _, rfl, (show zipD (cE cs) (tup m) = some ((List.zip cs m).map zC) from by show some (List.zipWith pairD (cs.map pI) (m.map PyData.int)) = _; rw [zip_cm]), wk_zC _, ?_⟩
      refine k_lcF zC (fun p => .tuple [.int p.1.1, .int p.2]) (fun p => decide (0 < p.2)) (size_le (by rw [List.length_zip]; omega)) (fun p hp => ?_) ?_
      · array_get_dec
        refine ⟨rfl, k_if (fun _ => ?_) fun _ => ?_⟩
        · array_get_dec
          exact ⟨rfl, by array_mem_dec⟩
        · array_mem_dec
      have ep : ((List.zip cs m).filter fun p => decide (0 < p.2)).map (fun p => PyData.tuple [.int p.1.1, .int p.2]) = (pay cs m).map pI := by
        unfold pay; rw [List.map_map]; rfl
      rw [ep]
      array_get_dec
      refine k_append rfl rfl rfl (size_le (by rw [List.length_map, List.length_take]; rw [bl, List.length_reverse]; omega)) ?_
      array_get_dec
      refine ⟨_, _, _, rfl, zip_km k0, wk_zI _, ?_⟩
      refine k_lcM zI (fun p => .int (p.1 + p.2)) (size_le (by rw [List.length_zip]; omega)) (fun p hp => ?_) ?_
      · array_get_dec
        exact ⟨rfl, by array_mem_dec⟩
      rw [add_zip]
      array_get_dec
      refine k_blt rfl (tupleW_ints _) ?_
      array_get_dec
      refine ⟨_, ?_, vadd t m, vadd_len lt (by rw [k0, lt]), rfl, k3⟩
      rw [take_next hj, List.map_append]
      array_mem_dec
    · obtain ⟨t, lt, rfl, bk⟩ := hI
      have : ms.take (rowsGo ordV cs as (row0 cs)).reverse.length = ms := by rw [← bl, List.take_length]
      rw [this]
      exact ⟨rfl, by array_mem_dec⟩
  · array_get_dec
    refine w_rev ?_
    array_get_dec
    refine k_rev rfl ?_
    array_get_dec
    refine k_fin' ?_
    simp [fin, backL, List.map_reverse]
end
end K47

namespace K47
open PySem PySem.Spec PyProof.Rows L2 VL
section
variable {cs : Cs} {as : List Int}
theorem i_pay_all (h : COk cs) (hs : size cs ≤ 4000) (ha : AOk as) (hl : paidN cs as = as.length) :
    ∃ ms s, Good cs ms as ∧ Fits cs s ∧ (∀ w, S w cs = Sv w cs s + (ms.map (Sv w cs)).sum) ∧
      Is φ_pay_all [.fz (cE cs), .fz (tup as)] (.fz (.tuple [.str "paid", .tuple (ms.map fun m => cE (pay cs m))])) := by
  obtain ⟨ms, s, g1, g2, g3, g4⟩ := i_told_payments h hs ha hl
  refine ⟨ms, s, g1, g2, g3, ?_⟩
  unfold φ_pay_all f_pay_all
  refine is_def' rfl ?_
  array_get_dec
  refine k_call rfl rfl (i_look_at_asked h ha hs) ?_
  array_get_dec
  refine k_call rfl rfl (i_told_rows h hs ha) ?_
  array_get_dec
  refine k_call rfl rfl g4 ?_
  array_get_dec
  exact k_fin' rfl
theorem i_is_told (x : PyData) : Is φ_is_told [.fz (.tuple [.str "paid", x]), .fz (.tuple [.int 2])] (.fz (.bool true)) := by
  unfold φ_is_told f_is_told
  refine is_def' rfl ?_
  array_get_dec
  refine k_isi rfl rfl kit_tt ?_
  array_get_dec
  refine k_if_t rfl ?_
  array_get_dec
  refine k_inL rfl rfl rfl rfl rfl rfl ?_
  array_get_dec
  refine k_if_t rfl ?_
  array_get_dec
  refine k_idxL rfl rfl (dc := .tuple [.str "paid", x]) rfl rfl rfl ?_
  array_get_dec
  refine k_isi rfl rfl kit_ss ?_
  array_get_dec
  exact k_fin' rfl
/-- a telling of another length -/
theorem i_shows_no (h : COk cs) (hs : size cs ≤ 4000) (ha : AOk as) {ps : List PyData} (hp : ps.length ≤ as.length) (hn : ps.length ≠ paidN cs as) :
    Is φ_shows_pay_all [.fz (cE cs), .fz (tup as), .fz (.tuple [.str "paid", .tuple ps])] (.fz (.bool false)) := by
  unfold φ_shows_pay_all f_shows_pay_all
  refine is_def' rfl ?_
  array_get_dec
  refine k_call rfl rfl (i_look_at_amounts h ha) ?_
  array_get_dec
  refine w_skip (e := [some (.fz (cE cs)), some (.fz (tup as)), some (.fz (.tuple [.str "paid", .tuple ps])), none, none, none, none, none]) ?_ ?_
  · array_get_dec
    refine k_call rfl rfl (i_told_size h) ?_
    array_get_dec
    refine k_if_f (by simp; omega) ?_
    array_get_dec
    refine k_call rfl rfl (i_is_told _) ?_
    array_get_dec
    refine k_if_f rfl ?_
    array_get_dec
    refine k_idxL rfl rfl (dc := .tuple [.str "paid", .tuple ps]) rfl rfl rfl ?_
    array_get_dec
    refine k_neD rfl rfl (by simp [SeqAt.shaped, PyData.canLay0, PyData.depth]; decide +kernel) (by simp [SeqAt.shaped, PyData.canLay0, PyData.depth]; decide +kernel) ?_
    array_get_dec
    exact ⟨by simp [PyData.eqv], by array_mem_dec⟩
  array_get_dec
  refine w_skip (e := [some (.fz (cE cs)), some (.fz (tup as)), some (.fz (.tuple [.str "paid", .tuple ps])), none, none, none, none, none]) ?_ ?_
  · array_get_dec
    refine k_idxL rfl rfl (dc := .tuple [.str "paid", .tuple ps]) rfl rfl rfl ?_
    array_get_dec
    refine k_isi rfl rfl kit_tt ?_
    array_get_dec
    refine k_if_f rfl ?_
    array_get_dec
    refine k_idxL rfl rfl (dc := .tuple [.str "paid", .tuple ps]) rfl rfl rfl ?_
    array_get_dec
    refine ⟨by simp; omega, by array_mem_dec⟩
  array_get_dec
  refine w_goin (e := [some (.fz (cE cs)), some (.fz (tup as)), some (.fz (.tuple [.str "paid", .tuple ps])), none, none, none, none, none]) ?_ ?_
  · array_get_dec
    refine k_idxL rfl rfl (dc := .tuple [.str "paid", .tuple ps]) rfl rfl rfl ?_
    array_get_dec
    refine k_call rfl rfl (i_told_rows h hs ha) ?_
    array_get_dec
    refine k_len rfl rfl ?_
    array_get_dec
    refine ⟨?_, by array_mem_dec⟩
    simp [paidN] at hn ⊢
    omega
  array_get_dec
  exact k_fin' rfl
end
end K47

namespace K47
open PySem PySem.Spec PyProof.Rows L2 VL
abbrev bL (l : List Bool) : PyData := .list (l.map .bool)
abbrev iL (l : List Int) : PyData := .list (l.map .int)
theorem bL_at {l : List Bool} {i : Int} (h0 : 0 ≤ i) (h : i.toNat < l.length) : L2.atI (l.map PyData.bool) i = some (.bool (bg l i)) := by
  unfold L2.atI L2.ixN
  rw [if_pos h0, if_pos (by rw [List.length_map]; omega)]
  simp [bg, List.getD, List.getElem?_eq_getElem h]
theorem iL_at {l : List Int} {i : Int} (h0 : 0 ≤ i) (h : i.toNat < l.length) : L2.atI (l.map PyData.int) i = some (.int (ig l i)) := by
  unfold L2.atI L2.ixN
  rw [if_pos h0, if_pos (by rw [List.length_map]; omega)]
  simp [ig, List.getD, List.getElem?_eq_getElem h]
theorem stL_len {ahead : List Bool} {f c : Int} {st : List Bool × List Int} {x N : Nat} (h1 : st.1.length = N) (h2 : st.2.length = N) : (stL ahead f c st x).1.length = N ∧ (stL ahead f c st x).2.length = N := by
  unfold stL
  split
  · simp [h1, h2]
  · split
    · simp [h1, h2]
    · exact ⟨h1, h2⟩
theorem layL_len (ahead : List Bool) (f c : Int) (N : Nat) : ∀ n, (layL ahead f c N n).1.length = N ∧ (layL ahead f c N n).2.length = N
  | 0 => by simp [layL]
  | n + 1 => by rw [layL_succ]; exact stL_len (layL_len ahead f c N n).1 (layL_len ahead f c N n).2
theorem doSet_eq {e : EV} {c : Nat} {k v d' : PyData} {s : SV} {o : EV} (h1 : e[c]? = some (some s)) (h2 : s.own = true) (h3 : setG s.k s.d k v = some d') [z : SetAt e c (some (s.wr d')) o] : doSet c k v e = some o := by
  simp only [doSet, h1, h2, if_true, h3, Option.map_some, z.eq]
/-- the body of the innermost loop -/
abbrev layB : VS := (vIf (vB (vIdx (vVar 5) (vVar 8))) (vStore 6 (vVar 8) (vC (.bool true))) (vIf (vAnd (vB (vOp2 geF (vVar 8) (vVar 3))) (vAnd (vB (vIdx (vVar 6) (vOp2 subF (vVar 8) (vVar 3)))) (vB (vOp2 ltF (vIdx (vVar 7) (vOp2 subF (vVar 8) (vVar 3))) (vVar 4))))) (vSub2 6 (vVar 8) 7 (vVar 8) (vTup (vuCons (vC (.bool true)) (vuCons (vOp2 addF (vIdx (vVar 7) (vOp2 subF (vVar 8) (vVar 3))) (vC (.int 1))) vuNil)))) vsNil))
theorem w_lay {x0 x1 x2 : SV} {f c : Int} {ahead : List Bool} {st : List Bool × List Int} {N x : Nat} (hf : 1 ≤ f) (hx : x < N) (hN : N ≤ 20000) (ha : ahead.length = N) (h1 : st.1.length = N) (h2 : st.2.length = N) :
    W layB [some x0, some x1, some x2, some (.fz (.int f)), some (.fz (.int c)), some (.fz (bL ahead)), some (.ow false (bL st.1)), some (.ow false (iL st.2)), some (.fz (.int (x : Int)))] fun fl o => fl = .nx ∧
      Le [some x0, some x1, some x2, some (.fz (.int f)), some (.fz (.int c)), some (.fz (bL ahead)), some (.ow false (bL (stL ahead f c st x).1)), some (.ow false (iL (stL ahead f c st x).2)), none] o := by
  have setB : ∀ (l : List Bool) (b : Bool), l.length = N → setG false (bL l) (.int (x : Int)) (.bool b) = some (bL (l.set x b)) := fun l b h => by
    simp only [setG, L2.ixN]
    rw [if_pos (by omega), if_pos (by rw [List.length_map]; omega)]
    simp [bL, List.map_set]
  have setI : ∀ (l : List Int) (b : Int), l.length = N → setG false (iL l) (.int (x : Int)) (.int b) = some (iL (l.set x b)) := fun l b h => by
    simp only [setG, L2.ixN]
    rw [if_pos (by omega), if_pos (by rw [List.length_map]; omega)]
    simp [iL, List.map_set]
  refine w_if ?_
  array_get_dec
  refine k_idxL (dc := bL ahead) (xs := ahead.map .bool) rfl rfl rfl rfl (bL_at (by omega) (by omega)) ?_
  array_get_dec
  refine k_if (fun q => ?_) fun q => ?_
  · array_get_dec
    refine ⟨rfl, ?_⟩
    array_get_dec
    refine ⟨_, doSet_eq (s := .ow false (bL st.1)) rfl rfl (setB st.1 true h1), rfl, ?_⟩
    have e : stL ahead f c st x = (st.1.set x true, st.2) := by unfold stL; rw [if_pos q]
    rw [e]
    array_mem_dec
  · have ne : ¬ bg ahead x = true := by rw [q]; simp
    refine w_if ?_
    array_get_dec
    refine k_if (fun q1 => ?_) fun q1 => ?_
    · have q1 := of_decide_eq_true q1
      array_get_dec
      refine k_idxL (dc := bL st.1) (xs := st.1.map .bool) rfl rfl rfl rfl (bL_at (i := x - f) (by omega) (by omega)) ?_
      array_get_dec
      refine k_if (fun q2 => ?_) fun q2 => ?_
      · array_get_dec
        refine k_idxL (dc := iL st.2) (xs := st.2.map .int) rfl rfl rfl rfl (iL_at (i := x - f) (by omega) (by omega)) ?_
        array_get_dec
        refine k_if (fun q3 => ?_) fun q3 => ?_
        · have q3 := of_decide_eq_true q3
          refine w_sub2 ?_
          array_get_dec
          refine k_idxL (dc := iL st.2) (xs := st.2.map .int) rfl rfl rfl rfl (iL_at (i := x - f) (by omega) (by omega)) ?_
          array_get_dec
          refine ⟨_, _, rfl, rfl, ?_⟩
          array_get_dec
          refine ⟨_, doSet_eq (s := .ow false (bL st.1)) rfl rfl (setB st.1 true h1), rfl, ?_⟩
          array_get_dec
          refine ⟨_, doSet_eq (s := .ow false (iL st.2)) rfl rfl (setI st.2 _ h2), rfl, ?_⟩
          have e : stL ahead f c st x = (st.1.set x true, st.2.set x (ig st.2 (x - f) + 1)) := by
            unfold stL
            rw [if_neg ne, if_pos (by simp [q1, q2, q3])]
          rw [e]
          array_mem_dec
        · array_get_dec
          refine ⟨rfl, ?_⟩
          have e : stL ahead f c st x = st := by
            unfold stL
            rw [if_neg ne, if_neg (by simp only [q3, Bool.and_false]; simp)]
          rw [e]
          array_mem_dec
      · refine k_if_f rfl ?_
        array_get_dec
        refine ⟨rfl, ?_⟩
        have e : stL ahead f c st x = st := by
          unfold stL
          rw [if_neg ne, if_neg (by simp only [q2, Bool.false_and, Bool.and_false]; simp)]
        rw [e]
        array_mem_dec
    · refine k_if_f rfl ?_
      array_get_dec
      refine ⟨rfl, ?_⟩
      have e : stL ahead f c st x = st := by
        unfold stL
        rw [if_neg ne, if_neg (by simp only [q1, Bool.false_and]; simp)]
      rw [e]
      array_mem_dec
end K47

namespace K47
open PySem PySem.Spec PyProof.Rows L2 VL
def laysGo (N : Nat) : Cs → List Bool → List (List Bool)
  | [], _ => []
  | c :: cs, L => (layL L c.1 c.2 N N).1 :: laysGo N cs (layL L c.1 c.2 N N).1
theorem at_lastB (rs : List (List Bool)) (D : List Bool) : L2.atI ((rs ++ [D]).map bL) (-1) = some (bL D) := by
  have h : L2.ixN ((rs ++ [D]).map bL).length (-1) = some rs.length := by
    unfold L2.ixN
    rw [if_neg (by decide), if_pos (by simp; omega)]
    simp
    try omega
  unfold L2.atI
  rw [h]; simp
theorem k_repL {e : EV} {Q : R → EV → Prop} {a : R} {x : PyData} {n : Int} (ha : rd e a = some (.list [x])) (h0 : 0 ≤ n) (h : n ≤ 100000) (q : Q (.ow false (.list (List.replicate n.toNat x))) e) : kOp mulF Q a (.fz (.int n)) e := by
  have h1 : n.toNat ≤ sizeLine := size_le (by omega)
  refine k_op ha rfl ?_ q
  simp only [mulF]
  rw [if_pos (by simp [h1]; omega)]
theorem i_told_layers {cs : Cs} (h : COk cs) {most : Int} (h0 : 0 ≤ most) (hm : most ≤ 10000) :
    Is φ_told_layers [.fz (cE cs), .fz (.int most)] (.ow false (.list (((true :: List.replicate most.toNat false) :: laysGo (most + 1).toNat cs (true :: List.replicate most.toNat false)).map bL))) := by
  have h12 := h.2.1
  unfold φ_told_layers f_told_layers
  refine is_def' rfl ?_
  array_get_dec
  refine k_repL rfl h0 (by omega) ?_
  array_get_dec
  refine k_addL rfl rfl (size_le (by simp; omega)) ?_
  array_get_dec
  refine w_for ?_
  array_get_dec
  refine w_forXI pI cs (fun i e => ∃ (rs : List (List Bool)) (L : List Bool), e = [some (.fz (cE cs)), some (.fz (.int most)), some (.ow false (.list ((rs ++ [L]).map bL))), none, none, none, none, none, none] ∧ L.length = (most + 1).toNat ∧ rs.length ≤ i ∧
    rs ++ L :: laysGo (most + 1).toNat (cs.drop i) L = (true :: List.replicate most.toNat false) :: laysGo (most + 1).toNat cs (true :: List.replicate most.toNat false))
    (e0 := [some (.fz (cE cs)), some (.fz (.int most)), some (.ow false (.list ([true :: List.replicate most.toNat false].map bL))), none, none, none, none, none, none]) (by simp [bL, List.map_replicate]; array_mem_dec) ⟨[], _, rfl, by simp; omega, by simp, by simp⟩ (fun i c e hp hI => ?_) (fun e hI => ?_)
  · obtain ⟨rs, L, rfl, hL, hi, er⟩ := hI
    have h1 := h.1.2 c (List.mem_of_getElem? hp)
    have ic : i < cs.length := (List.getElem?_eq_some_iff.mp hp).1
    rw [drop_at hp, laysGo] at er
    array_get_dec
    refine k_idxL (dc := .list ((rs ++ [L]).map bL)) (xs := (rs ++ [L]).map bL) (d := bL L) rfl rfl rfl rfl (at_lastB _ _) ?_
    array_get_dec
    refine k_repL rfl (by omega) (by omega) ?_
    array_get_dec
    refine k_repL rfl (by omega) (by omega) ?_
    array_get_dec
    refine w_cutK [some (.fz (cE cs)), some (.fz (.int most)), some (.ow false (.list ((rs ++ [L]).map bL))), some (.fz (.int c.1)), some (.fz (.int c.2)), none, some (.ow false (bL (layL L c.1 c.2 (most + 1).toNat (most + 1).toNat).1)), none, none] ?_ ?_
    · refine w_for ?_
      array_get_dec
      refine k_rng1 (by simp [in62]; omega) ?_
      rw [range01]
      refine w_forXI (fun (k : Nat) => .int (k : Int)) (List.range (most + 1).toNat) (fun n e => e = [some (.fz (cE cs)), some (.fz (.int most)), some (.ow false (.list ((rs ++ [L]).map bL))), some (.fz (.int c.1)), some (.fz (.int c.2)), some (.fz (bL L)), some (.ow false (bL (layL L c.1 c.2 (most + 1).toNat n).1)), some (.ow false (iL (layL L c.1 c.2 (most + 1).toNat n).2)), none])
        (e0 := [some (.fz (cE cs)), some (.fz (.int most)), some (.ow false (.list ((rs ++ [L]).map bL))), some (.fz (.int c.1)), some (.fz (.int c.2)), some (.fz (bL L)), some (.ow false (bL (layL L c.1 c.2 (most + 1).toNat 0).1)), some (.ow false (iL (layL L c.1 c.2 (most + 1).toNat 0).2)), none])
        (by simp [layL, bL, iL, List.map_replicate]; array_mem_dec) rfl (fun n x e hp2 hI => ?_) (fun e hI => ?_)
      · subst hI
        have en : x = n := by
          have := (List.getElem?_eq_some_iff.mp hp2)
          obtain ⟨_, e⟩ := this
          simpa using e.symm
        subst en
        have hx : x < (most + 1).toNat := by have := (List.getElem?_eq_some_iff.mp hp2).1; simpa using this
        obtain ⟨l1, l2⟩ := layL_len L c.1 c.2 (most + 1).toNat x
        array_get_dec
        refine (w_lay (c := c.2) h1.1 hx (by omega) hL l1 l2).imp fun fl o ⟨z, l⟩ => ?_
        subst z
        refine ⟨_, ?_, rfl⟩
        rw [layL_succ]
        exact l
      · subst hI
        rw [List.length_range]
        exact ⟨rfl, by array_mem_dec⟩
    · array_get_dec
      refine k_append (xs := (rs ++ [L]).map bL) rfl rfl rfl (size_le (by rw [List.length_map, List.length_append]; simp; omega)) ?_
      array_get_dec
      refine ⟨_, ?_, rs ++ [L], (layL L c.1 c.2 (most + 1).toNat (most + 1).toNat).1, rfl, (layL_len _ _ _ _ _).1, by simp; omega, ?_⟩
      · rw [List.map_append (l₁ := rs ++ [L])]
        array_mem_dec
      · rw [← er]; simp
  · obtain ⟨rs, L, rfl, hL, hi, er⟩ := hI
    rw [List.drop_length] at er
    array_get_dec
    refine k_fin' ?_
    have er : rs ++ [L] = _ := er
    rw [← er]; rfl
end K47

namespace K47
open PySem PySem.Spec PyProof.Rows L2 VL
theorem lays_len (N : Nat) : ∀ (cs : Cs) (L : List Bool), (laysGo N cs L).length = cs.length
  | [], _ => rfl
  | c :: cs, L => by rw [laysGo, List.length_cons, lays_len N cs, List.length_cons]
theorem lays_ok {N : Nat} : ∀ {cs pre : Cs} {L : List Bool}, (∀ p ∈ pre ++ cs, 1 ≤ p.1 ∧ 0 ≤ p.2) → LayOk pre N L → ∀ i, i ≤ cs.length → ∃ L', (L :: laysGo N cs L)[i]? = some L' ∧ LayOk (pre ++ cs.take i) N L'
  | [], pre, L, _, ok, i, hi => by
    have : i = 0 := by simpa using hi
    subst this
    exact ⟨L, rfl, by simpa using ok⟩
  | c :: cs, pre, L, hc, ok, i, hi => by
    cases i with
    | zero => exact ⟨L, rfl, by simpa using ok⟩
    | succ i =>
      have h1 := hc c (by simp)
      have ok2 := lay_next (fun p hp => (hc p (by simp [hp])).1) h1.1 h1.2 ok
      obtain ⟨L', e, o⟩ := lays_ok (cs := cs) (pre := pre ++ [c]) (fun p hp => hc p (by simpa using hp)) ok2 i (by simpa using hi)
      refine ⟨L', ?_, ?_⟩
      · rw [laysGo, List.getElem?_cons_succ]; exact e
      · rw [List.take_succ_cons]; simpa using o
abbrev allL (cs : Cs) (most : Int) : List (List Bool) := (true :: List.replicate most.toNat false) :: laysGo (most + 1).toNat cs (true :: List.replicate most.toNat false)
theorem allL_ok {cs : Cs} (hc : ∀ p ∈ cs, 1 ≤ p.1 ∧ 0 ≤ p.2) {most : Int} (h0 : 0 ≤ most) (i : Nat) (hi : i ≤ cs.length) : ∃ L, (allL cs most)[i]? = some L ∧ LayOk (cs.take i) (most + 1).toNat L := by
  have := lays_ok (N := (most + 1).toNat) (pre := []) (cs := cs) (by simpa using hc) (show LayOk [] (most + 1).toNat (true :: List.replicate most.toNat false) from by
    rw [show (most + 1).toNat = most.toNat + 1 by omega]; exact lay_first) i hi
  simpa using this
theorem allL_last {cs : Cs} (hc : ∀ p ∈ cs, 1 ≤ p.1 ∧ 0 ≤ p.2) {most : Int} (h0 : 0 ≤ most) : ∃ rs L, allL cs most = rs ++ [L] ∧ LayOk cs (most + 1).toNat L := by
  obtain ⟨L, e, ok⟩ := allL_ok hc h0 cs.length (Nat.le_refl _)
  rw [List.take_length] at ok
  have hl : (allL cs most).length = cs.length + 1 := by rw [List.length_cons, lays_len]
  have : (allL cs most).getLast? = some L := by rw [List.getLast?_eq_getElem?, hl]; exact e
  obtain ⟨rs, er⟩ := List.getLast?_eq_some_iff.mp this
  exact ⟨rs, L, er, ok⟩
/-- nothing pays it -/
theorem i_told_payment_no {cs : Cs} (h : COk cs) {a : Int} (h0 : 0 ≤ a) (hn : ¬ Can cs a) : Is φ_told_payment [.fz (cE cs), .fz (.int a), .pw false (.list ((allL cs a).map bL))] (.fz .none) := by
  have hc : ∀ p ∈ cs, 1 ≤ p.1 ∧ 0 ≤ p.2 := fun p hp => by have := h.1.2 p hp; omega
  obtain ⟨rs, L, er, ok⟩ := allL_last hc h0
  have hb : bg L a = false := by
    cases hb : bg L a with
    | false => rfl
    | true =>
      have := (ok.can a.toNat (by omega)).mp hb
      rw [Int.toNat_of_nonneg h0] at this
      exact absurd this hn
  unfold φ_told_payment f_told_payment
  refine is_def' rfl ?_
  array_get_dec
  rw [er]
  refine w_goin (e := [some (.fz (cE cs)), some (.fz (.int a)), some (.pw false (.list ((rs ++ [L]).map bL))), none, none, none, none, none]) ?_ ?_
  · array_get_dec
    refine k_idxL (dc := .list ((rs ++ [L]).map bL)) (xs := (rs ++ [L]).map bL) (d := bL L) rfl rfl rfl rfl (at_lastB _ _) ?_
    array_get_dec
    refine k_idxL (dc := bL L) (xs := L.map .bool) rfl rfl rfl rfl (bL_at h0 (by rw [ok.len]; omega)) ?_
    array_get_dec
    exact ⟨by rw [hb]; rfl, by array_mem_dec⟩
  array_get_dec
  exact k_fin' rfl
end K47

namespace K47
open PySem PySem.Spec PyProof.Rows L2 VL
theorem take_snoc {cs : Cs} {r : Nat} {c : Int × Int} (h : cs[r]? = some c) : cs.take (r + 1) = cs.take r ++ [c] := take_next h
/-- what pays it -/
theorem i_told_payment {cs : Cs} (h : COk cs) {a : Int} (h0 : 0 ≤ a) (ha : a ≤ 10000) (hn : Can cs a) : ∃ v, Fits cs v ∧ wv cs v = a ∧ Is φ_told_payment [.fz (cE cs), .fz (.int a), .pw false (.list ((allL cs a).map bL))] (.fz (cE (pay cs v))) := by
  have hc : ∀ p ∈ cs, 1 ≤ p.1 ∧ 0 ≤ p.2 := fun p hp => by have := h.1.2 p hp; omega
  have h12 := h.2.1
  obtain ⟨rs, L, er, ok⟩ := allL_last hc h0
  have hb : bg L a = true := (ok.can a.toNat (by omega)).mpr (by rw [Int.toNat_of_nonneg h0]; exact hn)
  -- the plain going back
  have back : ∀ r : Nat, r ≤ cs.length → ∀ x : Int, Can (cs.take r) x → 0 ≤ x := fun r _ x hx => can_nn (fun p hp => (hc p (List.mem_of_mem_take hp)).1) hx
  have ca : Ca φ_told_payment [.fz (cE cs), .fz (.int a), .pw false (.list ((allL cs a).map bL))] fun r _ => ∃ v, Fits cs v ∧ wv cs v = a ∧ r = .fz (cE (pay cs v)) := by
    unfold φ_told_payment f_told_payment
    refine ca_def' rfl ?_
    array_get_dec
    refine w_skip (e := [some (.fz (cE cs)), some (.fz (.int a)), some (.pw false (.list ((allL cs a).map bL))), none, none, none, none, none]) ?_ ?_
    · array_get_dec
      refine k_idxL (dc := .list ((allL cs a).map bL)) (xs := (allL cs a).map bL) (d := bL L) rfl rfl rfl rfl (by rw [er]; exact at_lastB _ _) ?_
      array_get_dec
      refine k_idxL (dc := bL L) (xs := L.map .bool) rfl rfl rfl rfl (bL_at h0 (by rw [ok.len]; omega)) ?_
      array_get_dec
      exact ⟨by rw [hb]; rfl, by array_mem_dec⟩
    array_get_dec
    refine w_for ?_
    array_get_dec
    refine k_rngD (by simp [in62]; omega) (by simp [in62]) ?_
    refine w_forI (k := 0) (fun k e => ∃ (x : Int) (v : Vec), k ≤ cs.length ∧ e = [some (.fz (cE cs)), some (.fz (.int x)), some (.pw false (.list ((allL cs a).map bL))), some (.ow false (.list ((pay (cs.drop (cs.length - k)) v).reverse.map pI))), none, none, none, none] ∧
      Can (cs.take (cs.length - k)) x ∧ x ≤ a ∧ Fits (cs.drop (cs.length - k)) v ∧ wv (cs.drop (cs.length - k)) v = a - x)
      (e0 := [some (.fz (cE cs)), some (.fz (.int a)), some (.pw false (.list ((allL cs a).map bL))), some (.ow false (.list [])), none, none, none, none]) (by array_mem_dec) ⟨a, [], by omega, by simp [pay], by simpa using hn, by omega, by rw [Nat.sub_zero, List.drop_length]; rfl, by simp [wv]⟩ (fun k d e hp hI => ?_) (fun e hI => ?_)
    · rw [Nat.zero_add] at hI ⊢
      obtain ⟨x, v, hk0, rfl, c1, c2, c3, c4⟩ := hI
      have hk : k < cs.length ∧ d = .int (((cs.length - k - 1 : Nat) : Nat) : Int) := by
        unfold rangeD at hp
        rw [List.getElem?_map] at hp
        cases hz : (List.range ((((cs.map pI).length : Nat) : Int) - 1 - -1).toNat)[k]? with
        | none => rw [hz] at hp; cases hp
        | some j =>
          rw [hz] at hp
          obtain ⟨h1, h2⟩ := List.getElem?_eq_some_iff.mp hz
          simp only [List.getElem_range] at h2
          subst h2
          rw [List.length_range, List.length_map, show (((cs.length : Nat) : Int) - 1 - -1).toNat = cs.length by omega] at h1
          cases hp
          refine ⟨by omega, ?_⟩
          have e2 : ((cs.length : Nat) : Int) - 1 + ((k : Nat) : Int) * (-1) = ((cs.length - k - 1 : Nat) : Int) := by omega
          rw [List.length_map]; exact congrArg PyData.int e2
      obtain ⟨hk, rfl⟩ := hk
      obtain ⟨r, hr⟩ : ∃ r, cs.length - k - 1 = r := ⟨_, rfl⟩
      have hr1 : cs.length - k = r + 1 := by omega
      have hr2 : cs.length - (k + 1) = r := by omega
      have hrl : r < cs.length := by omega
      obtain ⟨c, ec⟩ : ∃ c, cs[r]? = some c := ⟨_, List.getElem?_eq_getElem hrl⟩
      rw [hr]
      rw [hr1] at c1 c3 c4
      rw [hr1]
      have h1 := h.1.2 c (List.mem_of_getElem? ec)
      have h2 := h.2.2 c (List.mem_of_getElem? ec)
      rw [take_snoc ec, can_snoc] at c1
      obtain ⟨k0, k1, k2, k3⟩ := c1
      have x0 : 0 ≤ x - c.1 * k0 := back r (by omega) _ k3
      have n0 : 0 ≤ c.1 * k0 := Int.mul_nonneg (by omega) k1
      have k4 : k0 ≤ x / c.1 := (Int.le_ediv_iff_mul_le (by omega)).mpr (by rw [Int.mul_comm]; omega)
      obtain ⟨Lr, eL, okL⟩ := allL_ok hc h0 r (by omega)
      array_get_dec
      refine k_idxL (dc := cE cs) (xs := cs.map pI) (j := (r : Int)) (d := pI c) rfl rfl rfl rfl (by unfold L2.atI L2.ixN; rw [if_pos (by omega), if_pos (by rw [List.length_map]; omega)]; simp [ec]) ?_
      array_get_dec
      refine k_fdiv (log_ok h1.1 h2.1) ?_
      array_get_dec
      refine k_min2' fun m hm1 hm2 hm3 => ?_
      array_get_dec
      have hk0m : k0 ≤ m := by rcases hm1 with rfl | rfl <;> assumption
      have bgL : ∀ y : Int, 0 ≤ y → y ≤ a → (bg Lr y = true ↔ Can (cs.take r) y) := fun y y0 y1 => by
        have := okL.can y.toNat (by omega)
        rw [Int.toNat_of_nonneg y0] at this
        exact this
      have lm : ∀ j : Int, k0 ≤ j → j ≤ m → 0 ≤ x - j * c.1 ∧ x - j * c.1 ≤ a := fun j j0 j1 => by
        have h3 : j ≤ x / c.1 := by omega
        have h4 := (Int.le_ediv_iff_mul_le (show 0 < c.1 by omega)).mp h3
        have h5 : 0 ≤ j * c.1 := Int.mul_nonneg (by omega) (by omega)
        omega
      refine w_whileI (fun n e => ∃ j : Int, k0 ≤ j ∧ j ≤ m ∧ n = (j - k0).toNat ∧ e = [some (.fz (cE cs)), some (.fz (.int x)), some (.pw false (.list ((allL cs a).map bL))), some (.ow false (.list ((pay (cs.drop (r + 1)) v).reverse.map pI))), some (.fz (.int (r : Int))), some (.fz (.int c.1)), some (.fz (.int c.2)), some (.fz (.int j))]) fuel (m - k0).toNat
        (e0 := [some (.fz (cE cs)), some (.fz (.int x)), some (.pw false (.list ((allL cs a).map bL))), some (.ow false (.list ((pay (cs.drop (r + 1)) v).reverse.map pI))), some (.fz (.int (r : Int))), some (.fz (.int c.1)), some (.fz (.int c.2)), some (.fz (.int m))]) (by unfold fuel; omega) (by array_mem_dec) ⟨m, hk0m, by omega, rfl, rfl⟩ (fun n e hI => ?_)
      obtain ⟨j, j0, j1, rfl, rfl⟩ := hI
      obtain ⟨l1, l2⟩ := lm j j0 j1
      array_get_dec
      refine k_idxL (dc := .list ((allL cs a).map bL)) (xs := (allL cs a).map bL) (j := (r : Int)) (d := bL Lr) rfl rfl rfl rfl ?_ ?_
      · unfold L2.atI L2.ixN
        rw [if_pos (by omega), if_pos (by rw [List.length_map, List.length_cons, lays_len]; omega), Option.bind_some, Int.toNat_natCast, List.getElem?_map, eL]; rfl
      array_get_dec
      refine k_idxL (dc := bL Lr) (xs := Lr.map .bool) (j := x - j * c.1) rfl rfl rfl rfl (bL_at l1 (by rw [okL.len]; omega)) ?_
      array_get_dec
      refine k_if (fun q => ?_) fun q => ?_
      · have ne : j ≠ k0 := fun z => by
          subst z
          have := (bgL (x - j * c.1) l1 l2).mpr (by rw [Int.mul_comm]; exact k3)
          rw [this] at q; cases q
        array_get_dec
        exact ⟨_, by array_mem_dec, (j - 1 - k0).toNat, by omega, j - 1, by omega, by omega, rfl, rfl⟩
      · have can : Can (cs.take r) (x - j * c.1) := (bgL _ l1 l2).mp (by simpa using q)
        have jc : j ≤ c.2 := by omega
        have fit : Fits (cs.drop r) (j :: v) := by
          rw [drop_at ec]
          exact ⟨j, v, rfl, by omega, jc, c3⟩
        have wvj : wv (cs.drop r) (j :: v) = a - (x - j * c.1) := by
          rw [drop_at ec]
          have : wv (c :: cs.drop (r + 1)) (j :: v) = c.1 * j + wv (cs.drop (r + 1)) v := by simp [wv]
          rw [this, c4, Int.mul_comm]; omega
        have pj : pay (cs.drop r) (j :: v) = if 0 < j then (c.1, j) :: pay (cs.drop (r + 1)) v else pay (cs.drop (r + 1)) v := by rw [drop_at ec, pay_cons]
        have pl : (pay (cs.drop (r + 1)) v).length ≤ 12 := Nat.le_trans len_pay (by rw [List.length_drop]; omega)
        refine k_nx ?_
        array_get_dec
        refine w_if ?_
        array_get_dec
        refine k_if (fun q2 => ?_) fun q2 => ?_
        · have q2 := of_decide_eq_true q2
          array_get_dec
          refine k_append (xs := (pay (cs.drop (r + 1)) v).reverse.map pI) rfl rfl rfl (size_le (by rw [List.length_map, List.length_reverse]; omega)) ?_
          array_get_dec
          rw [if_pos q2] at pj
          refine ⟨_, ?_, x - j * c.1, j :: v, by omega, rfl, by rw [hr2]; exact can, l2, by rw [hr2]; exact fit, by rw [hr2]; exact wvj⟩
          rw [hr2, pj, List.reverse_cons, List.map_append]
          array_mem_dec
        · have q2 := of_decide_eq_false q2
          array_get_dec
          rw [if_neg q2] at pj
          refine ⟨_, ?_, x - j * c.1, j :: v, by omega, rfl, by rw [hr2]; exact can, l2, by rw [hr2]; exact fit, by rw [hr2]; exact wvj⟩
          rw [hr2, pj]
          array_mem_dec
    · have hi : ∀ n : Nat, n = cs.length → (∃ (x : Int) (v : Vec), n ≤ cs.length ∧ e = [some (.fz (cE cs)), some (.fz (.int x)), some (.pw false (.list ((allL cs a).map bL))), some (.ow false (.list ((pay (cs.drop (cs.length - n)) v).reverse.map pI))), none, none, none, none] ∧
          Can (cs.take (cs.length - n)) x ∧ x ≤ a ∧ Fits (cs.drop (cs.length - n)) v ∧ wv (cs.drop (cs.length - n)) v = a - x) → ∃ v, e = [some (.fz (cE cs)), some (.fz (.int 0)), some (.pw false (.list ((allL cs a).map bL))), some (.ow false (.list ((pay cs v).reverse.map pI))), none, none, none, none] ∧ Fits cs v ∧ wv cs v = a := by
        rintro n rfl ⟨x, v, hk, rfl, c1, c2, c3, c4⟩
        rw [Nat.sub_self] at c1 c3 c4 ⊢
        rw [List.take_zero, can_nil] at c1
        subst c1
        rw [List.drop_zero] at c3 c4 ⊢
        exact ⟨v, rfl, c3, by omega⟩
      obtain ⟨v, rfl, c3, c4⟩ := hi _ (by simp only [Nat.zero_add, rangeD, List.length_map, List.length_range]; omega) hI
      array_get_dec
      refine w_rev ?_
      array_get_dec
      refine k_rev rfl ?_
      array_get_dec
      refine ⟨_, rfl, fun outs _ => ⟨v, c3, c4, ?_⟩⟩
      simp [backL, List.map_reverse]
  obtain ⟨r, outs, e, v, h1, h2, rfl⟩ := ca
  exact ⟨v, h1, h2, outs, e⟩
end K47

namespace K47
open PySem PySem.Spec PyProof.Rows L2 VL
theorem i_look_at_paying {cs : Cs} (h : COk cs) {a : Int} (h0 : 0 ≤ a) (ha : a ≤ 10000) : Is φ_look_at_paying [.fz (cE cs), .fz (.int a)] (.fz .none) := by
  unfold φ_look_at_paying f_look_at_paying
  refine is_def' rfl ?_
  array_get_dec
  refine k_call rfl rfl (i_look_at_coins h) ?_
  array_get_dec
  refine w_skip (e := [some (.fz (cE cs)), some (.fz (.int a))]) ?_ ?_
  · array_get_dec
    refine k_call rfl rfl (i_is_int _ _ _) ?_
    array_get_dec
    exact ⟨by simp; omega, by array_mem_dec⟩
  array_get_dec
  exact k_fin' rfl
theorem i_greatest_first {cs : Cs} (h : COk cs) {a : Int} (h0 : 0 ≤ a) (ha : a ≤ 10000) : (∃ v, Fits cs v ∧ wv cs v = a ∧ Is φ_greatest_first [.fz (cE cs), .fz (.int a)] (.fz (cE (pay cs v)))) ∨ Is φ_greatest_first [.fz (cE cs), .fz (.int a)] (.fz .none) := by
  have run : ∀ d : PyData, Is φ_told_payment [.fz (cE cs), .fz (.int a), .pw false (.list ((allL cs a).map bL))] (.fz d) → Is φ_greatest_first [.fz (cE cs), .fz (.int a)] (.fz d) := by
    intro d hd
    unfold φ_greatest_first f_greatest_first
    refine is_def' rfl ?_
    array_get_dec
    refine k_call rfl rfl (i_look_at_paying h h0 ha) ?_
    array_get_dec
    refine k_call rfl rfl (i_told_layers h h0 ha) ?_
    array_get_dec
    refine k_call rfl rfl hd ?_
    array_get_dec
    exact k_fin' rfl
  by_cases hn : Can cs a
  · obtain ⟨v, h1, h2, h3⟩ := i_told_payment h h0 ha hn
    exact .inl ⟨v, h1, h2, run _ h3⟩
  · exact .inr (run _ (i_told_payment_no h h0 hn))
end K47

namespace K47
open PySem PySem.Spec PyProof.Rows L2 VL
/-! ### dicts from ints to ints -/
abbrev kv (d : Cs) : List (PyData × PyData) := d.map fun p => (PyData.int p.1, PyData.int p.2)
abbrev dE (d : Cs) : PyData := .dict (kv d)
def setD (d : Cs) (f v : Int) : Cs := if f ∈ keys d then d.map (fun p => if p.1 = f then (p.1, v) else p) else d ++ [(f, v)]
def look (d : Cs) (f : Int) : Option Int := (d.find? fun p => decide (p.1 = f)).map (·.2)
def getD (d : Cs) (f : Int) : Int := (look d f).getD 0
theorem kv_any (d : Cs) (f : Int) : ((kv d).any fun p => PyData.eqv p.1 (.int f)) = decide (f ∈ keys d) := by
  have := any_eqv_ints (keys d) f
  unfold keys at this
  rw [List.map_map, List.any_map] at this
  rw [List.any_map]
  exact this
theorem dput_kv (d : Cs) (f v : Int) : dput (kv d) (.int f) (.int v) = kv (setD d f v) := by
  unfold dput setD
  rw [kv_any]
  by_cases z : f ∈ keys d
  · simp only [z, decide_true, if_true, List.map_map]
    apply List.map_congr_left
    intro p _
    simp only [Function.comp, eqv_int]
    by_cases e : p.1 = f <;> simp [e]
  · simp [z]
theorem dget_kv (d : Cs) (f : Int) : dget (kv d) (.int f) = (look d f).map PyData.int := by
  unfold dget look
  rw [List.find?_map]
  simp only [Function.comp_def, eqv_int, Option.map_map]
theorem setD_add {f c : Int} : ∀ {d : Cs}, (keys d).Nodup → setD d f (getD d f + c) = addD d f c
  | d, n => by
    unfold setD addD
    split
    · rename_i h
      apply List.map_congr_left
      intro p hp
      split
      · rename_i e
        have : getD d f = p.2 := by
          clear h
          induction d with
          | nil => cases hp
          | cons q d ih =>
            have n' := List.nodup_cons.mp n
            unfold getD look
            rw [List.find?_cons]
            by_cases z : q.1 = f
            · simp only [z, decide_true]
              rcases List.mem_cons.mp hp with rfl | hp
              · rfl
              · exact absurd (List.mem_map.mpr ⟨p, hp, by rw [e, ← z]⟩) n'.1
            · simp only [z, decide_false]
              rcases List.mem_cons.mp hp with rfl | hp
              · exact absurd e z
              · exact ih n'.2 hp
        rw [this]
      · rfl
    · rename_i h
      have : getD d f = 0 := by
        unfold getD look
        have : d.find? (fun p => decide (p.1 = f)) = none := by
          rw [List.find?_eq_none]
          intro p hp z
          exact h (List.mem_map.mpr ⟨p, hp, by simpa using z⟩)
        rw [this]; rfl
      rw [this, Int.zero_add]
theorem dmerge_kv : ∀ (more d : Cs), (keys (d ++ more)).Nodup → dmerge (kv d) (kv more) = kv (d ++ more)
  | [], d, _ => by simp [dmerge]
  | p :: more, d, h => by
    have e : dput (kv d) (.int p.1) (.int p.2) = kv (d ++ [p]) := by
      rw [dput_kv]
      unfold setD
      rw [if_neg]
      intro z
      unfold keys at h
      rw [List.map_append, List.nodup_append] at h
      exact h.2.2 p.1 z p.1 (by simp) rfl
    have ih := dmerge_kv more (d ++ [p]) (by simpa using h)
    unfold dmerge at ih ⊢
    show List.foldl _ (dput (kv d) (.int p.1) (.int p.2)) (kv more) = _
    rw [e, ih]
    simp
theorem pairs_pI : ∀ cs : Cs, pairs? (cs.map pI) = some (kv cs)
  | [] => rfl
  | p :: cs => by
    rw [List.map_cons, pairs?]
    simp only [pair?, key?, Option.map_some, Option.bind_some, pairs_pI cs, List.map_cons]
theorem asc_nodup {cs : Cs} (h : cs.Pairwise (fun p q => p.1 < q.1)) : (keys cs).Nodup := by
  unfold keys List.Nodup
  rw [List.pairwise_map]
  exact h.imp fun h => by omega
theorem dictF_cE {cs : Cs} (h : (keys cs).Nodup) (hl : cs.length ≤ sizeLine) : dictF [cE cs] = some (.ow false (dE cs)) := by
  have := dmerge_kv cs [] (by simpa using h)
  simp only [List.map_nil, List.nil_append] at this
  simp [dictF, pairs_pI, hl, this]
/-! sorted -/
def leP (p q : Int × Int) : Bool := PySem.W.dataLe false id (pI p) (pI q)
theorem leP_eq (p q : Int × Int) : leP p q = decide (p.1 < q.1 ∨ (p.1 = q.1 ∧ p.2 ≤ q.2)) := by
  have := congrFun (congrFun (PySem.W.dataLe_ii (fun p : Int × Int => p.1) (fun p => p.2)) p) q
  exact this
def srtP (d : Cs) : Cs := d.mergeSort leP
theorem sortD_pI (d : Cs) : sortD (d.map pI) = (srtP d).map pI := by
  unfold sortD srtP
  exact (List.map_mergeSort (r := leP) (s := PySem.W.dataLe false id) (f := pI) fun a _ b _ => rfl).symm
theorem srtP_perm (d : Cs) : (srtP d).Perm d := List.mergeSort_perm d _
theorem srtP_asc {d : Cs} (h : (keys d).Nodup) : (srtP d).Pairwise (fun p q => p.1 < q.1) := by
  have h1 : (srtP d).Pairwise (fun p q => leP p q = true) := List.pairwise_mergeSort (le := leP) (fun a b c h1 h2 => by rw [leP_eq] at *; simp at *; omega) (fun a b => by rw [leP_eq, leP_eq]; simp; omega) d
  have h2 : (keys (srtP d)).Nodup := ((srtP_perm d).map (fun p : Int × Int => p.1)).nodup_iff.mpr (show (d.map fun p : Int × Int => p.1).Nodup from h)
  unfold keys List.Nodup at h2
  rw [List.pairwise_map] at h2
  exact h1.imp₂ (fun {p q} a b => by rw [leP_eq] at a; simp at a; omega) h2
theorem sortOk_pI {d : Cs} (h : d.length ≤ sizeLine) : sortOk (d.map pI) = true := by
  unfold sortOk
  simp only [Bool.and_eq_true, decide_eq_true_eq, List.length_map, List.all_map, Bool.or_eq_true, List.all_eq_true, Function.comp]
  refine ⟨⟨⟨⟨h, fun a _ => by simp [PyData.canLay0, PyData.canLayAll0]⟩, fun a _ b _ => ?_⟩, fun a _ => by simp [PyData.depth, PyData.depthAll]⟩, .inl fun a _ => trivial⟩
  simp [PySem.W.alike, PySem.W.alikeAll]
theorem items_kv (d : Cs) : itemsPD (kv d) = d.map pI := by
  unfold itemsPD
  rw [List.map_map]; rfl
/-! ### together -/
theorem i_together {a b : Cs} (ha : COk a) (hb : COk b) (hF : ∃ F : List Int, F.length ≤ 12 ∧ ∀ x, x ∈ keys a ∨ x ∈ keys b → x ∈ F) (hm : many a + many b ≤ 10000) :
    ∃ t, t = srtP (addAll a b) ∧ Tog a b t ∧ COk t ∧ Is φ_together [.fz (cE a), .fz (cE b)] (.fz (cE t)) := by
  have na := asc_nodup ha.1.1
  have nd := nodup_addAll (more := b) na
  have asc := srtP_asc nd
  have pm := srtP_perm (addAll a b)
  have pos := pos_addAll (more := b) (d := a) ha.1.2 hb.1.2
  have tog : Tog a b (srtP (addAll a b)) := by
    refine ⟨⟨asc, fun p hp => pos p (pm.mem_iff.mp hp)⟩, fun w => by rw [S_perm w pm, S_addAll w na], fun x => ?_⟩
    rw [← mem_addAll]
    exact (pm.map (·.1)).mem_iff
  have ok : COk (srtP (addAll a b)) := by
    refine ⟨tog.asc, ?_, fun p hp => ⟨?_, ?_⟩⟩
    · obtain ⟨F, h12, hF⟩ := hF
      have := nodup_len (l := keys (srtP (addAll a b))) (F := F) (asc_nodup asc) fun x hx => hF x ((tog.key x).mp hx)
      unfold keys at this
      rw [List.length_map] at this
      omega
    · rcases (tog.key p.1).mp (List.mem_map.mpr ⟨p, hp, rfl⟩) with z | z
      · obtain ⟨q, hq, e⟩ := List.mem_map.mp z
        rw [← e]; exact (ha.2.2 q hq).1
      · obtain ⟨q, hq, e⟩ := List.mem_map.mp z
        rw [← e]; exact (hb.2.2 q hq).1
    · have h1 := many_one (fun p hp => (tog.asc.2 p hp).2) p hp
      have h2 : many (srtP (addAll a b)) = many a + many b := tog.S _
      omega
  refine ⟨_, rfl, tog, ok, ?_⟩
  have hl : (addAll a b).length ≤ 24 := by have := len_addAll (more := b) (d := a); have := ha.2.1; have := hb.2.1; omega
  unfold φ_together f_together
  refine is_def' rfl ?_
  array_get_dec
  refine k_call rfl rfl (i_look_at_coins ha) ?_
  array_get_dec
  refine k_call rfl rfl (i_look_at_coins hb) ?_
  array_get_dec
  refine k_blt rfl (dictF_cE na ha.len) ?_
  array_get_dec
  refine w_cutK [some (.fz (cE a)), some (.fz (cE b)), some (.ow false (dE (addAll a b))), none, none, none] ?_ ?_
  · refine w_for ?_
    array_get_dec
    refine w_forXI pI b (fun i e => e = [some (.fz (cE a)), some (.fz (cE b)), some (.ow false (dE (addAll a (b.take i)))), none, none, none]) (e0 := [some (.fz (cE a)), some (.fz (cE b)), some (.ow false (dE a)), none, none, none]) (by array_mem_dec) rfl (fun i p e hp hI => ?_) (fun e hI => ?_)
    · subst hI
      have hi := (List.getElem?_eq_some_iff.mp hp).1
      have n1 := nodup_addAll (more := b.take i) na
      have l1 := len_addAll (more := b.take i) (d := a)
      have e1 : addAll a (b.take (i + 1)) = addD (addAll a (b.take i)) p.1 p.2 := by
        unfold addAll
        rw [List.take_add_one, hp, List.foldl_append]; rfl
      array_get_dec
      refine w_dget ?_
      array_get_dec
      refine ⟨⟨_, rfl⟩, ?_⟩
      array_get_dec
      refine k_dget rfl rfl ?_
      rw [dget_kv]
      have e2 : ((look (addAll a (b.take i)) p.1).map PyData.int).getD (.int 0) = .int (getD (addAll a (b.take i)) p.1) := by
        unfold getD
        cases look (addAll a (b.take i)) p.1 <;> rfl
      rw [e2]
      array_get_dec
      refine ⟨rfl, ?_⟩
      array_get_dec
      refine k_store rfl rfl (d' := dE (addAll a (b.take (i + 1)))) ?_ ?_
      · show (if (kv _).length < sizeLine then _ else _) = _
        rw [if_pos (by rw [List.length_map, PySem.sizeLine_eq]; have := ha.2.1; have := hb.2.1; simp at l1; omega), dput_kv, setD_add n1, e1]
      · exact ⟨_, by array_mem_dec, rfl⟩
    · subst hI
      rw [List.take_length]
      exact ⟨rfl, by array_mem_dec⟩
  · array_get_dec
    refine ⟨kv (addAll a b), rfl, ?_, ?_, ?_⟩
    · rw [items_kv]; exact sortOk_pI (size_le (by omega))
    · rw [items_kv]; exact wk_pI (α := Unit) _
    rw [items_kv, sortD_pI]
    array_get_dec
    refine w_skip (e := [some (.fz (cE a)), some (.fz (cE b)), some (.ow false (dE (addAll a b))), none, none, some (.fz (cE (srtP (addAll a b))))]) ?_ ?_
    · array_get_dec
      refine k_call rfl rfl (i_are_coins ok) ?_
      array_get_dec
      exact ⟨rfl, by array_mem_dec⟩
    array_get_dec
    exact k_fin' rfl
end K47

namespace K47
open PySem PySem.Spec PyProof.Rows L2 VL
theorem i_law_sum {cs : Cs} (h : COk cs) : Is φ__law_sum [.fz (cE cs)] (.fz (.int (wt cs))) := by
  unfold φ__law_sum f__law_sum
  refine is_def' rfl ?_
  array_get_dec
  refine k_lcM pI (fun p => .int (p.1 * p.2)) h.len (fun p hp => ?_) ?_
  · have h2 := h.2.2 p hp
    have h1 := h.1.2 p hp
    array_get_dec
    exact ⟨rfl, by array_mem_dec⟩
  · array_get_dec
    refine k_sumM ?_
    array_get_dec
    refine k_fin' ?_
    have : ∀ cs : Cs, (cs.map fun p => p.1 * p.2).sum = wt cs := by
      intro cs
      induction cs with
      | nil => rfl
      | cons p t ih => simp only [List.map_cons, List.sum_cons, ih, wt, S]
    rw [this]; rfl
end K47

namespace K47
open PySem PySem.Spec PyProof.Rows L2 VL
/-! ### taking away -/
def neg (L : Cs) : Cs := L.map fun p => (p.1, -p.2)
theorem S_neg (w : Int → Int) : ∀ L : Cs, S w (neg L) = - S w L
  | [] => rfl
  | p :: L => by
    have := S_neg w L
    simp only [neg, List.map_cons, S] at this ⊢
    rw [this, Int.mul_neg]; omega
abbrev subD (d L : Cs) : Cs := addAll d (neg L)
theorem subD_snoc (d L : Cs) (p : Int × Int) : subD d (L ++ [p]) = addD (subD d L) p.1 (-p.2) := by
  simp [subD, addAll, neg]
theorem nd_subD {d L : Cs} (h : (keys d).Nodup) : (keys (subD d L)).Nodup := nodup_addAll h
theorem S_subD (w : Int → Int) {d L : Cs} (h : (keys d).Nodup) : S w (subD d L) = S w d - S w L := by
  rw [subD, S_addAll w h, S_neg]; omega
theorem len_subD {d L : Cs} : (subD d L).length ≤ d.length + L.length := by
  have := len_addAll (more := neg L) (d := d)
  rwa [show (neg L).length = L.length by simp [neg]] at this
theorem getD_cnt : ∀ {d : Cs} {f : Int}, (keys d).Nodup → getD d f = cnt f d
  | [], f, _ => rfl
  | q :: d, f, n => by
    have n' := List.nodup_cons.mp n
    unfold getD look
    rw [List.find?_cons]
    by_cases z : q.1 = f
    · have : cnt f d = 0 := cnt_out (z ▸ n'.1)
      rw [cnt_cons, this]; simp [ind, z]
    · have := getD_cnt (d := d) (f := f) n'.2
      unfold getD look at this
      simp only [z, decide_false]
      rw [cnt_cons, this]; simp [ind, z]
theorem look_in {d : Cs} {f : Int} (h : f ∈ keys d) : look d f = some (getD d f) := by
  obtain ⟨q, hq, e⟩ := List.mem_map.mp h
  unfold getD look
  cases hf : d.find? (fun p => decide (p.1 = f)) with
  | none => have := List.find?_eq_none.mp hf q hq; simp [e] at this
  | some r => rfl
theorem look_getD (d : Cs) (f : Int) : ((look d f).map PyData.int).getD (.int 0) = .int (getD d f) := by
  unfold getD
  cases look d f <;> rfl
theorem pre_le {A B : Cs} (h : ∀ p ∈ B, 0 ≤ p.2) (x : Int) : cnt x A ≤ cnt x (A ++ B) := by
  have h1 : cnt x (A ++ B) = cnt x A + cnt x B := S_append _ _ _
  have h2 : 0 ≤ cnt x B := S_nonneg fun p hp => ⟨ind_nn _ _, h p hp⟩
  omega
theorem cnt_flat (x : Int) : ∀ ps : List Cs, cnt x ps.flatten = (ps.map (cnt x)).sum
  | [] => rfl
  | p :: ps => by
    have h1 : cnt x (p ++ ps.flatten) = cnt x p + cnt x ps.flatten := S_append _ _ _
    rw [List.flatten_cons, h1, cnt_flat x ps, List.map_cons, List.sum_cons]
/-! ### planted payments are paid -/
theorem zip_self2 : ∀ cs : Cs, List.zip cs (cs.map (·.2)) = cs.map fun c => (c, c.2)
  | [] => rfl
  | c :: cs => by rw [List.map_cons, List.zip_cons_cons, zip_self2 cs]; rfl
theorem wt_nn {p : Cs} (h : Asc p) : 0 ≤ wt p := S_nonneg fun q hq => by have := h.2 q hq; omega
theorem paid_all {cs : Cs} (h : COk cs) {ps : List Cs} (hp : ∀ p ∈ ps, COk p ∧ ∀ f ∈ keys p, f ∈ keys cs) (hc : ∀ x, (ps.map (cnt x)).sum ≤ cnt x cs) : paidN cs (ps.map wt) = ps.length := by
  have n := asc_nd h.1
  have P := pays_of n (ps := ps) (s := cs.map (·.2)) (fun p q => ⟨(hp p q).1.1, (hp p q).2⟩) (by simp) (fun q hq => by
    rw [zip_self2] at hq
    obtain ⟨c, hc1, rfl⟩ := List.mem_map.mp hq
    have h1 := hc c.1
    rw [cnt_in n hc1 rfl] at h1
    exact ⟨h1, Int.le_refl _⟩)
  have := pays_len ord_mem (cs := cs) (as := ps.map wt) (D := row0 cs) (s := cs.map (·.2)) (fun p hp => by have := h.1.2 p hp; omega) (fun a ha => by
    obtain ⟨p, hp1, rfl⟩ := List.mem_map.mp ha
    exact wt_nn (hp p hp1).1.1) (by simp [row0, ksV]) P
  simpa using this
/-! ### shows_pay_all -/
abbrev qE (p : Cs) : PyData := .tuple [cE p, .int (wt p)]
theorem zip_ps (ps : List Cs) : zipD (.tuple (ps.map cE)) (tup (ps.map wt)) = some (ps.map qE) := by
  show some (List.zipWith pairD (ps.map cE) ((ps.map wt).map PyData.int)) = _
  congr 1
  induction ps with
  | nil => rfl
  | cons p ps ih => simp only [List.map_cons, List.zipWith_cons_cons, ih]; rfl
theorem wk_qE (ps : List Cs) : ((ps.map qE).all wkT) = true := by
  rw [List.all_map, List.all_eq_true]; intro p _; rfl
theorem flat_next {ps : List Cs} {i : Nat} {p : Cs} (h : ps[i]? = some p) : (ps.take (i + 1)).flatten = (ps.take i).flatten ++ p := by
  rw [List.take_add_one, h]; simp
theorem flat_split {ps : List Cs} {i : Nat} {p : Cs} (h : ps[i]? = some p) (j : Nat) : ps.flatten = ((ps.take i).flatten ++ p.take j) ++ (p.drop j ++ (ps.drop (i + 1)).flatten) := by
  have : ps.flatten = (ps.take i ++ ps.drop i).flatten := by rw [List.take_append_drop]
  rw [this, drop_at h]
  simp only [List.flatten_append, List.flatten_cons, List.append_assoc]
  rw [← List.append_assoc (p.take j), List.take_append_drop]
theorem i_shows_yes {cs : Cs} (h : COk cs) (hs : size cs ≤ 4000) {ps : List Cs} (hp : ∀ p ∈ ps, COk p ∧ ∀ f ∈ keys p, f ∈ keys cs) (hc : ∀ x, (ps.map (cnt x)).sum ≤ cnt x cs) (ha : AOk (ps.map wt)) :
    Is φ_shows_pay_all [.fz (cE cs), .fz (tup (ps.map wt)), .fz (.tuple [.str "paid", .tuple (ps.map cE)])] (.fz (.bool true)) := by
  have hn := paid_all h hp hc
  have nd := asc_nd h.1
  have l12 := h.2.1
  have pl : ps.length ≤ 12 := by have := ha.1; simpa using this
  have fl : ∀ i j : Nat, ∀ p, ps[i]? = some p → ((ps.take i).flatten ++ p.take j).length ≤ 12 * 13 := by
    intro i j p hi
    have h1 : ∀ l : List Cs, (∀ p ∈ l, p.length ≤ 12) → l.flatten.length ≤ 12 * l.length := by
      intro l
      induction l with
      | nil => simp
      | cons a l ih =>
        intro hl
        have := ih fun p hp => hl p (by simp [hp])
        have := hl a (by simp)
        simp only [List.flatten_cons, List.length_append, List.length_cons]; omega
    have h2 := h1 (ps.take i) fun p q => (hp p (List.mem_of_mem_take q)).1.2.1
    have h3 := (hp p (List.mem_of_getElem? hi)).1.2.1
    have h4 : (ps.take i).length ≤ 12 := by rw [List.length_take]; omega
    have h5 : (p.take j).length ≤ 12 := by rw [List.length_take]; omega
    rw [List.length_append]; omega
  have fp : ∀ q ∈ ps.flatten, 0 ≤ q.2 := fun q hq => by
    obtain ⟨p, hp1, hp2⟩ := List.mem_flatten.mp hq
    have := ((hp p hp1).1.1.2 q hp2).2; omega
  have key : ∀ i j p, ps[i]? = some p → ∀ x, 0 ≤ cnt x (subD cs ((ps.take i).flatten ++ p.take j)) := by
    intro i j p hi x
    have e : cnt x (subD cs ((ps.take i).flatten ++ p.take j)) = cnt x cs - cnt x ((ps.take i).flatten ++ p.take j) := S_subD _ nd
    have e2 := flat_split hi j
    have h1 := hc x
    rw [← cnt_flat, e2] at h1
    have h2 := pre_le (A := (ps.take i).flatten ++ p.take j) (B := p.drop j ++ (ps.drop (i + 1)).flatten) (fun q hq => fp q (by rw [e2]; exact List.mem_append_right _ hq)) x
    omega
  unfold φ_shows_pay_all f_shows_pay_all
  refine is_def' rfl ?_
  array_get_dec
  refine k_call rfl rfl (i_look_at_amounts h ha) ?_
  array_get_dec
  refine w_skip (e := [some (.fz (cE cs)), some (.fz (tup (ps.map wt))), some (.fz (.tuple [.str "paid", .tuple (ps.map cE)])), none, none, none, none, none]) ?_ ?_
  · array_get_dec
    refine k_call rfl rfl (i_told_size h) ?_
    array_get_dec
    refine k_if_f (by simp; omega) ?_
    array_get_dec
    refine k_call rfl rfl (i_is_told _) ?_
    array_get_dec
    refine k_if_f rfl ?_
    array_get_dec
    refine k_idxL rfl rfl (dc := .tuple [.str "paid", .tuple (ps.map cE)]) rfl rfl rfl ?_
    array_get_dec
    refine k_neD rfl rfl (by simp [SeqAt.shaped, PyData.canLay0, PyData.depth]; decide +kernel) (by simp [SeqAt.shaped, PyData.canLay0, PyData.depth]; decide +kernel) ?_
    array_get_dec
    exact ⟨by simp [PyData.eqv], by array_mem_dec⟩
  array_get_dec
  refine w_skip (e := [some (.fz (cE cs)), some (.fz (tup (ps.map wt))), some (.fz (.tuple [.str "paid", .tuple (ps.map cE)])), none, none, none, none, none]) ?_ ?_
  · array_get_dec
    refine k_idxL rfl rfl (dc := .tuple [.str "paid", .tuple (ps.map cE)]) rfl rfl rfl ?_
    array_get_dec
    refine k_isi rfl rfl kit_tt ?_
    array_get_dec
    refine k_if_f rfl ?_
    array_get_dec
    refine k_idxL rfl rfl (dc := .tuple [.str "paid", .tuple (ps.map cE)]) rfl rfl rfl ?_
    array_get_dec
    refine ⟨by simp, by array_mem_dec⟩
  array_get_dec
  refine w_skip (e := [some (.fz (cE cs)), some (.fz (tup (ps.map wt))), some (.fz (.tuple [.str "paid", .tuple (ps.map cE)])), none, none, none, none, none]) ?_ ?_
  · array_get_dec
    refine k_idxL rfl rfl (dc := .tuple [.str "paid", .tuple (ps.map cE)]) rfl rfl rfl ?_
    array_get_dec
    refine k_call rfl rfl (i_told_rows h hs ha) ?_
    array_get_dec
    refine k_len rfl rfl ?_
    array_get_dec
    refine ⟨?_, by array_mem_dec⟩
    simp [paidN] at hn ⊢
    omega
  array_get_dec
  refine k_blt rfl (dictF_cE nd h.len) ?_
  array_get_dec
  refine w_cutK [some (.fz (cE cs)), some (.fz (tup (ps.map wt))), some (.fz (.tuple [.str "paid", .tuple (ps.map cE)])), none, none, none, none, none] ?_ ?_
  · refine w_for ?_
    array_get_dec
    refine k_idxL rfl rfl (dc := .tuple [.str "paid", .tuple (ps.map cE)]) rfl rfl rfl ?_
    array_get_dec
    refine ⟨_, _, _, rfl, zip_ps ps, wk_qE ps, ?_⟩
    refine w_forXI qE ps (fun i e => e = [some (.fz (cE cs)), some (.fz (tup (ps.map wt))), some (.fz (.tuple [.str "paid", .tuple (ps.map cE)])), some (.ow false (dE (subD cs (ps.take i).flatten))), none, none, none, none])
      (e0 := [some (.fz (cE cs)), some (.fz (tup (ps.map wt))), some (.fz (.tuple [.str "paid", .tuple (ps.map cE)])), some (.ow false (dE cs)), none, none, none, none]) (by array_mem_dec) rfl (fun i p e hi hI => ?_) (fun e hI => ?_)
    · subst hI
      obtain ⟨okp, _⟩ := hp p (List.mem_of_getElem? hi)
      array_get_dec
      refine w_skip (e := [some (.fz (cE cs)), some (.fz (tup (ps.map wt))), some (.fz (.tuple [.str "paid", .tuple (ps.map cE)])), some (.ow false (dE (subD cs (ps.take i).flatten))), some (.fz (cE p)), some (.fz (.int (wt p))), none, none]) ?_ ?_
      · array_get_dec
        refine k_call rfl rfl (i_are_coins okp) ?_
        array_get_dec
        refine k_if_f rfl ?_
        array_get_dec
        refine k_call rfl rfl (i_told_sum okp) ?_
        array_get_dec
        exact ⟨by simp, by array_mem_dec⟩
      array_get_dec
      refine w_for ?_
      array_get_dec
      refine w_forXI pI p (fun j e => e = [some (.fz (cE cs)), some (.fz (tup (ps.map wt))), some (.fz (.tuple [.str "paid", .tuple (ps.map cE)])), some (.ow false (dE (subD cs ((ps.take i).flatten ++ p.take j)))), none, none, none, none])
        (e0 := [some (.fz (cE cs)), some (.fz (tup (ps.map wt))), some (.fz (.tuple [.str "paid", .tuple (ps.map cE)])), some (.ow false (dE (subD cs (ps.take i).flatten))), none, none, none, none]) (by array_mem_dec) (by simp) (fun j q e hj hI => ?_) (fun e hI => ?_)
      · subst hI
        have n1 := nd_subD (L := (ps.take i).flatten ++ p.take j) nd
        have l1 := len_subD (d := cs) (L := (ps.take i).flatten ++ p.take j)
        have l2 := fl i j p hi
        have e1 : subD cs ((ps.take i).flatten ++ p.take (j + 1)) = addD (subD cs ((ps.take i).flatten ++ p.take j)) q.1 (-q.2) := by
          rw [← subD_snoc, List.append_assoc, List.take_add_one, hj]; rfl
        array_get_dec
        refine w_dget ?_
        array_get_dec
        refine ⟨⟨_, rfl⟩, ?_⟩
        array_get_dec
        refine k_dget rfl rfl ?_
        rw [dget_kv, look_getD]
        array_get_dec
        refine ⟨rfl, ?_⟩
        array_get_dec
        refine k_store rfl rfl (d' := dE (subD cs ((ps.take i).flatten ++ p.take (j + 1)))) ?_ ?_
        · show (if (kv _).length < sizeLine then _ else _) = _
          rw [if_pos (by rw [List.length_map, PySem.sizeLine_eq]; omega), dput_kv, Int.sub_eq_add_neg, setD_add n1, e1]
        · array_get_dec
          have hk : q.1 ∈ keys (subD cs ((ps.take i).flatten ++ p.take (j + 1))) := by
            rw [e1, mem_keys_addD]; exact .inr rfl
          refine w_skip (e := [some (.fz (cE cs)), some (.fz (tup (ps.map wt))), some (.fz (.tuple [.str "paid", .tuple (ps.map cE)])), some (.ow false (dE (subD cs ((ps.take i).flatten ++ p.take (j + 1))))), none, none, some (.fz (.int q.1)), some (.fz (.int q.2))]) ?_ ?_
          · array_get_dec
            refine k_idxD rfl rfl (d := .int (getD (subD cs ((ps.take i).flatten ++ p.take (j + 1))) q.1)) ?_ ?_
            · show some (dget _ _) = _
              rw [dget_kv, look_in hk]; rfl
            array_get_dec
            have := key i (j + 1) p hi q.1
            rw [← getD_cnt (nd_subD nd)] at this
            exact ⟨by simp; omega, by array_mem_dec⟩
          array_get_dec
          exact ⟨_, by array_mem_dec, rfl⟩
      · subst hI
        refine ⟨_, ?_, rfl⟩
        rw [flat_next hi, List.take_length]
        array_mem_dec
    · exact ⟨rfl, by subst hI; array_mem_dec⟩
  array_get_dec
  exact k_fin' rfl
end K47

namespace K47
open PySem PySem.Spec PyProof.Rows L2 VL
/-! ### rising, without what there is none of -/
def finP (d : Cs) : Cs := srtP (d.filter fun p => decide (0 < p.2))
theorem S_filter (w : Int → Int) : ∀ {d : Cs}, (∀ p ∈ d, 0 ≤ p.2) → S w (d.filter fun p => decide (0 < p.2)) = S w d
  | [], _ => rfl
  | p :: d, h => by
    have ih := S_filter w (d := d) fun q hq => h q (by simp [hq])
    have h0 := h p (by simp)
    rw [List.filter_cons]
    split
    · simp only [S, ih]
    · rename_i z
      have : p.2 = 0 := by simp at z; omega
      simp only [S, ih, this]; omega
theorem finP_S (w : Int → Int) {d : Cs} (h : ∀ p ∈ d, 0 ≤ p.2) : S w (finP d) = S w d := by rw [finP, S_perm w (srtP_perm _), S_filter w h]
theorem finP_mem {d : Cs} {p : Int × Int} (h : p ∈ finP d) : p ∈ d ∧ 0 < p.2 := by
  have := (srtP_perm _).mem_iff.mp h
  simpa using this
theorem keys_filter {d : Cs} (n : (keys d).Nodup) : (keys (d.filter fun p => decide (0 < p.2))).Nodup := by
  unfold keys at n ⊢
  exact n.sublist (List.filter_sublist.map _)
theorem finP_asc {d : Cs} (n : (keys d).Nodup) (h : ∀ p ∈ d, 1 ≤ p.1) : Asc (finP d) :=
  ⟨srtP_asc (keys_filter n), fun p hp => by have := finP_mem hp; have := h p this.1; omega⟩
theorem finP_len (d : Cs) : (finP d).length ≤ d.length := by
  rw [finP, (srtP_perm _).length_eq]; exact List.length_filter_le _ _
theorem cnt_le {cs : Cs} (h : COk cs) (x : Int) : cnt x cs ≤ 10000 := by
  by_cases z : x ∈ keys cs
  · obtain ⟨q, hq, e⟩ := List.mem_map.mp z
    rw [cnt_in (asc_nd h.1) hq e]; exact (h.2.2 q hq).2
  · rw [cnt_out z]; omega
theorem key_cnt {cs : Cs} (h : Asc cs) {x : Int} : x ∈ keys cs ↔ 1 ≤ cnt x cs := by
  constructor
  · intro z
    obtain ⟨q, hq, e⟩ := List.mem_map.mp z
    rw [cnt_in (asc_nd h) hq e]; exact (h.2 q hq).2
  · intro z
    exact Decidable.byContradiction fun n => by rw [cnt_out n] at z; omega
theorem key_ok {cs : Cs} (h : COk cs) {x : Int} (hx : x ∈ keys cs) : 1 ≤ x ∧ x ≤ 10000 := by
  obtain ⟨q, hq, e⟩ := List.mem_map.mp hx
  rw [← e]; exact ⟨(h.1.2 q hq).1, (h.2.2 q hq).1⟩
theorem sub_key {a b : Cs} (hb : Asc b) (ha : Asc a) (hle : ∀ x, cnt x b ≤ cnt x a) {x : Int} (h : x ∈ keys b) : x ∈ keys a := (key_cnt ha).mpr (Int.le_trans ((key_cnt hb).mp h) (hle x))
theorem wo_ok {a b : Cs} (ha : COk a) (hb : Asc b) (hle : ∀ x, cnt x b ≤ cnt x a) : COk (finP (subD a b)) ∧ (∀ w, S w (finP (subD a b)) = S w a - S w b) ∧ ∀ f ∈ keys (finP (subD a b)), f ∈ keys a := by
  have nd := asc_nd ha.1
  have n1 := nd_subD (L := b) nd
  have ka : ∀ f ∈ keys (subD a b), f ∈ keys a := fun f hf => by
    rcases mem_addAll.mp hf with z | z
    · exact z
    · refine sub_key hb ha.1 hle ?_
      unfold keys neg at z
      rw [List.map_map] at z
      exact z
  have en : ∀ p ∈ subD a b, 0 ≤ p.2 ∧ p.2 ≤ 10000 := fun p hp => by
    have h1 := cnt_in n1 hp rfl
    have h2 : cnt p.1 (subD a b) = cnt p.1 a - cnt p.1 b := S_subD _ nd
    have h3 := hle p.1
    have h4 := cnt_le ha p.1
    have h5 := cnt_nn hb p.1
    omega
  have kf : ∀ p ∈ subD a b, p.1 ∈ keys a := fun p hp => ka _ (List.mem_map.mpr ⟨p, hp, rfl⟩)
  have asc := finP_asc n1 fun p hp => (key_ok ha (kf p hp)).1
  have kk : ∀ f ∈ keys (finP (subD a b)), f ∈ keys a := fun f hf => by
    obtain ⟨p, hp, rfl⟩ := List.mem_map.mp hf
    exact kf p (finP_mem hp).1
  refine ⟨⟨asc, ?_, fun p hp => ?_⟩, fun w => ?_, kk⟩
  · have h1 := nodup_len (asc_nd asc) kk
    have h2 := ha.2.1
    unfold keys at h1
    rw [List.length_map, List.length_map] at h1
    omega
  · have h1 := (finP_mem hp).1
    exact ⟨(key_ok ha (kf p h1)).2, (en p h1).2⟩
  · rw [finP_S w fun p hp => (en p hp).1, S_subD w nd]
theorem sorted_pI {d : Cs} (h : d.length ≤ sizeLine) : sortedF [.list (d.map pI)] = some (.ow false (.list ((srtP d).map pI))) := by
  show (if sortOk _ = true then _ else _) = _
  rw [if_pos (sortOk_pI h), sortD_pI]
/-! ### without -/
theorem i_without {a b : Cs} (ha : COk a) (hb : COk b) (hle : ∀ x, cnt x b ≤ cnt x a) : Is φ_without [.fz (cE a), .fz (cE b)] (.fz (cE (finP (subD a b)))) := by
  have nd := asc_nd ha.1
  have la := ha.2.1
  have lb := hb.2.1
  have fp : ∀ q ∈ b, 0 ≤ q.2 := fun q hq => by have := (hb.1.2 q hq).2; omega
  unfold φ_without f_without
  refine is_def' rfl ?_
  array_get_dec
  refine k_call rfl rfl (i_look_at_coins ha) ?_
  array_get_dec
  refine k_call rfl rfl (i_look_at_coins hb) ?_
  array_get_dec
  refine k_blt rfl (dictF_cE nd ha.len) ?_
  array_get_dec
  refine w_cutK [some (.fz (cE a)), some (.fz (cE b)), some (.ow false (dE (subD a b))), none, none] ?_ ?_
  · refine w_for ?_
    array_get_dec
    refine w_forXI pI b (fun i e => e = [some (.fz (cE a)), some (.fz (cE b)), some (.ow false (dE (subD a (b.take i)))), none, none]) (e0 := [some (.fz (cE a)), some (.fz (cE b)), some (.ow false (dE a)), none, none]) (by array_mem_dec) rfl (fun i q e hi hI => ?_) (fun e hI => ?_)
    · subst hI
      have n1 := nd_subD (L := b.take i) nd
      have l1 := len_subD (d := a) (L := b.take i)
      have l2 : (b.take i).length ≤ 12 := by rw [List.length_take]; omega
      have e1 : subD a (b.take (i + 1)) = addD (subD a (b.take i)) q.1 (-q.2) := by
        rw [← subD_snoc, List.take_add_one, hi]; rfl
      have hq := hb.1.2 q (List.mem_of_getElem? hi)
      -- as much is there
      have ge : q.2 ≤ getD (subD a (b.take i)) q.1 := by
        rw [getD_cnt n1, cnt, S_subD _ nd]
        show q.2 ≤ cnt q.1 a - cnt q.1 (b.take i)
        have h1 := hle q.1
        have h2 : cnt q.1 b = cnt q.1 (b.take i ++ [q] ++ b.drop (i + 1)) := by
          conv => lhs; rw [← List.take_append_drop i b, drop_at hi]
          simp
        have h3 := pre_le (A := b.take i ++ [q]) (B := b.drop (i + 1)) (fun p hp => fp p (List.mem_of_mem_drop hp)) q.1
        have h4 : cnt q.1 (b.take i ++ [q]) = cnt q.1 (b.take i) + cnt q.1 [q] := S_append _ _ _
        have h5 : cnt q.1 [q] = q.2 := by simp [cnt, S, ind]
        omega
      have hk : q.1 ∈ keys (subD a (b.take i)) := by
        refine mem_addAll.mpr (.inl (sub_key hb.1 ha.1 hle (List.mem_map.mpr ⟨q, List.mem_of_getElem? hi, rfl⟩)))
      array_get_dec
      refine w_skip (e := [some (.fz (cE a)), some (.fz (cE b)), some (.ow false (dE (subD a (b.take i)))), some (.fz (.int q.1)), some (.fz (.int q.2))]) ?_ ?_
      · array_get_dec
        refine w_dget ?_
        array_get_dec
        refine ⟨⟨_, rfl⟩, ?_⟩
        array_get_dec
        refine k_dget rfl rfl ?_
        rw [dget_kv, look_getD]
        array_get_dec
        exact ⟨by simp; omega, by array_mem_dec⟩
      array_get_dec
      refine w_daug rfl ?_
      array_get_dec
      refine ⟨kv (subD a (b.take i)), getD (subD a (b.take i)) q.1, rfl, ?_, ?_⟩
      · show some (dget _ _) = _
        rw [dget_kv, look_in hk]; rfl
      array_get_dec
      refine ⟨.int q.2, getD (subD a (b.take i)) q.1 - q.2, kv (subD a (b.take i)), [some (.fz (cE a)), some (.fz (cE b)), some (.ow false (dE (subD a (b.take (i + 1))))), some (.fz (.int q.1)), some (.fz (.int q.2))], rfl, rfl, rfl, ?_, ?_⟩
      · refine doSet_eq (s := .ow false (dE (subD a (b.take i)))) (d' := dE (subD a (b.take (i + 1)))) rfl rfl ?_
        show (if (kv _).length < sizeLine then _ else _) = _
        rw [if_pos (by rw [List.length_map, PySem.sizeLine_eq]; omega), dput_kv, Int.sub_eq_add_neg, setD_add n1, e1]
      · exact ⟨_, by array_mem_dec, rfl⟩
    · subst hI
      rw [List.take_length]
      exact ⟨rfl, by array_mem_dec⟩
  · have ld := len_subD (d := a) (L := b)
    array_get_dec
    refine w_items ?_
    array_get_dec
    refine ⟨kv (subD a b), dE (subD a b), [some (.fz (cE a)), some (.fz (cE b)), some (.fz (dE (subD a b))), none, none], rfl, rfl, by rw [items_kv]; exact wk_pI (α := Unit) _, ?_⟩
    rw [items_kv]
    refine k_lcF pI pI (fun p => decide (0 < p.2)) (e0 := [some (.fz (cE a)), some (.fz (cE b)), some (.fz (dE (subD a b))), none, none]) (size_le (by omega)) (fun p hp => ?_) ?_
    · array_get_dec
      refine ⟨rfl, k_if (fun _ => ?_) fun _ => ?_⟩
      · array_get_dec
        exact ⟨rfl, by array_mem_dec⟩
      · array_mem_dec
    array_get_dec
    refine k_blt rfl (sorted_pI (size_le (by have := List.length_filter_le (fun p : Int × Int => decide (0 < p.2)) (subD a b); omega))) ?_
    array_get_dec
    exact k_fin' rfl
/-! ### by greatest first -/
theorem Sv_le {w : Int → Int} (hw : ∀ f, 0 ≤ w f) : ∀ {cs : Cs} {v : Vec}, Fits cs v → Sv w cs v ≤ S w cs
  | [], v, _ => by simp [Sv, S]
  | c :: cs, _, ⟨x, t, e, x0, x1, h⟩ => by
    subst e
    have := Sv_le hw h
    have h2 := Int.mul_le_mul_of_nonneg_left x1 (hw c.1)
    rw [Sv_cons]; simp only [S]; omega
theorem pay_ok {cs : Cs} (h : COk cs) {v : Vec} (f : Fits cs v) : COk (pay cs v) ∧ (∀ x, cnt x (pay cs v) ≤ cnt x cs) ∧ (∀ f ∈ keys (pay cs v), f ∈ keys cs) ∧ wt (pay cs v) = wv cs v := by
  have asc := asc_pay (m := v) h.1
  have le : ∀ x, cnt x (pay cs v) ≤ cnt x cs := fun x => by
    have : cnt x (pay cs v) = Sv (ind x) cs v := S_pay _ f.nn
    rw [this]; exact Sv_le (ind_nn x) f
  have kk : ∀ f ∈ keys (pay cs v), f ∈ keys cs := fun f hf => sub_key asc h.1 le hf
  refine ⟨⟨asc, Nat.le_trans len_pay h.2.1, fun p hp => ⟨?_, ?_⟩⟩, le, kk, S_pay _ f.nn⟩
  · exact (key_ok h (kk _ (List.mem_map.mpr ⟨p, hp, rfl⟩))).2
  · have h1 := le p.1
    rw [cnt_in (asc_nd asc) hp rfl] at h1
    have := cnt_le h p.1
    omega
theorem i_by_greatest_first {cs : Cs} (h : COk cs) {as : List Int} (ha : AOk as) : ∃ (ps : List Cs) (left : Cs), ps.length ≤ as.length ∧ COk left ∧ wt left = wt cs - (as.take ps.length).sum ∧
    Is φ_by_greatest_first [.fz (cE cs), .fz (tup as)] (.fz (.tuple [.tuple (ps.map cE), cE left])) := by
  have ca : Ca φ_by_greatest_first [.fz (cE cs), .fz (tup as)] fun r _ => ∃ (ps : List Cs) (left : Cs), ps.length ≤ as.length ∧ COk left ∧ wt left = wt cs - (as.take ps.length).sum ∧ r = .fz (.tuple [.tuple (ps.map cE), cE left]) := by
    unfold φ_by_greatest_first f_by_greatest_first
    refine ca_def' rfl ?_
    array_get_dec
    refine k_call rfl rfl (i_look_at_amounts h ha) ?_
    array_get_dec
    have last : ∀ (ps : List Cs) (left : Cs), ps.length ≤ as.length → COk left → wt left = wt cs - (as.take ps.length).sum → W (vRet (vTup (vuCons (vBlt tupleF (vaCons (vVar 2) vaNil)) (vuCons (vVar 3) vuNil)))) [some (.fz (cE cs)), some (.fz (tup as)), some (.ow false (.list (ps.map cE))), some (.fz (cE left)), none, none]
        fun fl o => ∃ r, fin fl = some r ∧ ∀ outs : List SV, (∀ (i : Nat) (s : SV), i < 2 → o[i]? = some (some s) → outs[i]? = some s) → ∃ (ps : List Cs) (left : Cs), ps.length ≤ as.length ∧ COk left ∧ wt left = wt cs - (as.take ps.length).sum ∧ r = .fz (.tuple [.tuple (ps.map cE), cE left]) := by
      intro ps left h1 h2 h3
      array_get_dec
      refine k_blt rfl rfl ?_
      array_get_dec
      exact ⟨_, rfl, fun outs _ => ⟨ps, left, h1, h2, h3, rfl⟩⟩
    refine w_for ?_
    array_get_dec
    refine w_forXI PyData.int as (fun i e => ∃ (ps : List Cs) (left : Cs), ps.length = i ∧ COk left ∧ wt left = wt cs - (as.take i).sum ∧ e = [some (.fz (cE cs)), some (.fz (tup as)), some (.ow false (.list (ps.map cE))), some (.fz (cE left)), none, none])
      (e0 := [some (.fz (cE cs)), some (.fz (tup as)), some (.ow false (.list [])), some (.fz (cE cs)), none, none]) (by array_mem_dec) ⟨[], cs, rfl, h, by simp, rfl⟩ (fun i a e hi hI => ?_) (fun e hI => ?_)
    · obtain ⟨ps, left, rfl, ok, hw, rfl⟩ := hI
      have hi' := (List.getElem?_eq_some_iff.mp hi).1
      have h12 := ha.1
      have a2 := ha.2 a (List.mem_of_getElem? hi)
      rcases i_greatest_first ok a2.1 (by omega) with ⟨v, f1, f2, f3⟩ | f3
      · obtain ⟨p1, p2, p3, p4⟩ := pay_ok ok f1
        obtain ⟨w1, w2, _⟩ := wo_ok ok p1.1 p2
        array_get_dec
        refine k_call rfl rfl f3 ?_
        array_get_dec
        refine w_skip (e := [some (.fz (cE cs)), some (.fz (tup as)), some (.ow false (.list (ps.map cE))), some (.fz (cE left)), some (.fz (.int a)), some (.fz (cE (pay left v)))]) ?_ ?_
        · array_get_dec
          exact ⟨rfl, by array_mem_dec⟩
        array_get_dec
        refine k_append rfl rfl rfl (size_le (by rw [List.length_map]; omega)) ?_
        array_get_dec
        refine k_call rfl rfl (i_without ok p1 p2) ?_
        array_get_dec
        refine ⟨_, ?_, ps ++ [pay left v], finP (subD left (pay left v)), by simp, w1, ?_, rfl⟩
        · rw [List.map_append]
          array_mem_dec
        · have e1 : wt (finP (subD left (pay left v))) = wt left - wt (pay left v) := w2 _
          rw [e1, hw, p4, f2, List.take_add_one, hi]
          simp only [Option.toList_some, List.sum_append, List.sum_cons, List.sum_nil]
          omega
      · array_get_dec
        refine k_call rfl rfl f3 ?_
        array_get_dec
        refine w_if ?_
        array_get_dec
        refine k_if_t rfl ?_
        exact w_bk (k_bk <| k_nx <| W.weak (e1 := [some (.fz (cE cs)), some (.fz (tup as)), some (.ow false (.list (ps.map cE))), some (.fz (cE left)), none, none]) (by array_mem_dec) (last ps left (by omega) ok hw))
    · obtain ⟨ps, left, e1, ok, hw, rfl⟩ := hI
      exact k_nx (last ps left (by omega) ok (by rw [e1]; exact hw))
  obtain ⟨r, outs, e, ps, left, h1, h2, h3, rfl⟩ := ca
  exact ⟨ps, left, h1, h2, h3, outs, e⟩
end K47

namespace K47
open PySem PySem.Spec PyProof.Rows L2 VL
/-! ### what is lacking of a face -/
theorem add_face {sh T : Cs} (h : Asc sh) (hT : Asc T) {f k : Int} (hf : 1 ≤ f) (hk : 0 ≤ k) (e : ∀ x, cnt x T = cnt x sh + ind x f * k) : finP (addD sh f k) = T := by
  have nd := asc_nd h
  have n1 := nodup_addD (f := f) (c := k) nd
  have c1 : ∀ x, cnt x (addD sh f k) = cnt x sh + ind x f * k := fun x => S_addD _ nd
  have en : ∀ p ∈ addD sh f k, 1 ≤ p.1 ∧ 0 ≤ p.2 := fun p hp => by
    have h1 := cnt_in n1 hp rfl
    have h2 := c1 p.1
    have h3 := cnt_nn h p.1
    have h4 := Int.mul_nonneg (ind_nn p.1 f) hk
    refine ⟨?_, by omega⟩
    have : p.1 ∈ keys (addD sh f k) := List.mem_map.mpr ⟨p, hp, rfl⟩
    rcases mem_keys_addD.mp this with z | z
    · obtain ⟨q, hq, e⟩ := List.mem_map.mp z
      rw [← e]; exact (h.2 q hq).1
    · omega
  refine asc_ext (finP_asc n1 fun p hp => (en p hp).1) hT fun x => ?_
  have : cnt x (finP (addD sh f k)) = cnt x (addD sh f k) := finP_S _ fun p hp => (en p hp).2
  rw [this, c1, e]
theorem range21 : rangeD 0 1 21 = (List.range 21).map fun (k : Nat) => PyData.int (k : Int) := range01 21
theorem i_lacking_for {sh cs : Cs} {f : Int} {as : List Int} (h : COk sh) (hcs : COk cs) (hs : size sh ≤ 4000) (hs2 : size cs ≤ 4000) (hf : 1 ≤ f ∧ f ≤ 2000) (ha : AOk as) (e : ∀ x, cnt x cs = cnt x sh + ind x f) (n0 : paidN sh as ≠ as.length) (n1 : paidN cs as = as.length) :
    Is φ_lacking_for [.fz (cE sh), .fz (.int f), .fz (tup as)] (.fz (.int 1)) := by
  have nd := asc_nd h.1
  have l12 := h.2.1
  unfold φ_lacking_for f_lacking_for
  refine is_def' rfl ?_
  array_get_dec
  refine k_call rfl rfl (i_look_at_coins h) ?_
  array_get_dec
  refine w_skip (e := [some (.fz (cE sh)), some (.fz (.int f)), some (.fz (tup as)), none, none, none, none, none]) ?_ ?_
  · array_get_dec
    refine k_call rfl rfl (i_is_int _ _ _) ?_
    array_get_dec
    exact ⟨by simp; omega, by array_mem_dec⟩
  array_get_dec
  refine k_call rfl rfl (i_look_at_asked h ha hs) ?_
  array_get_dec
  refine w_for ?_
  array_get_dec
  refine k_rng1 (by decide) ?_
  rw [show (21 : Int).toNat = 21 from rfl, range21]
  refine w_forXI (fun (k : Nat) => PyData.int (k : Int)) (List.range 21) (fun i e => i ≤ 1 ∧ e = [some (.fz (cE sh)), some (.fz (.int f)), some (.fz (tup as)), none, none, none, none, none])
    (e0 := [some (.fz (cE sh)), some (.fz (.int f)), some (.fz (tup as)), none, none, none, none, none]) (by array_mem_dec) ⟨by omega, rfl⟩ (fun i k e hi hI => ?_) (fun e hI => ?_)
  · obtain ⟨i1, rfl⟩ := hI
    have ek : k = i := by
      rw [List.getElem?_range (by omega)] at hi
      exact (Option.some.inj hi).symm
    subst ek
    obtain ⟨T, t1, t2, t3, t4⟩ : ∃ T, finP (addD sh f (k : Int)) = T ∧ COk T ∧ size T ≤ 4000 ∧ (k = 0 ∧ paidN T as ≠ as.length ∨ k = 1 ∧ paidN T as = as.length) := by
      rcases (show k = 0 ∨ k = 1 by omega) with rfl | rfl
      · exact ⟨sh, add_face h.1 h.1 hf.1 (by simp) (fun x => by simp), h, hs, .inl ⟨rfl, n0⟩⟩
      · exact ⟨cs, add_face h.1 hcs.1 hf.1 (by simp) (fun x => by rw [e]; simp), hcs, hs2, .inr ⟨rfl, n1⟩⟩
    have ld := len_addD (d := sh) (f := f) (c := (k : Int))
    array_get_dec
    refine k_blt rfl (dictF_cE nd h.len) ?_
    array_get_dec
    refine w_dget ?_
    array_get_dec
    refine ⟨⟨_, rfl⟩, ?_⟩
    array_get_dec
    refine k_dget rfl rfl ?_
    rw [dget_kv, look_getD]
    array_get_dec
    refine ⟨rfl, ?_⟩
    array_get_dec
    refine k_store rfl rfl (d' := dE (addD sh f (k : Int))) ?_ ?_
    · show (if (kv _).length < sizeLine then _ else _) = _
      rw [if_pos (by rw [List.length_map, PySem.sizeLine_eq]; omega), dput_kv, setD_add nd]
    array_get_dec
    refine w_items ?_
    array_get_dec
    refine ⟨kv (addD sh f (k : Int)), dE (addD sh f (k : Int)), [some (.fz (cE sh)), some (.fz (.int f)), some (.fz (tup as)), some (.fz (.int (k : Int))), some (.fz (dE (addD sh f (k : Int)))), none, none, none], rfl, rfl, by rw [items_kv]; exact wk_pI (α := Unit) _, ?_⟩
    rw [items_kv]
    refine k_lcF pI pI (fun p => decide (0 < p.2)) (e0 := [some (.fz (cE sh)), some (.fz (.int f)), some (.fz (tup as)), some (.fz (.int (k : Int))), some (.fz (dE (addD sh f (k : Int)))), none, none, none]) (size_le (by omega)) (fun p hp => ?_) ?_
    · array_get_dec
      refine ⟨rfl, k_if (fun _ => ?_) fun _ => ?_⟩
      · array_get_dec
        exact ⟨rfl, by array_mem_dec⟩
      · array_mem_dec
    array_get_dec
    refine k_blt rfl (sorted_pI (size_le (by have := List.length_filter_le (fun p : Int × Int => decide (0 < p.2)) (addD sh f (k : Int)); omega))) ?_
    rw [show srtP ((addD sh f (k : Int)).filter fun p => decide (0 < p.2)) = T from t1]
    array_get_dec
    refine k_call rfl rfl (i_look_at_asked t2 ha t3) ?_
    array_get_dec
    refine w_if ?_
    array_get_dec
    refine k_call rfl rfl (i_told_rows t2 t3 ha) ?_
    array_get_dec
    refine k_len rfl rfl ?_
    array_get_dec
    rcases t4 with ⟨rfl, t4⟩ | ⟨rfl, t4⟩
    · refine k_if_f (by simp [paidN] at t4 ⊢; omega) ?_
      array_get_dec
      exact ⟨_, by array_mem_dec, by omega, rfl⟩
    · refine k_if_t (by simp [paidN] at t4 ⊢; omega) ?_
      array_get_dec
      exact k_fin' rfl
  · obtain ⟨i1, _⟩ := hI
    simp at i1
/-! ### what is drawn: a sequence of all -/
theorem pop_at {xs : List PyData} {v : Int} {x : PyData} (h0 : 0 ≤ v) (h : xs[v.toNat]? = some x) (hl : xs.length ≤ 100000) : popAtG false (.list xs) [.int v] = some (x, .list (xs.eraseIdx v.toNat)) := by
  have hv := (List.getElem?_eq_some_iff.mp h).1
  show (if (decide (-(2 ^ 63) ≤ v) && decide (v < 2 ^ 63)) = true then _ else _) = _
  rw [if_pos (by simp; omega)]
  have : PySem.seqIndex? v xs.length = some v.toNat := by
    unfold PySem.seqIndex?
    simp
    omega
  rw [this, Option.bind_some, h]; rfl
theorem perm_pop {α : Type} {found rest : List α} {k : Nat} {x : α} (h : rest[k]? = some x) {ps : List α} (p : (found ++ rest).Perm ps) : ((found ++ [x]) ++ rest.eraseIdx k).Perm ps := by
  refine List.Perm.trans ?_ p
  rw [List.append_assoc]
  refine List.Perm.append_left _ ?_
  have hk := (List.getElem?_eq_some_iff.mp h).1
  have e : rest = rest.take k ++ x :: rest.drop (k + 1) := by rw [← drop_at h, List.take_append_drop]
  rw [List.eraseIdx_eq_take_drop_succ]
  conv => rhs; rw [e]
  show (x :: (rest.take k ++ rest.drop (k + 1))).Perm _
  exact List.perm_middle.symm
theorem i_law_some {n0 : Nat} {d : PyData} {ps : List Cs} (hd : PotOk n0 d) (hn : n0 + ps.length < 1000000) (hl : ps.length ≤ 12) :
    Ca φ__law_some [.pw false d, .fz (.list (ps.map cE)), .fz (.int ps.length)] fun r outs => ∃ (ms : List Cs) (d' : PyData), ms.Perm ps ∧ r = .ow false (.list (ms.map cE)) ∧ PotOk (n0 + ps.length) d' ∧ ∃ t, outs = .pw false d' :: t := by
  unfold φ__law_some f__law_some
  refine ca_def' rfl ?_
  array_get_dec
  refine k_blt rfl rfl ?_
  array_get_dec
  refine w_for ?_
  array_get_dec
  refine k_rng1 (by simp [in62]; omega) ?_
  rw [range01]
  refine w_forXI (fun (k : Nat) => PyData.int (k : Int)) (List.range (ps.length : Int).toNat) (fun i e => ∃ (d' : PyData) (found rest : List Cs), PotOk (n0 + i) d' ∧ (found ++ rest).Perm ps ∧ found.length = i ∧ e = [some (.pw false d'), some (.fz (.list (ps.map cE))), some (.fz (.int ps.length)), some (.ow false (.list (rest.map cE))), some (.ow false (.list (found.map cE))), none])
    (e0 := [some (.pw false d), some (.fz (.list (ps.map cE))), some (.fz (.int ps.length)), some (.ow false (.list (ps.map cE))), some (.ow false (.list [])), none]) (by array_mem_dec) ⟨d, [], ps, hd, by simp, rfl, rfl⟩ (fun i k e hi hI => ?_) (fun e hI => ?_)
  · obtain ⟨d', found, rest, hp, pm, rfl, rfl⟩ := hI
    have hi' : found.length < ps.length := by
      have := (List.getElem?_eq_some_iff.mp hi).1
      simpa using this
    have hlen := pm.length_eq
    rw [List.length_append] at hlen
    array_get_dec
    refine k_len rfl rfl ?_
    array_get_dec
    refine k_take hp (by omega) (by rw [List.length_map]; omega) (by rw [List.length_map]; omega) (fun v d2 v0 v1 hp2 => ?_)
    rw [List.length_map] at v1
    obtain ⟨x, hx⟩ : ∃ x, rest[v.toNat]? = some x := ⟨_, List.getElem?_eq_getElem (by omega)⟩
    array_get_dec
    refine k_mut (r := cE x) (d := .list ((rest.eraseIdx v.toNat).map cE)) rfl rfl ?_ ?_
    · show popAtG false (.list (rest.map cE)) [.int v] = _
      rw [pop_at v0 (x := cE x) (by rw [List.getElem?_map, hx]; rfl) (by rw [List.length_map]; omega), List.eraseIdx_eq_take_drop_succ, List.eraseIdx_eq_take_drop_succ, List.map_append, List.map_take, List.map_drop]
    array_get_dec
    refine k_append rfl rfl rfl (size_le (by rw [List.length_map]; omega)) ?_
    array_get_dec
    refine ⟨_, ?_, d2, found ++ [x], rest.eraseIdx v.toNat, hp2, perm_pop hx pm, by simp, rfl⟩
    rw [List.map_append]
    array_mem_dec
  · obtain ⟨d', found, rest, hp, pm, e1, rfl⟩ := hI
    rw [List.length_range] at e1 hp
    have e1 : found.length = ps.length := by simpa using e1
    have hp : PotOk (n0 + ps.length) d' := by simpa using hp
    have hlen := pm.length_eq
    rw [List.length_append] at hlen
    have : rest = [] := List.length_eq_zero_iff.mp (by omega)
    subst this
    rw [List.append_nil] at pm
    refine k_nx ?_
    array_get_dec
    exact ⟨_, rfl, fun outs ho => ⟨found, d', pm, rfl, hp, get0 (ho 0 _ (by omega) rfl)⟩⟩
end K47

namespace K47
open PySem PySem.Spec PyProof.Rows L2 VL
/-! ### sizes as products over faces -/
def pf (g : Int → Nat) : List Int → Nat
  | [] => 1
  | f :: F => g f * pf g F
theorem pf_congr {g h : Int → Nat} : ∀ {F : List Int}, (∀ f ∈ F, g f = h f) → pf g F = pf h F
  | [], _ => rfl
  | f :: F, e => by rw [pf, pf, e f (by simp), pf_congr fun x hx => e x (by simp [hx])]
theorem pf_mono {g h : Int → Nat} : ∀ {F : List Int}, (∀ f ∈ F, g f ≤ h f) → pf g F ≤ pf h F
  | [], _ => Nat.le_refl _
  | f :: F, e => Nat.mul_le_mul (e f (by simp)) (pf_mono fun x hx => e x (by simp [hx]))
theorem pf_erase {g : Int → Nat} {f : Int} : ∀ {F : List Int}, f ∈ F → pf g F = g f * pf g (F.erase f)
  | x :: F, h => by
    by_cases e : x = f
    · subst e; rw [List.erase_cons_head]; rfl
    · have hm : f ∈ F := by
        rcases List.mem_cons.mp h with z | z
        · exact absurd z.symm e
        · exact z
      rw [List.erase_cons_tail (by simp [e]), pf, pf, pf_erase hm]
      simp only [← Nat.mul_assoc]
      rw [Nat.mul_comm (g x)]
theorem pf_one {g : Int → Nat} : ∀ {F : List Int}, (∀ f ∈ F, g f = 1) → pf g F = 1
  | [], _ => rfl
  | f :: F, e => by rw [pf, e f (by simp), pf_one fun x hx => e x (by simp [hx])]
abbrev cn (cs : Cs) (f : Int) : Nat := (cnt f cs + 1).toNat
theorem size_pf : ∀ {cs : Cs} {F : List Int}, F.Nodup → Asc cs → (∀ f ∈ keys cs, f ∈ F) → size cs = pf (cn cs) F
  | [], F, _, _, _ => by rw [pf_one (g := cn []) fun f _ => rfl]; rfl
  | c :: cs, F, n, h, k => by
    have hc : c.1 ∈ F := k c.1 (by simp [keys])
    have no : c.1 ∉ keys cs := (List.nodup_cons.mp (asc_nd h)).1
    have ih := size_pf (cs := cs) (F := F.erase c.1) (n.erase _) h.tail fun f hf => (List.mem_erase_of_ne (fun z => no (by rw [← z]; exact hf))).mpr (k f (by simp only [keys, List.map_cons, List.mem_cons]; exact .inr hf))
    rw [size, ih, pf_erase hc]
    congr 1
    · have : cnt c.1 (c :: cs) = c.2 := by rw [cnt_cons, cnt_out no]; simp [ind]
      rw [cn, this]
    · refine pf_congr fun f hf => ?_
      have ne : c.1 ≠ f := fun z => by
        subst z
        exact (List.Nodup.not_mem_erase n) hf
      have : cnt f (c :: cs) = cnt f cs := by rw [cnt_cons]; simp [ind, ne]
      rw [cn, cn, this]
theorem size_more {cs t : Cs} {F : List Int} (n : F.Nodup) (l3 : F.length ≤ 3) (h : Asc cs) (ht : Asc t) (k : ∀ f ∈ keys cs, f ∈ F) (kt : ∀ f ∈ keys t, f ∈ F) (hs : size cs ≤ 300) (hc : ∀ x, cnt x t ≤ cnt x cs + 2) : size t ≤ 4000 := by
  rw [size_pf n ht kt]
  rw [size_pf n h k] at hs
  have one : ∀ f, 1 ≤ cn cs f := fun f => by have := cnt_nn h f; unfold cn; omega
  have m : pf (cn t) F ≤ pf (fun f => cn cs f + 2) F := pf_mono fun f _ => by have := hc f; have := cnt_nn h f; unfold cn; omega
  refine Nat.le_trans m ?_
  match F, l3 with
  | [], _ => simp [pf]
  | [x], _ => simp only [pf] at hs ⊢; omega
  | [x, y], _ =>
    have := grow2 (one x) (one y)
    simp only [pf, Nat.mul_one] at hs ⊢
    omega
  | [x, y, z], _ =>
    simp only [pf, Nat.mul_one] at hs ⊢
    have := grow3 (one x) (one y) (one z) (by rw [Nat.mul_assoc]; exact hs)
    rw [Nat.mul_assoc] at this
    omega
/-! ### what is made -/
structure Faces (F : List Int) : Prop where
  pw : F.Pairwise (· < ·)
  l3 : F.length ≤ 3
  le : ∀ f ∈ F, 1 ≤ f ∧ f ≤ 9
theorem Faces.nd {F : List Int} (h : Faces F) : F.Nodup := h.pw.imp fun {a b} l z => by omega
structure Small (F : List Int) (p : Cs) : Prop where
  sub : (keys p).Sublist F
  two : ∀ q ∈ p, 1 ≤ q.2 ∧ q.2 ≤ 2
theorem small_ok {F : List Int} (hF : Faces F) {p : Cs} (h : Small F p) : COk p ∧ many p ≤ 6 ∧ (∀ x, cnt x p ≤ 2) ∧ 0 ≤ wt p ∧ wt p ≤ 54 := by
  have kF : ∀ q ∈ p, 1 ≤ q.1 ∧ q.1 ≤ 9 := fun q hq => hF.le _ (h.sub.mem (List.mem_map.mpr ⟨q, hq, rfl⟩))
  have l3 : p.length ≤ 3 := by
    have := h.sub.length_le
    unfold keys at this
    rw [List.length_map] at this
    exact Nat.le_trans this hF.l3
  have pw : p.Pairwise (fun a b => a.1 < b.1) := by
    have := hF.pw.sublist h.sub
    unfold keys at this
    rwa [List.pairwise_map] at this
  have asc : Asc p := ⟨pw, fun q hq => ⟨(kF q hq).1, (h.two q hq).1⟩⟩
  have bd : ∀ (w : Int → Int) (M : Int), (∀ f, 1 ≤ f → f ≤ 9 → 0 ≤ w f ∧ w f ≤ M) → ∀ r : Cs, (∀ q ∈ r, 1 ≤ q.1 ∧ q.1 ≤ 9 ∧ 1 ≤ q.2 ∧ q.2 ≤ 2) → 0 ≤ S w r ∧ S w r ≤ M * 2 * r.length := by
    intro w M hw r
    induction r with
    | nil => intro _; simp [S]
    | cons q r ih =>
      intro hr
      have h1 := ih fun q hq => hr q (by simp [hq])
      have h2 := hr q (by simp)
      have h3 := hw q.1 h2.1 h2.2.1
      have h4 : w q.1 * q.2 ≤ M * 2 := Int.le_trans (Int.mul_le_mul_of_nonneg_left h2.2.2.2 h3.1) (Int.mul_le_mul_of_nonneg_right h3.2 (by omega))
      have h5 : 0 ≤ w q.1 * q.2 := Int.mul_nonneg h3.1 (by omega)
      simp only [S, List.length_cons]
      rw [show ((r.length + 1 : Nat) : Int) = (r.length : Int) + 1 by omega, Int.mul_add]
      omega
  have all : ∀ q ∈ p, 1 ≤ q.1 ∧ q.1 ≤ 9 ∧ 1 ≤ q.2 ∧ q.2 ≤ 2 := fun q hq => by have := kF q hq; have := h.two q hq; omega
  have b1 := bd (fun _ => 1) 1 (fun _ _ _ => by omega) p all
  have b2 := bd (fun f => f) 9 (fun _ _ _ => by omega) p all
  refine ⟨⟨asc, by omega, fun q hq => by have := all q hq; omega⟩, ?_, fun x => ?_, b2.1, ?_⟩
  · show S (fun _ => 1) p ≤ 6
    omega
  · by_cases z : x ∈ keys p
    · obtain ⟨q, hq, e⟩ := List.mem_map.mp z
      rw [cnt_in (asc_nd asc) hq e]; exact (h.two q hq).2
    · rw [cnt_out z]; omega
  · show S (fun f => f) p ≤ 54
    omega
structure Made (F : List Int) (ps : List Cs) (cs : Cs) : Prop where
  fc : Faces F
  ok : COk cs
  sz : size cs ≤ 300
  kF : ∀ f ∈ keys cs, f ∈ F
  all : ∀ p ∈ ps, Small F p ∧ ∀ f ∈ keys p, f ∈ keys cs
  sums : ∀ w, S w cs = (ps.map (S w)).sum
theorem made_many {F : List Int} {ps : List Cs} {cs : Cs} (h : Made F ps cs) : many cs ≤ 6 * ps.length := by
  show S (fun _ => 1) cs ≤ _
  rw [h.sums]
  have : ∀ ps : List Cs, (∀ p ∈ ps, many p ≤ 6) → (ps.map (S fun _ => 1)).sum ≤ 6 * (ps.length : Int) := by
    intro ps
    induction ps with
    | nil => intro _; simp
    | cons p ps ih =>
      intro hp
      have h1 := ih fun p h => hp p (by simp [h])
      have h2 : S (fun _ => 1) p ≤ 6 := hp p (by simp)
      simp only [List.map_cons, List.sum_cons, List.length_cons]
      omega
  exact this ps fun p hp => (small_ok h.fc (h.all p hp).1).2.1
theorem made_first {F : List Int} (h : Faces F) : Made F [] [] := ⟨h, ⟨⟨by simp, by simp⟩, by simp, by simp⟩, by simp [size], by simp [keys], by simp, fun w => by simp [S]⟩
theorem made_next {F : List Int} {ps : List Cs} {cs p t : Cs} (h : Made F ps cs) (hp : Small F p) (tg : Tog cs p t) (okt : COk t) (sz : size t ≤ 300) : Made F (ps ++ [p]) t := by
  refine ⟨h.fc, okt, sz, fun f hf => ?_, fun q hq => ?_, fun w => ?_⟩
  · rcases (tg.key f).mp hf with z | z
    · exact h.kF f z
    · exact hp.sub.mem z
  · rcases List.mem_append.mp hq with hq | hq
    · exact ⟨(h.all q hq).1, fun f hf => (tg.key f).mpr (.inl ((h.all q hq).2 f hf))⟩
    · simp at hq; subst hq
      exact ⟨hp, fun f hf => (tg.key f).mpr (.inr hf)⟩
  · rw [tg.S, h.sums]; simp
theorem made_size {F : List Int} {ps : List Cs} {cs p t : Cs} (h : Made F ps cs) (kp : ∀ f ∈ keys p, f ∈ F) (hp : ∀ x, cnt x p ≤ 2) (tg : Tog cs p t) : size t ≤ 4000 := by
  refine size_more h.fc.nd h.fc.l3 h.ok.1 tg.asc h.kF (fun f hf => ?_) h.sz fun x => ?_
  · rcases (tg.key f).mp hf with z | z
    · exact h.kF f z
    · exact kp f z
  · have : cnt x t = cnt x cs + cnt x p := tg.S _
    have := hp x
    omega
/-- one more face, or not -/
theorem small_take {F : List Int} {i : Nat} {f : Int} (h : F[i]? = some f) {p : Cs} (hp : Small (F.take i) p) {c : Int} (hc : 1 ≤ c ∧ c ≤ 2) : Small (F.take (i + 1)) (p ++ [(f, c)]) ∧ Small (F.take (i + 1)) p := by
  have e : F.take (i + 1) = F.take i ++ [f] := by rw [List.take_add_one, h]; rfl
  refine ⟨⟨?_, fun q hq => ?_⟩, ⟨?_, hp.two⟩⟩
  · rw [e]
    unfold keys
    rw [List.map_append]
    exact List.Sublist.append hp.sub (List.Sublist.refl _)
  · rcases List.mem_append.mp hq with hq | hq
    · exact hp.two q hq
    · simp at hq; subst hq; exact hc
  · rw [e]
    exact hp.sub.trans (List.sublist_append_left _ _)
theorem i_law_made {n : Nat} {d : PyData} (hd : PotOk n d) (hn : n + 200 < 1000000) :
    Ca φ__law_made [.pw false d] fun r outs => ∃ (F : List Int) (ps : List Cs) (cs : Cs) (d' : PyData), Made F ps cs ∧ ps.length ≤ 12 ∧ r = .fz (.tuple [.list (ps.map cE), cE cs]) ∧ PotOk (n + 100) d' ∧ ∃ t, outs = .pw false d' :: t := by
  unfold φ__law_made f__law_made
  refine ca_def' rfl ?_
  array_get_dec
  refine k_rng1 (by decide) ?_
  refine k_lcJ (fun i acc e => ∃ (d' : PyData) (xs : List Int), acc = xs.map .int ∧ xs.length = i ∧ (∀ x ∈ xs, 1 ≤ x ∧ x ≤ 9) ∧ PotOk (n + i) d' ∧ e = [some (.pw false d'), none, none, none, none, none, none, none, none]) (e0 := [some (.pw false d), none, none, none, none, none, none, none, none]) (by array_mem_dec) ⟨d, [], rfl, rfl, by simp, hd, rfl⟩ (fun i dd acc e hdd hI => ?_) (fun acc e2 hI => ?_)
  · obtain ⟨d', xs, rfl, rfl, hxs, hp, rfl⟩ := hI
    have hi : xs.length < 3 := by
      have := (List.getElem?_eq_some_iff.mp hdd).1
      simpa [rangeD] using this
    array_get_dec
    refine k_if_t rfl ⟨by rw [List.length_map, PySem.sizeLine_eq]; omega, ?_⟩
    array_get_dec
    refine k_take hp (by omega) (by omega) (by omega) (fun b d3 b0 b1 hp3 => ?_)
    array_get_dec
    refine ⟨_, by array_mem_dec, d3, xs ++ [1 + b], by simp, by simp, fun y hy => ?_, hp3, rfl⟩
    rcases List.mem_append.mp hy with hy | hy
    · exact hxs y hy
    · simp at hy; omega
  obtain ⟨d1, xs, rfl, hxl, hxs, hp1, rfl⟩ := hI
  have hxl : xs.length = 3 := by simpa [rangeD] using hxl
  refine ⟨⟨rfl, fun v hv => by simp at hv; subst hv; rfl⟩, ?_⟩
  array_get_dec
  have hF : Faces (ssI xs) := ⟨pw_ssI xs, by have := len_ssI xs; omega, fun f hf => hxs f (mem_ssI.mp hf)⟩
  refine k_ss (xs := xs) rfl rfl (by have := hF.l3; omega) (by omega) ?_
  have hp1 := pot_mono (m := n + 3) hp1 (by simp [rangeD])
  generalize ssI xs = F at *
  clear hxs
  array_get_dec
  refine w_for ?_
  array_get_dec
  refine k_take hp1 (by omega) (by omega) (by omega) (fun b d2 b0 b1 hp2 => ?_)
  array_get_dec
  refine k_rng1 (by simp [in62]; omega) ?_
  rw [range01]
  refine w_forXI (fun (k : Nat) => PyData.int (k : Int)) (List.range (1 + b).toNat) (fun i e => ∃ (d' : PyData) (s1 : SV) (ps : List Cs) (cs : Cs), (s1 = .ow false (.list (F.map .int)) ∨ s1 = .fz (.list (F.map .int))) ∧ PotOk (n + 4 + 6 * i) d' ∧ Made F ps cs ∧ ps.length ≤ i ∧
      e = [some (.pw false d'), some s1, some (.ow false (.list (ps.map cE))), some (.fz (cE cs)), none, none, none, none, none])
    (e0 := [some (.pw false d2), some (.ow false (.list (F.map .int))), some (.ow false (.list [])), some (.fz (cE [])), none, none, none, none, none]) (by array_mem_dec) ⟨d2, _, [], [], .inl rfl, hp2, made_first hF, by simp, rfl⟩ (fun i k e hi hI => ?_) (fun e hI => ?_)
  · obtain ⟨d', s1, ps, cs, hs1, hp, md, hpl, rfl⟩ := hI
    have hi' : i < 12 := by
      have := (List.getElem?_eq_some_iff.mp hi).1
      rw [List.length_range] at this
      omega
    have l3 := hF.l3
    rcases hs1 with rfl | rfl
    all_goals
      array_get_dec
      refine k_lcJ (fun j acc e => ∃ (d' : PyData) (p : Cs), acc = p.map pI ∧ Small (F.take j) p ∧ PotOk (n + 4 + 6 * i + 2 * j) d' ∧ e = [some (.pw false d'), some (.fz (.list (F.map .int))), some (.ow false (.list (ps.map cE))), some (.fz (cE cs)), some (.fz (.int (k : Int))), none, none, none, none])
        (e0 := [some (.pw false d'), some (.fz (.list (F.map .int))), some (.ow false (.list (ps.map cE))), some (.fz (cE cs)), some (.fz (.int (k : Int))), none, none, none, none]) (by array_mem_dec) ⟨d', [], rfl, ⟨by simp [keys], by simp⟩, hp, rfl⟩ (fun j dd acc e hdd hI => ?_) (fun acc e2 hI => ?_)
      · obtain ⟨d3, p, rfl, sm, hp3, rfl⟩ := hI
        have hj : j < F.length := by
          have := (List.getElem?_eq_some_iff.mp hdd).1
          simpa using this
        obtain ⟨f, hf, rfl⟩ : ∃ f, F[j]? = some f ∧ dd = .int f := by
          rw [List.getElem?_map] at hdd
          cases hz : F[j]? with
          | none => rw [hz] at hdd; cases hdd
          | some f => rw [hz] at hdd; cases hdd; exact ⟨f, rfl, rfl⟩
        have pl : p.length ≤ 3 := by
          have := sm.sub.length_le
          unfold keys at this
          rw [List.length_map, List.length_take] at this
          omega
        array_get_dec
        refine k_take hp3 (by omega) (by omega) (by omega) (fun c d4 c0 c1 hp4 => ?_)
        array_get_dec
        refine k_if (fun _ => ⟨size_le (by rw [List.length_map]; omega), ?_⟩) fun _ => ?_
        · array_get_dec
          refine k_take hp4 (by omega) (by omega) (by omega) (fun g d5 g0 g1 hp5 => ?_)
          array_get_dec
          exact ⟨_, by array_mem_dec, d5, p ++ [(f, 1 + g)], by simp, (small_take hf sm ⟨by omega, by omega⟩).1, pot_mono hp5 (by omega), rfl⟩
        · exact ⟨_, by array_mem_dec, d4, p, rfl, (small_take hf sm (c := 1) ⟨by omega, by omega⟩).2, pot_mono hp4 (by omega), rfl⟩
      · obtain ⟨d3, p, rfl, sm, hp3, rfl⟩ := hI
        rw [List.length_map, List.take_length] at sm
        rw [List.length_map] at hp3
        refine ⟨⟨rfl, fun v hv => by simp at hv; subst hv; rfl⟩, ?_⟩
        array_get_dec
        obtain ⟨okp, mp, c2, w0, w1⟩ := small_ok hF sm
        obtain ⟨t, _, tg, okt, ht⟩ := i_together md.ok okp ⟨F, by omega, fun x hx => by rcases hx with hx | hx; exact md.kF x hx; exact sm.sub.mem hx⟩ (by have := made_many md; omega)
        have szt := made_size md (fun f hf => sm.sub.mem hf) c2 tg
        refine k_call rfl rfl ht ?_
        array_get_dec
        refine w_if ?_
        array_get_dec
        refine k_call rfl rfl (i_lots_of okt szt) ?_
        array_get_dec
        refine k_if (fun q => ?_) fun q => ?_
        · have q : size t ≤ 300 := by have := of_decide_eq_true q; omega
          array_get_dec
          refine k_addL (xs := ps.map cE) (ys := [cE p]) rfl rfl (size_le (by simp; omega)) ?_
          array_get_dec
          refine ⟨_, ?_, d3, _, ps ++ [p], t, .inr rfl, pot_mono hp3 (by omega), made_next md sm tg okt q, by simp; omega, rfl⟩
          rw [List.map_append]
          array_mem_dec
        · array_get_dec
          exact ⟨_, by array_mem_dec, d3, _, ps, cs, .inr rfl, pot_mono hp3 (by omega), md, by omega, rfl⟩
  · obtain ⟨d', s1, ps, cs, hs1, hp, md, hpl, rfl⟩ := hI
    rw [List.length_range] at hpl hp
    refine k_nx ?_
    rcases hs1 with rfl | rfl
    all_goals
      array_get_dec
      exact ⟨_, rfl, fun outs ho => ⟨F, ps, cs, d', md, by omega, rfl, pot_mono hp (by omega), get0 (ho 0 _ (by omega) rfl)⟩⟩
end K47

namespace K47
open PySem PySem.Spec PyProof.Rows L2 VL
theorem shT_cs (cs : Cs) : SeqAt.shaped (cE cs) = true := by
  have h1 : ∀ cs : Cs, PyData.canLayAll0 (cs.map pI) = true := by
    intro cs; induction cs with
    | nil => simp [PyData.canLayAll0]
    | cons p cs ih => simp [PyData.canLayAll0, PyData.canLay0, ih]
  have h2 : ∀ cs : Cs, PyData.depthAll (cs.map pI) ≤ 2 := by
    intro cs; induction cs with
    | nil => simp [PyData.depthAll]
    | cons p cs ih => simp [PyData.depthAll, PyData.depth]; omega
  have h3 := h2 cs
  simp [SeqAt.shaped, PyData.canLay0, h1, PyData.depth]; omega
theorem cutN_ints (xs : List Int) (n : Nat) : VL.cutD (xs.map PyData.int) none (some (n : Int)) = (xs.take n).map PyData.int := by
  unfold VL.cutD
  have e1 : HT.sIx (xs.map PyData.int).length (xs.map PyData.int).length (some (n : Int)) = min n xs.length := by
    unfold HT.sIx; simp
    omega
  have e2 : HT.sIx (xs.map PyData.int).length 0 none = 0 := by
    unfold HT.sIx; simp
  rw [e1, e2, Nat.sub_zero, List.drop_zero, ← List.map_take]
  congr 1
  rcases Nat.lt_or_ge n xs.length with c | c
  · rw [Nat.min_eq_left (by omega)]
  · rw [Nat.min_eq_right c, List.take_length, List.take_of_length_le c]
theorem good_map : ∀ {cs : Cs} {ms : List Vec} {as : List Int}, Good cs ms as → as = ms.map (wv cs) ∧ ∀ m ∈ ms, Fits cs m
  | _, [], as, h => by
    have : as = [] := h
    subst this; exact ⟨rfl, by simp⟩
  | cs, m :: ms, as, ⟨a, t, e, f, w, g⟩ => by
    obtain ⟨e1, e2⟩ := good_map g
    subst e1 e w
    exact ⟨rfl, fun x hx => by
      rcases List.mem_cons.mp hx with rfl | hx
      · exact f
      · exact e2 x hx⟩
theorem sum_perm2 {α : Type} (f : α → Int) {as bs : List α} (h : as.Perm bs) : (as.map f).sum = (bs.map f).sum := VL.sum_perm (h.map f)
abbrev Lq (d : PyData) (s2 s3 s4 s5 s6 s7 s8 s9 s10 s11 : Option SV) : EV := [some (.pw false d), none, s2, s3, s4, s5, s6, s7, s8, s9, s10, s11, none]
abbrev told (vs : List PyData) : PyData := .tuple [.str "paid", .tuple vs]
theorem k_sumT {e : EV} {Q : R → EV → Prop} {rs : List R} {xs : List Int} (h : rdAll e rs = some [tup xs]) (q : Q (.fz (.int xs.sum)) e) : kBlt sumF Q rs e := k_blt h (by simp [sumF, ints_self, tup]) q
/-- what a law's lap needs of what was made -/
structure Mixed (F : List Int) (cs : Cs) (ms : List Cs) : Prop where
  fc : Faces F
  ok : COk cs
  sz : size cs ≤ 300
  kF : ∀ f ∈ keys cs, f ∈ F
  all : ∀ p ∈ ms, COk p ∧ (∀ f ∈ keys p, f ∈ keys cs)
  sums : ∀ w, S w cs = (ms.map (S w)).sum
  as : AOk (ms.map wt)
  many : many cs ≤ 72
theorem mixed_of {F : List Int} {ps ms : List Cs} {cs : Cs} (h : Made F ps cs) (hl : ps.length ≤ 12) (pm : ms.Perm ps) : Mixed F cs ms := by
  refine ⟨h.fc, h.ok, h.sz, h.kF, fun p hp => ?_, fun w => ?_, ⟨?_, fun a ha => ?_⟩, by have := made_many h; omega⟩
  · have := h.all p (pm.mem_iff.mp hp)
    exact ⟨(small_ok h.fc this.1).1, this.2⟩
  · rw [h.sums, sum_perm2 (S w) pm]
  · rw [List.length_map, pm.length_eq]; exact hl
  · obtain ⟨p, hp, rfl⟩ := List.mem_map.mp ha
    have := small_ok h.fc (h.all p (pm.mem_iff.mp hp)).1
    omega
theorem right {d : PyData} (hd : PotOk 0 d) : Is φ__law_right [.pw false d] (.fz (.bool true)) := by
  unfold φ__law_right f__law_right
  refine is_def' rfl ?_
  array_get_dec
  refine w_for ?_
  array_get_dec
  refine k_rng1 (by decide) ?_
  refine w_forI (k := 0) (fun i e => ∃ d', PotOk (200 * i) d' ∧ e = Lq d' none none none none none none none none none none) (Le.refl _) ⟨d, hd, rfl⟩ (fun i dd e hdd hI => ?_) (fun e hI => ?_)
  · obtain ⟨d', hp, rfl⟩ := hI
    have hi : i < 4 := by have := (List.getElem?_eq_some_iff.mp hdd).1; simpa [rangeD] using this
    rw [Nat.zero_add] at *
    have goal : ∀ (fl : Fl) (e : EV), (fl = .nx ∨ fl = .ct) → (∃ d2, PotOk (200 * i + 150) d2 ∧ Le (Lq d2 none none none none none none none none none none) e) →
        LP (fun e => ∃ d', PotOk (200 * (i + 1)) d' ∧ e = Lq d' none none none none none none none none none none) (kSeq (vRet (vC (.bool true))) (Fin (.fz (.bool true)))) fl e := by
      rintro fl e (rfl | rfl) ⟨d2, h1, h2⟩
      · exact ⟨_, h2, d2, pot_mono h1 (by omega), rfl⟩
      · exact ⟨_, h2, d2, pot_mono h1 (by omega), rfl⟩
    refine wg_name rfl ?_
    refine W.weak (e1 := Lq d' none none none none none none none none none none) (by array_mem_dec) ?_
    array_get_dec
    -- what is made
    refine k_callB rfl rfl (i_law_made hp (by omega)) ?_
    rintro r outs ⟨F, ps, cs, d1, md, pl, rfl, hp1, t, rfl⟩
    rw [wb_pot' rfl]
    array_get_dec
    refine k_len rfl rfl ?_
    rw [List.length_map]
    array_get_dec
    refine k_callB rfl rfl (i_law_some hp1 (by omega) pl) ?_
    rintro r outs ⟨ms, d2, pm, rfl, hp2, t2, rfl⟩
    rw [wb_pot' rfl]
    have hp2 := pot_mono (m := 200 * i + 120) hp2 (by omega)
    have mx := mixed_of md pl pm
    have ml : ms.length ≤ 12 := by rw [pm.length_eq]; exact pl
    clear md pm hp1 hp
    array_get_dec
    refine k_lcM cE (fun p => .int (wt p)) (size_le (by omega)) (fun p hp => ?_) ?_
    · array_get_dec
      refine k_call rfl rfl (i_law_sum (mx.all p hp).1) ?_
      array_get_dec
      exact ⟨rfl, by array_mem_dec⟩
    rw [show ms.map (fun p => PyData.int (wt p)) = (ms.map wt).map PyData.int by rw [List.map_map]; rfl]
    array_get_dec
    have s4 : size cs ≤ 4000 := by have := mx.sz; omega
    have hc : ∀ x, (ms.map (cnt x)).sum ≤ cnt x cs := fun x => by rw [show cnt x cs = (ms.map (cnt x)).sum from mx.sums (ind x)]; exact Int.le_refl _
    have pa := paid_all mx.ok mx.all hc
    have la : (ms.map wt).length = ms.length := List.length_map _
    have hw : wt cs = (ms.map wt).sum := mx.sums _
    -- the planted payments are shown
    refine w_skip ?_ ?_
    · array_get_dec
      refine k_blt rfl rfl ?_
      array_get_dec
      refine k_call rfl rfl (i_shows_yes mx.ok s4 mx.all hc mx.as) ?_
      array_get_dec
      exact ⟨rfl, by array_mem_dec⟩
    array_get_dec
    obtain ⟨vs, s, g1, g2, g3, g4⟩ := i_pay_all mx.ok s4 mx.as (by rw [la]; exact pa)
    obtain ⟨e1, e2⟩ := good_map g1
    have vl : vs.length = ms.length := by rw [← la, e1, List.length_map]
    have e3 : ms.map wt = (vs.map (pay cs)).map wt := by
      rw [e1, List.map_map]
      exact List.map_congr_left fun m hm => ((pay_ok mx.ok (e2 m hm)).2.2.2).symm
    have e4 : vs.map (fun m => cE (pay cs m)) = (vs.map (pay cs)).map cE := by rw [List.map_map]; rfl
    rw [e4] at g4
    refine k_call rfl rfl g4 ?_
    array_get_dec
    -- what is told, too
    refine w_skip ?_ ?_
    · array_get_dec
      refine k_idxL rfl rfl (dc := told ((vs.map (pay cs)).map cE)) rfl rfl rfl ?_
      array_get_dec
      refine k_if_f (by simp [vl]) ?_
      array_get_dec
      have hy := i_shows_yes mx.ok s4 (ps := vs.map (pay cs)) (fun p hp => by
        obtain ⟨m, hm, rfl⟩ := List.mem_map.mp hp
        have := pay_ok mx.ok (e2 m hm)
        exact ⟨this.1, this.2.2.1⟩) (fun x => by
        have h1 : ((vs.map (pay cs)).map (cnt x)) = vs.map (Sv (ind x) cs) := by
          rw [List.map_map]
          exact List.map_congr_left fun m hm => S_pay (ind x) (e2 m hm).nn
        have h2 := Sv_nn (w := ind x) (cs := cs) (ind_nn x) g2.nn
        have h3 : cnt x cs = Sv (ind x) cs s + (vs.map (Sv (ind x) cs)).sum := g3 (ind x)
        rw [h1]; omega) (by rw [← e3]; exact mx.as)
      rw [← e3] at hy
      refine k_call rfl rfl hy ?_
      array_get_dec
      exact ⟨rfl, by array_mem_dec⟩
    array_get_dec
    -- nothing is left
    refine w_skip ?_ ?_
    · array_get_dec
      refine k_call rfl rfl (i_all_left mx.ok s4 mx.as (by rw [la]; exact pa) hw) ?_
      array_get_dec
      refine k_if_f rfl ?_
      array_get_dec
      refine k_call rfl rfl (i_worth_of mx.ok) ?_
      array_get_dec
      refine k_sumT rfl ?_
      array_get_dec
      exact ⟨by simp [hw], by array_mem_dec⟩
    array_get_dec
    -- by greatest first
    obtain ⟨qs, left, q1, q2, q3, q4⟩ := i_by_greatest_first mx.ok mx.as
    refine k_call rfl rfl q4 ?_
    array_get_dec
    refine w_skip ?_ ?_
    · array_get_dec
      refine k_if_f (by rw [List.length_map] at q1; simp; omega) ?_
      array_get_dec
      refine k_call rfl rfl (i_worth_of q2) ?_
      array_get_dec
      refine k_call rfl rfl (i_worth_of mx.ok) ?_
      array_get_dec
      refine k_slT rfl ?_
      rw [List.length_map, cutN_ints]
      array_get_dec
      refine k_sumT rfl ?_
      array_get_dec
      exact ⟨by simp [q3], by array_mem_dec⟩
    array_get_dec
    refine w_if ?_
    array_get_dec
    refine k_eqD rfl rfl (shT_cs cs) (shT_cs []) ?_
    array_get_dec
    refine k_if (fun _ => ?_) fun ne => ?_
    · array_get_dec
      exact goal _ _ (.inr rfl) ⟨d2, pot_mono hp2 (by omega), by array_mem_dec⟩
    have ne : cs ≠ [] := fun z => by subst z; simp [PyData.eqv, PyData.eqvAll] at ne
    have cl : 0 < cs.length := List.length_pos_iff.mpr ne
    have c12 := mx.ok.2.1
    array_get_dec
    refine k_blt rfl rfl ?_
    array_get_dec
    refine k_of (xs := cs.map pI) hp2 (by omega) (by rw [List.length_map]; exact cl) (by rw [List.length_map]; omega) (fun v x d3 hv hp3 => ?_)
    obtain ⟨c, hcm, rfl⟩ : ∃ c ∈ cs, x = pI c := by
      rw [List.getElem?_map] at hv
      cases hz : cs[v]? with
      | none => rw [hz] at hv; cases hv
      | some c => rw [hz] at hv; cases hv; exact ⟨c, List.mem_of_getElem? hz, rfl⟩
    clear hv
    have hk : c.1 ∈ keys cs := List.mem_map.mpr ⟨c, hcm, rfl⟩
    have cf := mx.fc.le _ (mx.kF _ hk)
    array_get_dec
    refine k_idxL rfl rfl (dc := pI c) (d := .int c.1) rfl rfl rfl ?_
    have ok1 : COk [(c.1, 1)] := ⟨asc_one (by omega) (by omega), by simp, fun p hp => by simp at hp; subst hp; exact ⟨by omega, by show (1 : Int) ≤ 10000; omega⟩⟩
    have c1 : ∀ x, cnt x [(c.1, 1)] = ind x c.1 := fun x => by simp [cnt, S]
    have le1 : ∀ x, cnt x [(c.1, 1)] ≤ cnt x cs := fun x => by
      rw [c1]
      by_cases z : c.1 = x
      · rw [← z]
        have := (key_cnt mx.ok.1).mp hk
        simp [ind]; omega
      · have := cnt_nn mx.ok.1 x
        simp [ind, z]; omega
    obtain ⟨w1, w2, w3⟩ := wo_ok mx.ok ok1.1 le1
    array_get_dec
    refine k_call (ss := [.fz (cE cs), .fz (cE [(c.1, 1)])]) rfl rfl (i_without mx.ok ok1 le1) ?_
    have hwt : wt (finP (subD cs [(c.1, 1)])) = wt cs - c.1 := by
      have : wt (finP (subD cs [(c.1, 1)])) = wt cs - wt [(c.1, 1)] := w2 _
      rw [this]; simp [wt, S]
    have hcnt : ∀ x, cnt x (finP (subD cs [(c.1, 1)])) = cnt x cs - ind x c.1 := fun x => by
      have : cnt x (finP (subD cs [(c.1, 1)])) = cnt x cs - cnt x [(c.1, 1)] := w2 _
      rw [this, c1]
    generalize finP (subD cs [(c.1, 1)]) = sh at *
    have sh4 : size sh ≤ 4000 := size_more mx.fc.nd mx.fc.l3 mx.ok.1 w1.1 mx.kF (fun f hf => mx.kF f (w3 f hf)) mx.sz fun x => by rw [hcnt]; have := ind_nn x c.1; omega
    have shn : paidN sh (ms.map wt) ≠ (ms.map wt).length := fun z => by
      have hcc : ∀ p ∈ sh, 1 ≤ p.1 ∧ 0 ≤ p.2 := fun p hp => by have := w1.1.2 p hp; omega
      have := rows_sum ord_mem hcc (fun a h => (mx.as.2 a h).1) (row0_ok (cs := sh) fun p hp => (hcc p hp).2) z
      omega
    have shl : paidN sh (ms.map wt) ≤ (ms.map wt).length := rowsGo_len ord_mem
    array_get_dec
    -- a coin fewer
    refine w_skip ?_ ?_
    · array_get_dec
      refine k_call rfl rfl (i_how_many_paid w1 sh4 mx.as) ?_
      array_get_dec
      refine k_if_f (by simp only [List.length_map] at shn shl ⊢; simp; omega) ?_
      array_get_dec
      refine k_call rfl rfl (i_shows_no w1 sh4 mx.as (ps := (vs.map (pay cs)).map cE) (by simp [vl]) (by rw [List.length_map, List.length_map, vl, ← la]; exact fun z => shn z.symm)) ?_
      array_get_dec
      exact ⟨rfl, by array_mem_dec⟩
    array_get_dec
    refine w_skip ?_ ?_
    · array_get_dec
      refine k_call rfl rfl (i_lacking_for w1 mx.ok sh4 s4 (by omega) mx.as (fun x => by rw [hcnt]; omega) shn (by rw [la]; exact pa)) ?_
      array_get_dec
      exact ⟨rfl, by array_mem_dec⟩
    array_get_dec
    -- a coin more
    obtain ⟨t, _, tg, okt, ht⟩ := i_together mx.ok ok1 ⟨F, by have := mx.fc.l3; omega, fun x hx => by
      rcases hx with hx | hx
      · exact mx.kF x hx
      · simp [keys] at hx; subst hx; exact mx.kF _ hk⟩ (by have := mx.many; simp [K47.many, S] at this ⊢; omega)
    have ct : ∀ x, cnt x t = cnt x cs + ind x c.1 := fun x => by rw [← c1 x]; exact tg.S _
    have i2 : ∀ x, ind x c.1 ≤ 1 := fun x => by unfold ind; split <;> omega
    have t4 : size t ≤ 4000 := size_more mx.fc.nd mx.fc.l3 mx.ok.1 tg.asc mx.kF (fun f hf => by
      rcases (tg.key f).mp hf with hx | hx
      · exact mx.kF f hx
      · simp [keys] at hx; subst hx; exact mx.kF _ hk) mx.sz fun x => by rw [ct]; have := i2 x; omega
    have pt := paid_all okt (ps := ms) (fun p hp => ⟨(mx.all p hp).1, fun f hf => (tg.key f).mpr (.inl ((mx.all p hp).2 f hf))⟩) (fun x => by rw [ct]; have := hc x; have := ind_nn x c.1; omega)
    have pt2 := paid_all okt (ps := ms ++ [[(c.1, 1)]]) (fun p hp => by
      rcases List.mem_append.mp hp with hp | hp
      · exact ⟨(mx.all p hp).1, fun f hf => (tg.key f).mpr (.inl ((mx.all p hp).2 f hf))⟩
      · simp at hp; subst hp
        exact ⟨ok1, fun f hf => (tg.key f).mpr (.inr hf)⟩) (fun x => by rw [ct, List.map_append, List.sum_append]; have := hc x; have := c1 x; simp only [List.map_cons, List.map_nil, List.sum_cons, List.sum_nil]; omega)
    have e5 : (ms ++ [[(c.1, (1 : Int))]]).map wt = ms.map wt ++ [c.1] := by simp [wt, S]
    rw [e5] at pt2
    refine k_call (ss := [.fz (cE cs), .fz (cE [(c.1, 1)])]) rfl rfl ht ?_
    array_get_dec
    refine w_skip ?_ ?_
    · array_get_dec
      refine k_call rfl rfl (i_lots_of okt t4) ?_
      array_get_dec
      refine k_if (fun _ => ?_) fun _ => ?_
      · array_get_dec
        refine k_call rfl rfl (i_how_many_paid okt t4 mx.as) ?_
        array_get_dec
        exact ⟨by rw [List.length_map, la]; simp [pt], by array_mem_dec⟩
      · array_get_dec
        exact ⟨rfl, by array_mem_dec⟩
    array_get_dec
    refine w_if ?_
    array_get_dec
    refine k_call rfl rfl (i_lots_of okt t4) ?_
    array_get_dec
    refine k_if (fun _ => ?_) fun _ => ?_
    · array_get_dec
      refine k_if (fun q => ?_) fun _ => ?_
      · have q : ms.length < 12 := by
          have := of_decide_eq_true q
          rw [List.length_map, la] at this
          omega
        array_get_dec
        refine w_skip ?_ ?_
        · array_get_dec
          refine k_addT (xs := (ms.map wt).map .int) (ys := [.int c.1]) rfl rfl (size_le (by simp; omega)) ?_ ?_
          · cases ms with
            | nil => rfl
            | cons m ms => rfl
          array_get_dec
          have a2 : AOk (ms.map wt ++ [c.1]) := ⟨by simp; omega, fun a ha => by
            rcases List.mem_append.mp ha with ha | ha
            · exact mx.as.2 a ha
            · simp at ha; subst ha; omega⟩
          have hh := i_how_many_paid okt t4 a2
          rw [tup, List.map_append] at hh
          refine k_call rfl rfl hh ?_
          array_get_dec
          exact ⟨by rw [pt2]; simp, by array_mem_dec⟩
        array_get_dec
        exact goal _ _ (.inl rfl) ⟨d3, pot_mono hp3 (by omega), by array_mem_dec⟩
      · array_get_dec
        exact goal _ _ (.inl rfl) ⟨d3, pot_mono hp3 (by omega), by array_mem_dec⟩
    · refine k_if_f rfl ?_
      array_get_dec
      exact goal _ _ (.inl rfl) ⟨d3, pot_mono hp3 (by omega), by array_mem_dec⟩
  · obtain ⟨d', hp, rfl⟩ := hI
    array_get_dec
    exact k_fin' rfl
theorem law_true (ns : List Int) (hl : ns.length ≤ 63) : ∃ outs, φ_law [.sc ns] = some (.fz (.bool true), outs) := law_of_right (fun d hd => right hd) ns hl
end K47

open PySem PySem.W PyProof.Rows
set_option maxHeartbeats 0 in
theorem PySem.Challenge.cw_noroundgains_k47_whole_payments_made_ahe_holds : PySem.Challenge.rw_noroundgains_k47_whole_payments_made_ahe.Holds := by
  w_on; o_law; k_head; (case hw => w_witness2)
  k_fill
  refine L2.walk_of (l := PySem.Challenge.rw_noroundgains_k47_whole_payments_made_ahe) (n := 63) (k := 10) (x := "script") (CX := fun _ => L2.CX0) (sp := fun w => VL.spV _ K47.φ_law) rfl (by decide) rfl ⟨rfl, by decide, by decide⟩ (fun w h Y => PySem.W.kIn_of Y) ?F (fun _ H a ns hl hO hS => VL.law_sp K47.law_true H a ns hl hS fun b o e => ?_) (fun _ _ _ _ _ h => h)
  case F =>
    intro w mg fa h KX G hmg
    refine' K47.all_mk KX G hmg ?ais_int ?lis_int ?cis_int ?kis_int ?ais_told ?lis_told ?cis_told ?kis_told ?ais_rising ?lis_rising ?cis_rising ?kis_rising ?atold_sum ?ltold_sum ?ctold_sum ?ktold_sum ?atold_layers ?ltold_layers ?ctold_layers ?ktold_layers ?atold_payment ?ltold_payment ?ctold_payment ?ktold_payment ?atold_size ?ltold_size ?ctold_size ?ktold_size ?atold_moves ?ltold_moves ?ctold_moves ?ktold_moves ?atold_payments ?ltold_payments ?ctold_payments ?ktold_payments ?a_law_pot ?l_law_pot ?c_law_pot ?k_law_pot ?a_law_take ?l_law_take ?c_law_take ?k_law_take ?a_law_cells ?l_law_cells ?c_law_cells ?k_law_cells ?a_law_sum ?l_law_sum ?c_law_sum ?k_law_sum ?aare_ints ?lare_ints ?care_ints ?kare_ints ?atold_rows ?ltold_rows ?ctold_rows ?ktold_rows ?a_law_of ?l_law_of ?c_law_of ?k_law_of ?a_law_some ?l_law_some ?c_law_some ?k_law_some ?aare_coins ?lare_coins ?care_coins ?kare_coins ?aare_amounts ?lare_amounts ?care_amounts ?kare_amounts ?alook_at_coins ?llook_at_coins ?clook_at_coins ?klook_at_coins ?alook_at_paying ?llook_at_paying ?clook_at_paying ?klook_at_paying ?aworth_of ?lworth_of ?cworth_of ?kworth_of ?atogether ?ltogether ?ctogether ?ktogether ?awithout ?lwithout ?cwithout ?kwithout ?alook_at_amounts ?llook_at_amounts ?clook_at_amounts ?klook_at_amounts ?agreatest_first ?lgreatest_first ?cgreatest_first ?kgreatest_first ?alook_at_asked ?llook_at_asked ?clook_at_asked ?klook_at_asked ?ashows_pay_all ?lshows_pay_all ?cshows_pay_all ?kshows_pay_all ?apay_all ?lpay_all ?cpay_all ?kpay_all ?ahow_many_paid ?lhow_many_paid ?chow_many_paid ?khow_many_paid ?aby_greatest_first ?lby_greatest_first ?cby_greatest_first ?kby_greatest_first ?aall_left ?lall_left ?call_left ?kall_left ?alots_of ?llots_of ?clots_of ?klots_of ?alacking_for ?llacking_for ?clacking_for ?klacking_for ?a_law_made ?l_law_made ?c_law_made ?k_law_made ?a_law_right ?l_law_right ?c_law_right ?k_law_right ?alaw ?llaw ?claw ?klaw ?zisinstance ?zint ?zbool ?ztuple ?zlen ?zstr ?zzip ?zall ?zsum ?zrange ?zmin ?zsorted ?zabs ?zmax ?zlist ?zdict ?zset ?gMOST_FACES ?gMOST_FACE ?gMOST_AMOUNT_short ?gMOST_ASKED ?gMOST_AMOUNT_coins ?gMOST_STATES ?gPAID
    (case ais_int => k_is); (case lis_int => k_is); (case cis_int => k_is); (case kis_int => k_is); (case ais_told => k_is); (case lis_told => k_is); (case cis_told => k_is); (case kis_told => k_is); (case ais_rising => k_is); (case lis_rising => k_is); (case cis_rising => k_is); (case kis_rising => k_is); (case atold_sum => k_is); (case ltold_sum => k_is); (case ctold_sum => k_is); (case ktold_sum => k_is); (case atold_layers => k_is); (case ltold_layers => k_is); (case ctold_layers => k_is); (case ktold_layers => k_is); (case atold_payment => k_is); (case ltold_payment => k_is); (case ctold_payment => k_is); (case ktold_payment => k_is); (case atold_size => k_is); (case ltold_size => k_is); (case ctold_size => k_is); (case ktold_size => k_is); (case atold_moves => k_is); (case ltold_moves => k_is); (case ctold_moves => k_is); (case ktold_moves => k_is); (case atold_payments => k_is); (case ltold_payments => k_is); (case ctold_payments => k_is); (case ktold_payments => k_is); (case a_law_pot => k_is); (case l_law_pot => k_is); (case c_law_pot => k_is); (case k_law_pot => k_is); (case a_law_take => k_is); (case l_law_take => k_is); (case c_law_take => k_is); (case k_law_take => k_is); (case a_law_cells => k_is); (case l_law_cells => k_is); (case c_law_cells => k_is); (case k_law_cells => k_is); (case a_law_sum => k_is); (case l_law_sum => k_is); (case c_law_sum => k_is); (case k_law_sum => k_is); (case aare_ints => k_is); (case lare_ints => k_is); (case care_ints => k_is); (case kare_ints => k_is); (case atold_rows => k_is); (case ltold_rows => k_is); (case ctold_rows => k_is); (case ktold_rows => k_is); (case a_law_of => k_is); (case l_law_of => k_is); (case c_law_of => k_is); (case k_law_of => k_is); (case a_law_some => k_is); (case l_law_some => k_is); (case c_law_some => k_is); (case k_law_some => k_is); (case aare_coins => k_is); (case lare_coins => k_is); (case care_coins => k_is); (case kare_coins => k_is); (case aare_amounts => k_is); (case lare_amounts => k_is); (case care_amounts => k_is); (case kare_amounts => k_is); (case alook_at_coins => k_is); (case llook_at_coins => k_is); (case clook_at_coins => k_is); (case klook_at_coins => k_is); (case alook_at_paying => k_is); (case llook_at_paying => k_is); (case clook_at_paying => k_is); (case klook_at_paying => k_is); (case aworth_of => k_is); (case lworth_of => k_is); (case cworth_of => k_is); (case kworth_of => k_is); (case atogether => k_is); (case ltogether => k_is); (case ctogether => k_is); (case ktogether => k_is); (case awithout => k_is); (case lwithout => k_is); (case cwithout => k_is); (case kwithout => k_is); (case alook_at_amounts => k_is); (case llook_at_amounts => k_is); (case clook_at_amounts => k_is); (case klook_at_amounts => k_is); (case agreatest_first => k_is); (case lgreatest_first => k_is); (case cgreatest_first => k_is); (case kgreatest_first => k_is); (case alook_at_asked => k_is); (case llook_at_asked => k_is); (case clook_at_asked => k_is); (case klook_at_asked => k_is); (case ashows_pay_all => k_is); (case lshows_pay_all => k_is); (case cshows_pay_all => k_is); (case kshows_pay_all => k_is); (case apay_all => k_is); (case lpay_all => k_is); (case cpay_all => k_is); (case kpay_all => k_is); (case ahow_many_paid => k_is); (case lhow_many_paid => k_is); (case chow_many_paid => k_is); (case khow_many_paid => k_is); (case aby_greatest_first => k_is); (case lby_greatest_first => k_is); (case cby_greatest_first => k_is); (case kby_greatest_first => k_is); (case aall_left => k_is); (case lall_left => k_is); (case call_left => k_is); (case kall_left => k_is); (case alots_of => k_is); (case llots_of => k_is); (case clots_of => k_is); (case klots_of => k_is); (case alacking_for => k_is); (case llacking_for => k_is); (case clacking_for => k_is); (case klacking_for => k_is); (case a_law_made => k_is); (case l_law_made => k_is); (case c_law_made => k_is); (case k_law_made => k_is); (case a_law_right => k_is); (case l_law_right => k_is); (case c_law_right => k_is); (case k_law_right => k_is); (case alaw => k_is); (case llaw => k_is); (case claw => k_is); (case klaw => k_is); (case zisinstance => k_is); (case zint => k_is); (case zbool => k_is); (case ztuple => k_is); (case zlen => k_is); (case zstr => k_is); (case zzip => k_is); (case zall => k_is); (case zsum => k_is); (case zrange => k_is); (case zmin => k_is); (case zsorted => k_is); (case zabs => k_is); (case zmax => k_is); (case zlist => k_is); (case zdict => k_is); (case zset => k_is); (case gMOST_FACES => k_is); (case gMOST_FACE => k_is); (case gMOST_AMOUNT_short => k_is); (case gMOST_ASKED => k_is); (case gMOST_AMOUNT_coins => k_is); (case gMOST_STATES => k_is); (case gPAID => k_is)
  · rcases hO b with z | ⟨ob, xs, z⟩
    · rw [z] at e; cases e
    · rw [z] at e; cases e; exact ⟨_, _, rfl⟩
