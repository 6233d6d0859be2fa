import PyProof.Rows.All
import Wide.All
import OpenK.AllK
import Wide.FinOn
import HandS.ForMost
import HandS.IsInst
import HandS.Wide
import HandS.Defaults
import HandS.CallSlots
import HandS.RaiseMore
import HandS.Small
import HandS.Text
import PyProof.StrBlock2
import HandS.ExcOwn
import HandS.Iter
import HandS.Words
import HandS.Comp
import KE.KStateDown
import HandS.Head0
import HandS.Head1
import HandS.Head2
import HandS.HeadEnd
import HandS.HeadHook1
import HandS.HeadHook2
import PySem.Challenge.RW_loneround_k02_names_and_numerals
set_option Elab.async false
set_option linter.all false
set_option maxRecDepth 100000
set_option maxHeartbeats 4000000
namespace Mi
open PySem PySem.Spec PyProof.Rows L2

abbrev St := L2.St
/-! ### values -/
inductive T where
  | non | bl (b : Bool) | int (i : Int) | str (s : Str)
  | lst (xs : List T) | tup (xs : List T) | dic (kvs : List (Key × T)) | ins (c : Nat) (fs : List (Nat × T)) | scr (ns : List Int)
inductive O where
  | lst (xs : List T) | dic (kvs : List (Key × T)) | ins (c : Nat) (fs : List (Nat × T))
def O.frz : O → T
  | .lst xs => .lst xs
  | .dic kvs => .dic kvs
  | .ins c fs => .ins c fs
inductive R where
  | fz (t : T) | ow (o : O) | bo (i : Nat)
inductive Slot where
  | no | fz (t : T) | ow (o : O)
inductive Opd where
  | t (t : T) | b (i : Nat)

/-- what the text's names stand for -/
structure Gm where
  K : PySem.W.Frag
  cls : Nat → Addr
  fn : Nat → Str

/-! ### worlds -/
structure Wd where
  F : Addr → Prop
  L : Addr → Prop
  H : Hp
def Rdo (x : Option HO) (u : HO) : Prop := x = some u ∨ ∃ o, x = some (.frz o u)
theorem Rdo.inj {x : Option HO} {k1 k2 : List (Key × V)} (h1 : Rdo x (.dK k1)) (h2 : Rdo x (.dK k2)) : k1 = k2 := by
  rcases h1 with h1 | ⟨o, h1⟩ <;> rcases h2 with h2 | ⟨o', h2⟩ <;> rw [h1] at h2 <;> cases h2 <;> rfl
def Kp (x y : Option HO) : Prop := x = y ∨ ∃ kvs, Rdo x (.dK kvs) ∧ Rdo y (.dK kvs)
theorem Kp.refl (x : Option HO) : Kp x x := .inl rfl
theorem Kp.trans {x y z : Option HO} (a : Kp x y) (b : Kp y z) : Kp x z := by
  rcases a with rfl | ⟨k, h1, h2⟩
  · exact b
  · rcases b with rfl | ⟨k', h3, h4⟩
    · exact .inr ⟨k, h1, h2⟩
    · have e := h2.inj h3
      subst e
      exact .inr ⟨k, h1, h4⟩
theorem Kp.rd {x y : Option HO} {kvs : List (Key × V)} (a : Kp x y) (h : Rdo x (.dK kvs)) : Rdo y (.dK kvs) := by
  rcases a with rfl | ⟨k, h1, h2⟩
  · exact h
  · rw [h.inj h1]; exact h2
theorem Kp.eq {x y : Option HO} {u : HO} (a : Kp x y) (h : x = some u) (nd : ∀ kvs, ¬ Rdo (some u) (.dK kvs)) : y = some u := by
  rcases a with rfl | ⟨k, h1, h2⟩
  · exact h
  · rw [h] at h1; exact absurd h1 (nd k)
theorem Kp.some {x y : Option HO} (a : Kp x y) (h : ∃ u, x = some u) : ∃ u, y = some u := by
  rcases a with rfl | ⟨k, h1, h2⟩
  · exact h
  · rcases h2 with h2 | ⟨o, h2⟩
    · exact ⟨_, h2⟩
    · exact ⟨_, h2⟩
structure Ex (w w' : Wd) : Prop where
  fz : ∀ a, w.F a → w'.F a
  kp : ∀ a, w.F a → Kp (w.H a) (w'.H a)
  ot : ∀ a u, w.H a = some u → ¬ w.F a → ¬ w.L a → w'.H a = some u ∧ ¬ w'.F a ∧ ¬ w'.L a
theorem Ex.refl (w : Wd) : Ex w w := ⟨fun _ h => h, fun _ _ => .refl _, fun _ _ h1 h2 h3 => ⟨h1, h2, h3⟩⟩
theorem Ex.trans {a b c : Wd} (x : Ex a b) (y : Ex b c) : Ex a c :=
  ⟨fun p h => y.fz p (x.fz p h), fun p h => (x.kp p h).trans (y.kp p (x.fz p h)), fun p u h1 h2 h3 =>
    let ⟨q1, q2, q3⟩ := x.ot p u h1 h2 h3
    y.ot p u q1 q2 q3⟩

/-! ### representation -/
/-- the written part's tuples, lists -/
def KT (K : PySem.W.Frag) (a : Addr) (xs : List V) : Prop := ∃ (o : Obj) (its : Array Value) (n : Nat), K.lookup a = some o ∧ o.cls = .type "tuple" ∧ o.data = .seq its n ∧ its.size ≤ sizeLine ∧ Vals xs its.toList
def KL (K : PySem.W.Frag) (a : Addr) (xs : List V) : Prop := ∃ (o : Obj) (its : Array Value) (n : Nat), K.lookup a = some o ∧ o.cls = .type "list" ∧ o.dict = none ∧ o.data = .seq its n ∧ its.size ≤ sizeLine ∧ Vals xs its.toList
mutual
inductive RF (G : Gm) (w : Wd) : T → V → Prop
  | non : RF G w .non .non
  | bl (b : Bool) : RF G w (.bl b) (.bl b)
  | int (i : Int) : RF G w (.int i) (.int i)
  | str (s : Str) : RF G w (.str s) (.str s)
  | lst {xs : List T} {a : Addr} {vs : List V} : w.F a → w.H a = some (.lst vs) → RFs G w xs vs → RF G w (.lst xs) (.ref a)
  | tup {xs : List T} {a : Addr} {vs : List V} : (w.F a ∧ w.H a = some (.tup vs)) ∨ KT G.K a vs → RFs G w xs vs → RF G w (.tup xs) (.ref a)
  | dic {kvs : List (Key × T)} {a : Addr} {ks : List (Key × V)} : w.F a → Rdo (w.H a) (.dK ks) → RFk G w kvs ks → RF G w (.dic kvs) (.ref a)
  | ins {c : Nat} {fs : List (Nat × T)} {a dx : Addr} {gs : List (Str × V)} : w.F a → w.H a = some (.ins (G.cls c) dx gs) → RFf G w fs gs → RF G w (.ins c fs) (.ref a)
  | scr {ns : List Int} {a : Addr} : (w.F a ∧ ∃ o, w.H a = some (.frz o (.lst (ns.map V.int)))) ∨ KL G.K a (ns.map V.int) → RF G w (.scr ns) (.ref a)
inductive RFs (G : Gm) (w : Wd) : List T → List V → Prop
  | nil : RFs G w [] []
  | cons {t : T} {v : V} {ts : List T} {vs : List V} : RF G w t v → RFs G w ts vs → RFs G w (t :: ts) (v :: vs)
inductive RFk (G : Gm) (w : Wd) : List (Key × T) → List (Key × V) → Prop
  | nil : RFk G w [] []
  | cons {k : Key} {t : T} {v : V} {ts : List (Key × T)} {vs : List (Key × V)} : RF G w t v → RFk G w ts vs → RFk G w ((k, t) :: ts) ((k, v) :: vs)
inductive RFf (G : Gm) (w : Wd) : List (Nat × T) → List (Str × V) → Prop
  | nil : RFf G w [] []
  | cons {k : Nat} {t : T} {v : V} {ts : List (Nat × T)} {vs : List (Str × V)} : RF G w t v → RFf G w ts vs → RFf G w ((k, t) :: ts) ((G.fn k, v) :: vs)
end
/-- an owned object -/
inductive RO (G : Gm) (w : Wd) (p : Addr) : O → Prop
  | lst {xs : List T} {vs : List V} : w.H p = some (.lst vs) → RFs G w xs vs → RO G w p (.lst xs)
  | dic {kvs : List (Key × T)} {ks : List (Key × V)} : w.H p = some (.dK ks) → RFk G w kvs ks → RO G w p (.dic kvs)
  | ins {c : Nat} {fs : List (Nat × T)} {dx : Addr} {gs : List (Str × V)} : w.H p = some (.ins (G.cls c) dx gs) → RFf G w fs gs → RO G w p (.ins c fs)

/-- what of the world a frozen tree leans on -/
structure Mo (w w' : Wd) : Prop where
  fz : ∀ a, w.F a → w'.F a
  kp : ∀ a, w.F a → Kp (w.H a) (w'.H a)
theorem Ex.mo {w w' : Wd} (x : Ex w w') : Mo w w' := ⟨x.fz, x.kp⟩
section
variable {G : Gm} {w w' : Wd}
mutual
theorem RF.mono (m : Mo w w') : ∀ {t : T} {v : V}, RF G w t v → RF G w' t v
  | _, _, .non => .non
  | _, _, .bl b => .bl b
  | _, _, .int i => .int i
  | _, _, .str s => .str s
  | _, _, .lst f h r => .lst (m.fz _ f) ((m.kp _ f).eq h (fun k q => by rcases q with q | ⟨o, q⟩ <;> cases q)) (RFs.mono m r)
  | _, _, .tup h r => .tup (h.imp (fun ⟨f, h⟩ => ⟨m.fz _ f, (m.kp _ f).eq h (fun k q => by rcases q with q | ⟨o, q⟩ <;> cases q)⟩) id) (RFs.mono m r)
  | _, _, .dic f h r => .dic (m.fz _ f) ((m.kp _ f).rd h) (RFk.mono m r)
  | _, _, .ins f h r => .ins (m.fz _ f) ((m.kp _ f).eq h (fun k q => by rcases q with q | ⟨o, q⟩ <;> cases q)) (RFf.mono m r)
  | _, _, .scr h => .scr (h.imp (fun ⟨f, o, h⟩ => ⟨m.fz _ f, o, (m.kp _ f).eq h (fun k q => by rcases q with q | ⟨o, q⟩ <;> cases q)⟩) id)
theorem RFs.mono (m : Mo w w') : ∀ {t : List T} {v : List V}, RFs G w t v → RFs G w' t v
  | _, _, .nil => .nil
  | _, _, .cons a b => .cons (RF.mono m a) (RFs.mono m b)
theorem RFk.mono (m : Mo w w') : ∀ {t : List (Key × T)} {v : List (Key × V)}, RFk G w t v → RFk G w' t v
  | _, _, .nil => .nil
  | _, _, .cons a b => .cons (RF.mono m a) (RFk.mono m b)
theorem RFf.mono (m : Mo w w') : ∀ {t : List (Nat × T)} {v : List (Str × V)}, RFf G w t v → RFf G w' t v
  | _, _, .nil => .nil
  | _, _, .cons a b => .cons (RF.mono m a) (RFf.mono m b)
end
theorem RFs.length : ∀ {t : List T} {v : List V}, RFs G w t v → t.length = v.length
  | _, _, .nil => rfl
  | _, _, .cons _ b => congrArg Nat.succ (RFs.length b)
theorem RFs.append : ∀ {t t' : List T} {v v' : List V}, RFs G w t v → RFs G w t' v' → RFs G w (t ++ t') (v ++ v')
  | _, _, _, _, .nil, s => s
  | _, _, _, _, .cons a b, s => .cons a (RFs.append b s)
theorem RFs.get : ∀ {ts : List T} {vs : List V} {i : Nat} {t : T}, RFs G w ts vs → ts[i]? = some t → ∃ v, vs[i]? = some v ∧ RF G w t v
  | _, _, _, _, .nil, e => by simp at e
  | _, _, 0, _, .cons a _, e => by
    simp at e; subst e
    exact ⟨_, rfl, a⟩
  | _, _, i + 1, t, .cons _ b, e => by
    obtain ⟨v, h1, h2⟩ := RFs.get (i := i) (t := t) b (by simpa using e)
    exact ⟨v, by simpa using h1, h2⟩
theorem RFs.take : ∀ {ts : List T} {vs : List V} (n : Nat), RFs G w ts vs → RFs G w (ts.take n) (vs.take n)
  | _, _, 0, _ => .nil
  | _, _, _ + 1, .nil => .nil
  | _, _, n + 1, .cons r t => .cons r (RFs.take n t)
theorem RFs.drop : ∀ {ts : List T} {vs : List V} (n : Nat), RFs G w ts vs → RFs G w (ts.drop n) (vs.drop n)
  | _, _, 0, r => r
  | _, _, _ + 1, .nil => .nil
  | _, _, n + 1, .cons _ t => RFs.drop n t
theorem RFs.set {t : T} {v : V} (r : RF G w t v) : ∀ {ts : List T} {vs : List V} (i : Nat), RFs G w ts vs → RFs G w (ts.set i t) (vs.set i v)
  | _, _, _, .nil => .nil
  | _, _, 0, .cons _ q => .cons r q
  | _, _, i + 1, .cons q p => .cons q (RFs.set r i p)
theorem RFk.length : ∀ {t : List (Key × T)} {v : List (Key × V)}, RFk G w t v → t.length = v.length
  | _, _, .nil => rfl
  | _, _, .cons _ b => congrArg Nat.succ (RFk.length b)
end

/-! ### slots -/
def SlR (G : Gm) (w : Wd) (s : Slot) (v : Option (Option V)) : Prop := match s with
  | .no => True
  | .fz t => ∃ x, v = some (some x) ∧ RF G w t x
  | .ow o => ∃ a, v = some (some (.ref a)) ∧ RO G w a o ∧ w.L a
structure SR (G : Gm) (w : Wd) (m : List Slot) (σ : St) : Prop where
  len : m.length = σ.length
  sl : ∀ (i : Nat) (s : Slot), m[i]? = some s → SlR G w s σ[i]?
  inj : ∀ (i j : Nat) (o o' : O) (a : Addr), m[i]? = some (.ow o) → m[j]? = some (.ow o') → σ[i]? = some (some (.ref a)) → σ[j]? = some (some (.ref a)) → i = j
  sep : ∀ a, w.L a → ¬ w.F a
  trk : ∀ a, w.F a → ∃ u, w.H a = some u
section
variable {G : Gm} {w w' : Wd} {m : List Slot} {σ : St} {i : Nat} {o : O} {a : Addr}
theorem RO.trk (r : RO G w a o) : ∃ u, w.H a = some u := by cases r <;> exact ⟨_, by assumption⟩
theorem RO.mono (r : RO G w a o) (mo : Mo w w') (h : w'.H a = w.H a) : RO G w' a o := by
  cases r with
  | lst h1 r => exact .lst (h.trans h1) (r.mono mo)
  | dic h1 r => exact .dic (h.trans h1) (r.mono mo)
  | ins h1 r => exact .ins (h.trans h1) (r.mono mo)
/-- the world may grow: what is owned stands as it stood -/
theorem SR.grow (S : SR G w m σ) (mo : Mo w w') (hL : ∀ a, w.L a → w'.L a ∧ ((∃ u, w.H a = some u) → w'.H a = w.H a)) (sep : ∀ a, w'.L a → ¬ w'.F a) (trk : ∀ a, w'.F a → ∃ u, w'.H a = some u) : SR G w' m σ := by
  refine ⟨S.len, fun i s h => ?_, S.inj, sep, trk⟩
  have q := S.sl i s h
  cases s with
  | no => trivial
  | fz t => obtain ⟨x, e, r⟩ := q; exact ⟨x, e, r.mono mo⟩
  | ow o => obtain ⟨a, e, r, l⟩ := q; exact ⟨a, e, r.mono mo ((hL a l).2 r.trk), (hL a l).1⟩
/-- a new object, owned -/
def Wd.new (w : Wd) (p : Addr) (u : HO) : Wd := ⟨w.F, fun a => w.L a ∨ a = p, upd w.H p u⟩
theorem Wd.new_H {w : Wd} {p : Addr} {u : HO} : (w.new p u).H = upd w.H p u := rfl
theorem upd_trk {H : Hp} {p a : Addr} {u v : HO} (hp : H p = none) (h : H a = some v) : upd H p u a = some v := by
  rw [upd_ne (ne_of_none h hp)]; exact h
theorem Mo.new {w : Wd} {p : Addr} {u : HO} (trk : ∀ a, w.F a → ∃ u, w.H a = some u) (hp : w.H p = none) : Mo w (w.new p u) :=
  ⟨fun _ h => h, fun a h => by
    obtain ⟨v, e⟩ := trk a h
    exact .inl (e.trans (upd_trk hp e).symm)⟩
theorem Ex.new {w : Wd} {p : Addr} {u : HO} (trk : ∀ a, w.F a → ∃ u, w.H a = some u) (hp : w.H p = none) : Ex w (w.new p u) :=
  ⟨fun _ h => h, (Mo.new trk hp).kp, fun a v h1 h2 h3 => ⟨upd_trk hp h1, h2, fun q => q.elim h3 (ne_of_none h1 hp)⟩⟩
theorem SR.new (S : SR G w m σ) {p : Addr} {u : HO} (hp : w.H p = none) : SR G (w.new p u) m σ :=
  S.grow (Mo.new S.trk hp) (fun a l => ⟨.inl l, fun ⟨v, e⟩ => (upd_trk hp e).trans e.symm⟩)
    (fun a l f => l.elim (fun l => S.sep a l f) fun e => by
      obtain ⟨v, q⟩ := S.trk a f
      rw [e, hp] at q; cases q)
    fun a f => by
      obtain ⟨v, e⟩ := S.trk a f
      exact ⟨v, upd_trk hp e⟩
/-- an owned address is frozen -/
def Wd.fr (w : Wd) (p : Addr) : Wd := ⟨fun a => w.F a ∨ a = p, fun a => w.L a ∧ a ≠ p, w.H⟩
theorem Mo.fr {p : Addr} : Mo w (w.fr p) := ⟨fun _ h => .inl h, fun _ _ => .refl _⟩
theorem Ex.fr {p : Addr} (l : w.L p) : Ex w (w.fr p) :=
  ⟨fun _ h => .inl h, fun _ _ => .refl _, fun a u h1 h2 h3 => ⟨h1, fun q => q.elim h2 fun e => h3 (e ▸ l), fun q => h3 q.1⟩⟩
theorem RO.rf {p : Addr} (r : RO G w p o) (f : w'.F p) (mo : Mo w w') (h : w'.H p = w.H p) : RF G w' o.frz (.ref p) := by
  cases r with
  | lst h1 r => exact .lst f (h.trans h1) (r.mono mo)
  | dic h1 r => exact .dic f (.inl (h.trans h1)) (r.mono mo)
  | ins h1 r => exact .ins f (h.trans h1) (r.mono mo)
/-- p: owned, in no slot -/
theorem SR.fr (S : SR G w m σ) {p : Addr} (l : w.L p) (k : ∃ u, w.H p = some u) (n : ∀ (i : Nat) (o : O), m[i]? = some (.ow o) → σ[i]? ≠ some (some (.ref p))) : SR G (w.fr p) m σ := by
  refine ⟨S.len, fun i s h => ?_, S.inj, fun a ⟨q, ne⟩ f => f.elim (S.sep a q) ne, fun a f => f.elim (S.trk a) fun e => e ▸ k⟩
  have q := S.sl i s h
  cases s with
  | no => trivial
  | fz t => obtain ⟨x, e, r⟩ := q; exact ⟨x, e, r.mono .fr⟩
  | ow o => obtain ⟨a, e, r, l'⟩ := q; exact ⟨a, e, r.mono .fr rfl, l', fun z => n i o h (z ▸ e)⟩
/-- a slot is frozen where it stands -/
theorem SR.frSlot (S : SR G w m σ) (h : m[i]? = some (.ow o)) (e : σ[i]? = some (some (.ref a))) : SR G (w.fr a) (m.set i (.fz o.frz)) σ ∧ RF G (w.fr a) o.frz (.ref a) ∧ Ex w (w.fr a) := by
  obtain ⟨a', e', r, l⟩ := S.sl i _ h
  rw [e] at e'
  cases e'
  have rf : RF G (w.fr a) o.frz (.ref a) := r.rf (.inr rfl) .fr rfl
  refine ⟨⟨by rw [List.length_set]; exact S.len, fun j s h' => ?_, fun j k o1 o2 b h1 h2 => ?_, fun b ⟨q, ne⟩ f => f.elim (S.sep b q) ne, fun b f => f.elim (S.trk b) fun z => z ▸ r.trk⟩, rf, .fr l⟩
  · by_cases hj : j = i
    · subst hj
      rw [List.getElem?_set_self (List.getElem?_eq_some_iff.mp h).1] at h'
      cases h'
      exact ⟨_, e, rf⟩
    · rw [List.getElem?_set_ne (Ne.symm hj)] at h'
      have q := S.sl j s h'
      cases s with
      | no => trivial
      | fz t => obtain ⟨x, e, r⟩ := q; exact ⟨x, e, r.mono .fr⟩
      | ow o' =>
        obtain ⟨b, eb, rb, lb⟩ := q
        refine ⟨b, eb, rb.mono .fr rfl, lb, fun z => hj ?_⟩
        exact S.inj j i o' o a h' h (z ▸ eb) e
  · have lt := (List.getElem?_eq_some_iff.mp h).1
    have ne : ∀ {k : Nat} {o1 : O}, (m.set i (.fz o.frz))[k]? = some (.ow o1) → m[k]? = some (.ow o1) := fun {k o1} hk => by
      by_cases hj : k = i
      · subst hj
        rw [List.getElem?_set_self lt] at hk
        cases hk
      · rwa [List.getElem?_set_ne (Ne.symm hj)] at hk
    exact S.inj j k o1 o2 b (ne h1) (ne h2)
/-- a slot takes a frozen value -/
theorem SR.setFz (S : SR G w m σ) {t : T} {v : V} (r : RF G w t v) : SR G w (m.set i (.fz t)) (σ.set i (some v)) := by
  have sub : ∀ {k : Nat} {o1 : O}, (m.set i (.fz t))[k]? = some (.ow o1) → k ≠ i ∧ m[k]? = some (.ow o1) := fun {k o1} hk => by
    by_cases hj : k = i
    · subst hj
      by_cases lt : k < m.length
      · rw [List.getElem?_set_self lt] at hk; cases hk
      · rw [List.getElem?_eq_none (by rw [List.length_set]; omega)] at hk; cases hk
    · exact ⟨hj, by rwa [List.getElem?_set_ne (Ne.symm hj)] at hk⟩
  refine ⟨by rw [List.length_set, List.length_set]; exact S.len, fun j s h => ?_, fun j k o1 o2 b h1 h2 e1 e2 => ?_, S.sep, S.trk⟩
  · by_cases hj : j = i
    · subst hj
      have lt : j < m.length := by have := (List.getElem?_eq_some_iff.mp h).1; rwa [List.length_set] at this
      rw [List.getElem?_set_self lt] at h
      cases h
      exact ⟨v, List.getElem?_set_self (by rw [← S.len]; exact lt), r⟩
    · rw [List.getElem?_set_ne (Ne.symm hj)] at h
      rw [List.getElem?_set_ne (Ne.symm hj)]
      exact S.sl j s h
  · obtain ⟨n1, q1⟩ := sub h1
    obtain ⟨n2, q2⟩ := sub h2
    rw [List.getElem?_set_ne (Ne.symm n1)] at e1
    rw [List.getElem?_set_ne (Ne.symm n2)] at e2
    exact S.inj j k o1 o2 b q1 q2 e1 e2
/-- a slot takes an owned object that stands in no slot -/
theorem SR.setOw (S : SR G w m σ) {p : Addr} (r : RO G w p o) (l : w.L p) (n : ∀ (i : Nat) (o : O), m[i]? = some (.ow o) → σ[i]? ≠ some (some (.ref p))) : SR G w (m.set i (.ow o)) (σ.set i (some (.ref p))) := by
  have sub : ∀ {k : Nat} {o1 : O}, (m.set i (.ow o))[k]? = some (.ow o1) → (k = i ∧ k < m.length) ∨ (k ≠ i ∧ m[k]? = some (.ow o1)) := fun {k o1} hk => by
    by_cases hj : k = i
    · subst hj
      refine .inl ⟨rfl, ?_⟩
      have := (List.getElem?_eq_some_iff.mp hk).1
      rwa [List.length_set] at this
    · exact .inr ⟨hj, by rwa [List.getElem?_set_ne (Ne.symm hj)] at hk⟩
  refine ⟨by rw [List.length_set, List.length_set]; exact S.len, fun j s h => ?_, fun j k o1 o2 b h1 h2 e1 e2 => ?_, S.sep, S.trk⟩
  · by_cases hj : j = i
    · subst hj
      have lt : j < m.length := by have := (List.getElem?_eq_some_iff.mp h).1; rwa [List.length_set] at this
      rw [List.getElem?_set_self lt] at h
      cases h
      exact ⟨p, List.getElem?_set_self (by rw [← S.len]; exact lt), r, l⟩
    · rw [List.getElem?_set_ne (Ne.symm hj)] at h
      rw [List.getElem?_set_ne (Ne.symm hj)]
      exact S.sl j s h
  · rcases sub h1 with ⟨n1, l1⟩ | ⟨n1, q1⟩ <;> rcases sub h2 with ⟨n2, l2⟩ | ⟨n2, q2⟩
    · rw [n1, n2]
    · subst n1
      rw [List.getElem?_set_self (by rw [← S.len]; exact l1)] at e1
      rw [List.getElem?_set_ne (Ne.symm n2)] at e2
      cases e1
      exact absurd e2 (n k o2 q2)
    · subst n2
      rw [List.getElem?_set_self (by rw [← S.len]; exact l2)] at e2
      rw [List.getElem?_set_ne (Ne.symm n1)] at e1
      cases e2
      exact absurd e1 (n j o1 q1)
    · rw [List.getElem?_set_ne (Ne.symm n1)] at e1
      rw [List.getElem?_set_ne (Ne.symm n2)] at e2
      exact S.inj j k o1 o2 b q1 q2 e1 e2
/-- a slot is emptied (moved out, or forgotten) -/
theorem SR.setNo (S : SR G w m σ) : SR G w (m.set i .no) σ := by
  have sub : ∀ {k : Nat} {o1 : O}, (m.set i Slot.no)[k]? = some (.ow o1) → m[k]? = some (.ow o1) := fun {k o1} hk => by
    by_cases hj : k = i
    · subst hj
      by_cases lt : k < m.length
      · rw [List.getElem?_set_self lt] at hk; cases hk
      · rw [List.getElem?_eq_none (by rw [List.length_set]; omega)] at hk; cases hk
    · rwa [List.getElem?_set_ne (Ne.symm hj)] at hk
  refine ⟨by rw [List.length_set]; exact S.len, fun j s h => ?_, fun j k o1 o2 b h1 h2 => S.inj j k o1 o2 b (sub h1) (sub h2), S.sep, S.trk⟩
  by_cases hj : j = i
  · subst hj
    have lt : j < m.length := by have := (List.getElem?_eq_some_iff.mp h).1; rwa [List.length_set] at this
    rw [List.getElem?_set_self lt] at h
    cases h
    trivial
  · rw [List.getElem?_set_ne (Ne.symm hj)] at h
    exact S.sl j s h
/-- the owned object of a slot is changed in place -/
def Wd.wr (w : Wd) (p : Addr) (u : HO) : Wd := ⟨w.F, w.L, upd w.H p u⟩
theorem SR.write (S : SR G w m σ) {o' : O} {u : HO} (h : m[i]? = some (.ow o)) (e : σ[i]? = some (some (.ref a))) (r : RO G (w.wr a u) a o') : SR G (w.wr a u) (m.set i (.ow o')) σ ∧ Ex w (w.wr a u) := by
  obtain ⟨a', e', r0, l⟩ := S.sl i _ h
  rw [e] at e'
  cases e'
  have nf : ¬ w.F a := S.sep a l
  have mo : Mo w (w.wr a u) := ⟨fun _ h => h, fun b f => .inl (upd_ne (show b ≠ a from fun z => nf (by rw [← z]; exact f))).symm⟩
  have lt := (List.getElem?_eq_some_iff.mp h).1
  refine ⟨⟨by rw [List.length_set]; exact S.len, fun j s h' => ?_, fun j k o1 o2 b h1 h2 e1 e2 => ?_, S.sep, fun b f => ?_⟩, ⟨mo.fz, mo.kp, fun b v h1 h2 h3 => ⟨?_, h2, h3⟩⟩⟩
  · by_cases hj : j = i
    · subst hj
      rw [List.getElem?_set_self lt] at h'
      cases h'
      exact ⟨a, e, r, l⟩
    · rw [List.getElem?_set_ne (Ne.symm hj)] at h'
      have q := S.sl j s h'
      cases s with
      | no => trivial
      | fz t => obtain ⟨x, e, r⟩ := q; exact ⟨x, e, r.mono mo⟩
      | ow o2 =>
        obtain ⟨b, eb, rb, lb⟩ := q
        refine ⟨b, eb, rb.mono mo (upd_ne fun z => hj ?_), lb⟩
        exact S.inj j i o2 o a h' h (z ▸ eb) e
  · have sub : ∀ {k : Nat} {o1 : O}, (m.set i (.ow o'))[k]? = some (.ow o1) → ∃ o2, m[k]? = some (.ow o2) := fun {k o1} hk => by
      by_cases hj : k = i
      · subst hj; exact ⟨o, h⟩
      · exact ⟨o1, by rwa [List.getElem?_set_ne (Ne.symm hj)] at hk⟩
    obtain ⟨p1, q1⟩ := sub h1
    obtain ⟨p2, q2⟩ := sub h2
    exact S.inj j k p1 p2 b q1 q2 e1 e2
  · obtain ⟨v, q⟩ := S.trk b f
    exact ⟨v, (upd_ne (show b ≠ a from fun z => nf (by rw [← z]; exact f))).trans q⟩
  · show upd w.H a u b = some v
    rw [upd_ne (show b ≠ a from fun z => h3 (by rw [z]; exact l))]; exact h1
end
end Mi
set_option maxHeartbeats 4000000
namespace Mi
open PySem PySem.Spec PyProof.Rows L2

/-! ### results -/
inductive Res (α : Type) where
  | ok (a : α) (m : List Slot) | ex (x : T) (m : List Slot) | no
/-- no exception leaves a comprehension -/
def Res.calm {α : Type} (r : Res α) : Res α := match r with
  | .ex _ _ => .no
  | r => r
def Res.bind {α β : Type} (r : Res α) (f : α → List Slot → Res β) : Res β := match r with
  | .ok a m => f a m
  | .ex x m => .ex x m
  | .no => .no
inductive CRes where
  | ok (r : R) (outs : List Slot) | ex (x : T) (outs : List Slot) | no
inductive Fl where
  | nx (m : List Slot) | rt (r : R) (m : List Slot) | bk (m : List Slot) | ct (m : List Slot) | ex (x : T) (m : List Slot) | no

/-! ### operations -/
inductive Ty where
  | int | bool | str | list | tuple | dict
  deriving DecidableEq
inductive Op where
  | add | sub | mul | fdiv | mod | pow | neg | eq | ne | lt | le | gt | ge | isin | notin | isn | notn | len | idx | sl (lo hi : Bool)
  | abs | int | str | list | all | any | join | isi (l : List Ty) | isi1 (l : Ty)
def Ty.has : T → Ty → Bool
  | .bl _, .bool => true
  | .bl _, .int => true
  | .int _, .int => true
  | .str _, .str => true
  | .lst _, .list => true
  | .scr _, .list => true
  | .tup _, .tuple => true
  | .dic _, .dict => true
  | _, _ => false
def flatT : T → Bool
  | .non => true
  | .bl _ => true
  | .int _ => true
  | .str _ => true
  | _ => false
/-- == of flat values -/
def eqT : T → T → Bool
  | .non, .non => true
  | .bl a, .bl b => a == b
  | .bl a, .int b => (if a then 1 else 0) == b
  | .int a, .bl b => a == (if b then 1 else 0)
  | .int a, .int b => a == b
  | .str a, .str b => a == b
  | _, _ => false
def isNon : T → Bool
  | .non => true
  | _ => false
def cutT (xs : List T) (lo hi : Option Int) : List T := (xs.drop (HT.sIx xs.length 0 lo)).take (HT.sIx xs.length xs.length hi - HT.sIx xs.length 0 lo)
def cutI (xs : List Int) (lo hi : Option Int) : List Int := (xs.drop (HT.sIx xs.length 0 lo)).take (HT.sIx xs.length xs.length hi - HT.sIx xs.length 0 lo)
def seqT : T → Option (List T)
  | .lst xs => some xs
  | .tup xs => some xs
  | .scr ns => some (ns.map .int)
  | _ => none
def bools : List T → Option (List Bool)
  | [] => some []
  | .bl b :: r => (bools r).map (b :: ·)
  | _ :: _ => none
def strsT : List T → Option (List Str)
  | [] => some []
  | .str b :: r => (strsT r).map (b :: ·)
  | _ :: _ => none
def slF (x : T) (lo hi : Option Int) : Option R := match x with
  | .lst xs => some (.ow (.lst (cutT xs lo hi)))
  | .scr ns => some (.ow (.lst ((cutI ns lo hi).map .int)))
  | .str z => if z.length ≤ sizeLine then some (.fz (.str (cutS z lo hi))) else none
  | _ => none
def fI (i : Int) : Option R := some (.fz (.int i))
def fB (b : Bool) : Option R := some (.fz (.bl b))
def fS (s : Str) : Option R := some (.fz (.str s))
def addF : T → T → Option R
  | .int i, .int j => fI (i + j)
  | .str x, .str y => if x.length + y.length ≤ sizeLine then fS (x ++ y) else none
  | .lst xs, .lst ys => if xs.length + ys.length ≤ sizeLine then some (.ow (.lst (xs ++ ys))) else none
  | _, _ => none
def subF : T → T → Option R
  | .int i, .int j => fI (i - j)
  | _, _ => none
def mulF : T → T → Option R
  | .int i, .int j => if i.natAbs.log2 + j.natAbs.log2 < 1000000 then fI (i * j) else none
  | .str x, .int n => if 0 ≤ n ∧ n ≤ 1000 ∧ x.length ≤ 1000 then fS (Txt.mul x n) else none
  | _, _ => none
def fdivF : T → T → Option R
  | .int i, .int j => if 0 < j ∧ j.natAbs.log2 < 9000 then fI (i / j) else none
  | _, _ => none
def modF : T → T → Option R
  | .int i, .int j => if 0 < j then fI (i % j) else none
  | _, _ => none
def powF : T → T → Option R
  | .int i, .int j => if 0 ≤ j ∧ j ≤ 1000000 ∧ i.natAbs < 2 ^ 64 then fI (i ^ j.toNat) else none
  | _, _ => none
def scalT : T → T → Bool
  | .bl _, .int _ => false
  | .int _, .bl _ => false
  | x, y => flatT x && flatT y
mutual
def pyT : T → Option PyData
  | .non => some .none
  | .bl b => some (.bool b)
  | .int i => some (.int i)
  | .str s => some (.str s)
  | .lst xs => (pyTs xs).map .list
  | .tup xs => (pyTs xs).map .tuple
  | _ => none
def pyTs : List T → Option (List PyData)
  | [] => some []
  | x :: r => match pyT x, pyTs r with
    | some d, some ds => some (d :: ds)
    | _, _ => none
end
def eqF (x y : T) (k : Bool → Bool) : Option R := if scalT x y = true then fB (k (eqT x y)) else match pyT x, pyT y with
  | some d, some e => if SeqAt.shaped d = true ∧ SeqAt.shaped e = true then fB (k (PyData.eqv d e)) else none
  | _, _ => none
def cmpF (p : Int → Int → Bool) : T → T → Option R
  | .int i, .int j => fB (p i j)
  | _, _ => none
def inF (k : Bool → Bool) : T → T → Option R
  | .str x, .str z => (match x.cps.toList with
    | [c] => fB (k (decide (c ∈ z.cps.toList)))
    | _ => none)
  | x, .lst xs => if flatT x = true ∧ xs.all flatT = true then fB (k (xs.any fun y => eqT y x)) else none
  | x, .tup xs => if flatT x = true ∧ xs.all flatT = true then fB (k (xs.any fun y => eqT y x)) else none
  | _, _ => none
def lenF : T → Option R
  | .str z => if z.length ≤ sizeLine then fI z.length else none
  | .lst xs => fI xs.length
  | .tup xs => fI xs.length
  | .scr xs => fI xs.length
  | .dic kvs => fI kvs.length
  | _ => none
def idxF : T → T → Option R
  | .lst xs, .int i => (atI xs i).map .fz
  | .tup xs, .int i => (atI xs i).map .fz
  | .scr ns, .int i => (atI ns i).map fun n => .fz (.int n)
  | .str z, .int i => if z.length ≤ sizeLine then (atI z.cps.toList i).map fun c => .fz (.str ⟨#[c]⟩) else none
  | _, _ => none
def negF : T → Option R
  | .int i => fI (-i)
  | _ => none
def absF : T → Option R
  | .int i => fI (if i < 0 then -i else i)
  | _ => none
def intF : T → Option R
  | .int i => fI i
  | .bl k => fI (if k then 1 else 0)
  | .str a => (match PySem.intText? a with
    | some n => if a.length ≤ 640 then fI n else none
    | none => none)
  | _ => none
def strF : T → Option R
  | .int i => if i.natAbs.log2 < 1920 then fS (toString i) else none
  | .str x => fS x
  | _ => none
def listF : T → Option R
  | .lst xs => some (.ow (.lst xs))
  | .tup xs => some (.ow (.lst xs))
  | .scr ns => some (.ow (.lst (ns.map .int)))
  | _ => none
def allF : T → Option R
  | .lst xs => (bools xs).bind fun bs => fB (bs.all id)
  | _ => none
def anyF : T → Option R
  | .lst xs => (bools xs).bind fun bs => fB (bs.any id)
  | _ => none
def joinF : T → T → Option R
  | .str a, .lst xs => (strsT xs).bind fun ys => if (ys.map (·.length)).sum + ys.length * a.length ≤ 16777216 then fS (Txt.join a ys) else none
  | _, _ => none
def isnF (k : Bool → Bool) (x y : T) : Option R := if isNon y = true then fB (k (isNon x)) else none
def intO : T → Option Int
  | .int i => some i
  | _ => none
def isiF (l : List Ty) : T → Option R
  | .ins _ _ => none
  | x => fB (l.any (Ty.has x))
def isi1F (l : Ty) : T → Option R
  | .ins _ _ => none
  | x => fB (Ty.has x l)
def op1 : Op → Option (T → Option R)
  | .neg => some negF
  | .len => some lenF
  | .sl false false => some fun x => slF x none none
  | .abs => some absF
  | .int => some intF
  | .str => some strF
  | .list => some listF
  | .all => some allF
  | .any => some anyF
  | .isi l => some (isiF l)
  | .isi1 l => some (isi1F l)
  | _ => none
def op2 : Op → Option (T → T → Option R)
  | .add => some addF
  | .sub => some subF
  | .mul => some mulF
  | .fdiv => some fdivF
  | .mod => some modF
  | .pow => some powF
  | .eq => some fun x y => eqF x y id
  | .ne => some fun x y => eqF x y not
  | .lt => some (cmpF fun i j => decide (i < j))
  | .le => some (cmpF fun i j => decide (i ≤ j))
  | .gt => some (cmpF fun i j => decide (j < i))
  | .ge => some (cmpF fun i j => decide (j ≤ i))
  | .isin => some (inF id)
  | .notin => some (inF not)
  | .isn => some (isnF id)
  | .notn => some (isnF not)
  | .idx => some idxF
  | .sl true false => some fun x i => (intO i).bind fun i => slF x (some i) none
  | .sl false true => some fun x i => (intO i).bind fun i => slF x none (some i)
  | .join => some joinF
  | _ => none
def op3 : Op → Option (T → T → T → Option R)
  | .sl true true => some fun x i j => (intO i).bind fun i => (intO j).bind fun j => slF x (some i) (some j)
  | _ => none
def opF (f : Op) (ts : List T) : Option R := match ts with
  | [x] => (op1 f).bind fun g => g x
  | [x, y] => (op2 f).bind fun g => g x y
  | [x, y, z] => (op3 f).bind fun g => g x y z
  | _ => none

/-! ### syntax -/
mutual
inductive Pt where
  | nm (i : Nat) | tup (ps : Pts)
inductive Pts where
  | nil | cons (p : Pt) (r : Pts)
end
def Pts.len : Pts → Nat
  | .nil => 0
  | .cons _ r => r.len + 1
mutual
inductive E where
  | c (t : T) | var (i : Nat) | lst (es : Es) | tup (es : Es) | op (f : Op) (es : Es)
  | an (a b : E) | or (a b : E) | nt (a : E) | ite (c a b : E) | ch (f g : Op) (a b c : E)
  | slc (a b c : E) | jn (a b : E)
  | call (f : Nat) (io : List Bool) (es : Es)
  | comp (own : List Nat) (p : Pt) (s : Src) (cs : Es) (e : E)
inductive Es where
  | nil | cons (e : E) (r : Es)
inductive Src where
  | it (e : E) | rng1 (e : E) | rng2 (a b : E) | enum (e : E) | zip (a b : E)
end
mutual
inductive S where
  | set (i : Nat) (e : E) | unp (p : Pt) (e : E) | par (i j : Nat) (a b : E) | aug (i : Nat) (f : Op) (e : E) | ex (e : E) | ret (e : E) | retn
  | ife (c : E) (a b : Ss) | wh (c : E) (b : Ss) | fr (p : Pt) (s : Src) (b : Ss) | app (i : Nat) (e : E) | sto (i : Nat) (k v : E) | brk | cnt | pas
inductive Ss where
  | nil | cons (s : S) (r : Ss)
end
structure Def where
  np : Nat
  ns : Nat
  io : List Bool
  body : Ss

/-! ### slots -/
/-- a result as an operand: a new object is frozen -/
def R.opd : R → Opd
  | .fz t => .t t
  | .ow o => .t o.frz
  | .bo i => .b i
/-- an operand read now -/
def der (m : List Slot) : Opd → Option T
  | .t t => some t
  | .b i => match m[i]? with
    | some (.ow o) => some o.frz
    | some (.fz t) => some t
    | _ => none
def ders (m : List Slot) : List Opd → Option (List T)
  | [] => some []
  | d :: r => match der m d, ders m r with
    | some t, some ts => some (t :: ts)
    | _, _ => none
/-- an operand that is kept by someone: its slot is frozen -/
def esc (m : List Slot) : Opd → Option (T × List Slot)
  | .t t => some (t, m)
  | .b i => match m[i]? with
    | some (.ow o) => some (o.frz, m.set i (.fz o.frz))
    | some (.fz t) => some (t, m)
    | _ => none
def escs (m : List Slot) : List Opd → Option (List T × List Slot)
  | [] => some ([], m)
  | d :: r => match esc m d with
    | some (t, m1) => (match escs m1 r with
      | some (ts, m2) => some (t :: ts, m2)
      | none => none)
    | none => none
/-- arguments: what the callee may change is moved out of its slot -/
def pass (m : List Slot) : List Bool → List Opd → Option (List Slot × List Slot)
  | [], [] => some ([], m)
  | false :: io, d :: r => match esc m d with
    | some (t, m1) => (match pass m1 io r with
      | some (ss, m2) => some (.fz t :: ss, m2)
      | none => none)
    | none => none
  | true :: io, .b i :: r => match m[i]? with
    | some (.ow o) => (match pass (m.set i .no) io r with
      | some (ss, m2) => some (.ow o :: ss, m2)
      | none => none)
    | _ => none
  | _, _ => none
/-- what comes back into the slots -/
def back (m : List Slot) : List Bool → List Opd → List Slot → Option (List Slot)
  | [], [], _ => some m
  | false :: io, _ :: r, _ :: outs => back m io r outs
  | true :: io, .b i :: r, s :: outs => back (m.set i s) io r outs
  | _, _, _ => none
mutual
def bindP (m : List Slot) : Pt → T → Option (List Slot)
  | .nm i, x => if i < m.length then some (m.set i (.fz x)) else none
  | .tup ps, x => match x with
    | .tup xs => bindPs m ps xs
    | _ => none
def bindPs (m : List Slot) : Pts → List T → Option (List Slot)
  | .nil, [] => some m
  | .cons p r, x :: xs => (match bindP m p x with
    | some m1 => bindPs m1 r xs
    | none => none)
  | _, _ => none
end
def wipeM (m : List Slot) : List Nat → List Slot
  | [] => m
  | v :: vs => (wipeM m vs).set v .no
/-- the slots vs as they stand in m0 -/
def restM (m0 m : List Slot) : List Nat → List Slot
  | [] => m
  | v :: vs => (restM m0 m vs).set v (m0[v]?.getD .no)
def noOw (m : List Slot) (vs : List Nat) : Bool := vs.all fun v => match m[v]? with
  | some (.ow _) => false
  | some _ => true
  | none => false
def rangeT (lo hi : Int) : List T := (List.range (hi - lo).toNat).map fun (k : Nat) => T.int (lo + (k : Int))
def enumT : Nat → List T → List T
  | _, [] => []
  | k, x :: r => .tup [.int (k : Int), x] :: enumT (k + 1) r
def zipT : List T → List T → List T
  | x :: xs, y :: ys => .tup [x, y] :: zipT xs ys
  | _, _ => []
/-- what a for walks: the items -/
def itemsT : T → Option (List T)
  | .lst xs => some xs
  | .tup xs => some xs
  | .scr ns => some (ns.map .int)
  | .str z => if z.length ≤ sizeLine then some (z.cps.toList.map fun c => .str ⟨#[c]⟩) else none
  | _ => none
def loT (x : T) : Option (List T) := match x with
  | .lst xs => some xs
  | _ => none
def wideI (i : Int) : Bool := decide (-(2 ^ 62) ≤ i ∧ i < 2 ^ 62)

/-! ### the comprehension's and the loops' turns -/
def compGo (own : List Nat) (p : Pt) (cond elt : List Slot → Res R) : List T → List T → List Slot → Res (List T)
  | [], acc, m => .ok acc m
  | x :: xs, acc, m => match bindP (wipeM m own) p x with
    | none => .no
    | some m1 => (cond m1).bind fun r m2 => match r with
      | .fz (.bl true) => (elt m2).bind fun r m3 => match esc m3 r.opd with
        | some (t, m4) => if acc.length < sizeLine then compGo own p cond elt xs (acc ++ [t]) (wipeM m4 own) else .no
        | none => .no
      | .fz (.bl false) => compGo own p cond elt xs acc (wipeM m2 own)
      | _ => .no
def forGo (p : Pt) (body : List Slot → Fl) : List T → List Slot → Fl
  | [], m => .nx m
  | x :: xs, m => match bindP m p x with
    | none => .no
    | some m1 => match body m1 with
      | .nx m2 => forGo p body xs m2
      | .ct m2 => forGo p body xs m2
      | .bk m2 => .nx m2
      | f => f
def whGo (cond : List Slot → Res R) (body : List Slot → Fl) : Nat → List Slot → Fl
  | 0, _ => .no
  | n + 1, m => match cond m with
    | .ok (.fz (.bl true)) m1 => (match body m1 with
      | .nx m2 => whGo cond body n m2
      | .ct m2 => whGo cond body n m2
      | .bk m2 => .nx m2
      | f => f)
    | .ok (.fz (.bl false)) m1 => .nx m1
    | .ex x m1 => .ex x m1
    | _ => .no

/-! ### the evaluator -/
def opR (f : Op) (ds : List Opd) (m : List Slot) : Res R := match ders m ds with
  | some ts => (match opF f ts with
    | some r => .ok r m
    | none => .no)
  | none => .no
def callR (cal : Nat → List Slot → CRes) (f : Nat) (io : List Bool) (ds : List Opd) (m : List Slot) : Res R := match pass m io ds with
  | some (args, m1) => (match cal f args with
    | .ok (.bo _) _ => .no
    | .ok r outs => (match back m1 io ds outs with
      | some m2 => .ok r m2
      | none => .no)
    | .ex x outs => (match back m1 io ds outs with
      | some m2 => .ex x m2
      | none => .no)
    | .no => .no)
  | none => .no
section
variable (cal : Nat → List Slot → CRes)
mutual
def evE : E → List Slot → Res R
  | .c t, m => .ok (.fz t) m
  | .var i, m => match m[i]? with
    | some (.fz t) => .ok (.fz t) m
    | some (.ow _) => .ok (.bo i) m
    | _ => .no
  | .lst es, m => (evDs es m).bind fun ds m1 => match escs m1 ds with
    | some (ts, m2) => if ts.length ≤ sizeLine then .ok (.ow (.lst ts)) m2 else .no
    | none => .no
  | .tup es, m => (evDs es m).bind fun ds m1 => match escs m1 ds with
    | some (ts, m2) => if ts.length ≤ sizeLine then .ok (.fz (.tup ts)) m2 else .no
    | none => .no
  | .op f es, m => (evDs es m).bind fun ds m1 => opR f ds m1
  | .an a b, m => (evE a m).bind fun r m1 => match r with
    | .fz (.bl true) => evE b m1
    | .fz (.bl false) => .ok (.fz (.bl false)) m1
    | _ => .no
  | .or a b, m => (evE a m).bind fun r m1 => match r with
    | .fz (.bl true) => .ok (.fz (.bl true)) m1
    | .fz (.bl false) => evE b m1
    | _ => .no
  | .nt a, m => (evE a m).bind fun r m1 => match r with
    | .fz (.bl k) => .ok (.fz (.bl (!k))) m1
    | _ => .no
  | .ite c a b, m => (evE c m).bind fun r m1 => match r with
    | .fz (.bl true) => evE a m1
    | .fz (.bl false) => evE b m1
    | _ => .no
  | .ch f g a b c, m => (evE a m).bind fun ra m1 => (evE b m1).bind fun rb m2 => (opR f [ra.opd, rb.opd] m2).bind fun r m3 => match r with
    | .fz (.bl true) => (evE c m3).bind fun rc m4 => opR g [rb.opd, rc.opd] m4
    | .fz (.bl false) => .ok (.fz (.bl false)) m3
    | _ => .no
  | .slc a b c, m => (evE a m).bind fun ra m1 => (evE b m1).bind fun rb m2 => match der m2 rb.opd with
    | some (.int i) => (evE c m2).bind fun rc m3 => (match der m3 rc.opd, der m3 ra.opd with
      | some (.int j), some t => (match slF t (some i) (some j) with
        | some r => .ok r m3
        | none => .no)
      | _, _ => .no)
    | _ => .no
  | .jn a b, m => (evE a m).bind fun ra m1 => match der m1 ra.opd with
    | some (.str z) => (evE b m1).bind fun rb m2 => (match der m2 rb.opd with
      | some t => (match joinF (.str z) t with
        | some r => .ok r m2
        | none => .no)
      | none => .no)
    | _ => .no
  | .call f io es, m => (evDs es m).bind fun ds m1 => callR cal f io ds m1
  | .comp own p s cs e, m => (evSrc s m).bind fun xs m1 => if noOw m1 own = true then
      (compGo own p (fun m => evAll cs m) (fun m => evE e m) xs [] (wipeM m1 own)).calm.bind fun acc m2 => .ok (.ow (.lst acc)) (restM m1 m2 own)
    else .no
def evDs : Es → List Slot → Res (List Opd)
  | .nil, m => .ok [] m
  | .cons e r, m => (evE e m).bind fun x m1 => (evDs r m1).bind fun xs m2 => .ok (x.opd :: xs) m2
def evAll : Es → List Slot → Res R
  | .nil, m => .ok (.fz (.bl true)) m
  | .cons e r, m => (evE e m).bind fun x m1 => match x with
    | .fz (.bl true) => evAll r m1
    | .fz (.bl false) => .ok (.fz (.bl false)) m1
    | _ => .no
def evSrc : Src → List Slot → Res (List T)
  | .it e, m => (evE e m).bind fun r m1 => match esc m1 r.opd with
    | some (t, m2) => (match itemsT t with
      | some xs => .ok xs m2
      | none => .no)
    | none => .no
  | .rng1 e, m => (evE e m).bind fun r m1 => match der m1 r.opd with
    | some (.int j) => if wideI j = true then .ok (rangeT 0 j) m1 else .no
    | _ => .no
  | .rng2 a b, m => (evE a m).bind fun ra m1 => (evE b m1).bind fun rb m2 => match der m2 ra.opd, der m2 rb.opd with
    | some (.int i), some (.int j) => if wideI i = true ∧ wideI j = true then .ok (rangeT i j) m2 else .no
    | _, _ => .no
  | .enum e, m => (evE e m).bind fun r m1 => match esc m1 r.opd with
    | some (t, m2) => (match loT t with
      | some xs => .ok (enumT 0 xs) m2
      | none => .no)
    | none => .no
  | .zip a b, m => (evE a m).bind fun ra m1 => (evE b m1).bind fun rb m2 => match escs m2 [ra.opd, rb.opd] with
    | some ([t, u], m3) => (match loT t, loT u with
      | some xs, some ys => .ok (zipT xs ys) m3
      | _, _ => .no)
    | _ => .no
end
/-- name += value, name -= value: whole numbers -/
def augF (f : Op) (x y : T) : Option T := match f, x, y with
  | .add, .int i, .int j => some (.int (i + j))
  | .sub, .int i, .int j => some (.int (i - j))
  | _, _, _ => none
/-- a value that is returned: an owned slot's object is moved out -/
def outR (r : R) (m : List Slot) : Option (R × List Slot) := match r with
  | .bo i => (match m[i]? with
    | some (.ow o) => some (.ow o, m.set i .no)
    | some (.fz t) => some (.fz t, m)
    | _ => none)
  | r => some (r, m)
/-- name = value -/
def putR (i : Nat) (r : R) (m : List Slot) : Fl := if i < m.length then (match r with
    | .fz t => .nx (m.set i (.fz t))
    | .ow o => .nx (m.set i (.ow o))
    | .bo j => (match esc m (.b j) with
      | some (t, m1) => .nx (m1.set i (.fz t))
      | none => .no)) else .no
def keyT : T → Option Key
  | .int i => some (.inl i)
  | .str s => some (.inr s)
  | _ => none
def putT (kvs : List (Key × T)) (k : Key) (v : T) : List (Key × T) := if (kvs.any fun kv => decide (kv.1 = k)) = true then kvs.map fun kv => if decide (kv.1 = k) = true then (kv.1, v) else kv else kvs ++ [(k, v)]
def ofR (r : Res R) (k : R → List Slot → Fl) : Fl := match r with
  | .ok r m => k r m
  | .ex x m => .ex x m
  | .no => .no
variable (L : Nat)
mutual
def evS : S → List Slot → Fl
  | .set i e, m => ofR (evE cal e m) fun r m1 => putR i r m1
  | .unp p e, m => ofR (evE cal e m) fun r m1 => match esc m1 r.opd with
    | some (t, m2) => (match bindP m2 p t with
      | some m3 => .nx m3
      | none => .no)
    | none => .no
  | .par i j a b, m => ofR (evE cal a m) fun ra m1 => ofR (evE cal b m1) fun rb m2 => match escs m2 [ra.opd, rb.opd] with
    | some ([t, u], m3) => if i < m3.length ∧ j < m3.length then .nx ((m3.set i (.fz t)).set j (.fz u)) else .no
    | _ => .no
  | .aug i f e, m => match m[i]? with
    | some (.fz x) => ofR (evE cal e m) fun r m1 => (match m1[i]?, der m1 r.opd with
      | some (.fz _), some y => (match augF f x y with
        | some z => .nx (m1.set i (.fz z))
        | none => .no)
      | _, _ => .no)
    | _ => .no
  | .ex e, m => ofR (evE cal e m) fun _ m1 => .nx m1
  | .ret e, m => ofR (evE cal e m) fun r m1 => match outR r m1 with
    | some (r, m2) => .rt r m2
    | none => .no
  | .retn, m => .rt (.fz .non) m
  | .ife c a b, m => ofR (evE cal c m) fun r m1 => match r with
    | .fz (.bl true) => evSs a m1
    | .fz (.bl false) => evSs b m1
    | _ => .no
  | .wh c b, m => whGo (fun m => evE cal c m) (fun m => evSs b m) L m
  | .fr p s b, m => match evSrc cal s m with
    | .ok xs m1 => forGo p (fun m => evSs b m) xs m1
    | .ex x m1 => .ex x m1
    | .no => .no
  | .app i e, m => match m[i]? with
    | some (.ow (.lst _)) => ofR (evE cal e m) fun r m1 => (match esc m1 r.opd with
      | some (t, m2) => (match m2[i]? with
        | some (.ow (.lst xs)) => if xs.length < sizeLine then .nx (m2.set i (.ow (.lst (xs ++ [t])))) else .no
        | _ => .no)
      | none => .no)
    | _ => .no
  | .sto i k v, m => ofR (evE cal v m) fun rv m1 => match m1[i]? with
    | some (.ow _) => ofR (evE cal k m1) fun rk m2 => (match esc m2 rv.opd with
      | some (t, m3) => (match der m3 rk.opd, m3[i]? with
        | some (.int j), some (.ow (.lst xs)) => (match ixN xs.length j with
          | some n => .nx (m3.set i (.ow (.lst (xs.set n t))))
          | none => .no)
        | some kt, some (.ow (.dic kvs)) => (match keyT kt with
          | some k => if kvs.length < sizeLine then .nx (m3.set i (.ow (.dic (putT kvs k t)))) else .no
          | none => .no)
        | _, _ => .no)
      | none => .no)
    | _ => .no
  | .brk, m => .bk m
  | .cnt, m => .ct m
  | .pas, m => .nx m
def evSs : Ss → List Slot → Fl
  | .nil, m => .nx m
  | .cons s r, m => match evS s m with
    | .nx m1 => evSs r m1
    | f => f
end
end
/-- what the caller sees of the arguments' slots -/
def outsM : List Bool → List Slot → List Slot
  | [], _ => []
  | _ :: io, [] => .no :: outsM io []
  | true :: io, s :: m => s :: outsM io m
  | false :: io, _ :: m => .no :: outsM io m
def runD (cal : Nat → List Slot → CRes) (L : Nat) (d : Def) (args : List Slot) : CRes := if args.length = d.np then (match evSs cal L d.body (args ++ List.replicate (d.ns - d.np) .no) with
    | .nx m => .ok (.fz .non) (outsM d.io m)
    | .rt (.bo _) _ => .no
    | .rt r m => .ok r (outsM d.io m)
    | .ex x m => .ex x (outsM d.io m)
    | _ => .no) else .no
def callF (Γ : List Def) (L : Nat) : Nat → Nat → List Slot → CRes
  | 0, _, _ => .no
  | k + 1, f, args => match Γ[f]? with
    | some d => runD (callF Γ L k) L d args
    | none => .no
end Mi
set_option maxHeartbeats 4000000
namespace Mi
open PySem PySem.Spec PyProof.Rows L2

/-! ### results, read as wishes -/
def Res.sat {α : Type} (r : Res α) (A : α → List Slot → Prop) (B : T → List Slot → Prop) : Prop := match r with
  | .ok a m => A a m
  | .ex x m => B x m
  | .no => False
theorem Res.sat_bind {α β : Type} {r : Res α} {f : α → List Slot → Res β} {A : β → List Slot → Prop} {B : T → List Slot → Prop} : (r.bind f).sat A B ↔ r.sat (fun a m => (f a m).sat A B) B := by
  cases r <;> exact Iff.rfl
theorem Res.sat_mono {α : Type} {r : Res α} {A A' : α → List Slot → Prop} {B : T → List Slot → Prop} (h : r.sat A B) (k : ∀ a m, A a m → A' a m) : r.sat A' B := by
  cases r with
  | ok a m => exact k a m h
  | ex x m => exact h
  | no => exact h

structure Ct where
  G : Gm
  w0 : Wd
  s0 : St
  fx : Nat → Bool
  EM : T → List Slot → Prop
/-- a result's relation -/
def RR (G : Gm) (w : Wd) (m : List Slot) (σ : St) : R → V → Prop
  | .fz t, v => RF G w t v
  | .ow o, v => ∃ p, v = .ref p ∧ RO G w p o ∧ w.L p ∧ ∀ (i : Nat) (o' : O), m[i]? = some (.ow o') → σ[i]? ≠ some (some (.ref p))
  | .bo i, v => σ[i]? = some (some v)
def RD (G : Gm) (w : Wd) (σ : St) : Opd → V → Prop
  | .t t, v => RF G w t v
  | .b i, v => σ[i]? = some (some v)
inductive RDs (G : Gm) (w : Wd) (σ : St) : List Opd → List V → Prop
  | nil : RDs G w σ [] []
  | cons {d : Opd} {v : V} {ds : List Opd} {vs : List V} : RD G w σ d v → RDs G w σ ds vs → RDs G w σ (d :: ds) (v :: vs)
/-- representation now: the top may be owned -/
inductive RA (G : Gm) (w : Wd) : T → V → Prop
  | fz {t : T} {v : V} : RF G w t v → RA G w t v
  | ow {o : O} {p : Addr} : RO G w p o → RA G w o.frz (.ref p)
inductive RAs (G : Gm) (w : Wd) : List T → List V → Prop
  | nil : RAs G w [] []
  | cons {t : T} {v : V} {ts : List T} {vs : List V} : RA G w t v → RAs G w ts vs → RAs G w (t :: ts) (v :: vs)
section
variable {G : Gm} {w w' : Wd} {m m' : List Slot} {σ : St}
theorem RD.mono {d : Opd} {v : V} (r : RD G w σ d v) (mo : Mo w w') : RD G w' σ d v := by
  cases d with
  | t t => exact RF.mono mo r
  | b i => exact r
theorem RDs.mono {ds : List Opd} {vs : List V} (r : RDs G w σ ds vs) (mo : Mo w w') : RDs G w' σ ds vs := by
  induction r with
  | nil => exact .nil
  | cons a _ ih => exact .cons (a.mono mo) ih
theorem RAs.length {ts : List T} {vs : List V} (r : RAs G w ts vs) : ts.length = vs.length := by
  induction r with
  | nil => rfl
  | cons _ _ ih => exact congrArg Nat.succ ih
/-- an operand is read -/
theorem SR.der (S : SR G w m σ) {d : Opd} {v : V} {t : T} (r : RD G w σ d v) (h : der m d = some t) : RA G w t v := by
  cases d with
  | t t' =>
    cases h
    exact .fz r
  | b i =>
    have r' : σ[i]? = some (some v) := r
    cases e : m[i]? with
    | none => simp [Mi.der, e] at h
    | some s =>
      have q := S.sl i s e
      cases s with
      | no => simp [Mi.der, e] at h
      | fz t' =>
        simp only [Mi.der, e, Option.some.injEq] at h
        subst h
        obtain ⟨x, e1, e2⟩ := q
        rw [r'] at e1
        cases e1
        exact .fz e2
      | ow o =>
        simp only [Mi.der, e, Option.some.injEq] at h
        subst h
        obtain ⟨a, e1, e2, _⟩ := q
        rw [r'] at e1
        cases e1
        exact .ow e2
theorem SR.ders (S : SR G w m σ) : ∀ {ds : List Opd} {vs : List V} {ts : List T}, RDs G w σ ds vs → ders m ds = some ts → RAs G w ts vs
  | _, _, _, .nil, h => by cases h; exact .nil
  | _, _, _, .cons (d := d) (ds := ds) a b, h => by
    unfold Mi.ders at h
    cases h1 : Mi.der m d with
    | none => rw [h1] at h; cases h
    | some t =>
      cases h2 : Mi.ders m ds with
      | none => rw [h1, h2] at h; cases h
      | some us =>
        rw [h1, h2] at h
        cases h
        exact .cons (S.der a h1) (S.ders b h2)
/-- an operand is kept: its slot is frozen -/
theorem SR.esc (S : SR G w m σ) {d : Opd} {v : V} {t : T} (r : RD G w σ d v) (h : esc m d = some (t, m')) : ∃ w', w'.H = w.H ∧ SR G w' m' σ ∧ Ex w w' ∧ RF G w' t v := by
  cases d with
  | t t' =>
    cases h
    exact ⟨w, rfl, S, .refl w, r⟩
  | b i =>
    have r' : σ[i]? = some (some v) := r
    cases e : m[i]? with
    | none => simp [Mi.esc, e] at h
    | some s =>
      have q := S.sl i s e
      cases s with
      | no => simp [Mi.esc, e] at h
      | fz t' =>
        simp only [Mi.esc, e, Option.some.injEq, Prod.mk.injEq] at h
        obtain ⟨rfl, rfl⟩ := h
        obtain ⟨x, e1, e2⟩ := q
        rw [r'] at e1
        cases e1
        exact ⟨w, rfl, S, .refl w, e2⟩
      | ow o =>
        simp only [Mi.esc, e, Option.some.injEq, Prod.mk.injEq] at h
        obtain ⟨rfl, rfl⟩ := h
        obtain ⟨a, e1, _, _⟩ := q
        rw [r'] at e1
        cases e1
        obtain ⟨h1, h2, h3⟩ := S.frSlot e r'
        exact ⟨w.fr a, rfl, h1, h3, h2⟩
theorem SR.escs : ∀ {ds : List Opd} {vs : List V} {ts : List T} {w : Wd} {m m' : List Slot}, SR G w m σ → RDs G w σ ds vs → escs m ds = some (ts, m') → ∃ w', w'.H = w.H ∧ SR G w' m' σ ∧ Ex w w' ∧ RFs G w' ts vs
  | _, _, _, w, _, _, S, .nil, h => by cases h; exact ⟨w, rfl, S, .refl w, .nil⟩
  | _, _, _, w, m, _, S, .cons (d := d) (ds := ds) a b, h => by
    unfold Mi.escs at h
    cases h1 : Mi.esc m d with
    | none => rw [h1] at h; cases h
    | some p =>
      obtain ⟨t, m1⟩ := p
      rw [h1] at h
      obtain ⟨w1, e1, S1, x1, r1⟩ := S.esc a h1
      simp only at h
      cases h2 : Mi.escs m1 ds with
      | none => rw [h2] at h; cases h
      | some p2 =>
        obtain ⟨us, m2⟩ := p2
        rw [h2] at h
        cases h
        obtain ⟨w2, e2, S2, x2, r2⟩ := SR.escs S1 (b.mono x1.mo) h2
        exact ⟨w2, e2.trans e1, S2, x1.trans x2, .cons (r1.mono x2.mo) r2⟩
/-- a result as an operand -/
theorem SR.opd (S : SR G w m σ) {r : R} {v : V} (q : RR G w m σ r v) : ∃ w', w'.H = w.H ∧ SR G w' m σ ∧ Ex w w' ∧ RD G w' σ r.opd v := by
  cases r with
  | fz t => exact ⟨w, rfl, S, .refl w, q⟩
  | bo i => exact ⟨w, rfl, S, .refl w, q⟩
  | ow o =>
    obtain ⟨p, rfl, r, l, n⟩ := q
    exact ⟨w.fr p, rfl, S.fr l r.trk n, .fr l, r.rf (.inr rfl) .fr rfl⟩
end

/-! ### readings -/
structure Pre (C : Ct) (w : Wd) (m : List Slot) (σ : St) : Prop where
  sr : SR C.G w m σ
  ex : Ex C.w0 w
  fix : ∀ j, C.fx j = true → σ[j]? = C.s0[j]?
theorem Pre.step {C : Ct} {w w' : Wd} {m m' : List Slot} {σ : St} (p : Pre C w m σ) (s : SR C.G w' m' σ) (x : Ex w w') : Pre C w' m' σ := ⟨s, p.ex.trans x, p.fix⟩
section
variable (C : Ct)
def rdE (f : List Slot → Res R) : TE := fun σ H Q => ∃ w m, w.H = H ∧ Pre C w m σ ∧ (f m).sat (fun r m' => ∀ w' v, SR C.G w' m' σ → Ex w w' → RR C.G w' m' σ r v → Q v w'.H) C.EM
def rdD (f : List Slot → Res Opd) : TE := fun σ H Q => ∃ w m, w.H = H ∧ Pre C w m σ ∧ (f m).sat (fun d m' => ∀ w' v, SR C.G w' m' σ → Ex w w' → RD C.G w' σ d v → Q v w'.H) C.EM
def rdDs (f : List Slot → Res (List Opd)) : TA := fun σ H Q => ∃ w m, w.H = H ∧ Pre C w m σ ∧ (f m).sat (fun ds m' => ∀ w' vs, SR C.G w' m' σ → Ex w w' → RDs C.G w' σ ds vs → Q vs w'.H) C.EM
def rdB (f : List Slot → Res R) : TT := fun σ H Q => ∃ w m, w.H = H ∧ Pre C w m σ ∧ (f m).sat (fun r m' => ∃ k, r = .fz (.bl k) ∧ ∀ w', SR C.G w' m' σ → Ex w w' → Q k w'.H) C.EM
end
theorem PE.imp {X : Cx} {e : Expr} {t t' : TE} (h : PE X e t) (i : ∀ σ H Q, t' σ H Q → t σ H Q) : PE X e t' := ⟨fun pins s σ H Q I q => h.run pins s σ H Q I (i σ H Q q)⟩
theorem PT.imp {X : Cx} {e : Expr} {t t' : TT} (h : PT X e t) (i : ∀ σ H Q, t' σ H Q → t σ H Q) : PT X e t' := ⟨fun pins s σ H Q I q => h.run pins s σ H Q I (i σ H Q q)⟩
theorem PW.imp {X : Cx} {e : Expr} {t t' : TT} (h : PW X e t) (i : ∀ σ H Q, t' σ H Q → t σ H Q) : PW X e t' := ⟨fun wh pins s σ H Q I q => h.run wh pins s σ H Q I (i σ H Q q)⟩
theorem PA.imp {X : Cx} {es : List Expr} {t t' : TA} (h : PA X es t) (i : ∀ σ H Q, t' σ H Q → t σ H Q) : PA X es t' := ⟨fun p pins s σ H Q I q => h.run p pins s σ H Q I (i σ H Q q)⟩
theorem PS.imp {X : Cx} {e : Stmt} {t t' : TS} (h : PS X e t) (i : ∀ D σ H, t' D σ H → t D σ H) : PS X e t' := ⟨fun pins s σ H D I q => h.run pins s σ H D I (i D σ H q)⟩
theorem PSs.imp {X : Cx} {e : List Stmt} {t t' : TS} (h : PSs X e t) (i : ∀ D σ H, t' D σ H → t D σ H) : PSs X e t' := ⟨fun pins s σ H D I q => h.run pins s σ H D I (i D σ H q)⟩

section
variable {C : Ct} {X : Cx}
def opdF (f : List Slot → Res R) : List Slot → Res Opd := fun m => (f m).bind fun r m' => .ok r.opd m'
theorem rd_opd {f : List Slot → Res R} {σ : St} {H : Hp} {Q : VK} (h : rdD C (opdF f) σ H Q) : rdE C f σ H Q := by
  obtain ⟨w, m, e, P, q⟩ := h
  refine ⟨w, m, e, P, ?_⟩
  rw [opdF, Res.sat_bind] at q
  refine Res.sat_mono q fun r m' k w' v S' x' rr => ?_
  obtain ⟨w2, e2, S2, x2, d2⟩ := S'.opd rr
  have := k w2 v S2 (x'.trans x2) d2
  rwa [e2] at this
theorem pe_opd {e : Expr} {f : List Slot → Res R} (h : PE X e (rdE C f)) : PE X e (rdD C (opdF f)) := PE.imp h fun _ _ _ q => rd_opd q
theorem pa_nilM : PA X [] (rdDs C fun m => .ok [] m) := PA.imp pa_nil fun σ H Q ⟨w, m, e, P, q⟩ => by
  have := q w [] P.sr (.refl w) .nil
  rwa [e] at this
/-- argument by argument -/
def consD (f : List Slot → Res R) (g : List Slot → Res (List Opd)) : List Slot → Res (List Opd) := fun m => (f m).bind fun x m1 => (g m1).bind fun xs m2 => .ok (x.opd :: xs) m2
theorem rd_cons {f : List Slot → Res R} {g : List Slot → Res (List Opd)} {σ : St} {H : Hp} {Q : List V → Hp → Prop} (h : rdDs C (consD f g) σ H Q) : tCons (rdD C (opdF f)) (rdDs C g) σ H Q := by
  obtain ⟨w, m, e, P, q⟩ := h
  refine ⟨w, m, e, P, ?_⟩
  rw [consD, Res.sat_bind] at q
  rw [opdF, Res.sat_bind]
  refine Res.sat_mono q fun r m1 q1 w1 v1 S1 x1 r1 => ?_
  rw [Res.sat_bind] at q1
  refine ⟨w1, m1, rfl, P.step S1 x1, Res.sat_mono q1 fun ds m2 q2 w2 vs S2 x2 r2 => ?_⟩
  exact q2 w2 (v1 :: vs) S2 (x1.trans x2) (.cons (r1.mono x2.mo) r2)
theorem pa_consM {e : Expr} {es : List Expr} {f : List Slot → Res R} {g : List Slot → Res (List Opd)} (h : PE X e (rdE C f)) (hr : PA X es (rdDs C g)) (hs : starEach (e :: es) X.env = (false, eval e X.env) :: starEach es X.env) : PA X (e :: es) (rdDs C (consD f g)) :=
  PA.imp (pa_cons (pe_opd h) hr hs) fun _ _ _ q => rd_cons q
end
end Mi
set_option maxHeartbeats 4000000
namespace Mi
open PySem PySem.Spec PyProof.Rows L2

section
variable {G : Gm} {w : Wd} {m : List Slot} {σ : St} {v : V}
theorem RA.cases' {t : T} (h : RA G w t v) : RF G w t v ∨ ∃ o p, t = O.frz o ∧ v = .ref p ∧ RO G w p o := by
  cases h with
  | fz r => exact .inl r
  | ow r => exact .inr ⟨_, _, rfl, rfl, r⟩
theorem RA.int {i : Int} (h : RA G w (.int i) v) : v = .int i := by
  rcases h.cases' with r | ⟨o, p, e, _, _⟩
  · cases r; rfl
  · cases o <;> cases e
theorem RA.str {i : Str} (h : RA G w (.str i) v) : v = .str i := by
  rcases h.cases' with r | ⟨o, p, e, _, _⟩
  · cases r; rfl
  · cases o <;> cases e
theorem RA.bl {i : Bool} (h : RA G w (.bl i) v) : v = .bl i := by
  rcases h.cases' with r | ⟨o, p, e, _, _⟩
  · cases r; rfl
  · cases o <;> cases e
theorem RA.non (h : RA G w .non v) : v = .non := by
  rcases h.cases' with r | ⟨o, p, e, _, _⟩
  · cases r; rfl
  · cases o <;> cases e
theorem RF.lst_inv {xs : List T} : RF G w (.lst xs) v → ∃ a vs, v = .ref a ∧ w.F a ∧ w.H a = some (.lst vs) ∧ RFs G w xs vs
  | .lst f h r => ⟨_, _, rfl, f, h, r⟩
theorem RF.tup_inv {xs : List T} : RF G w (.tup xs) v → ∃ a vs, v = .ref a ∧ ((w.F a ∧ w.H a = some (.tup vs)) ∨ KT G.K a vs) ∧ RFs G w xs vs
  | .tup h r => ⟨_, _, rfl, h, r⟩
theorem RF.scr_inv {ns : List Int} : RF G w (.scr ns) v → ∃ a, v = .ref a ∧ ((w.F a ∧ ∃ o, w.H a = some (.frz o (.lst (ns.map V.int)))) ∨ KL G.K a (ns.map V.int))
  | .scr h => ⟨_, rfl, h⟩
theorem RF.dic_inv {kvs : List (Key × T)} : RF G w (.dic kvs) v → ∃ a ks, v = .ref a ∧ w.F a ∧ Rdo (w.H a) (.dK ks) ∧ RFk G w kvs ks
  | .dic f h r => ⟨_, _, rfl, f, h, r⟩
theorem RF.ins_inv {c : Nat} {fs : List (Nat × T)} : RF G w (.ins c fs) v → ∃ a dx gs, v = .ref a ∧ w.F a ∧ w.H a = some (.ins (G.cls c) dx gs) ∧ RFf G w fs gs
  | .ins f h r => ⟨_, _, _, rfl, f, h, r⟩
theorem RO.lst_inv {p : Addr} {xs : List T} : RO G w p (.lst xs) → ∃ vs, w.H p = some (.lst vs) ∧ RFs G w xs vs
  | .lst h r => ⟨_, h, r⟩
theorem RO.dic_inv {p : Addr} {kvs : List (Key × T)} : RO G w p (.dic kvs) → ∃ ks, w.H p = some (.dK ks) ∧ RFk G w kvs ks
  | .dic h r => ⟨_, h, r⟩
theorem RO.ins_inv {p : Addr} {c : Nat} {fs : List (Nat × T)} : RO G w p (.ins c fs) → ∃ dx gs, w.H p = some (.ins (G.cls c) dx gs) ∧ RFf G w fs gs
  | .ins h r => ⟨_, _, h, r⟩
theorem RA.lst {xs : List T} (h : RA G w (.lst xs) v) : ∃ a vs, v = .ref a ∧ w.H a = some (.lst vs) ∧ RFs G w xs vs := by
  rcases h.cases' with r | ⟨o, p, e, rfl, r⟩
  · obtain ⟨a, vs, e, _, h1, r1⟩ := r.lst_inv
    exact ⟨a, vs, e, h1, r1⟩
  · cases o <;> cases e
    obtain ⟨vs, h1, r1⟩ := r.lst_inv
    exact ⟨_, vs, rfl, h1, r1⟩
theorem RA.tup {xs : List T} (h : RA G w (.tup xs) v) : ∃ a vs, v = .ref a ∧ SqT G.K w.H a vs ∧ RFs G w xs vs := by
  rcases h.cases' with r | ⟨o, p, e, _, _⟩
  · obtain ⟨a, vs, e, h1, r1⟩ := r.tup_inv
    refine ⟨a, vs, e, ?_, r1⟩
    rcases h1 with ⟨_, h1⟩ | h1
    · exact .inl (.inl h1)
    · exact .inr h1
  · cases o <;> cases e
theorem RA.scr {ns : List Int} (h : RA G w (.scr ns) v) : ∃ a, v = .ref a ∧ SqL G.K w.H a (ns.map V.int) := by
  rcases h.cases' with r | ⟨o, p, e, _, _⟩
  · obtain ⟨a, e, h1⟩ := r.scr_inv
    refine ⟨a, e, ?_⟩
    rcases h1 with ⟨_, o, h1⟩ | h1
    · exact .inl (.inr ⟨o, h1⟩)
    · exact .inr h1
  · cases o <;> cases e
theorem RA.dic {kvs : List (Key × T)} (h : RA G w (.dic kvs) v) : ∃ a ks, v = .ref a ∧ Rdo (w.H a) (.dK ks) ∧ RFk G w kvs ks := by
  rcases h.cases' with r | ⟨o, p, e, rfl, r⟩
  · obtain ⟨a, vs, e, _, h1, r1⟩ := r.dic_inv
    exact ⟨a, vs, e, h1, r1⟩
  · cases o <;> cases e
    obtain ⟨vs, h1, r1⟩ := r.dic_inv
    exact ⟨_, vs, rfl, .inl h1, r1⟩
theorem RA.ins {c : Nat} {fs : List (Nat × T)} (h : RA G w (.ins c fs) v) : ∃ a dx gs, v = .ref a ∧ w.H a = some (.ins (G.cls c) dx gs) ∧ RFf G w fs gs := by
  rcases h.cases' with r | ⟨o, p, e, rfl, r⟩
  · obtain ⟨a, dx, vs, e, _, h1, r1⟩ := r.ins_inv
    exact ⟨a, dx, vs, e, h1, r1⟩
  · cases o <;> cases e
    obtain ⟨dx, vs, h1, r1⟩ := r.ins_inv
    exact ⟨_, dx, vs, rfl, h1, r1⟩
theorem RFs.ints : ∀ {ns : List Int} {vs : List V}, RFs G w (ns.map T.int) vs → vs = ns.map V.int
  | [], _, .nil => rfl
  | n :: ns, _, .cons a b => by
    cases a
    rw [RFs.ints b]
    rfl
theorem RFs.of_ints : ∀ (ns : List Int), RFs G w (ns.map T.int) (ns.map V.int)
  | [] => .nil
  | n :: ns => .cons (.int n) (RFs.of_ints ns)
theorem RFs.bools : ∀ {ts : List T} {vs : List V} {bs : List Bool}, RFs G w ts vs → bools ts = some bs → vs = bs.map V.bl
  | _, _, _, .nil, h => by cases h; rfl
  | _, _, _, .cons (t := t) (ts := ts) a b, h => by
    cases t with
    | bl k =>
      cases a
      cases h1 : Mi.bools ts with
      | none => simp [Mi.bools, h1] at h
      | some bs =>
        simp only [Mi.bools, h1, Option.map_some, Option.some.injEq] at h
        subst h
        rw [RFs.bools b h1]
        rfl
    | _ => simp [Mi.bools] at h
theorem RFs.strs' : ∀ {ts : List T} {vs : List V} {bs : List Str}, RFs G w ts vs → strsT ts = some bs → vs = bs.map V.str
  | _, _, _, .nil, h => by cases h; rfl
  | _, _, _, .cons (t := t) (ts := ts) a b, h => by
    cases t with
    | str k =>
      cases a
      cases h1 : Mi.strsT ts with
      | none => simp [Mi.strsT, h1] at h
      | some bs =>
        simp only [Mi.strsT, h1, Option.map_some, Option.some.injEq] at h
        subst h
        rw [RFs.strs' b h1]
        rfl
    | _ => simp [Mi.strsT] at h
/-! flat values -/
def vT : T → V
  | .non => .non
  | .bl b => .bl b
  | .int i => .int i
  | .str s => .str s
  | _ => .non
theorem RF.flat {t : T} (h : flatT t = true) (r : RF G w t v) : v = vT t := by
  cases r <;> first | rfl | cases h
theorem RA.flat {t : T} (h : flatT t = true) (r : RA G w t v) : v = vT t := by
  rcases r.cases' with r | ⟨o, p, e, _, _⟩
  · exact r.flat h
  · subst e; cases o <;> cases h
theorem RF.of_flat {t : T} (h : flatT t = true) : RF G w t (vT t) := by
  cases t <;> first | constructor | cases h
theorem flat_vT {t : T} (h : flatT t = true) : flatV (vT t) = true := by
  cases t <;> first | rfl | cases h
theorem eqT_vT {t u : T} (h : flatT t = true) (h' : flatT u = true) : eqV (vT t) (vT u) = eqT t u := by
  cases t <;> (try cases h) <;> cases u <;> first | rfl | cases h'
theorem RFs.flat : ∀ {ts : List T} {vs : List V}, RFs G w ts vs → ts.all flatT = true → vs = ts.map vT
  | _, _, .nil, _ => rfl
  | _, _, .cons a b, h => by
    rw [List.all_cons, Bool.and_eq_true] at h
    rw [a.flat h.1, RFs.flat b h.2]
    rfl
theorem all_flatV {ts : List T} (h : ts.all flatT = true) : (ts.map vT).all flatV = true := by
  rw [List.all_map]
  rw [List.all_eq_true] at h ⊢
  exact fun x hx => flat_vT (h x hx)
theorem any_eqT {ts : List T} {x : T} (hx : flatT x = true) (h : ts.all flatT = true) : inV (vT x) (ts.map vT) = ts.any fun y => eqT y x := by
  unfold inV
  induction ts with
  | nil => rfl
  | cons t r ih =>
    rw [List.all_cons, Bool.and_eq_true] at h
    rw [List.map_cons, List.any_cons, List.any_cons, ih h.2, eqT_vT h.1 hx]

/-- what follows -/
def After (G : Gm) (w : Wd) (m : List Slot) (σ : St) (res : R) (Q : VK) : Prop := ∀ w' v, SR G w' m σ → Ex w w' → RR G w' m σ res v → Q v w'.H
theorem After.fz {t : T} {Q : VK} (k : After G w m σ (.fz t) Q) (S : SR G w m σ) (r : RF G w t v) : Q v w.H := k w v S (.refl w) r
theorem After.new {o : O} {Q : VK} (k : After G w m σ (.ow o) Q) (S : SR G w m σ) {p : Addr} {u : HO} (hp : w.H p = none) (r : RO G (w.new p u) p o) : Q (.ref p) (upd w.H p u) := by
  refine k (w.new p u) (.ref p) (S.new hp) (Ex.new S.trk hp) ⟨p, rfl, r, .inr rfl, fun i o' h e => ?_⟩
  obtain ⟨a, e1, r1, _⟩ := S.sl i _ h
  rw [e] at e1
  cases e1
  obtain ⟨u', hu⟩ := r1.trk
  rw [hp] at hu
  cases hu
theorem RFs.new {xs : List T} {vs : List V} (r : RFs G w xs vs) (S : SR G w m σ) {p : Addr} {u : HO} (hp : w.H p = none) : RFs G (w.new p u) xs vs := RFs.mono (Mo.new S.trk hp) r
/-- a new list -/
theorem After.lst {xs : List T} {vs : List V} {Q : VK} (k : After G w m σ (.ow (.lst xs)) Q) (S : SR G w m σ) (r : RFs G w xs vs) : ∀ p, w.H p = none → Q (.ref p) (upd w.H p (.lst vs)) :=
  fun p hp => k.new S hp (.lst upd_same (r.new S hp))
/-- a new tuple, frozen at once -/
theorem After.tup {xs : List T} {vs : List V} {Q : VK} (k : After G w m σ (.fz (.tup xs)) Q) (S : SR G w m σ) (r : RFs G w xs vs) : ∀ p, w.H p = none → Q (.ref p) (upd w.H p (.tup vs)) := fun p hp => by
  have S1 := S.new (u := .tup vs) hp
  have r1 := r.new (u := .tup vs) S hp
  have hH : (w.new p (.tup vs)).H p = some (.tup vs) := upd_same
  refine k ((w.new p (.tup vs)).fr p) (.ref p) (S1.fr (.inr rfl) ⟨_, hH⟩ fun i o h e => ?_) ((Ex.new S.trk hp).trans (.fr (.inr rfl))) (.tup (.inl ⟨.inr rfl, hH⟩) (RFs.mono .fr r1))
  obtain ⟨a, e1, r1', _⟩ := S.sl i _ h
  rw [e] at e1
  cases e1
  obtain ⟨u', hu⟩ := r1'.trk
  rw [hp] at hu
  cases hu
end

end Mi
set_option maxHeartbeats 400000
namespace Mi
open PySem PySem.Spec PyProof.Rows L2
def OpOk2 (G : Gm) (f : Op) (r : R2) : Prop := ∀ (w : Wd) (m : List Slot) (σ : St) (t1 t2 : T) (v1 v2 : V) (res : R) (Q : VK), SR G w m σ → RA G w t1 v1 → RA G w t2 v2 → opF f [t1, t2] = some res → After G w m σ res Q → r v1 v2 w.H Q
def OpOk1 (G : Gm) (f : Op) (r : V → Hp → VK → Prop) : Prop := ∀ (w : Wd) (m : List Slot) (σ : St) (t1 : T) (v1 : V) (res : R) (Q : VK), SR G w m σ → RA G w t1 v1 → opF f [t1] = some res → After G w m σ res Q → r v1 w.H Q
section
variable {G : Gm}
/-! ### arithmetic -/
def rAddM : R2 := fun x y H Q => ((∃ i j, x = .int i ∧ y = .int j ∧ Q (.int (i + j)) H) ∨ (∃ i j, x = .str i ∧ y = .str j ∧ i.length + j.length ≤ sizeLine ∧ Q (.str (i ++ j)) H)) ∨ rCat x y H Q
theorem okAdd : OpOk2 G .add rAddM := fun w m σ t1 t2 v1 v2 res Q S a b h k => by
  replace h : addF t1 t2 = some res := h
  cases t1 <;> try (cases h; done)
  case int i =>
    cases t2 <;> try (cases h; done)
    case int j =>
      cases a.int; cases b.int
      cases h
      exact .inl (.inl ⟨i, j, rfl, rfl, k.fz S (.int _)⟩)
  case str i =>
    cases t2 <;> try (cases h; done)
    case str j =>
      cases a.str; cases b.str
      simp only [addF] at h
      split at h
      · rename_i hl
        cases h
        exact .inl (.inr ⟨i, j, rfl, rfl, hl, k.fz S (.str _)⟩)
      · cases h
  case lst xs =>
    cases t2 <;> try (cases h; done)
    case lst ys =>
      obtain ⟨p, vs, rfl, h1, r1⟩ := a.lst
      obtain ⟨q, us, rfl, h2, r2⟩ := b.lst
      simp only [addF] at h
      split at h
      · rename_i hl
        cases h
        refine .inr ⟨p, q, vs, us, rfl, rfl, h1, h2, by rw [← r1.length, ← r2.length]; exact hl, k.lst S (r1.append r2)⟩
      · cases h
def rInt2 (C : Int → Int → Prop) (g : Int → Int → V) : R2 := rI C g
theorem okSub : OpOk2 G .sub (rI0 fun i j => .int (i - j)) := fun w m σ t1 t2 v1 v2 res Q S a b h k => by
  replace h : subF t1 t2 = some res := h
  cases t1 <;> try (cases h; done)
  case int i =>
    cases t2 <;> try (cases h; done)
    case int j =>
      cases a.int; cases b.int
      cases h
      exact ⟨i, j, rfl, rfl, k.fz S (.int _)⟩
def rMulS : R2 := fun x y H Q => ∃ z n, x = .str z ∧ y = .int n ∧ 0 ≤ n ∧ n ≤ 1000 ∧ z.length ≤ 1000 ∧ Q (.str (Txt.mul z n)) H
def rMulM : R2 := fun x y H Q => rI CMulW (fun i j => .int (i * j)) x y H Q ∨ rMulS x y H Q
theorem okMul : OpOk2 G .mul rMulM := fun w m σ t1 t2 v1 v2 res Q S a b h k => by
  replace h : mulF t1 t2 = some res := h
  cases t1 <;> try (cases h; done)
  case int i =>
    cases t2 <;> try (cases h; done)
    case int j =>
      cases a.int; cases b.int
      simp only [mulF] at h
      split at h
      · rename_i hl
        cases h
        exact .inl ⟨i, j, rfl, rfl, hl, k.fz S (.int _)⟩
      · cases h
  case str z =>
    cases t2 <;> try (cases h; done)
    case int j =>
      cases a.str; cases b.int
      simp only [mulF] at h
      split at h
      · rename_i hl
        cases h
        exact .inr ⟨z, j, rfl, rfl, hl.1, hl.2.1, hl.2.2, k.fz S (.str _)⟩
      · cases h
theorem okFdiv : OpOk2 G .fdiv (rI CDivW fun i j => .int (i / j)) := fun w m σ t1 t2 v1 v2 res Q S a b h k => by
  replace h : fdivF t1 t2 = some res := h
  cases t1 <;> try (cases h; done)
  case int i =>
    cases t2 <;> try (cases h; done)
    case int j =>
      cases a.int; cases b.int
      simp only [fdivF] at h
      split at h
      · rename_i hl
        cases h
        exact ⟨i, j, rfl, rfl, hl, k.fz S (.int _)⟩
      · cases h
theorem okMod : OpOk2 G .mod (rI (fun _ j => 0 < j) fun i j => .int (i % j)) := fun w m σ t1 t2 v1 v2 res Q S a b h k => by
  replace h : modF t1 t2 = some res := h
  cases t1 <;> try (cases h; done)
  case int i =>
    cases t2 <;> try (cases h; done)
    case int j =>
      cases a.int; cases b.int
      simp only [modF] at h
      split at h
      · rename_i hl
        cases h
        exact ⟨i, j, rfl, rfl, hl, k.fz S (.int _)⟩
      · cases h
theorem okPow : OpOk2 G .pow (rI CPow fun i j => .int (i ^ j.toNat)) := fun w m σ t1 t2 v1 v2 res Q S a b h k => by
  replace h : powF t1 t2 = some res := h
  cases t1 <;> try (cases h; done)
  case int i =>
    cases t2 <;> try (cases h; done)
    case int j =>
      cases a.int; cases b.int
      simp only [powF] at h
      split at h
      · rename_i hl
        cases h
        exact ⟨i, j, rfl, rfl, hl, k.fz S (.int _)⟩
      · cases h
theorem okNeg : OpOk1 G .neg (rU fun i => .int (-i)) := fun w m σ t1 v1 res Q S a h k => by
  replace h : negF t1 = some res := h
  cases t1 <;> try (cases h; done)
  case int i =>
    cases a.int
    cases h
    exact ⟨i, rfl, k.fz S (.int _)⟩
theorem okCmp {f : Op} {p : Int → Int → Bool} (hf : ∀ x y, opF f [x, y] = cmpF p x y) : OpOk2 G f (rI0 fun i j => .bl (p i j)) := fun w m σ t1 t2 v1 v2 res Q S a b h k => by
  rw [hf] at h
  cases t1 <;> try (cases h; done)
  case int i =>
    cases t2 <;> try (cases h; done)
    case int j =>
      cases a.int; cases b.int
      cases h
      exact ⟨i, j, rfl, rfl, k.fz S (.bl _)⟩
/-! ### equality -/
theorem scal_flat {x y : T} (h : scalT x y = true) : flatT x = true ∧ flatT y = true ∧ scal (vT x) (vT y) = true ∧ decide (vT x = vT y) = eqT x y := by
  cases x with
  | non => cases y <;> first | cases h; done | exact ⟨rfl, rfl, rfl, rfl⟩
  | bl a => cases y <;> first | cases h; done | exact ⟨rfl, rfl, rfl, dec_bl⟩ | exact ⟨rfl, rfl, rfl, rfl⟩
  | int a => cases y <;> first | cases h; done | exact ⟨rfl, rfl, rfl, dec_int⟩ | exact ⟨rfl, rfl, rfl, rfl⟩
  | str a => cases y <;> first | cases h; done | exact ⟨rfl, rfl, rfl, dec_str⟩ | exact ⟨rfl, rfl, rfl, rfl⟩
  | _ => cases h
mutual
theorem RF.dp {G : Gm} {w : Wd} : ∀ (t : T) (v : V) (d : PyData), RF G w t v → pyT t = some d → Dp G.K w.H v d
  | .non, _, _, r, h => by cases r; cases h; exact .non
  | .bl b, _, _, r, h => by cases r; cases h; exact .bl b
  | .int i, _, _, r, h => by cases r; cases h; exact .int i
  | .str s, _, _, r, h => by cases r; cases h; exact .str s
  | .lst xs, v, d, r, h => by
    obtain ⟨a, vs, rfl, f, e, r⟩ := r.lst_inv
    cases h1 : pyTs xs with
    | none => rw [pyT, h1] at h; cases h
    | some ds =>
      rw [pyT, h1] at h
      cases h
      exact .lst (.inl (.inl e)) (RFs.dp xs vs ds r h1)
  | .tup xs, v, d, r, h => by
    obtain ⟨a, vs, rfl, e, r⟩ := r.tup_inv
    cases h1 : pyTs xs with
    | none => rw [pyT, h1] at h; cases h
    | some ds =>
      rw [pyT, h1] at h
      cases h
      refine .tup ?_ (RFs.dp xs vs ds r h1)
      rcases e with ⟨_, e⟩ | e
      · exact .inl (.inl e)
      · exact .inr e
  | .dic _, _, _, _, h => by cases h
  | .ins _ _, _, _, _, h => by cases h
  | .scr _, _, _, _, h => by cases h
theorem RFs.dp {G : Gm} {w : Wd} : ∀ (t : List T) (v : List V) (d : List PyData), RFs G w t v → pyTs t = some d → DpAll G.K w.H v d
  | [], _, _, r, h => by cases r; rw [pyTs] at h; cases h; exact .nil
  | t :: ts, _, _, r, h => by
    cases r with
    | cons a b =>
      cases h1 : pyT t with
      | none => rw [pyTs, h1] at h; cases h
      | some d =>
        cases h2 : pyTs ts with
        | none => rw [pyTs, h1, h2] at h; cases h
        | some ds =>
          rw [pyTs, h1, h2] at h
          cases h
          exact .cons (RF.dp t _ d a h1) (RFs.dp ts _ ds b h2)
end
theorem RA.dp {w : Wd} {t : T} {v : V} {d : PyData} (r : RA G w t v) (h : pyT t = some d) : Dp G.K w.H v d := by
  rcases r.cases' with r | ⟨o, p, rfl, rfl, r2⟩
  · exact RF.dp _ _ _ r h
  · cases o with
    | lst xs =>
      obtain ⟨vs, e, r⟩ := r2.lst_inv
      cases h1 : pyTs xs with
      | none => simp [O.frz, pyT, h1] at h
      | some ds =>
        simp only [O.frz, pyT, h1, Option.map_some, Option.some.injEq] at h
        subst h
        exact .lst (.inl (.inl e)) (RFs.dp _ _ _ r h1)
    | dic _ => cases h
    | ins _ _ => cases h
def rEqM (K : PySem.W.Frag) : R2 := fun x y H Q => rEq x y H Q ∨ rEqD K x y H Q
def rNeM (K : PySem.W.Frag) : R2 := fun x y H Q => rNe x y H Q ∨ rNeD K x y H Q
theorem okEqG {f : Op} {k' : Bool → Bool} {r1 r2 : R2} (hf : ∀ x y, opF f [x, y] = eqF x y k') (h1 : ∀ x y H Q, scal x y = true → Q (.bl (k' (decide (x = y)))) H → r1 x y H Q)
    (h2 : ∀ x y H Q d e, Dp G.K H x d → Dp G.K H y e → SeqAt.shaped d = true → SeqAt.shaped e = true → Q (.bl (k' (PyData.eqv d e))) H → r2 x y H Q) : OpOk2 G f (fun x y H Q => r1 x y H Q ∨ r2 x y H Q) := fun w m σ t1 t2 v1 v2 res Q S a b h k => by
  rw [hf] at h
  unfold eqF at h
  split at h
  · rename_i hs
    obtain ⟨f1, f2, sc, de⟩ := scal_flat hs
    cases h
    rw [a.flat f1, b.flat f2]
    refine .inl (h1 _ _ _ _ sc ?_)
    rw [de]
    exact k.fz S (.bl _)
  · split at h
    · rename_i d e hd he
      split at h
      · rename_i hsh
        cases h
        exact .inr (h2 _ _ _ _ d e (a.dp hd) (b.dp he) hsh.1 hsh.2 (k.fz S (.bl _)))
      · cases h
    · cases h
theorem okEq : OpOk2 G .eq (rEqM G.K) := okEqG (k' := id) (fun _ _ => rfl) (fun x y H Q s q => ⟨s, q⟩) fun x y H Q d e a b c c' q => ⟨d, e, a, b, c, c', q⟩
theorem okNe : OpOk2 G .ne (rNeM G.K) := okEqG (k' := not) (fun _ _ => rfl) (fun x y H Q s q => ⟨s, q⟩) fun x y H Q d e a b c c' q => ⟨d, e, a, b, c, c', q⟩
/-! ### in, is -/
def rInM (K : PySem.W.Frag) (neg : Bool) : R2 := fun x y H Q => (∃ (c : Nat) (z : Str), x = .str ⟨#[c]⟩ ∧ y = .str z ∧ Q (.bl (if neg then !decide (c ∈ z.cps.toList) else decide (c ∈ z.cps.toList))) H) ∨ rIn K neg x y H Q
theorem okInG {f : Op} {neg : Bool} (hf : ∀ x y, opF f [x, y] = inF (fun b => if neg then !b else b) x y) : OpOk2 G f (rInM G.K neg) := fun w m σ t1 t2 v1 v2 res Q S a b h k => by
  rw [hf] at h
  have seq : ∀ xs, (∃ p us, v2 = .ref p ∧ (SqL G.K w.H p us ∨ SqT G.K w.H p us) ∧ RFs G w xs us) → (if flatT t1 = true ∧ xs.all flatT = true then fB ((fun b => if neg then !b else b) (xs.any fun y => eqT y t1)) else none) = some res → rIn G.K neg v1 v2 w.H Q := fun xs ⟨p, us, e, hq, r⟩ h => by
    split at h
    · rename_i hs
      cases h
      refine ⟨p, us, e, hq, ?_, ?_, ?_⟩
      · rw [a.flat hs.1]; exact flat_vT hs.1
      · rw [r.flat hs.2]; exact all_flatV hs.2
      · rw [a.flat hs.1, r.flat hs.2, any_eqT hs.1 hs.2]
        exact k.fz S (.bl _)
    · cases h
  cases t2 with
  | lst xs =>
    obtain ⟨p, us, e, h1, r⟩ := b.lst
    refine .inr (seq xs ⟨p, us, e, .inl (.inl (.inl h1)), r⟩ ?_)
    cases t1 <;> exact h
  | tup xs =>
    obtain ⟨p, us, e, h1, r⟩ := b.tup
    refine .inr (seq xs ⟨p, us, e, .inr h1, r⟩ ?_)
    cases t1 <;> exact h
  | str z =>
    cases t1 <;> try (cases h; done)
    case str x =>
      cases a.str; cases b.str
      simp only [inF] at h
      split at h
      · rename_i c hc
        cases h
        refine .inl ⟨c, z, ?_, rfl, k.fz S (.bl _)⟩
        obtain ⟨⟨l⟩⟩ := x
        simp only at hc
        rw [hc]
      · cases h
  | _ => cases t1 <;> cases h
theorem okIn : OpOk2 G .isin (rInM G.K false) := okInG fun _ _ => rfl
theorem okNotin : OpOk2 G .notin (rInM G.K true) := okInG fun _ _ => rfl
theorem isNon_v {w : Wd} {t : T} {v : V} (r : RA G w t v) : decide (v = .non) = isNon t := by
  rcases r.cases' with r | ⟨o, p, rfl, rfl, r⟩
  · cases r <;> simp [isNon]
  · cases o <;> simp [isNon, O.frz]
theorem okIsn : OpOk2 G .isn (fun x y H Q => y = .non ∧ Q (.bl (decide (x = .non))) H) := fun w m σ t1 t2 v1 v2 res Q S a b h k => by
  replace h : isnF id t1 t2 = some res := h
  unfold isnF at h
  split at h
  · rename_i hn
    cases h
    have e2 : v2 = .non := by
      have z := isNon_v b
      rw [hn] at z
      exact of_decide_eq_true z
    refine ⟨e2, ?_⟩
    rw [isNon_v a]
    exact k.fz S (.bl _)
  · cases h
theorem okNotn : OpOk2 G .notn (fun x y H Q => y = .non ∧ Q (.bl (!decide (x = .non))) H) := fun w m σ t1 t2 v1 v2 res Q S a b h k => by
  replace h : isnF not t1 t2 = some res := h
  unfold isnF at h
  split at h
  · rename_i hn
    cases h
    have e2 : v2 = .non := by
      have z := isNon_v b
      rw [hn] at z
      exact of_decide_eq_true z
    refine ⟨e2, ?_⟩
    rw [isNon_v a]
    exact k.fz S (.bl _)
  · cases h
/-! ### items -/
theorem atI_get {α : Type} {xs : List α} {i : Int} {x : α} (h : atI xs i = some x) : ∃ j, ixN xs.length i = some j ∧ xs[j]? = some x := by
  unfold atI at h
  cases e : ixN xs.length i with
  | none => rw [e] at h; cases h
  | some j => rw [e] at h; exact ⟨j, rfl, h⟩
theorem atI_of {α : Type} {xs : List α} {i : Int} {x : α} {j : Nat} (e : ixN xs.length i = some j) (h : xs[j]? = some x) : atI xs i = some x := by
  unfold atI
  rw [e]
  exact h
theorem okIdx : OpOk2 G .idx (rIx G.K) := fun w m σ t1 t2 v1 v2 res Q S a b h k => by
  replace h : idxF t1 t2 = some res := h
  cases t2 <;> try (cases t1 <;> cases h; done)
  case int i =>
    cases b.int
    cases t1 <;> try (cases h; done)
    case lst xs =>
      obtain ⟨p, vs, rfl, h1, r⟩ := a.lst
      simp only [idxF, Option.map_eq_some_iff] at h
      obtain ⟨t, h2, rfl⟩ := h
      obtain ⟨j, e1, e2⟩ := atI_get h2
      obtain ⟨v, e3, r3⟩ := r.get e2
      rw [r.length] at e1
      exact .inl ⟨p, vs, i, v, rfl, rfl, .inl (.inl h1), atI_of e1 e3, k.fz S r3⟩
    case tup xs =>
      obtain ⟨p, vs, rfl, h1, r⟩ := a.tup
      simp only [idxF, Option.map_eq_some_iff] at h
      obtain ⟨t, h2, rfl⟩ := h
      obtain ⟨j, e1, e2⟩ := atI_get h2
      obtain ⟨v, e3, r3⟩ := r.get e2
      rw [r.length] at e1
      exact .inr (.inl ⟨p, vs, i, v, rfl, rfl, h1, atI_of e1 e3, k.fz S r3⟩)
    case scr ns =>
      obtain ⟨p, rfl, h1⟩ := a.scr
      simp only [idxF, Option.map_eq_some_iff] at h
      obtain ⟨n, h2, rfl⟩ := h
      obtain ⟨j, e1, e2⟩ := atI_get h2
      exact .inl ⟨p, _, i, .int n, rfl, rfl, h1, atI_of (by rw [List.length_map]; exact e1) (by rw [List.getElem?_map, e2]; rfl), k.fz S (.int n)⟩
    case str z =>
      cases a.str
      simp only [idxF] at h
      split at h
      · rename_i hl
        simp only [Option.map_eq_some_iff] at h
        obtain ⟨c, h2, rfl⟩ := h
        exact .inr (.inr ⟨z, i, c, rfl, rfl, hl, h2, k.fz S (.str _)⟩)
      · cases h
/-! ### slices -/
def rSlM (K : PySem.W.Frag) : V → Option Int → Option Int → Hp → VK → Prop := fun x lo hi H Q => rSlL K x lo hi H Q ∨ rSlS x lo hi H Q
theorem RFs.cut {w : Wd} {xs : List T} {vs : List V} {lo hi : Option Int} (r : RFs G w xs vs) : RFs G w (cutT xs lo hi) (cutV vs lo hi) := by
  unfold cutT cutV
  rw [r.length]
  exact (r.drop _).take _
theorem cut_ints {ns : List Int} {lo hi : Option Int} : cutV (ns.map V.int) lo hi = (cutI ns lo hi).map V.int := by
  unfold cutI cutV
  rw [List.length_map, ← List.map_drop, ← List.map_take]
theorem okSl {w : Wd} {m : List Slot} {σ : St} {t : T} {v : V} {lo hi : Option Int} {res : R} {Q : VK} (S : SR G w m σ) (a : RA G w t v) (h : slF t lo hi = some res) (k : After G w m σ res Q) : rSlM G.K v lo hi w.H Q := by
  cases t <;> try (cases h; done)
  case lst xs =>
    obtain ⟨p, vs, rfl, h1, r⟩ := a.lst
    cases h
    exact .inl ⟨p, vs, rfl, .inl (.inl h1), k.lst S r.cut⟩
  case scr ns =>
    obtain ⟨p, rfl, h1⟩ := a.scr
    cases h
    refine .inl ⟨p, _, rfl, h1, ?_⟩
    rw [cut_ints]
    exact k.lst S (RFs.of_ints _)
  case str z =>
    cases a.str
    simp only [slF] at h
    split at h
    · rename_i hl
      cases h
      exact .inr ⟨z, rfl, hl, k.fz S (.str _)⟩
    · cases h
/-! ### built-in calls -/
def rLenM (K : PySem.W.Frag) : List V → Hp → VK → Prop := fun xs H Q => (∃ x n, xs = [x] ∧ LenV K x H n ∧ Q (.int n) H) ∨ ∃ a kvs, xs = [V.ref a] ∧ Rdo (H a) (.dK kvs) ∧ Q (.int kvs.length) H
theorem okLen : OpOk1 G .len (fun x H Q => rLenM G.K [x] H Q) := fun w m σ t1 v1 res Q S a h k => by
  replace h : lenF t1 = some res := h
  cases t1 <;> try (cases h; done)
  case str z =>
    cases a.str
    simp only [lenF] at h
    split at h
    · rename_i hl
      cases h
      exact .inl ⟨.str z, z.length, rfl, ⟨hl, rfl⟩, k.fz S (.int _)⟩
    · cases h
  case lst xs =>
    obtain ⟨p, vs, rfl, h1, r⟩ := a.lst
    cases h
    rw [r.length] at k
    exact .inl ⟨.ref p, vs.length, rfl, .inl ⟨vs, .inl (.inl h1), rfl⟩, k.fz S (.int _)⟩
  case tup xs =>
    obtain ⟨p, vs, rfl, h1, r⟩ := a.tup
    cases h
    rw [r.length] at k
    exact .inl ⟨.ref p, vs.length, rfl, .inr ⟨vs, h1, rfl⟩, k.fz S (.int _)⟩
  case scr ns =>
    obtain ⟨p, rfl, h1⟩ := a.scr
    cases h
    exact .inl ⟨.ref p, ns.length, rfl, .inl ⟨_, h1, by rw [List.length_map]⟩, k.fz S (.int _)⟩
  case dic kvs =>
    obtain ⟨p, ks, rfl, h1, r⟩ := a.dic
    cases h
    rw [r.length] at k
    exact .inr ⟨p, ks, rfl, h1, k.fz S (.int _)⟩
def rStrM : List V → Hp → VK → Prop := fun xs H Q => (∃ i, xs = [.int i] ∧ i.natAbs.log2 < 1920 ∧ Q (.str (toString i)) H) ∨ ∃ a, xs = [.str a] ∧ Q (.str a) H
theorem okStr : OpOk1 G .str (fun x H Q => rStrM [x] H Q) := fun w m σ t1 v1 res Q S a h k => by
  replace h : strF t1 = some res := h
  cases t1 <;> try (cases h; done)
  case int i =>
    cases a.int
    simp only [strF] at h
    split at h
    · rename_i hl
      cases h
      exact .inl ⟨i, rfl, hl, k.fz S (.str _)⟩
    · cases h
  case str z =>
    cases a.str
    cases h
    exact .inr ⟨z, rfl, k.fz S (.str _)⟩
def rIntM : List V → Hp → VK → Prop := fun xs H Q => ((∃ i, xs = [.int i] ∧ Q (.int i) H) ∨ ∃ k, xs = [.bl k] ∧ Q (.int (if k then 1 else 0)) H) ∨ ∃ a n, xs = [.str a] ∧ PySem.intText? a = some n ∧ a.length ≤ 640 ∧ Q (.int n) H
theorem okInt : OpOk1 G .int (fun x H Q => rIntM [x] H Q) := fun w m σ t1 v1 res Q S a h k => by
  replace h : intF t1 = some res := h
  cases t1 <;> try (cases h; done)
  case int i =>
    cases a.int
    cases h
    exact .inl (.inl ⟨i, rfl, k.fz S (.int _)⟩)
  case bl i =>
    cases a.bl
    cases h
    exact .inl (.inr ⟨i, rfl, k.fz S (.int _)⟩)
  case str z =>
    cases a.str
    simp only [intF] at h
    split at h
    · rename_i n hn
      split at h
      · rename_i hl
        cases h
        exact .inr ⟨z, n, rfl, hn, hl, k.fz S (.int _)⟩
      · cases h
    · cases h
theorem okAbs : OpOk1 G .abs (fun x H Q => ∃ i, [x] = [V.int i] ∧ Q (.int (if i < 0 then -i else i)) H) := fun w m σ t1 v1 res Q S a h k => by
  replace h : absF t1 = some res := h
  cases t1 <;> try (cases h; done)
  case int i =>
    cases a.int
    cases h
    exact ⟨i, rfl, k.fz S (.int _)⟩
def rListM (K : PySem.W.Frag) : List V → Hp → VK → Prop := fun xs H Q => ∃ p ys, xs = [.ref p] ∧ (SqL K H p ys ∨ SqT K H p ys) ∧ ∀ l, H l = none → Q (.ref l) (upd H l (.lst ys))
theorem okList : OpOk1 G .list (fun x H Q => rListM G.K [x] H Q) := fun w m σ t1 v1 res Q S a h k => by
  replace h : listF t1 = some res := h
  cases t1 <;> try (cases h; done)
  case lst xs =>
    obtain ⟨p, vs, rfl, h1, r⟩ := a.lst
    cases h
    exact ⟨p, vs, rfl, .inl (.inl (.inl h1)), k.lst S r⟩
  case tup xs =>
    obtain ⟨p, vs, rfl, h1, r⟩ := a.tup
    cases h
    exact ⟨p, vs, rfl, .inr h1, k.lst S r⟩
  case scr ns =>
    obtain ⟨p, rfl, h1⟩ := a.scr
    cases h
    exact ⟨p, _, rfl, .inl h1, k.lst S (RFs.of_ints _)⟩
theorem okAll : OpOk1 G .all (fun x H Q => rAll G.K [x] H Q) := fun w m σ t1 v1 res Q S a h k => by
  replace h : allF t1 = some res := h
  cases t1 <;> try (cases h; done)
  case lst xs =>
    obtain ⟨p, vs, rfl, h1, r⟩ := a.lst
    simp only [allF] at h
    cases e : bools xs with
    | none => rw [e] at h; cases h
    | some bs =>
      rw [e] at h
      cases h
      have := r.bools e
      subst this
      exact ⟨p, bs, rfl, .inl (.inl h1), k.fz S (.bl _)⟩
theorem okAny : OpOk1 G .any (fun x H Q => rAny G.K [x] H Q) := fun w m σ t1 v1 res Q S a h k => by
  replace h : anyF t1 = some res := h
  cases t1 <;> try (cases h; done)
  case lst xs =>
    obtain ⟨p, vs, rfl, h1, r⟩ := a.lst
    simp only [anyF] at h
    cases e : bools xs with
    | none => rw [e] at h; cases h
    | some bs =>
      rw [e] at h
      cases h
      have := r.bools e
      subst this
      exact ⟨p, bs, rfl, .inl (.inl h1), k.fz S (.bl _)⟩
def rJoinM (K : PySem.W.Frag) : V → List V → Hp → VK → Prop := fun x xs H Q => ∃ a p, ∃ ys : List Str, x = .str a ∧ xs = [.ref p] ∧ (SqL K H p (ys.map V.str) ∨ SqT K H p (ys.map V.str)) ∧ (ys.map (·.length)).sum + ys.length * a.length ≤ 16777216 ∧ Q (.str (Txt.join a ys)) H
theorem okJoin : OpOk2 G .join (fun x y H Q => (∃ a, x = .str a) ∧ rJoinM G.K x [y] H Q) := fun w m σ t1 t2 v1 v2 res Q S a b h k => by
  replace h : joinF t1 t2 = some res := h
  cases t1 <;> try (cases h; done)
  case str z =>
    cases t2 <;> try (cases h; done)
    case lst xs =>
      cases a.str
      obtain ⟨p, vs, rfl, h1, r⟩ := b.lst
      simp only [joinF] at h
      cases e : strsT xs with
      | none => rw [e] at h; cases h
      | some ys =>
        rw [e] at h
        simp only [Option.bind_some] at h
        split at h
        · rename_i hl
          cases h
          have := r.strs' e
          subst this
          exact ⟨⟨z, rfl⟩, z, p, ys, rfl, rfl, .inl (.inl (.inl h1)), hl, k.fz S (.str _)⟩
        · cases h
/-! ### isinstance -/
def Ty.nm : Ty → String
  | .int => "int" | .bool => "bool" | .str => "str" | .list => "list" | .tuple => "tuple" | .dict => "dict"
def tyT : T → String
  | .non => "NoneType" | .bl _ => "bool" | .int _ => "int" | .str _ => "str" | .lst _ => "list" | .tup _ => "tuple" | .dic _ => "dict" | .scr _ => "list" | .ins _ _ => "object"
end
end Mi
set_option maxHeartbeats 1000000
namespace Mi
open PySem PySem.Spec PyProof.Rows L2

section
variable {C : Ct} {X : Cx} {cal : Nat → List Slot → CRes}
theorem n_cst {e : Expr} {v : V} {t : T} (h : PE X e (tC v)) (r : ∀ w, RF C.G w t v) : PE X e (rdE C (evE cal (.c t))) := PE.imp h fun σ H Q ⟨w, m, e, P, q⟩ => by
  rw [evE] at q
  have := q w v P.sr (.refl w) (r w)
  rwa [e] at this
theorem n_var {e : Expr} {i : Nat} (h : PE X e (tVar i)) : PE X e (rdE C (evE cal (.var i))) := PE.imp h fun σ H Q ⟨w, m, e, P, q⟩ => by
  rw [evE] at q
  cases h1 : m[i]? with
  | none => rw [h1] at q; exact q.elim
  | some s =>
    rw [h1] at q
    have sl := P.sr.sl i s h1
    cases s with
    | no => exact q.elim
    | fz t =>
      obtain ⟨v, e1, r⟩ := sl
      have := q w v P.sr (.refl w) r
      rw [e] at this
      exact ⟨v, e1, this⟩
    | ow o =>
      obtain ⟨a, e1, r, l⟩ := sl
      have := q w (.ref a) P.sr (.refl w) e1
      rw [e] at this
      exact ⟨_, e1, this⟩
/-- displays -/
theorem n_lst {e : Expr} {es : Es} {exs : List Expr} (hp : ∀ t, PA X exs t → PE X e (tLst t)) (h : PA X exs (rdDs C (evDs cal es))) : PE X e (rdE C (evE cal (.lst es))) := PE.imp (hp _ h) fun σ H Q ⟨w, m, e, P, q⟩ => by
  rw [evE, Res.sat_bind] at q
  refine ⟨w, m, e, P, Res.sat_mono q fun ds m1 q1 w1 vs S1 x1 r1 => ?_⟩
  cases h1 : escs m1 ds with
  | none => rw [h1] at q1; exact q1.elim
  | some p =>
    obtain ⟨ts, m2⟩ := p
    rw [h1] at q1
    simp only at q1
    obtain ⟨w2, e2, S2, x2, r2⟩ := SR.escs S1 r1 h1
    split at q1
    · rename_i hl
      refine ⟨by rw [← r2.length]; exact hl, ?_⟩
      rw [← e2]
      exact After.lst (fun w' v S' x' r' => q1 w' v S' (x1.trans (x2.trans x')) r') S2 r2
    · exact q1.elim
theorem n_tup {e : Expr} {es : Es} {exs : List Expr} (hp : ∀ t, PA X exs t → PE X e (tTup t)) (h : PA X exs (rdDs C (evDs cal es))) : PE X e (rdE C (evE cal (.tup es))) := PE.imp (hp _ h) fun σ H Q ⟨w, m, e, P, q⟩ => by
  rw [evE, Res.sat_bind] at q
  refine ⟨w, m, e, P, Res.sat_mono q fun ds m1 q1 w1 vs S1 x1 r1 => ?_⟩
  cases h1 : escs m1 ds with
  | none => rw [h1] at q1; exact q1.elim
  | some p =>
    obtain ⟨ts, m2⟩ := p
    rw [h1] at q1
    simp only at q1
    obtain ⟨w2, e2, S2, x2, r2⟩ := SR.escs S1 r1 h1
    split at q1
    · rename_i hl
      refine ⟨by rw [← r2.length]; exact hl, ?_⟩
      rw [← e2]
      exact After.tup (fun w' v S' x' r' => q1 w' v S' (x1.trans (x2.trans x')) r') S2 r2
    · exact q1.elim
/-! operations -/
theorem opR_sat {f : Op} {ds : List Opd} {m : List Slot} {A : R → List Slot → Prop} {B : T → List Slot → Prop} (h : (opR f ds m).sat A B) : ∃ ts r, ders m ds = some ts ∧ opF f ts = some r ∧ A r m := by
  unfold opR at h
  cases h1 : ders m ds with
  | none => rw [h1] at h; exact h.elim
  | some ts =>
    rw [h1] at h
    simp only at h
    cases h2 : opF f ts with
    | none => rw [h2] at h; exact h.elim
    | some r =>
      rw [h2] at h
      exact ⟨ts, r, rfl, h2, h⟩
theorem ders2 {m : List Slot} {d1 d2 : Opd} {ts : List T} (h : ders m [d1, d2] = some ts) : ∃ t1 t2, ts = [t1, t2] ∧ der m d1 = some t1 ∧ der m d2 = some t2 := by
  unfold ders ders ders at h
  cases h1 : der m d1 with
  | none => rw [h1] at h; cases h
  | some t1 =>
    cases h2 : der m d2 with
    | none => rw [h1, h2] at h; cases h
    | some t2 =>
      rw [h1, h2] at h
      cases h
      exact ⟨t1, t2, rfl, rfl, rfl⟩
theorem ders1 {m : List Slot} {d1 : Opd} {ts : List T} (h : ders m [d1] = some ts) : ∃ t1, ts = [t1] ∧ der m d1 = some t1 := by
  unfold ders ders at h
  cases h1 : der m d1 with
  | none => rw [h1] at h; cases h
  | some t1 =>
    rw [h1] at h
    cases h
    exact ⟨t1, rfl, rfl⟩
theorem rd_op2 {f : Op} {a b : E} {r : R2} (ok : OpOk2 C.G f r) {σ : St} {H : Hp} {Q : VK} (h : rdE C (evE cal (.op f (.cons a (.cons b .nil)))) σ H Q) : tOp r (rdD C (opdF (evE cal a))) (rdD C (opdF (evE cal b))) σ H Q := by
  obtain ⟨w, m, e, P, q⟩ := h
  rw [evE, Res.sat_bind, evDs, Res.sat_bind] at q
  refine ⟨w, m, e, P, ?_⟩
  rw [opdF, Res.sat_bind]
  refine Res.sat_mono q fun ra m1 q1 w1 v1 S1 x1 r1 => ?_
  rw [evDs, Res.sat_bind, Res.sat_bind] at q1
  refine ⟨w1, m1, rfl, P.step S1 x1, ?_⟩
  rw [opdF, Res.sat_bind]
  refine Res.sat_mono q1 fun rb m2 q2 w2 v2 S2 x2 r2 => ?_
  obtain ⟨ts, res, h1, h2, h3⟩ := opR_sat q2
  obtain ⟨t1, t2, rfl, g1, g2⟩ := ders2 h1
  exact ok w2 m2 σ t1 t2 v1 v2 res Q S2 (S2.der (r1.mono x2.mo) g1) (S2.der r2 g2) h2 fun w' v S' x' r' => h3 w' v S' (x1.trans (x2.trans x')) r'
theorem n_op2 {ex ea eb : Expr} {f : Op} {a b : E} {r : R2} (hp : ∀ ta tb, PE X ea ta → PE X eb tb → PE X ex (tOp r ta tb)) (ok : OpOk2 C.G f r) (ha : PE X ea (rdE C (evE cal a))) (hb : PE X eb (rdE C (evE cal b))) :
    PE X ex (rdE C (evE cal (.op f (.cons a (.cons b .nil))))) := PE.imp (hp _ _ (pe_opd ha) (pe_opd hb)) fun σ H Q q => rd_op2 ok q
theorem n_op1 {ex ea : Expr} {f : Op} {a : E} {r : V → Hp → VK → Prop} (hp : ∀ ta, PE X ea ta → PE X ex (tUn r ta)) (ok : OpOk1 C.G f r) (ha : PE X ea (rdE C (evE cal a))) :
    PE X ex (rdE C (evE cal (.op f (.cons a .nil)))) := PE.imp (hp _ (pe_opd ha)) fun σ H Q ⟨w, m, e, P, q⟩ => by
  rw [evE, Res.sat_bind, evDs, Res.sat_bind] at q
  refine ⟨w, m, e, P, ?_⟩
  rw [opdF, Res.sat_bind]
  refine Res.sat_mono q fun ra m1 q1 w1 v1 S1 x1 r1 => ?_
  obtain ⟨ts, res, h1, h2, h3⟩ := opR_sat q1
  obtain ⟨t1, rfl, g1⟩ := ders1 h1
  exact ok w1 m1 σ t1 v1 res Q S1 (S1.der r1 g1) h2 fun w' v S' x' r' => h3 w' v S' (x1.trans x') r'
/-! booleans -/
theorem n_and {ex ea eb : Expr} {a b : E} (hp : ∀ ta tb, PE X ea ta → PE X eb tb → PE X ex (tAndV ta tb)) (ha : PE X ea (rdE C (evE cal a))) (hb : PE X eb (rdE C (evE cal b))) : PE X ex (rdE C (evE cal (.an a b))) :=
  PE.imp (hp _ _ ha hb) fun σ H Q ⟨w, m, e, P, q⟩ => by
  rw [evE, Res.sat_bind] at q
  refine ⟨w, m, e, P, Res.sat_mono q fun r m1 q1 w1 v1 S1 x1 r1 => ?_⟩
  split at q1
  · cases r1
    refine ⟨true, rfl, ?_⟩
    rw [if_pos rfl]
    exact ⟨w1, m1, rfl, P.step S1 x1, Res.sat_mono q1 fun r m2 q2 w2 v2 S2 x2 r2 => q2 w2 v2 S2 (x1.trans x2) r2⟩
  · cases r1
    refine ⟨false, rfl, ?_⟩
    rw [if_neg (by decide)]
    exact q1 w1 (.bl false) S1 x1 (.bl false)
  · exact q1.elim
theorem n_or {ex ea eb : Expr} {a b : E} (hp : ∀ ta tb, PE X ea ta → PE X eb tb → PE X ex (tOrV ta tb)) (ha : PE X ea (rdE C (evE cal a))) (hb : PE X eb (rdE C (evE cal b))) : PE X ex (rdE C (evE cal (.or a b))) :=
  PE.imp (hp _ _ ha hb) fun σ H Q ⟨w, m, e, P, q⟩ => by
  rw [evE, Res.sat_bind] at q
  refine ⟨w, m, e, P, Res.sat_mono q fun r m1 q1 w1 v1 S1 x1 r1 => ?_⟩
  split at q1
  · cases r1
    refine ⟨true, rfl, ?_⟩
    rw [if_pos rfl]
    exact q1 w1 (.bl true) S1 x1 (.bl true)
  · cases r1
    refine ⟨false, rfl, ?_⟩
    rw [if_neg (by decide)]
    exact ⟨w1, m1, rfl, P.step S1 x1, Res.sat_mono q1 fun r m2 q2 w2 v2 S2 x2 r2 => q2 w2 v2 S2 (x1.trans x2) r2⟩
  · exact q1.elim
theorem n_not {ex ea : Expr} {a : E} (hp : ∀ ta, PE X ea ta → PE X ex (tNotV ta)) (ha : PE X ea (rdE C (evE cal a))) : PE X ex (rdE C (evE cal (.nt a))) :=
  PE.imp (hp _ ha) fun σ H Q ⟨w, m, e, P, q⟩ => by
  rw [evE, Res.sat_bind] at q
  refine ⟨w, m, e, P, Res.sat_mono q fun r m1 q1 w1 v1 S1 x1 r1 => ?_⟩
  split at q1
  · rename_i k
    cases r1
    exact ⟨k, rfl, q1 w1 _ S1 x1 (.bl _)⟩
  · exact q1.elim
theorem n_ite {ex ec ea eb : Expr} {c a b : E} (hp : ∀ tc ta tb, PT X ec tc → PE X ea ta → PE X eb tb → PE X ex (tIf tc ta tb)) (hc : PT X ec (rdB C (evE cal c))) (ha : PE X ea (rdE C (evE cal a))) (hb : PE X eb (rdE C (evE cal b))) : PE X ex (rdE C (evE cal (.ite c a b))) :=
  PE.imp (hp _ _ _ hc ha hb) fun σ H Q ⟨w, m, e, P, q⟩ => by
  rw [evE, Res.sat_bind] at q
  refine ⟨w, m, e, P, Res.sat_mono q fun r m1 q1 => ?_⟩
  split at q1
  · refine ⟨true, rfl, fun w1 S1 x1 => ?_⟩
    dsimp only
    rw [if_pos rfl]
    exact ⟨w1, m1, rfl, P.step S1 x1, Res.sat_mono q1 fun r m2 q2 w2 v2 S2 x2 r2 => q2 w2 v2 S2 (x1.trans x2) r2⟩
  · refine ⟨false, rfl, fun w1 S1 x1 => ?_⟩
    dsimp only
    rw [if_neg (by decide)]
    exact ⟨w1, m1, rfl, P.step S1 x1, Res.sat_mono q1 fun r m2 q2 w2 v2 S2 x2 r2 => q2 w2 v2 S2 (x1.trans x2) r2⟩
  · exact q1.elim
theorem rd_chain {f g : Op} {a b c : E} {r r' : R2} (ok : OpOk2 C.G f r) (ok' : OpOk2 C.G g r') {σ : St} {H : Hp} {Q : VK} (h : rdE C (evE cal (.ch f g a b c)) σ H Q) : tChain r r' (rdD C (opdF (evE cal a))) (rdD C (opdF (evE cal b))) (rdD C (opdF (evE cal c))) σ H Q := by
  obtain ⟨w, m, e, P, q⟩ := h
  rw [evE, Res.sat_bind] at q
  refine ⟨w, m, e, P, ?_⟩
  rw [opdF, Res.sat_bind]
  refine Res.sat_mono q fun ra m1 q1 w1 v1 S1 x1 r1 => ?_
  rw [Res.sat_bind] at q1
  refine ⟨w1, m1, rfl, P.step S1 x1, ?_⟩
  rw [opdF, Res.sat_bind]
  refine Res.sat_mono q1 fun rb m2 q2 w2 v2 S2 x2 r2 => ?_
  rw [Res.sat_bind] at q2
  obtain ⟨ts, res, h1, h2, h3⟩ := opR_sat q2
  obtain ⟨t1, t2, rfl, g1, g2⟩ := ders2 h1
  have r1' := r1.mono x2.mo
  refine ok w2 m2 σ t1 t2 v1 v2 res _ S2 (S2.der r1' g1) (S2.der r2 g2) h2 fun w3 v3 S3 x3 r3 => ?_
  split at h3
  · cases r3
    refine ⟨true, rfl, ?_⟩
    rw [if_pos rfl]
    rw [Res.sat_bind] at h3
    refine ⟨w3, m2, rfl, (P.step S1 x1).step S3 (x2.trans x3), ?_⟩
    rw [opdF, Res.sat_bind]
    refine Res.sat_mono h3 fun rc m4 q4 w4 v4 S4 x4 r4 => ?_
    obtain ⟨us, res', h1', h2', h3'⟩ := opR_sat q4
    obtain ⟨u1, u2, rfl, g1', g2'⟩ := ders2 h1'
    exact ok' w4 m4 σ u1 u2 v2 v4 res' Q S4 (S4.der ((r2.mono x3.mo).mono x4.mo) g1') (S4.der r4 g2') h2' fun w' v S' x' r' => h3' w' v S' (x1.trans (x2.trans (x3.trans (x4.trans x')))) r'
  · cases r3
    refine ⟨false, rfl, ?_⟩
    rw [if_neg (by decide)]
    exact h3 w3 (.bl false) S3 (x1.trans (x2.trans x3)) (.bl false)
  · exact h3.elim
theorem n_chain {ex ea eb ec : Expr} {f g : Op} {a b c : E} {r r' : R2} (hp : ∀ ta tb tc, PE X ea ta → PE X eb tb → PE X ec tc → PE X ex (tChain r r' ta tb tc)) (ok : OpOk2 C.G f r) (ok' : OpOk2 C.G g r')
    (ha : PE X ea (rdE C (evE cal a))) (hb : PE X eb (rdE C (evE cal b))) (hc : PE X ec (rdE C (evE cal c))) : PE X ex (rdE C (evE cal (.ch f g a b c))) := PE.imp (hp _ _ _ (pe_opd ha) (pe_opd hb) (pe_opd hc)) fun σ H Q q => rd_chain ok ok' q
/-! tests -/
theorem rd_bool {a : E} {σ : St} {H : Hp} {Q : Bool → Hp → Prop} (h : rdB C (evE cal a) σ H Q) : rdE C (evE cal a) σ H fun x H1 => ∃ c, x = .bl c ∧ Q c H1 := by
  obtain ⟨w, m, e, P, q⟩ := h
  refine ⟨w, m, e, P, Res.sat_mono q fun r m1 ⟨k, hk, q1⟩ w1 v1 S1 x1 r1 => ?_⟩
  subst hk
  cases r1
  exact ⟨k, rfl, q1 w1 S1 x1⟩
theorem t_val {ex : Expr} {a : E} (hp : ∀ t, PE X ex t → PT X ex (tB t)) (h : PE X ex (rdE C (evE cal a))) : PT X ex (rdB C (evE cal a)) := PT.imp (hp _ h) fun σ H Q q => rd_bool q
theorem t_op2 {ex ea eb : Expr} {f : Op} {a b : E} {r : R2} (hp : ∀ ta tb, PE X ea ta → PE X eb tb → PT X ex (tTest (tOp r ta tb))) (ok : OpOk2 C.G f r) (ha : PE X ea (rdE C (evE cal a))) (hb : PE X eb (rdE C (evE cal b))) :
    PT X ex (rdB C (evE cal (.op f (.cons a (.cons b .nil))))) := PT.imp (hp _ _ (pe_opd ha) (pe_opd hb)) fun σ H Q q => rd_op2 ok (rd_bool q)
theorem t_chain {ex ea eb ec : Expr} {f g : Op} {a b c : E} {r r' : R2} (hp : ∀ ta tb tc, PE X ea ta → PE X eb tb → PE X ec tc → PT X ex (tTest (tChain r r' ta tb tc))) (ok : OpOk2 C.G f r) (ok' : OpOk2 C.G g r')
    (ha : PE X ea (rdE C (evE cal a))) (hb : PE X eb (rdE C (evE cal b))) (hc : PE X ec (rdE C (evE cal c))) : PT X ex (rdB C (evE cal (.ch f g a b c))) := PT.imp (hp _ _ _ (pe_opd ha) (pe_opd hb) (pe_opd hc)) fun σ H Q q => rd_chain ok ok' (rd_bool q)
theorem t_not {ex ea : Expr} {a : E} (hp : ∀ ta, PT X ea ta → PT X ex (tNot ta)) (h : PT X ea (rdB C (evE cal a))) : PT X ex (rdB C (evE cal (.nt a))) := PT.imp (hp _ h) fun σ H Q ⟨w, m, e, P, q⟩ => by
  rw [evE, Res.sat_bind] at q
  refine ⟨w, m, e, P, Res.sat_mono q fun r m1 q1 => ?_⟩
  split at q1
  · rename_i k
    obtain ⟨k', hk, q1⟩ := q1
    cases hk
    exact ⟨k, rfl, q1⟩
  · exact q1.elim
theorem t_and {ex ea eb : Expr} {a b : E} (hp : ∀ ta tb, PT X ea ta → PT X eb tb → PT X ex (tAnd ta tb)) (ha : PT X ea (rdB C (evE cal a))) (hb : PT X eb (rdB C (evE cal b))) : PT X ex (rdB C (evE cal (.an a b))) := PT.imp (hp _ _ ha hb) fun σ H Q ⟨w, m, e, P, q⟩ => by
  rw [evE, Res.sat_bind] at q
  refine ⟨w, m, e, P, Res.sat_mono q fun r m1 q1 => ?_⟩
  split at q1
  · refine ⟨true, rfl, fun w1 S1 x1 => ?_⟩
    dsimp only
    rw [if_pos rfl]
    exact ⟨w1, m1, rfl, P.step S1 x1, Res.sat_mono q1 fun r m2 ⟨k, hk, q2⟩ => ⟨k, hk, fun w2 S2 x2 => q2 w2 S2 (x1.trans x2)⟩⟩
  · obtain ⟨k, hk, q1⟩ := q1
    cases hk
    refine ⟨false, rfl, fun w1 S1 x1 => ?_⟩
    dsimp only
    rw [if_neg (by decide)]
    exact q1 w1 S1 x1
  · exact q1.elim
theorem t_or {ex ea eb : Expr} {a b : E} (hp : ∀ ta tb, PT X ea ta → PT X eb tb → PT X ex (tOr ta tb)) (ha : PT X ea (rdB C (evE cal a))) (hb : PT X eb (rdB C (evE cal b))) : PT X ex (rdB C (evE cal (.or a b))) := PT.imp (hp _ _ ha hb) fun σ H Q ⟨w, m, e, P, q⟩ => by
  rw [evE, Res.sat_bind] at q
  refine ⟨w, m, e, P, Res.sat_mono q fun r m1 q1 => ?_⟩
  split at q1
  · obtain ⟨k, hk, q1⟩ := q1
    cases hk
    refine ⟨true, rfl, fun w1 S1 x1 => ?_⟩
    dsimp only
    rw [if_pos rfl]
    exact q1 w1 S1 x1
  · refine ⟨false, rfl, fun w1 S1 x1 => ?_⟩
    dsimp only
    rw [if_neg (by decide)]
    exact ⟨w1, m1, rfl, P.step S1 x1, Res.sat_mono q1 fun r m2 ⟨k, hk, q2⟩ => ⟨k, hk, fun w2 S2 x2 => q2 w2 S2 (x1.trans x2)⟩⟩
  · exact q1.elim
end
end Mi
set_option maxHeartbeats 1000000
namespace Mi
open PySem PySem.Spec PyProof.Rows L2

/-- p stands in no owned slot -/
def Off (m : List Slot) (σ : St) (p : Addr) : Prop := ∀ (j : Nat) (o : O), m[j]? = some (.ow o) → σ[j]? ≠ some (some (.ref p))
def Sub (m m1 : List Slot) : Prop := ∀ (j : Nat) (o : O), m1[j]? = some (.ow o) → m[j]? = some (.ow o)
/-- what is owned and stands in no slot stays owned -/
def Kept (w : Wd) (m : List Slot) (σ : St) (w1 : Wd) : Prop := ∀ p, w.L p → Off m σ p → w1.L p
theorem Off.sub {m m1 : List Slot} {σ : St} {p : Addr} (h : Off m σ p) (s : Sub m m1) : Off m1 σ p := fun j o e => h j o (s j o e)
theorem Sub.refl (m : List Slot) : Sub m m := fun _ _ h => h
theorem Sub.trans {a b c : List Slot} (x : Sub a b) (y : Sub b c) : Sub a c := fun j o h => x j o (y j o h)
theorem Sub.setNo {m : List Slot} {i : Nat} : Sub m (m.set i .no) := fun j o h => by
  by_cases e : j = i
  · subst e
    by_cases lt : j < m.length
    · rw [List.getElem?_set_self lt] at h; cases h
    · rw [List.getElem?_eq_none (by rw [List.length_set]; omega)] at h; cases h
  · rwa [List.getElem?_set_ne (Ne.symm e)] at h
theorem Sub.setFz {m : List Slot} {i : Nat} {t : T} : Sub m (m.set i (.fz t)) := fun j o h => by
  by_cases e : j = i
  · subst e
    by_cases lt : j < m.length
    · rw [List.getElem?_set_self lt] at h; cases h
    · rw [List.getElem?_eq_none (by rw [List.length_set]; omega)] at h; cases h
  · rwa [List.getElem?_set_ne (Ne.symm e)] at h
section
variable {G : Gm} {w w' : Wd} {m m' : List Slot} {σ : St}
theorem esc_sub {d : Opd} {t : T} (h : esc m d = some (t, m')) : Sub m m' := by
  cases d with
  | t t' => cases h; exact .refl _
  | b i =>
    cases e : m[i]? with
    | none => simp [esc, e] at h
    | some s =>
      cases s with
      | no => simp [esc, e] at h
      | fz t' =>
        simp only [esc, e, Option.some.injEq, Prod.mk.injEq] at h
        obtain ⟨_, rfl⟩ := h
        exact .refl _
      | ow o =>
        simp only [esc, e, Option.some.injEq, Prod.mk.injEq] at h
        obtain ⟨_, rfl⟩ := h
        exact .setFz
theorem SR.escK (S : SR G w m σ) {d : Opd} {v : V} {t : T} (r : RD G w σ d v) (h : Mi.esc m d = some (t, m')) : ∃ w', w'.H = w.H ∧ SR G w' m' σ ∧ Ex w w' ∧ RF G w' t v ∧ Kept w m σ w' := by
  cases d with
  | t t' =>
    cases h
    exact ⟨w, rfl, S, .refl w, r, fun _ l _ => l⟩
  | b i =>
    have r' : σ[i]? = some (some v) := r
    cases e : m[i]? with
    | none => simp [Mi.esc, e] at h
    | some s =>
      have q := S.sl i s e
      cases s with
      | no => simp [Mi.esc, e] at h
      | fz t' =>
        simp only [Mi.esc, e, Option.some.injEq, Prod.mk.injEq] at h
        obtain ⟨rfl, rfl⟩ := h
        obtain ⟨x, e1, e2⟩ := q
        rw [r'] at e1
        cases e1
        exact ⟨w, rfl, S, .refl w, e2, fun _ l _ => l⟩
      | ow o =>
        simp only [Mi.esc, e, Option.some.injEq, Prod.mk.injEq] at h
        obtain ⟨rfl, rfl⟩ := h
        obtain ⟨a, e1, _, _⟩ := q
        rw [r'] at e1
        cases e1
        obtain ⟨h1, h2, h3⟩ := S.frSlot e r'
        exact ⟨w.fr a, rfl, h1, h3, h2, fun p l f => ⟨l, fun z => f i o e (z ▸ r')⟩⟩
end
/-- passed arguments -/
structure PR (G : Gm) (w : Wd) (m m1 : List Slot) (σ : St) (args : List Slot) (vs : List V) : Prop where
  len : args.length = vs.length
  sl : ∀ (k : Nat) (s : Slot), args[k]? = some s → SlR G w s (vs[k]?.map some)
  src : ∀ (k : Nat) (o : O) (b : Addr), args[k]? = some (.ow o) → vs[k]? = some (.ref b) → ∃ j : Nat, m[j]? = some (.ow o) ∧ σ[j]? = some (some (.ref b))
  inj : ∀ (k l : Nat) (o o' : O) (a : Addr), args[k]? = some (.ow o) → args[l]? = some (.ow o') → vs[k]? = some (.ref a) → vs[l]? = some (.ref a) → k = l
  off : ∀ (k : Nat) (o : O) (a : Addr), args[k]? = some (.ow o) → vs[k]? = some (.ref a) → Off m1 σ a
section
variable {G : Gm} {σ : St}
theorem SlR.mono {w w' : Wd} {s : Slot} {v : Option (Option V)} (h : SlR G w s v) (mo : Mo w w') (k : ∀ o a, s = .ow o → v = some (some (.ref a)) → w'.H a = w.H a ∧ w'.L a) : SlR G w' s v := by
  cases s with
  | no => trivial
  | fz t => obtain ⟨x, e, r⟩ := h; exact ⟨x, e, RF.mono mo r⟩
  | ow o =>
    obtain ⟨a, e, r, l⟩ := h
    obtain ⟨k1, k2⟩ := k o a rfl e
    exact ⟨a, e, r.mono mo k1, k2⟩
theorem SR.pass : ∀ {io : List Bool} {ds : List Opd} {vs : List V} {w : Wd} {m m1 args : List Slot}, SR G w m σ → RDs G w σ ds vs → Mi.pass m io ds = some (args, m1) →
    ∃ w1, w1.H = w.H ∧ Ex w w1 ∧ SR G w1 m1 σ ∧ PR G w1 m m1 σ args vs ∧ Kept w m σ w1 ∧ Sub m m1
  | [], _, _, w, m, _, _, S, .nil, h => by
    cases h
    exact ⟨w, rfl, .refl w, S, ⟨rfl, fun k s e => by simp at e, fun k o b e => by simp at e, fun k l o o' a e => by simp at e, fun k o a e => by simp at e⟩, fun _ l _ => l, .refl _⟩
  | [], _, _, _, _, _, _, _, .cons _ _, h => by cases h
  | true :: _, _, _, _, _, _, _, _, .nil, h => by cases h
  | false :: _, _, _, _, _, _, _, _, .nil, h => by cases h
  | false :: io, _, _, w, m, m1, args, S, .cons (d := d) (v := v) (ds := ds) (vs := vs) a b, h => by
    unfold Mi.pass at h
    cases h1 : Mi.esc m d with
    | none => rw [h1] at h; cases h
    | some p =>
      obtain ⟨t, m2⟩ := p
      rw [h1] at h
      simp only at h
      cases h2 : Mi.pass m2 io ds with
      | none => rw [h2] at h; cases h
      | some p2 =>
        obtain ⟨ss, m3⟩ := p2
        rw [h2] at h
        cases h
        obtain ⟨w1, e1, S1, x1, r1, k1⟩ := S.escK a h1
        obtain ⟨w2, e2, x2, S2, pr, k2, sb⟩ := SR.pass S1 (b.mono x1.mo) h2
        have sb1 := esc_sub h1
        refine ⟨w2, e2.trans e1, x1.trans x2, S2, ⟨congrArg Nat.succ pr.len, fun k s e => ?_, fun k o c e q => ?_, fun k l o o' c e1 e2 q1 q2 => ?_, fun k o c e q => ?_⟩, fun p l f => k2 p (k1 p l f) (f.sub sb1), sb1.trans sb⟩
        · cases k with
          | zero =>
            have e' : Slot.fz t = s := by simpa using e
            subst e'
            exact ⟨v, rfl, RF.mono x2.mo r1⟩
          | succ k => exact pr.sl k s (by simpa using e)
        · cases k with
          | zero => simp at e
          | succ k =>
            obtain ⟨j, q1, q2⟩ := pr.src k o c (by simpa using e) (by simpa using q)
            exact ⟨j, sb1 j o q1, q2⟩
        · cases k with
          | zero => simp at e1
          | succ k =>
            cases l with
            | zero => simp at e2
            | succ l => exact congrArg Nat.succ (pr.inj k l o o' c (by simpa using e1) (by simpa using e2) (by simpa using q1) (by simpa using q2))
        · cases k with
          | zero => simp at e
          | succ k => exact pr.off k o c (by simpa using e) (by simpa using q)
  | true :: io, _, _, w, m, m1, args, S, .cons (d := d) (v := v) (ds := ds) (vs := vs) a b, h => by
    cases d with
    | t t => cases h
    | b i =>
      have a' : σ[i]? = some (some v) := a
      unfold Mi.pass at h
      cases e0 : m[i]? with
      | none => rw [e0] at h; cases h
      | some s =>
        cases s with
        | no => rw [e0] at h; cases h
        | fz t => rw [e0] at h; cases h
        | ow o0 =>
          rw [e0] at h
          simp only at h
          cases h2 : Mi.pass (m.set i .no) io ds with
          | none => rw [h2] at h; cases h
          | some p2 =>
            obtain ⟨ss, m3⟩ := p2
            rw [h2] at h
            cases h
            have S1 : SR G w (m.set i .no) σ := S.setNo
            obtain ⟨w2, e2, x2, S2, pr, k2, sb⟩ := SR.pass S1 b h2
            have sb1 : Sub m (m.set i .no) := .setNo
            obtain ⟨c0, ec0, r0, l0⟩ := S.sl i _ e0
            rw [a'] at ec0
            cases ec0
            have lt := (List.getElem?_eq_some_iff.mp e0).1
            have off0 : Off (m.set i .no) σ c0 := fun j o hj z => by
              have hm := sb1 j o hj
              have e := S.inj j i o o0 c0 hm e0 z a'
              subst e
              rw [List.getElem?_set_self lt] at hj
              cases hj
            refine ⟨w2, e2, x2, S2, ⟨congrArg Nat.succ pr.len, fun k s e => ?_, fun k o c e q => ?_, fun k l o o' c e1 e2 q1 q2 => ?_, fun k o c e q => ?_⟩, fun p l f => k2 p l (f.sub sb1), sb1.trans sb⟩
            · cases k with
              | zero =>
                have e' : Slot.ow o0 = s := by simpa using e
                subst e'
                exact ⟨c0, rfl, r0.mono x2.mo (by rw [e2]), k2 c0 l0 off0⟩
              | succ k => exact pr.sl k s (by simpa using e)
            · cases k with
              | zero =>
                have e' : Slot.ow o0 = Slot.ow o := by simpa using e
                cases e'
                have q' : (V.ref c0) = .ref c := by simpa using q
                cases q'
                exact ⟨i, e0, a'⟩
              | succ k =>
                obtain ⟨j, q1, q2⟩ := pr.src k o c (by simpa using e) (by simpa using q)
                exact ⟨j, sb1 j o q1, q2⟩
            · cases k with
              | zero =>
                cases l with
                | zero => rfl
                | succ l =>
                  have q' : (V.ref c0) = .ref c := by simpa using q1
                  cases q'
                  obtain ⟨j, z1, z2⟩ := pr.src l o' c0 (by simpa using e2) (by simpa using q2)
                  exact absurd z2 (off0 j o' z1)
              | succ k =>
                cases l with
                | zero =>
                  have q' : (V.ref c0) = .ref c := by simpa using q2
                  cases q'
                  obtain ⟨j, z1, z2⟩ := pr.src k o c0 (by simpa using e1) (by simpa using q1)
                  exact absurd z2 (off0 j o z1)
                | succ l => exact congrArg Nat.succ (pr.inj k l o o' c (by simpa using e1) (by simpa using e2) (by simpa using q1) (by simpa using q2))
            · cases k with
              | zero =>
                have q' : (V.ref c0) = .ref c := by simpa using q
                cases q'
                exact off0.sub sb
              | succ k => exact pr.off k o c (by simpa using e) (by simpa using q)
/-- a slot takes what stands at its value -/
theorem SR.put {w : Wd} {m : List Slot} {i : Nat} {s : Slot} (S : SR G w m σ) (h : SlR G w s σ[i]?) (off : ∀ o a, s = .ow o → σ[i]? = some (some (.ref a)) → Off m σ a) : SR G w (m.set i s) σ := by
  have get : ∀ {j s'}, (m.set i s)[j]? = some s' → (j = i ∧ s' = s) ∨ (j ≠ i ∧ m[j]? = some s') := fun {j s'} hj => by
    by_cases e : j = i
    · subst e
      have lt := (List.getElem?_eq_some_iff.mp hj).1
      rw [List.length_set] at lt
      rw [List.getElem?_set_self lt] at hj
      cases hj
      exact .inl ⟨rfl, rfl⟩
    · rw [List.getElem?_set_ne (Ne.symm e)] at hj
      exact .inr ⟨e, hj⟩
  refine ⟨by rw [List.length_set]; exact S.len, fun j s' hj => ?_, fun j k o o' a h1 h2 e1 e2 => ?_, S.sep, S.trk⟩
  · rcases get hj with ⟨rfl, rfl⟩ | ⟨_, q⟩
    · exact h
    · exact S.sl j s' q
  · rcases get h1 with ⟨n1, q1⟩ | ⟨n1, q1⟩ <;> rcases get h2 with ⟨n2, q2⟩ | ⟨n2, q2⟩
    · rw [n1, n2]
    · subst n1
      exact absurd e2 (off o a q1.symm e1 k o' q2)
    · subst n2
      exact absurd e1 (off o' a q2.symm e2 j o q1)
    · exact S.inj j k o o' a q1 q2 e1 e2
/-- what comes back -/
theorem SR.back {w : Wd} : ∀ {io : List Bool} {ds : List Opd} {vs : List V} {outs m m2 : List Slot}, SR G w m σ → RDs G w σ ds vs →
    (∀ (k : Nat) (s : Slot), outs[k]? = some s → SlR G w s (vs[k]?.map some)) → (∀ (k l : Nat) (o o' : O) (a : Addr), outs[k]? = some (.ow o) → outs[l]? = some (.ow o') → vs[k]? = some (.ref a) → vs[l]? = some (.ref a) → k = l) →
    (∀ (k : Nat) (o : O) (a : Addr), outs[k]? = some (.ow o) → vs[k]? = some (.ref a) → Off m σ a) → Mi.back m io ds outs = some m2 →
    SR G w m2 σ ∧ ∀ p, Off m σ p → (∀ (k : Nat) (o : O), outs[k]? = some (.ow o) → vs[k]? ≠ some (.ref p)) → Off m2 σ p
  | [], _, _, outs, m, _, S, .nil, _, _, _, h => by
    simp only [Mi.back, Option.some.injEq] at h
    subst h
    exact ⟨S, fun p h _ => h⟩
  | [], _, _, _, _, _, _, .cons _ _, _, _, _, h => by simp [Mi.back] at h
  | true :: _, _, _, _, _, _, _, .nil, _, _, _, h => by simp [Mi.back] at h
  | false :: _, _, _, _, _, _, _, .nil, _, _, _, h => by simp [Mi.back] at h
  | io0 :: io, _, _, [], _, _, _, .cons (d := d) _ _, _, _, _, h => by
    cases io0 <;> cases d <;> cases h
  | false :: io, _, _, s :: outs, m, m2, S, .cons (d := d) (v := v) (ds := ds) (vs := vs) a b, sl, inj, off, h => by
    have h' : Mi.back m io ds outs = some m2 := by cases d <;> exact h
    obtain ⟨q1, q2⟩ := SR.back S b (fun k s e => sl (k + 1) s (by simpa using e)) (fun k l o o' a e1 e2 z1 z2 => Nat.succ.inj (inj (k + 1) (l + 1) o o' a (by simpa using e1) (by simpa using e2) (by simpa using z1) (by simpa using z2)))
      (fun k o a e z => off (k + 1) o a (by simpa using e) (by simpa using z)) h'
    exact ⟨q1, fun p f n => q2 p f fun k o e => n (k + 1) o (by simpa using e)⟩
  | true :: io, _, _, s :: outs, m, m2, S, .cons (d := d) (v := v) (ds := ds) (vs := vs) a b, sl, inj, off, h => by
    cases d with
    | t t => cases h
    | b i =>
      have a' : σ[i]? = some (some v) := a
      have h' : Mi.back (m.set i s) io ds outs = some m2 := h
      have S1 : SR G w (m.set i s) σ := S.put (by have := sl 0 s rfl; rw [a']; exact this) fun o p e z => by
        subst e
        rw [a'] at z
        cases z
        exact off 0 o p rfl rfl
      have offs : ∀ p, Off m σ p → (∀ o, s = .ow o → v ≠ .ref p) → Off (m.set i s) σ p := fun p f n j o hj z => by
        by_cases e : j = i
        · subst e
          have lt := (List.getElem?_eq_some_iff.mp hj).1
          rw [List.length_set] at lt
          rw [List.getElem?_set_self lt] at hj
          have hs : s = .ow o := Option.some.inj hj
          rw [a'] at z
          exact n o hs (Option.some.inj (Option.some.inj z))
        · rw [List.getElem?_set_ne (Ne.symm e)] at hj
          exact f j o hj z
      obtain ⟨q1, q2⟩ := SR.back S1 b (fun k s e => sl (k + 1) s (by simpa using e)) (fun k l o o' a e1 e2 z1 z2 => Nat.succ.inj (inj (k + 1) (l + 1) o o' a (by simpa using e1) (by simpa using e2) (by simpa using z1) (by simpa using z2)))
        (fun k o c e z => offs c (off (k + 1) o c (by simpa using e) (by simpa using z)) fun o' hs hv => by
          subst hs
          have := inj 0 (k + 1) o' o c rfl (by simpa using e) (by simpa using hv) (by simpa using z)
          cases this) h'
      refine ⟨q1, fun p f n => q2 p (offs p f fun o hs hv => n 0 o (by simpa using hs) (by simpa using hv)) fun k o e => n (k + 1) o (by simpa using e)⟩
end
end Mi
set_option maxHeartbeats 1000000
namespace Mi
open PySem PySem.Spec PyProof.Rows L2

/-- a raised value: its class, its own dict -/
def RX (G : Gm) (w : Wd) (x : T) (cls : Value) (d : Option Addr) : Prop := ∃ c fs dx gs, x = .ins c fs ∧ cls = .ref (G.cls c) ∧ d = some dx ∧ w.H dx = some (.xd gs) ∧ RFf G w fs gs
theorem RX.mono {G : Gm} {w w' : Wd} {x : T} {cls : Value} {d : Option Addr} (h : RX G w x cls d) (mo : Mo w w') (e : w'.H = w.H) : RX G w' x cls d := by
  obtain ⟨c, fs, dx, gs, h1, h2, h3, h4, h5⟩ := h
  exact ⟨c, fs, dx, gs, h1, h2, h3, by rw [e]; exact h4, RFf.mono mo h5⟩
def WM (C : Ct) : WX := fun cls d σ H => ∃ w m x, w.H = H ∧ Pre C w m σ ∧ RX C.G w x cls d ∧ C.EM x m
/-- a def's promise, by the evaluator -/
def spM (G : Gm) (cal : Nat → List Slot → CRes) (f : Nat) : Sp := fun vs H Q E => ∃ w args, w.H = H ∧ SR G w args (vs.map some) ∧ match cal f args with
  | .ok r outs => ∀ w' v, SR G w' outs (vs.map some) → Ex w w' → RR G w' outs (vs.map some) r v → Q v w'.H
  | .ex x outs => ∀ w' cls d, SR G w' outs (vs.map some) → Ex w w' → RX G w' x cls d → E cls d w'.H
  | .no => False
theorem mo_same {w w' : Wd} (f : w'.F = w.F) (h : w'.H = w.H) : Mo w w' := ⟨fun a x => by rw [f]; exact x, fun a _ => by rw [h]; exact .refl _⟩
theorem getM {vs : List V} {k : Nat} {a : V} : (vs.map some)[k]? = some (some a) ↔ vs[k]? = some a := by
  rw [List.getElem?_map]
  cases vs[k]? <;> simp
/-- the callee's world, the world behind it -/
def callW (w : Wd) (args : List Slot) (vs : List V) : Wd := ⟨w.F, fun a => ∃ (k : Nat) (o : O), args[k]? = some (.ow o) ∧ vs[k]? = some (.ref a), w.H⟩
def backW (w w' : Wd) (args : List Slot) (vs : List V) : Wd := ⟨w'.F, fun a => (w.L a ∧ ¬ (callW w args vs).L a ∧ ∃ u, w.H a = some u) ∨ w'.L a, w'.H⟩
section
variable {G : Gm} {σ : St} {w w' : Wd} {m m1 args outs : List Slot} {vs : List V}
theorem PR.call (pr : PR G w m m1 σ args vs) (S : SR G w m1 σ) : SR G (callW w args vs) args (vs.map some) := by
  have mo : Mo w (callW w args vs) := mo_same rfl rfl
  have inL : ∀ a, (callW w args vs).L a → w.L a := fun a ⟨k, o, e, q⟩ => by
    obtain ⟨b, e1, _, l⟩ := pr.sl k _ e
    rw [q] at e1
    cases e1
    exact l
  refine ⟨by rw [List.length_map]; exact pr.len, fun k s e => ?_, fun k l o o' a e1 e2 q1 q2 => pr.inj k l o o' a e1 e2 (getM.mp q1) (getM.mp q2), fun a l => S.sep a (inL a l), S.trk⟩
  rw [List.getElem?_map]
  refine (pr.sl k s e).mono mo fun o a hs hv => ⟨rfl, k, o, by rw [← hs]; exact e, ?_⟩
  cases hv' : vs[k]? with
  | none => rw [hv'] at hv; cases hv
  | some v => rw [hv'] at hv; cases hv; rfl
theorem call_inL (pr : PR G w m m1 σ args vs) : ∀ a, (callW w args vs).L a → w.L a := fun a ⟨k, o, e, q⟩ => by
  obtain ⟨b, e1, _, l⟩ := pr.sl k _ e
  rw [q] at e1
  cases e1
  exact l
theorem call_ex (pr : PR G w m m1 σ args vs) (x : Ex (callW w args vs) w') : Ex w (backW w w' args vs) :=
  ⟨x.fz, x.kp, fun a u h1 h2 h3 => by
    obtain ⟨q1, q2, q3⟩ := x.ot a u h1 h2 fun z => h3 (call_inL pr a z)
    exact ⟨q1, q2, fun z => z.elim (fun z => h3 z.1) q3⟩⟩
/-- an owned slot of the caller's is untouched -/
theorem call_slot (pr : PR G w m m1 σ args vs) (S : SR G w m1 σ) (x : Ex (callW w args vs) w') {j : Nat} {o : O} {a : Addr} (h : m1[j]? = some (.ow o)) (e : σ[j]? = some (some (.ref a))) :
    w.L a ∧ ¬ (callW w args vs).L a ∧ (∃ u, w.H a = some u) ∧ w'.H a = w.H a ∧ ¬ w'.L a ∧ RO G w a o := by
  obtain ⟨b, e1, r, l⟩ := S.sl j _ h
  rw [e] at e1
  cases e1
  obtain ⟨u, hu⟩ := r.trk
  have np : ¬ (callW w args vs).L a := fun ⟨k, o', e', q⟩ => pr.off k o' a e' q j o h e
  obtain ⟨q1, q2, q3⟩ := x.ot a u hu (S.sep a l) np
  exact ⟨l, np, ⟨u, hu⟩, by rw [q1]; exact hu.symm, q3, r⟩
theorem call_back (pr : PR G w m m1 σ args vs) (S : SR G w m1 σ) (x : Ex (callW w args vs) w') (S' : SR G w' outs (vs.map some)) : SR G (backW w w' args vs) m1 σ := by
  have mo : Mo w (backW w w' args vs) := ⟨x.fz, x.kp⟩
  refine ⟨S.len, fun j s h => ?_, S.inj, fun a l f => ?_, S'.trk⟩
  · refine (S.sl j s h).mono mo fun o a hs hv => ?_
    subst hs
    obtain ⟨q1, q2, q3, q4, _, _⟩ := call_slot pr S x h hv
    exact ⟨q4, .inl ⟨q1, q2, q3⟩⟩
  · rcases l with ⟨l, np, u, hu⟩ | l
    · exact (x.ot a u hu (S.sep a l) np).2.1 f
    · exact S'.sep a l f
theorem call_off (pr : PR G w m m1 σ args vs) (S : SR G w m1 σ) (x : Ex (callW w args vs) w') {p : Addr} (l : w'.L p) : Off m1 σ p := fun j o h e => (call_slot pr S x h e).2.2.2.2.1 l
end

section
variable {C : Ct} {X : Cx} {cal : Nat → List Slot → CRes}
theorem callR_sat {f : Nat} {io : List Bool} {ds : List Opd} {m : List Slot} {A : R → List Slot → Prop} {B : T → List Slot → Prop} (h : (callR cal f io ds m).sat A B) :
    ∃ args m1, pass m io ds = some (args, m1) ∧ ((∃ r outs m2, cal f args = .ok r outs ∧ (∀ i, r ≠ .bo i) ∧ back m1 io ds outs = some m2 ∧ A r m2) ∨ ∃ x outs m2, cal f args = .ex x outs ∧ back m1 io ds outs = some m2 ∧ B x m2) := by
  unfold callR at h
  cases h1 : pass m io ds with
  | none => rw [h1] at h; exact h.elim
  | some p =>
    obtain ⟨args, m1⟩ := p
    rw [h1] at h
    simp only at h
    refine ⟨args, m1, rfl, ?_⟩
    cases h2 : cal f args with
    | no => rw [h2] at h; exact h.elim
    | ok r outs =>
      rw [h2] at h
      cases r with
      | bo i => exact h.elim
      | fz t =>
        simp only at h
        cases h3 : back m1 io ds outs with
        | none => rw [h3] at h; exact h.elim
        | some m2 => rw [h3] at h; exact .inl ⟨_, outs, m2, rfl, (fun _ z => nomatch z), h3, h⟩
      | ow o =>
        simp only at h
        cases h3 : back m1 io ds outs with
        | none => rw [h3] at h; exact h.elim
        | some m2 => rw [h3] at h; exact .inl ⟨_, outs, m2, rfl, (fun _ z => nomatch z), h3, h⟩
    | ex x outs =>
      rw [h2] at h
      simp only at h
      cases h3 : back m1 io ds outs with
      | none => rw [h3] at h; exact h.elim
      | some m2 => rw [h3] at h; exact .inr ⟨x, outs, m2, rfl, h3, h⟩
/-- the call, behind its arguments -/
theorem call_core {f : Nat} {io : List Bool} {ds : List Opd} {vs : List V} {w : Wd} {m : List Slot} {σ : St} {Q : VK} (P : Pre C w m σ) (r : RDs C.G w σ ds vs)
    (h : (callR cal f io ds m).sat (fun r m' => ∀ w' v, SR C.G w' m' σ → Ex w w' → RR C.G w' m' σ r v → Q v w'.H) C.EM) : spM C.G cal f vs w.H Q (fun cls d H => WM C cls d σ H) := by
  obtain ⟨args, m1, hp, h⟩ := callR_sat h
  obtain ⟨w1, e1, x1, S1, pr, _, sb⟩ := SR.pass P.sr r hp
  refine ⟨callW w1 args vs, args, e1, pr.call S1, ?_⟩
  rcases h with ⟨r0, outs, m2, hc, nb, hb, k⟩ | ⟨x0, outs, m2, hc, hb, k⟩
  · rw [hc]
    intro w' v S' x' rr
    have S3 := call_back pr S1 x' S'
    have x3 := call_ex pr x'
    have same : Mo w' (backW w1 w' args vs) := mo_same rfl rfl
    obtain ⟨S4, off4⟩ := SR.back S3 (r.mono (x1.trans x3).mo) (fun k s e => by
        have := S'.sl k s e
        rw [List.getElem?_map] at this
        exact this.mono same fun o a hs hv => ⟨rfl, .inr (by
          subst hs
          obtain ⟨b, e1, _, l⟩ := S'.sl k _ e
          rw [List.getElem?_map, hv] at e1
          cases e1
          exact l)⟩)
      (fun k l o o' a e1 e2 z1 z2 => S'.inj k l o o' a e1 e2 (getM.mpr z1) (getM.mpr z2))
      (fun k o a e z => by
        obtain ⟨b, e1, _, l⟩ := S'.sl k _ e
        rw [getM.mpr z] at e1
        cases e1
        exact call_off pr S1 x' l) hb
    refine k (backW w1 w' args vs) v S4 (x1.trans x3) ?_
    cases r0 with
    | fz t => exact RF.mono same rr
    | bo i => exact absurd rfl (nb i)
    | ow o =>
      obtain ⟨p, rfl, ro, l, n⟩ := rr
      refine ⟨p, rfl, ro.mono same rfl, .inr l, off4 p (call_off pr S1 x' l) fun k o' e z => n k o' e (getM.mpr z)⟩
  · rw [hc]
    intro w' cls d S' x' rx
    have S3 := call_back pr S1 x' S'
    have x3 := call_ex pr x'
    have same : Mo w' (backW w1 w' args vs) := mo_same rfl rfl
    obtain ⟨S4, off4⟩ := SR.back S3 (r.mono (x1.trans x3).mo) (fun k s e => by
        have := S'.sl k s e
        rw [List.getElem?_map] at this
        exact this.mono same fun o a hs hv => ⟨rfl, .inr (by
          subst hs
          obtain ⟨b, e1, _, l⟩ := S'.sl k _ e
          rw [List.getElem?_map, hv] at e1
          cases e1
          exact l)⟩)
      (fun k l o o' a e1 e2 z1 z2 => S'.inj k l o o' a e1 e2 (getM.mpr z1) (getM.mpr z2))
      (fun k o a e z => by
        obtain ⟨b, e1, _, l⟩ := S'.sl k _ e
        rw [getM.mpr z] at e1
        cases e1
        exact call_off pr S1 x' l) hb
    exact ⟨backW w1 w' args vs, m2, x0, rfl, P.step S4 (x1.trans x3), rx.mono same rfl, k⟩
def tCallM (C : Ct) (cal : Nat → List Slot → CRes) (f : Nat) (t : TA) : TE := fun σ H Q => t σ H fun vs H1 => spM C.G cal f vs H1 Q (fun cls d H => WM C cls d σ H)
theorem n_call {ex : Expr} {exs : List Expr} {f : Nat} {io : List Bool} {es : Es} (hp : ∀ t, PA X exs t → PE X ex (tCallM C cal f t)) (h : PA X exs (rdDs C (evDs cal es))) : PE X ex (rdE C (evE cal (.call f io es))) :=
  PE.imp (hp _ h) fun σ H Q ⟨w, m, e, P, q⟩ => by
  rw [evE, Res.sat_bind] at q
  refine ⟨w, m, e, P, Res.sat_mono q fun ds m1 q1 w1 vs S1 x1 r1 => ?_⟩
  exact call_core (P.step S1 x1) r1 (Res.sat_mono q1 fun r m2 k w' v S' x' rr => k w' v S' (x1.trans x') rr)
end
end Mi
set_option maxHeartbeats 1000000
namespace Mi
open PySem PySem.Spec PyProof.Rows L2

/-! ### patterns -/
mutual
def Pt.sl : Pt → List Nat
  | .nm i => [i]
  | .tup ps => ps.sl
def Pts.sl : Pts → List Nat
  | .nil => []
  | .cons p r => p.sl ++ r.sl
end
def GP (G : Gm) (p : Pt) (g : TG) : Prop := ∀ (w : Wd) (m m' : List Slot) (σ : St) (x : T) (v : V) (Q : St → Hp → Prop), SR G w m σ → RF G w x v → bindP m p x = some m' → (∀ σ', SR G w m' σ' → (∀ j, j ∉ p.sl → σ'[j]? = σ[j]?) → σ'.length = σ.length → Q σ' w.H) → g v σ w.H Q
def GPs (G : Gm) (p : Pts) (g : TGs) : Prop := ∀ (w : Wd) (m m' : List Slot) (σ : St) (xs : List T) (vs : List V) (Q : St → Hp → Prop), SR G w m σ → RFs G w xs vs → bindPs m p xs = some m' → (∀ σ', SR G w m' σ' → (∀ j, j ∉ p.sl → σ'[j]? = σ[j]?) → σ'.length = σ.length → Q σ' w.H) → g vs σ w.H Q
section
variable {G : Gm}
theorem gp_name {i : Nat} : GP G (.nm i) (gName i) := fun w m m' σ x v Q S r h k => by
  rw [bindP] at h
  split at h
  · cases h
    refine k _ (S.setFz r) (fun j hj => ?_) (List.length_set ..)
    rw [List.getElem?_set_ne]
    intro e
    subst e
    exact hj (by simp [Pt.sl])
  · cases h
theorem gps_nil : GPs G .nil gNil := fun w m m' σ xs vs Q S r h k => by
  cases r with
  | nil =>
    rw [bindPs] at h
    cases h
    exact ⟨rfl, k σ S (fun _ _ => rfl) rfl⟩
  | cons a b => simp [bindPs] at h
theorem gps_cons {p : Pt} {r : Pts} {g : TG} {u : TGs} (h1 : GP G p g) (h2 : GPs G r u) : GPs G (.cons p r) (gCons g u) := fun w m m' σ xs vs Q S rf h k => by
  cases rf with
  | nil => simp [bindPs] at h
  | @cons x v xs vs a b =>
    rw [bindPs] at h
    cases e : bindP m p x with
    | none => rw [e] at h; cases h
    | some m1 =>
      rw [e] at h
      refine ⟨v, vs, rfl, h1 w m m1 σ x v _ S a e fun σ1 S1 f1 l1 => ?_⟩
      refine h2 w m1 m' σ1 xs vs Q S1 b h fun σ2 S2 f2 l2 => ?_
      refine k σ2 S2 (fun j hj => ?_) (l2.trans l1)
      rw [f2 j (fun z => hj (by simp [Pts.sl, z])), f1 j (fun z => hj (by simp [Pts.sl, z]))]
theorem gp_tup {ps : Pts} {t : TGs} {n : Nat} (hn : ps.len = n) (h : GPs G ps t) : GP G (.tup ps) (gTup G.K n t) := fun w m m' σ x v Q S r hb k => by
  cases x <;> try (simp [bindP] at hb; done)
  case tup xs =>
    obtain ⟨a, vs, rfl, h1, r1⟩ := r.tup_inv
    rw [bindP] at hb
    have sq : SqT G.K w.H a vs := by
      rcases h1 with ⟨_, h1⟩ | h1
      · exact .inl (.inl h1)
      · exact .inr h1
    have len : ∀ (ps : Pts) (xs : List T) (m m' : List Slot), bindPs m ps xs = some m' → xs.length = ps.len := by
      intro ps
      induction ps using Pts.rec (motive_1 := fun _ => True) with
      | nm => trivial
      | tup => trivial
      | nil => intro xs m m' h; cases xs <;> simp [bindPs] at h; rfl
      | cons p r _ ih =>
        intro xs m m' h
        cases xs with
        | nil => simp [bindPs] at h
        | cons x xs =>
          rw [bindPs] at h
          cases e : bindP m p x with
          | none => rw [e] at h; cases h
          | some m1 => rw [e] at h; exact congrArg Nat.succ (ih xs m1 m' h)
    exact ⟨a, vs, rfl, sq, by rw [← r1.length, len _ _ _ _ hb, hn], h w m m' σ xs vs Q S r1 hb fun σ' S' f l => k σ' S' (fun j hj => f j (by simpa [Pt.sl] using hj)) l⟩
end

/-! ### sources -/
/-- the iterator yields the items -/
structure ItOk (G : Gm) (J : It) (xs : List T) (w0 : Wd) : Prop where
  stop : ∀ (w : Wd), Mo w0 w → J.stop xs.length w.H
  go : ∀ (i : Nat) (x : T) (w : Wd), Mo w0 w → xs[i]? = some x → J.go i w.H ∧ ∀ (v : V) (H' : Hp) (m : List Slot) (σ : St), SR G w m σ → J.yld i w.H v H' → ∃ w', w'.H = H' ∧ SR G w' m σ ∧ Ex w w' ∧ RF G w' x v ∧ (∀ p, ¬ w.L p → ¬ w.F p → (∃ u, w.H p = some u) → w'.H p = w.H p ∧ ¬ w'.L p ∧ ¬ w'.F p)
def rdS (C : Ct) (f : List Slot → Res (List T)) : TI := fun σ H Rr => ∃ w m, w.H = H ∧ Pre C w m σ ∧ (f m).sat (fun xs m' => ∀ w' J, SR C.G w' m' σ → Ex w w' → ItOk C.G J xs w' → Rr J w'.H) C.EM
theorem PI.imp {X : Cx} {tg e : Expr} {t t' : TI} (h : PI X tg e t) (i : ∀ σ H Q, t' σ H Q → t σ H Q) : PI X tg e t' := ⟨fun pins s σ H Q I q => h.run pins s σ H Q I (i σ H Q q)⟩
theorem PI.or {X : Cx} {tg e : Expr} {t t' : TI} (h : PI X tg e t) (h' : PI X tg e t') : PI X tg e (fun σ H Q => t σ H Q ∨ t' σ H Q) := ⟨fun pins s σ H Q I q => q.elim (h.run pins s σ H Q I) (h'.run pins s σ H Q I)⟩
section
variable {G : Gm} {w : Wd} {m m' : List Slot} {σ : St}
theorem ex_out {w w' : Wd} (x : Ex w w') : ∀ p, ¬ w.L p → ¬ w.F p → (∃ u, w.H p = some u) → w'.H p = w.H p ∧ ¬ w'.L p ∧ ¬ w'.F p := fun p l f ⟨u, h⟩ => by
  obtain ⟨q1, q2, q3⟩ := x.ot p u h f l
  exact ⟨q1.trans h.symm, q3, q2⟩
theorem SR.keep {r : R} {v : V} {t : T} (S : SR G w m σ) (q : RR G w m σ r v) (h : Mi.esc m r.opd = some (t, m')) : ∃ w', w'.H = w.H ∧ SR G w' m' σ ∧ Ex w w' ∧ RF G w' t v := by
  obtain ⟨w1, e1, S1, x1, r1⟩ := S.opd q
  obtain ⟨w2, e2, S2, x2, r2⟩ := S1.esc r1 h
  exact ⟨w2, e2.trans e1, S2, x1.trans x2, r2⟩
theorem it_list {xs : List T} {vs : List V} {a : Addr} (f : w.F a) (h : w.H a = some (.lst vs)) (r : RFs G w xs vs) : ItOk G (Itl G.K a) xs w := by
  have at' : ∀ w', Mo w w' → w'.H a = some (.lst vs) := fun w' mo => (mo.kp a f).eq h (fun k q => by rcases q with q | ⟨o, q⟩ <;> cases q)
  refine ⟨fun w' mo => ⟨vs, .inl (.inl (at' w' mo)), Nat.le_of_eq r.length.symm⟩, fun i x w' mo hx => ?_⟩
  obtain ⟨v, hv, rv⟩ := r.get hx
  have sq : SqL G.K w'.H a vs := .inl (.inl (at' w' mo))
  refine ⟨⟨vs, v, sq, hv⟩, fun v' H' m σ S y => ?_⟩
  obtain ⟨rfl, y⟩ := y
  have := y vs sq
  rw [hv] at this
  cases this
  exact ⟨w', rfl, S, .refl w', RF.mono mo rv, ex_out (.refl w')⟩
theorem it_scr {ns : List Int} {a : Addr} (h : (w.F a ∧ ∃ o, w.H a = some (.frz o (.lst (ns.map V.int)))) ∨ KL G.K a (ns.map V.int)) : ItOk G (Itl G.K a) (ns.map T.int) w := by
  have at' : ∀ w', Mo w w' → SqL G.K w'.H a (ns.map V.int) := fun w' mo => by
    rcases h with ⟨f, o, h⟩ | h
    · exact .inl (.inr ⟨o, (mo.kp a f).eq h (fun k q => by rcases q with q | ⟨o, q⟩ <;> cases q)⟩)
    · exact .inr h
  refine ⟨fun w' mo => ⟨_, at' w' mo, by rw [List.length_map, List.length_map]; exact Nat.le_refl _⟩, fun i x w' mo hx => ?_⟩
  rw [List.getElem?_map] at hx
  cases hn : ns[i]? with
  | none => rw [hn] at hx; cases hx
  | some n =>
    rw [hn] at hx
    cases hx
    have hv : (ns.map V.int)[i]? = some (.int n) := by rw [List.getElem?_map, hn]; rfl
    refine ⟨⟨_, _, at' w' mo, hv⟩, fun v' H' m σ S y => ?_⟩
    obtain ⟨rfl, y⟩ := y
    have := y _ (at' w' mo)
    rw [hv] at this
    cases this
    exact ⟨w', rfl, S, .refl w', .int n, ex_out (.refl w')⟩
theorem it_tup {xs : List T} {vs : List V} {a : Addr} (h : (w.F a ∧ w.H a = some (.tup vs)) ∨ KT G.K a vs) (r : RFs G w xs vs) : ItOk G (Itt G.K a) xs w := by
  have at' : ∀ w', Mo w w' → SqT G.K w'.H a vs := fun w' mo => by
    rcases h with ⟨f, h⟩ | h
    · exact .inl (.inl ((mo.kp a f).eq h (fun k q => by rcases q with q | ⟨o, q⟩ <;> cases q)))
    · exact .inr h
  refine ⟨fun w' mo => ⟨vs, at' w' mo, Nat.le_of_eq r.length.symm⟩, fun i x w' mo hx => ?_⟩
  obtain ⟨v, hv, rv⟩ := r.get hx
  refine ⟨⟨vs, v, at' w' mo, hv⟩, fun v' H' m σ S y => ?_⟩
  obtain ⟨rfl, y⟩ := y
  have := y vs (at' w' mo)
  rw [hv] at this
  cases this
  exact ⟨w', rfl, S, .refl w', RF.mono mo rv, ex_out (.refl w')⟩
theorem it_str {z : Str} : ItOk G (Its z) (z.cps.toList.map fun c => T.str ⟨#[c]⟩) w := by
  refine ⟨fun w' _ => by show z.cps.size ≤ _; simp, fun i x w' mo hx => ?_⟩
  rw [List.getElem?_map] at hx
  cases hc : z.cps.toList[i]? with
  | none => rw [hc] at hx; cases hx
  | some c =>
    rw [hc] at hx
    cases hx
    have hc' : z.cps[i]? = some c := by rw [← Array.getElem?_toList]; exact hc
    refine ⟨(Array.getElem?_eq_some_iff.mp hc').1, fun v' H' m σ S y => ?_⟩
    obtain ⟨rfl, c', h1, rfl⟩ := y
    rw [hc'] at h1
    cases h1
    exact ⟨w', rfl, S, .refl w', .str _, ex_out (.refl w')⟩
theorem it_range {lo hi : Int} : ItOk G (Itr lo (hi - lo).toNat) (rangeT lo hi) w := by
  have len : (rangeT lo hi).length = (hi - lo).toNat := by simp [rangeT]
  refine ⟨fun w' _ => by show (hi - lo).toNat ≤ _; rw [len]; exact Nat.le_refl _, fun i x w' mo hx => ?_⟩
  have lt : i < (hi - lo).toNat := by rw [← len]; exact (List.getElem?_eq_some_iff.mp hx).1
  have ex : x = .int (lo + (i : Int)) := by
    rw [rangeT, List.getElem?_map, List.getElem?_range lt] at hx
    cases hx
    rfl
  subst ex
  refine ⟨lt, fun v' H' m σ S y => ?_⟩
  obtain ⟨rfl, rfl⟩ := y
  exact ⟨w', rfl, S, .refl w', .int _, ex_out (.refl w')⟩
/-- a tuple made by an iterator -/
theorem yld_tup {w : Wd} {p : Addr} {ts : List T} {vs : List V} (S : SR G w m σ) (hp : w.H p = none) (r : RFs G w ts vs) :
    ∃ w', w'.H = upd w.H p (.tup vs) ∧ SR G w' m σ ∧ Ex w w' ∧ RF G w' (.tup ts) (.ref p) := by
  have S1 := S.new (u := .tup vs) hp
  have hH : (w.new p (.tup vs)).H p = some (.tup vs) := upd_same
  refine ⟨(w.new p (.tup vs)).fr p, rfl, S1.fr (.inr rfl) ⟨_, hH⟩ fun i o h e => ?_, (Ex.new S.trk hp).trans (.fr (.inr rfl)), .tup (.inl ⟨.inr rfl, hH⟩) (RFs.mono .fr (r.new S hp))⟩
  obtain ⟨a, e1, r1', _⟩ := S.sl i _ h
  rw [e] at e1
  cases e1
  obtain ⟨u', hu⟩ := r1'.trk
  rw [hp] at hu
  cases hu
theorem enum_len : ∀ (k : Nat) (xs : List T), (enumT k xs).length = xs.length
  | _, [] => rfl
  | k, x :: r => congrArg Nat.succ (enum_len (k + 1) r)
theorem enum_get : ∀ (k : Nat) (xs : List T) (i : Nat), (enumT k xs)[i]? = xs[i]?.map fun x => .tup [.int ((k + i : Nat) : Int), x]
  | _, [], i => by simp [enumT]
  | k, x :: r, 0 => by simp [enumT]
  | k, x :: r, i + 1 => by
    have := enum_get (k + 1) r i
    simp only [enumT, List.getElem?_cons_succ, this]
    rw [show k + 1 + i = k + (i + 1) by omega]
theorem it_enum {xs : List T} {vs : List V} {a : Addr} (f : w.F a) (h : w.H a = some (.lst vs)) (r : RFs G w xs vs) : ItOk G (Ite G.K a) (enumT 0 xs) w := by
  have at' : ∀ w', Mo w w' → w'.H a = some (.lst vs) := fun w' mo => (mo.kp a f).eq h (fun k q => by rcases q with q | ⟨o, q⟩ <;> cases q)
  refine ⟨fun w' mo => ⟨vs, .inl (.inl (at' w' mo)), by rw [enum_len]; exact Nat.le_of_eq r.length.symm⟩, fun i x w' mo hx => ?_⟩
  rw [enum_get] at hx
  cases hn : xs[i]? with
  | none => rw [hn] at hx; cases hx
  | some t =>
    rw [hn] at hx
    cases hx
    obtain ⟨v, hv, rv⟩ := r.get hn
    have sq : SqL G.K w'.H a vs := .inl (.inl (at' w' mo))
    refine ⟨⟨vs, v, sq, hv⟩, fun v' H' m σ S y => ?_⟩
    obtain ⟨p, x', rfl, hp, rfl, y⟩ := y
    have := y vs sq
    rw [hv] at this
    cases this
    obtain ⟨w2, e2, S2, x2, r2⟩ := yld_tup (ts := [.int ((0 + i : Nat) : Int), t]) (vs := [.int (i : Nat), v]) S hp (.cons (by rw [Nat.zero_add]; exact .int _) (.cons (RF.mono mo rv) .nil))
    exact ⟨w2, e2, S2, x2, r2, ex_out x2⟩
theorem zip_get : ∀ (xs ys : List T) (i : Nat), (zipT xs ys)[i]? = match xs[i]?, ys[i]? with
    | some x, some y => some (.tup [x, y])
    | _, _ => none
  | [], ys, i => by simp [zipT]
  | x :: xs, [], i => by
    cases h : (x :: xs)[i]? <;> simp [zipT]
  | x :: xs, y :: ys, 0 => by simp [zipT]
  | x :: xs, y :: ys, i + 1 => by
    have := zip_get xs ys i
    simpa [zipT] using this
theorem zip_len : ∀ (xs ys : List T), (zipT xs ys).length = min xs.length ys.length
  | [], ys => by simp [zipT]
  | x :: xs, [] => by simp [zipT]
  | x :: xs, y :: ys => by
    have := zip_len xs ys
    simp [zipT, this]
    try omega
theorem it_zip {xs ys : List T} {vs us : List V} {a b : Addr} (f : w.F a) (h : w.H a = some (.lst vs)) (r : RFs G w xs vs) (f' : w.F b) (h' : w.H b = some (.lst us)) (r' : RFs G w ys us) : ItOk G (Itz G.K a b) (zipT xs ys) w := by
  have at1 : ∀ w', Mo w w' → w'.H a = some (.lst vs) := fun w' mo => (mo.kp a f).eq h (fun k q => by rcases q with q | ⟨o, q⟩ <;> cases q)
  have at2 : ∀ w', Mo w w' → w'.H b = some (.lst us) := fun w' mo => (mo.kp b f').eq h' (fun k q => by rcases q with q | ⟨o, q⟩ <;> cases q)
  refine ⟨fun w' mo => ⟨vs, us, .inl (.inl (at1 w' mo)), .inl (.inl (at2 w' mo)), ?_⟩, fun i x w' mo hx => ?_⟩
  · rw [zip_len, ← r.length, ← r'.length]
    omega
  · rw [zip_get] at hx
    cases hn : xs[i]? with
    | none => rw [hn] at hx; cases hx
    | some t =>
      cases hk : ys[i]? with
      | none => rw [hn, hk] at hx; cases hx
      | some u =>
        rw [hn, hk] at hx
        cases hx
        obtain ⟨v, hv, rv⟩ := r.get hn
        obtain ⟨v2, hv2, rv2⟩ := r'.get hk
        have sq : SqL G.K w'.H a vs := .inl (.inl (at1 w' mo))
        have sq2 : SqL G.K w'.H b us := .inl (.inl (at2 w' mo))
        refine ⟨⟨vs, us, v, v2, sq, sq2, hv, hv2⟩, fun v' H' m σ S y => ?_⟩
        obtain ⟨p, x', y', rfl, hp, rfl, y1, y2⟩ := y
        have z1 := y1 vs sq
        have z2 := y2 us sq2
        rw [hv] at z1
        rw [hv2] at z2
        cases z1
        cases z2
        obtain ⟨w2, e2, S2, x2, r2⟩ := yld_tup (ts := [t, u]) (vs := [v, v2]) S hp (.cons (RF.mono mo rv) (.cons (RF.mono mo rv2) .nil))
        exact ⟨w2, e2, S2, x2, r2, ex_out x2⟩
end
section
variable {C : Ct} {X : Cx} {cal : Nat → List Slot → CRes}
def iAnyM (K : PySem.W.Frag) (te : TE) : TI := fun σ H R => (iList K te σ H R ∨ iTup K te σ H R) ∨ iStr te σ H R
theorem s_it {tg e : Expr} {a : E} (hp : ∀ t, PE X e t → PI X tg e (iAnyM C.G.K t)) (h : PE X e (rdE C (evE cal a))) : PI X tg e (rdS C (evSrc cal (.it a))) := PI.imp (hp _ h) fun σ H Q ⟨w, m, e, P, q⟩ => by
  rw [evSrc, Res.sat_bind] at q
  cases h0 : evE cal a m with
  | no => rw [h0] at q; exact q.elim
  | ex x m1 =>
    rw [h0] at q
    exact .inl (.inl ⟨w, m, e, P, by rw [h0]; exact q⟩)
  | ok r m1 =>
    rw [h0] at q
    have q : Res.sat (match esc m1 r.opd with
      | some (t, m2) => (match itemsT t with
        | some xs => Res.ok xs m2
        | none => .no)
      | none => .no) (fun xs m' => ∀ w' J, SR C.G w' m' σ → Ex w w' → ItOk C.G J xs w' → Q J w'.H) C.EM := q
    cases h1 : esc m1 r.opd with
    | none => rw [h1] at q; exact q.elim
    | some p =>
      obtain ⟨t, m2⟩ := p
      rw [h1] at q
      simp only at q
      cases h2 : itemsT t with
      | none => rw [h2] at q; exact q.elim
      | some xs =>
        rw [h2] at q
        have q : ∀ w' J, SR C.G w' m2 σ → Ex w w' → ItOk C.G J xs w' → Q J w'.H := q
        cases t <;> try (cases h2; done)
        case lst ys =>
          cases h2
          refine .inl (.inl ⟨w, m, e, P, ?_⟩)
          rw [h0]
          intro w1 v S1 x1 r1
          obtain ⟨w2, e2, S2, x2, r2⟩ := S1.keep r1 h1
          obtain ⟨a, vs, rfl, f, h3, r3⟩ := r2.lst_inv
          refine ⟨a, rfl, ⟨vs, .inl (.inl (by rw [← e2]; exact h3))⟩, ?_⟩
          rw [← e2]
          exact q w2 _ S2 (x1.trans x2) (it_list f h3 r3)
        case tup ys =>
          cases h2
          refine .inl (.inr ⟨w, m, e, P, ?_⟩)
          rw [h0]
          intro w1 v S1 x1 r1
          obtain ⟨w2, e2, S2, x2, r2⟩ := S1.keep r1 h1
          obtain ⟨a, vs, rfl, h3, r3⟩ := r2.tup_inv
          refine ⟨a, rfl, ⟨vs, ?_⟩, ?_⟩
          · rcases h3 with ⟨_, h3⟩ | h3
            · exact .inl (.inl (by rw [← e2]; exact h3))
            · exact .inr h3
          · rw [← e2]
            exact q w2 _ S2 (x1.trans x2) (it_tup h3 r3)
        case scr ns =>
          cases h2
          refine .inl (.inl ⟨w, m, e, P, ?_⟩)
          rw [h0]
          intro w1 v S1 x1 r1
          obtain ⟨w2, e2, S2, x2, r2⟩ := S1.keep r1 h1
          obtain ⟨a, rfl, h3⟩ := r2.scr_inv
          refine ⟨a, rfl, ⟨ns.map V.int, ?_⟩, ?_⟩
          · rcases h3 with ⟨_, o, h3⟩ | h3
            · exact .inl (.inr ⟨o, by rw [← e2]; exact h3⟩)
            · exact .inr h3
          · rw [← e2]
            exact q w2 _ S2 (x1.trans x2) (it_scr h3)
        case str z =>
          simp only [itemsT] at h2
          split at h2
          · rename_i hl
            cases h2
            refine .inr ⟨w, m, e, P, ?_⟩
            rw [h0]
            intro w1 v S1 x1 r1
            obtain ⟨w2, e2, S2, x2, r2⟩ := S1.keep r1 h1
            have rz : v = .str z := by cases r2; rfl
            subst rz
            refine ⟨z, rfl, ?_⟩
            rw [← e2]
            exact q w2 _ S2 (x1.trans x2) it_str
          · cases h2
theorem s_rng1 {tg e ea : Expr} {a : E} (hp : ∀ t, PE X ea t → PI X tg e (iRng1 (tCons t tNil))) (h : PE X ea (rdE C (evE cal a))) : PI X tg e (rdS C (evSrc cal (.rng1 a))) := PI.imp (hp _ (pe_opd h)) fun σ H Q ⟨w, m, e, P, q⟩ => by
  rw [evSrc, Res.sat_bind] at q
  refine ⟨w, m, e, P, ?_⟩
  rw [opdF, Res.sat_bind]
  refine Res.sat_mono q fun r m1 q1 w1 v S1 x1 r1 => ?_
  split at q1
  · rename_i j hj
    split at q1
    · rename_i hw
      have e1 : v = .int j := (S1.der r1 hj).int
      subst e1
      have hw' := of_decide_eq_true (show decide (-(2 ^ 62) ≤ j ∧ j < 2 ^ 62) = true from hw)
      refine ⟨j, rfl, hw'.1, hw'.2, ?_⟩
      have it := it_range (G := C.G) (w := w1) (lo := 0) (hi := j)
      rw [Int.sub_zero] at it
      exact q1 w1 _ S1 x1 it
    · exact q1.elim
  · exact q1.elim
theorem s_rng2 {tg e ea eb : Expr} {a b : E} (hp : ∀ t u, PE X ea t → PE X eb u → PI X tg e (iRng2 (tCons t (tCons u tNil)))) (h : PE X ea (rdE C (evE cal a))) (h' : PE X eb (rdE C (evE cal b))) : PI X tg e (rdS C (evSrc cal (.rng2 a b))) :=
  PI.imp (hp _ _ (pe_opd h) (pe_opd h')) fun σ H Q ⟨w, m, e, P, q⟩ => by
  rw [evSrc, Res.sat_bind] at q
  refine ⟨w, m, e, P, ?_⟩
  rw [opdF, Res.sat_bind]
  refine Res.sat_mono q fun ra m1 q1 w1 v S1 x1 r1 => ?_
  rw [Res.sat_bind] at q1
  refine ⟨w1, m1, rfl, P.step S1 x1, ?_⟩
  rw [opdF, Res.sat_bind]
  refine Res.sat_mono q1 fun rb m2 q2 w2 u S2 x2 r2 => ?_
  split at q2
  · rename_i i j hi hj
    split at q2
    · rename_i hw
      have e1 : v = .int i := (S2.der (r1.mono x2.mo) hi).int
      have e2 : u = .int j := (S2.der r2 hj).int
      subst e1; subst e2
      have h1 := of_decide_eq_true (show decide (-(2 ^ 62) ≤ i ∧ i < 2 ^ 62) = true from hw.1)
      have h2 := of_decide_eq_true (show decide (-(2 ^ 62) ≤ j ∧ j < 2 ^ 62) = true from hw.2)
      exact ⟨i, j, rfl, ⟨h1.1, h1.2, h2.1, h2.2⟩, q2 w2 _ S2 (x1.trans x2) it_range⟩
    · exact q2.elim
  · exact q2.elim
theorem s_enum {tg e ea : Expr} {a : E} (hp : ∀ t, PE X ea t → PI X tg e (iEnum C.G.K (tCons t tNil))) (h : PE X ea (rdE C (evE cal a))) : PI X tg e (rdS C (evSrc cal (.enum a))) := PI.imp (hp _ h) fun σ H Q ⟨w, m, e, P, q⟩ => by
  rw [evSrc, Res.sat_bind] at q
  refine ⟨w, m, e, P, Res.sat_mono q fun r m1 q1 w1 v S1 x1 r1 => ?_⟩
  cases h1 : esc m1 r.opd with
  | none => rw [h1] at q1; exact q1.elim
  | some p =>
    obtain ⟨t, m2⟩ := p
    rw [h1] at q1
    simp only at q1
    cases t <;> try (exact q1.elim)
    case lst ys =>
      have q1 : ∀ w' J, SR C.G w' m2 σ → Ex w w' → ItOk C.G J (enumT 0 ys) w' → Q J w'.H := q1
      obtain ⟨w2, e2, S2, x2, r2⟩ := S1.keep r1 h1
      obtain ⟨a, vs, rfl, f, h3, r3⟩ := r2.lst_inv
      refine ⟨a, vs, rfl, .inl (.inl (by rw [← e2]; exact h3)), ?_⟩
      rw [← e2]
      exact q1 w2 _ S2 (x1.trans x2) (it_enum f h3 r3)
theorem s_zip {tg e ea eb : Expr} {a b : E} (hp : ∀ t u, PE X ea t → PE X eb u → PI X tg e (iZip C.G.K (tCons t (tCons u tNil)))) (h : PE X ea (rdE C (evE cal a))) (h' : PE X eb (rdE C (evE cal b))) : PI X tg e (rdS C (evSrc cal (.zip a b))) :=
  PI.imp (hp _ _ (pe_opd h) (pe_opd h')) fun σ H Q ⟨w, m, e, P, q⟩ => by
  rw [evSrc, Res.sat_bind] at q
  refine ⟨w, m, e, P, ?_⟩
  rw [opdF, Res.sat_bind]
  refine Res.sat_mono q fun ra m1 q1 w1 v S1 x1 r1 => ?_
  rw [Res.sat_bind] at q1
  refine ⟨w1, m1, rfl, P.step S1 x1, ?_⟩
  rw [opdF, Res.sat_bind]
  refine Res.sat_mono q1 fun rb m2 q2 w2 u S2 x2 r2 => ?_
  cases h1 : escs m2 [ra.opd, rb.opd] with
  | none => rw [h1] at q2; exact q2.elim
  | some p =>
    obtain ⟨ts, m3⟩ := p
    rw [h1] at q2
    obtain ⟨w3, e3, S3, x3, r3⟩ := SR.escs S2 (.cons (r1.mono x2.mo) (.cons r2 .nil)) h1
    cases r3 with
    | @cons t _ ts1 _ a1 b1 =>
      cases b1 with
      | @cons t' _ ts2 _ a2 b2 =>
        cases b2
        simp only at q2
        cases t <;> try (exact q2.elim)
        case lst xs =>
          cases t' <;> try (exact q2.elim)
          case lst ys =>
            have q2 : ∀ w' J, SR C.G w' m3 σ → Ex w w' → ItOk C.G J (zipT xs ys) w' → Q J w'.H := q2
            obtain ⟨a, vs, rfl, f, h3, r3⟩ := a1.lst_inv
            obtain ⟨b, us, rfl, f', h4, r4⟩ := a2.lst_inv
            refine ⟨a, b, vs, us, rfl, .inl (.inl (by rw [← e3]; exact h3)), .inl (.inl (by rw [← e3]; exact h4)), ?_⟩
            rw [← e3]
            exact q2 w3 _ S3 (x1.trans (x2.trans x3)) (it_zip f h3 r3 f' h4 r4)
end
end Mi
set_option maxHeartbeats 1000000
namespace Mi
open PySem PySem.Spec PyProof.Rows L2

theorem wipe_in {σ : St} : ∀ {vs : List Nat} {j : Nat}, j ∈ vs → (wipe σ vs)[j]? = if j < σ.length then some none else none
  | [], j, h => by cases h
  | v :: vs, j, h => by
    unfold wipe
    by_cases e : v = j
    · subst e
      split
      · rename_i lt
        rw [List.getElem?_set_self (by rw [wipe_length]; exact lt)]
      · rename_i lt
        rw [List.getElem?_eq_none (by rw [List.length_set, wipe_length]; omega)]
    · rw [List.getElem?_set_ne e]
      exact wipe_in ((List.mem_cons.mp h).resolve_left fun z => e z.symm)
theorem wipe_eq {σ τ : St} {vs : List Nat} (l : τ.length = σ.length) (h : ∀ j, j ∉ vs → τ[j]? = σ[j]?) : wipe τ vs = wipe σ vs := by
  apply List.ext_getElem?
  intro j
  by_cases e : j ∈ vs
  · rw [wipe_in e, wipe_in e, l]
  · rw [wipe_out e, wipe_out e, h j e]
section
variable {G : Gm} {w w' w1 : Wd} {m m1 m2 : List Slot} {σ τ : St} {D : Addr} {u : HO}
theorem SR.setNone {i : Nat} (S : SR G w m σ) : SR G w (m.set i .no) (σ.set i none) := by
  have sub : ∀ {k : Nat} {o1 : O}, (m.set i Slot.no)[k]? = some (.ow o1) → k ≠ i ∧ m[k]? = some (.ow o1) := fun {k o1} hk => by
    by_cases hj : k = i
    · subst hj
      by_cases lt : k < m.length
      · rw [List.getElem?_set_self lt] at hk; cases hk
      · rw [List.getElem?_eq_none (by rw [List.length_set]; omega)] at hk; cases hk
    · exact ⟨hj, by rwa [List.getElem?_set_ne (Ne.symm hj)] at hk⟩
  refine ⟨by rw [List.length_set, List.length_set]; exact S.len, fun j s h => ?_, fun j k o1 o2 b h1 h2 e1 e2 => ?_, S.sep, S.trk⟩
  · by_cases hj : j = i
    · subst hj
      have lt : j < m.length := by have := (List.getElem?_eq_some_iff.mp h).1; rwa [List.length_set] at this
      rw [List.getElem?_set_self lt] at h
      cases h
      trivial
    · rw [List.getElem?_set_ne (Ne.symm hj)] at h
      rw [List.getElem?_set_ne (Ne.symm hj)]
      exact S.sl j s h
  · obtain ⟨n1, q1⟩ := sub h1
    obtain ⟨n2, q2⟩ := sub h2
    rw [List.getElem?_set_ne (Ne.symm n1)] at e1
    rw [List.getElem?_set_ne (Ne.symm n2)] at e2
    exact S.inj j k o1 o2 b q1 q2 e1 e2
theorem SR.wipe (S : SR G w m σ) : ∀ vs : List Nat, SR G w (wipeM m vs) (L2.wipe σ vs)
  | [] => S
  | v :: vs => (SR.wipe S vs).setNone
theorem SR.wipeM (S : SR G w m σ) : ∀ vs : List Nat, SR G w (Mi.wipeM m vs) σ
  | [] => S
  | v :: vs => (SR.wipeM S vs).setNo
theorem restM_length {m0 m : List Slot} : ∀ vs : List Nat, (restM m0 m vs).length = m.length
  | [] => rfl
  | v :: vs => by unfold restM; rw [List.length_set, restM_length vs]
theorem restM_in {m0 m : List Slot} : ∀ {vs : List Nat} {j : Nat}, j ∈ vs → (restM m0 m vs)[j]? = if j < m.length then some (m0[j]?.getD .no) else none
  | [], j, h => by cases h
  | v :: vs, j, h => by
    unfold restM
    by_cases e : v = j
    · subst e
      split
      · rename_i lt
        rw [List.getElem?_set_self (by rw [restM_length]; exact lt)]
      · rename_i lt
        rw [List.getElem?_eq_none (by rw [List.length_set, restM_length]; omega)]
    · rw [List.getElem?_set_ne e]
      exact restM_in ((List.mem_cons.mp h).resolve_left fun z => e z.symm)
theorem restM_out {m0 m : List Slot} : ∀ {vs : List Nat} {j : Nat}, j ∉ vs → (restM m0 m vs)[j]? = m[j]?
  | [], j, h => rfl
  | v :: vs, j, h => by
    simp only [List.mem_cons, not_or] at h
    unfold restM
    rw [List.getElem?_set_ne (fun z => h.1 z.symm)]
    exact restM_out h.2
theorem SR.rest {vs : List Nat} (S1 : SR G w1 m1 σ) (mo : Mo w1 w) (S : SR G w m τ) (l : τ.length = σ.length) (hτ : ∀ j, j ∉ vs → τ[j]? = σ[j]?) (no : noOw m1 vs = true) : SR G w (restM m1 m vs) σ := by
  have no' : ∀ j ∈ vs, ∀ o, m1[j]?.getD .no ≠ .ow o := fun j hj o e => by
    have := List.all_eq_true.mp no j hj
    cases h : m1[j]? with
    | none => rw [h] at e; cases e
    | some s =>
      rw [h] at e this
      have e : s = .ow o := e
      subst e
      cases this
  have sub : ∀ {k : Nat} {o1 : O}, (restM m1 m vs)[k]? = some (.ow o1) → k ∉ vs ∧ m[k]? = some (.ow o1) := fun {k o1} hk => by
    by_cases hj : k ∈ vs
    · rw [restM_in hj] at hk
      split at hk
      · exact absurd (Option.some.inj hk) (no' k hj o1)
      · cases hk
    · exact ⟨hj, by rwa [restM_out hj] at hk⟩
  refine ⟨by rw [restM_length, S.len, l], fun j s h => ?_, fun j k o1 o2 b h1 h2 e1 e2 => ?_, S.sep, S.trk⟩
  · by_cases hj : j ∈ vs
    · rw [restM_in hj] at h
      split at h
      · rename_i lt
        have lt1 : j < m1.length := by rw [S1.len, ← l, ← S.len]; exact lt
        have e1 : m1[j]? = some m1[j] := List.getElem?_eq_getElem lt1
        rw [e1] at h
        have h : m1[j] = s := Option.some.inj h
        rw [h] at e1
        have q := S1.sl j s e1
        cases s with
        | no => trivial
        | fz t => obtain ⟨x, a, b⟩ := q; exact ⟨x, a, RF.mono mo b⟩
        | ow o => exact absurd (by rw [e1]; rfl) (no' j hj o)
      · cases h
    · rw [restM_out hj] at h
      have q := S.sl j s h
      rwa [hτ j hj] at q
  · obtain ⟨n1, q1⟩ := sub h1
    obtain ⟨n2, q2⟩ := sub h2
    exact S.inj j k o1 o2 b q1 q2 (by rw [hτ j n1]; exact e1) (by rw [hτ k n2]; exact e2)
theorem Mo.poke (nf : ¬ w.F D) : Mo w (w.wr D u) := ⟨fun _ h => h, fun a f => .inl (upd_ne (show a ≠ D from fun z => nf (z ▸ f))).symm⟩
theorem SR.poke (S : SR G w m σ) (nf : ¬ w.F D) (nl : ¬ w.L D) : SR G (w.wr D u) m σ :=
  S.grow (Mo.poke nf) (fun a l => ⟨l, fun _ => upd_ne (show a ≠ D from fun z => nl (z ▸ l))⟩) S.sep fun a f => by
    obtain ⟨v, h⟩ := S.trk a f
    exact ⟨v, (upd_ne (show a ≠ D from fun z => nf (z ▸ f))).trans h⟩
theorem Ex.poke (x : Ex w1 w) (h : w1.H D = none) (nf : ¬ w.F D) : Ex w1 (w.wr D u) :=
  ⟨x.fz, fun a f => (x.kp a f).trans (.inl (upd_ne (show a ≠ D from fun z => nf (z ▸ x.fz a f))).symm), fun a v h1 h2 h3 => by
    obtain ⟨q1, q2, q3⟩ := x.ot a v h1 h2 h3
    exact ⟨(upd_ne (ne_of_none h1 h)).trans q1, q2, q3⟩⟩
/-- a new object is taken in -/
def Wd.ad (w : Wd) (D : Addr) : Wd := ⟨w.F, fun a => w.L a ∨ a = D, w.H⟩
theorem SR.adopt (S : SR G w m σ) (nf : ¬ w.F D) : SR G (w.ad D) m σ :=
  S.grow ⟨fun _ h => h, fun _ _ => .refl _⟩ (fun a l => ⟨.inl l, fun _ => rfl⟩) (fun a l f => l.elim (fun l => S.sep a l f) fun e => nf (e ▸ f)) S.trk
theorem Ex.adopt (x : Ex w1 w) (h : w1.H D = none) : Ex w1 (w.ad D) := ⟨x.fz, x.kp, fun a v h1 h2 h3 => by
  obtain ⟨q1, q2, q3⟩ := x.ot a v h1 h2 h3
  exact ⟨q1, q2, fun z => z.elim q3 (ne_of_none h1 h)⟩⟩
end
section
variable {C : Ct} {X : Cx} {cal : Nat → List Slot → CRes}
def Ct.inn (C : Ct) : Ct := ⟨C.G, C.w0, C.s0, fun _ => false, fun _ _ => False⟩
theorem Res.sat_calm {α : Type} {r : Res α} {A : α → List Slot → Prop} {B : T → List Slot → Prop} (h : r.calm.sat A B) : r.sat A fun _ _ => False := by
  cases r with
  | ok a m => exact h
  | ex x m => exact h
  | no => exact h
theorem rd_comp {own : List Nat} {p : Pt} {s : Src} {cs : Es} {e : E} {g : TG} (hg : GP C.G p g) (hsub : ∀ j ∈ p.sl, j ∈ own) {σ : St} {H : Hp} {Q : VK} (h : rdE C (evE cal (.comp own p s cs e)) σ H Q) :
    tLc (rdS C (evSrc cal s)) g (rdB C.inn (evAll cal cs)) (rdE C.inn (evE cal e)) own σ H Q := by
  obtain ⟨w, m, eH, P, q⟩ := h
  rw [evE, Res.sat_bind] at q
  refine ⟨w, m, eH, P, Res.sat_mono q fun xs m1 q1 w1 J S1 x1 it => ?_⟩
  split at q1
  · rename_i no
    intro D hD
    rw [Res.sat_bind] at q1
    have q1 := Res.sat_calm q1
    have nf1 : ¬ w1.F D := fun f => by
      obtain ⟨u, z⟩ := S1.trk D f
      rw [hD] at z; cases z
    refine ⟨fun i n H => i + n = xs.length ∧ ∃ wq mc acc vs, wq.H = H ∧ SR C.G wq mc (wipe σ own) ∧ Ex w1 wq ∧ ¬ wq.F D ∧ ¬ wq.L D ∧ wq.H D = some (.lst vs) ∧ RFs C.G wq acc vs ∧
      (compGo own p (fun m => evAll cal cs m) (fun m => evE cal e m) (xs.drop i) acc mc).sat (fun acc m2 => (Res.ok (R.ow (.lst acc)) (restM m1 m2 own)).sat (fun r m' => ∀ w' v, SR C.G w' m' σ → Ex w w' → RR C.G w' m' σ r v → Q v w'.H) C.EM) fun _ _ => False, ?_, ?_⟩
    · refine ⟨xs.length, by omega, ?_⟩
      -- the owner of D, in no slot: forget
      have S0 := S1.wipe own
      have nlD : ∃ w1' : Wd, w1'.H = w1.H ∧ SR C.G w1' (wipeM m1 own) (wipe σ own) ∧ Ex w1 w1' ∧ ¬ w1'.F D ∧ ¬ w1'.L D := by
        refine ⟨⟨w1.F, fun a => w1.L a ∧ a ≠ D, w1.H⟩, rfl, ?_, ⟨fun _ h => h, fun _ _ => .refl _, fun a u h1 h2 h3 => ⟨h1, h2, fun z => h3 z.1⟩⟩, nf1, fun z => z.2 rfl⟩
        refine ⟨S0.len, fun j s h => ?_, S0.inj, fun a l f => S0.sep a l.1 f, S0.trk⟩
        have q := S0.sl j s h
        cases s with
        | no => trivial
        | fz t => obtain ⟨x, a, b⟩ := q; exact ⟨x, a, RF.mono (w := w1) (w' := ⟨w1.F, fun a => w1.L a ∧ a ≠ D, w1.H⟩) (mo_same rfl rfl) b⟩
        | ow o =>
          obtain ⟨a, e1, r, l⟩ := q
          refine ⟨a, e1, r.mono (mo_same rfl rfl) rfl, l, fun z => ?_⟩
          obtain ⟨u, hu⟩ := r.trk
          rw [z, hD] at hu; cases hu
      obtain ⟨w1', e1', S1', x1', nf', nl'⟩ := nlD
      refine ⟨w1'.wr D (.lst []), wipeM m1 own, [], [], by show upd w1'.H D _ = _; rw [e1'], S1'.poke nf' nl', x1'.poke hD nf', nf', nl', upd_same, .nil, ?_⟩
      rw [List.drop_zero]
      exact q1
    · rintro i n H ⟨hin, wc, mc, acc, vs, rfl, S, xc, nf, nl, hDv, rs, q2⟩
      cases hdr : xs.drop i with
      | nil =>
        have hi : i = xs.length := by
          have := congrArg List.length hdr
          rw [List.length_drop] at this
          simp at this
          omega
        subst hi
        rw [hdr] at q2
        have q2 : ∀ w' v, SR C.G w' (restM m1 mc own) σ → Ex w w' → RR C.G w' (restM m1 mc own) σ (.ow (.lst acc)) v → Q v w'.H := q2
        refine .inl ⟨it.stop wc xc.mo, ?_⟩
        have S2 : SR C.G wc (restM m1 mc own) σ := SR.rest S1 xc.mo S (wipe_length ..) (fun j hj => wipe_out hj) no
        refine q2 (wc.ad D) (.ref D) (S2.adopt nf) (x1.trans (xc.adopt hD)) ⟨D, rfl, .lst hDv (RFs.mono (w := wc) (w' := wc.ad D) (mo_same rfl rfl) rs), .inr rfl, fun j o' hj z => ?_⟩
        obtain ⟨a, e1, _, l⟩ := S2.sl j _ hj
        rw [z] at e1
        cases e1
        exact nl l
      | cons x rest =>
        have hx : xs[i]? = some x := by
          have := congrArg (fun l => l[0]?) hdr
          simpa using this
        have hlt : i < xs.length := (List.getElem?_eq_some_iff.mp hx).1
        have hrest : xs.drop (i + 1) = rest := by
          have := congrArg List.tail hdr
          simpa using this
        rw [hdr] at q2
        unfold compGo at q2
        obtain ⟨hgo, hyl⟩ := it.go i x wc xc.mo hx
        refine .inr ⟨hgo, fun H' => ∃ wq mc acc vs, wq.H = H' ∧ SR C.G wq mc (wipe σ own) ∧ Ex w1 wq ∧ ¬ wq.F D ∧ ¬ wq.L D ∧ wq.H D = some (.lst vs) ∧ RFs C.G wq acc vs ∧
          (compGo own p (fun m => evAll cal cs m) (fun m => evE cal e m) rest acc mc).sat (fun acc m2 => (Res.ok (R.ow (.lst acc)) (restM m1 m2 own)).sat (fun r m' => ∀ w' v, SR C.G w' m' σ → Ex w w' → RR C.G w' m' σ r v → Q v w'.H) C.EM) fun _ _ => False,
          fun H' nx => ⟨n - 1, by omega, by omega, by rw [hrest]; exact nx⟩, fun v H' y => ?_⟩
        obtain ⟨w2, e2, S2, x2, r2, _⟩ := hyl v H' (wipeM mc own) (wipe σ own) (S.wipeM own) y
        cases hb : bindP (wipeM mc own) p x with
        | none => rw [hb] at q2; exact q2.elim
        | some m3 =>
          rw [hb] at q2
          simp only at q2
          rw [Res.sat_bind] at q2
          rw [← e2]
          refine hg w2 (wipeM mc own) m3 (wipe σ own) x v _ S2 r2 hb fun σ3 S3 f3 l3 => ⟨wipe_eq (by rw [l3, wipe_length]) fun j hj => by rw [f3 j fun z => hj (hsub j z), wipe_out hj], ?_⟩
          have w3eq : wipe σ3 own = wipe σ own := wipe_eq (by rw [l3, wipe_length]) fun j hj => by rw [f3 j fun z => hj (hsub j z), wipe_out hj]
          obtain ⟨d1, d2, d3⟩ := x2.ot D _ hDv nf nl
          refine ⟨w2, m3, rfl, ⟨S3, (P.ex.trans x1).trans (xc.trans x2), fun j z => nomatch z⟩, Res.sat_mono q2 fun r m4 q4 => ?_⟩
          cases r with
          | ow o => exact q4.elim
          | bo k => exact q4.elim
          | fz t =>
            cases t <;> try (exact q4.elim)
            case bl b =>
              refine ⟨b, rfl, fun w4 S4 x4 => ?_⟩
              obtain ⟨g1, g2, g3⟩ := x4.ot D _ d1 d2 d3
              cases b with
              | false =>
                refine ⟨w4, wipeM m4 own, acc, vs, rfl, ?_, xc.trans (x2.trans x4), g2, g3, g1, RFs.mono (x2.trans x4).mo rs, q4⟩
                have := S4.wipe own
                rwa [w3eq] at this
              | true =>
                simp only at q4
                rw [Res.sat_bind] at q4
                refine ⟨w4, m4, rfl, ⟨S4, (P.ex.trans x1).trans (xc.trans (x2.trans x4)), fun j z => nomatch z⟩, Res.sat_mono q4 fun r5 m5 q5 w5 v5 S5 x5 rr5 => ?_⟩
                obtain ⟨k1, k2, k3⟩ := x5.ot D _ g1 g2 g3
                refine ⟨vs, k1, ?_⟩
                cases hes : esc m5 r5.opd with
                | none => rw [hes] at q5; exact q5.elim
                | some pr =>
                  obtain ⟨t6, m6⟩ := pr
                  rw [hes] at q5
                  simp only at q5
                  split at q5
                  · rename_i hlen
                    obtain ⟨w6, e6, S6, x6, r6⟩ := S5.keep rr5 hes
                    obtain ⟨y1, y2, y3⟩ := x6.ot D _ k1 k2 k3
                    refine ⟨by rw [← rs.length]; exact hlen, w6.wr D (.lst (vs ++ [v5])), wipeM m6 own, acc ++ [t6], vs ++ [v5], by show upd w6.H D _ = _; rw [e6], ?_, (xc.trans (x2.trans (x4.trans (x5.trans x6)))).poke hD y2, y2, y3, upd_same, ?_, q5⟩
                    · have := (S6.wipe own).poke (u := .lst (vs ++ [v5])) y2 y3
                      rwa [w3eq] at this
                    · exact RFs.mono (Mo.poke y2) ((RFs.mono (x2.trans (x4.trans (x5.trans x6))).mo rs).append (.cons r6 .nil))
                  · exact q5.elim
  · exact q1.elim
theorem n_comp {ex : Expr} {own : List Nat} {p : Pt} {s : Src} {cs : Es} {e : E} {g : TG} (hg : GP C.G p g) (hsub : ∀ j ∈ p.sl, j ∈ own) (hp : PE X ex (tLc (rdS C (evSrc cal s)) g (rdB C.inn (evAll cal cs)) (rdE C.inn (evE cal e)) own)) :
    PE X ex (rdE C (evE cal (.comp own p s cs e))) := PE.imp hp fun _ _ _ q => rd_comp hg hsub q
end
end Mi
set_option maxHeartbeats 1000000
namespace Mi
open PySem PySem.Spec PyProof.Rows L2

def FSat (C : Ct) (w : Wd) (D : Ends) : Fl → Prop
  | .nx m => ∀ w' σ', Pre C w' m σ' → Ex w w' → D.nx σ' w'.H
  | .bk m => ∀ w' σ', Pre C w' m σ' → Ex w w' → D.bk σ' w'.H
  | .ct m => ∀ w' σ', Pre C w' m σ' → Ex w w' → D.ct σ' w'.H
  | .rt r m => ∀ w' σ' v, Pre C w' m σ' → Ex w w' → RR C.G w' m σ' r v → D.rt v w'.H
  | .ex x m => C.EM x m
  | .no => False
def rdSt (C : Ct) (f : List Slot → Fl) : TS := fun D σ H => ∃ w m, w.H = H ∧ Pre C w m σ ∧ FSat C w D (f m)
section
variable {C : Ct} {X : Cx} {cal : Nat → List Slot → CRes} {L : Nat}
theorem FSat.weak {w w' : Wd} {D : Ends} {fl : Fl} (h : FSat C w D fl) (x : Ex w w') : FSat C w' D fl := by
  cases fl with
  | nx m => exact fun w2 σ2 p y => h w2 σ2 p (x.trans y)
  | bk m => exact fun w2 σ2 p y => h w2 σ2 p (x.trans y)
  | ct m => exact fun w2 σ2 p y => h w2 σ2 p (x.trans y)
  | rt r m => exact fun w2 σ2 v p y => h w2 σ2 v p (x.trans y)
  | ex x m => exact h
  | no => exact h
theorem FSat_ofR {w : Wd} {D : Ends} {r : Res R} {k : R → List Slot → Fl} : FSat C w D (ofR r k) ↔ r.sat (fun a m => FSat C w D (k a m)) C.EM := by
  cases r <;> exact Iff.rfl
theorem Pre.fixSet {w : Wd} {m m' : List Slot} {σ : St} {i : Nat} {v : Option V} (P : Pre C w m σ) (nfx : C.fx i = false) : ∀ j, C.fx j = true → (σ.set i v)[j]? = C.s0[j]? := fun j hj => by
  rw [List.getElem?_set_ne, P.fix j hj]
  intro e
  rw [e, hj] at nfx
  cases nfx
theorem st_nil : PSs X [] (rdSt C (evSs cal L .nil)) := PSs.imp pss_nil fun D σ H ⟨w, m, e, P, q⟩ => by
  rw [evSs] at q
  have := q w σ P (.refl w)
  rwa [e] at this
theorem st_cons {st : Stmt} {rest : List Stmt} {s : S} {r : Ss} (h : PS X st (rdSt C (evS cal L s))) (hr : PSs X rest (rdSt C (evSs cal L r))) : PSs X (st :: rest) (rdSt C (evSs cal L (.cons s r))) :=
  PSs.imp (pss_cons h hr) fun D σ H ⟨w, m, e, P, q⟩ => by
  rw [evSs] at q
  refine ⟨w, m, e, P, ?_⟩
  cases h1 : evS cal L s m with
  | nx m1 => rw [h1] at q; exact fun w1 σ1 P1 x1 => ⟨w1, m1, rfl, P1, FSat.weak q x1⟩
  | rt r m1 => rw [h1] at q; exact q
  | bk m1 => rw [h1] at q; exact q
  | ct m1 => rw [h1] at q; exact q
  | ex x m1 => rw [h1] at q; exact q
  | no => rw [h1] at q; exact q
theorem st_set {st : Stmt} {i : Nat} {e : E} (nfx : C.fx i = false) (h : PS X st (tAsg (rdE C (evE cal e)) (gName i))) : PS X st (rdSt C (evS cal L (.set i e))) := PS.imp h fun D σ H ⟨w, m, eH, P, q⟩ => by
  rw [evS, FSat_ofR] at q
  refine ⟨w, m, eH, P, Res.sat_mono q fun r m1 q1 w1 v S1 x1 r1 => ?_⟩
  show D.nx (σ.set i (some v)) w1.H
  unfold putR at q1
  split at q1
  · cases r with
    | fz t => exact q1 w1 _ ⟨S1.setFz r1, P.ex.trans x1, P.fixSet (m' := m1) nfx⟩ x1
    | ow o =>
      obtain ⟨p, rfl, ro, l, n⟩ := r1
      exact q1 w1 _ ⟨S1.setOw ro l n, P.ex.trans x1, P.fixSet (m' := m1) nfx⟩ x1
    | bo j =>
      simp only at q1
      cases h1 : esc m1 (.b j) with
      | none => rw [h1] at q1; exact q1.elim
      | some p =>
        obtain ⟨t, m2⟩ := p
        rw [h1] at q1
        obtain ⟨w2, e2, S2, x2, rf⟩ := S1.esc (d := .b j) r1 h1
        have := q1 w2 _ ⟨S2.setFz rf, P.ex.trans (x1.trans x2), P.fixSet (m' := m1) nfx⟩ (x1.trans x2)
        rwa [e2] at this
  · exact q1.elim
theorem st_unp {st : Stmt} {p : Pt} {e : E} {g : TG} (hg : GP C.G p g) (nfx : ∀ j ∈ p.sl, C.fx j = false) (h : PS X st (tAsg (rdE C (evE cal e)) g)) : PS X st (rdSt C (evS cal L (.unp p e))) := PS.imp h fun D σ H ⟨w, m, eH, P, q⟩ => by
  rw [evS, FSat_ofR] at q
  refine ⟨w, m, eH, P, Res.sat_mono q fun r m1 q1 w1 v S1 x1 r1 => ?_⟩
  cases h1 : esc m1 r.opd with
  | none => rw [h1] at q1; exact q1.elim
  | some pr =>
    obtain ⟨t, m2⟩ := pr
    rw [h1] at q1
    simp only at q1
    obtain ⟨w2, e2, S2, x2, r2⟩ := S1.keep r1 h1
    cases h2 : bindP m2 p t with
    | none => rw [h2] at q1; exact q1.elim
    | some m3 =>
      rw [h2] at q1
      rw [← e2]
      refine hg w2 m2 m3 σ t v _ S2 r2 h2 fun σ3 S3 f3 l3 => q1 w2 σ3 ⟨S3, P.ex.trans (x1.trans x2), fun j hj => ?_⟩ (x1.trans x2)
      rw [f3 j (fun z => by rw [nfx j z] at hj; cases hj), P.fix j hj]
theorem st_par {st : Stmt} {i j : Nat} {a b : E} (nfx : C.fx i = false ∧ C.fx j = false) (h : PS X st (tPar i j (rdDs C (evDs cal (.cons a (.cons b .nil)))))) : PS X st (rdSt C (evS cal L (.par i j a b))) := PS.imp h fun D σ H ⟨w, m, eH, P, q⟩ => by
  rw [evS, FSat_ofR] at q
  refine ⟨w, m, eH, P, ?_⟩
  rw [evDs, Res.sat_bind]
  refine Res.sat_mono q fun ra m1 q1 => ?_
  rw [FSat_ofR] at q1
  rw [Res.sat_bind, evDs, Res.sat_bind]
  refine Res.sat_mono q1 fun rb m2 q2 => ?_
  rw [Res.sat_bind, evDs]
  intro w2 vs S2 x2 rs
  cases rs with
  | @cons _ v _ _ r1 rs =>
    cases rs with
    | @cons _ u _ _ r2 rs =>
      cases rs
      refine ⟨v, u, rfl, ?_⟩
      cases h1 : escs m2 [ra.opd, rb.opd] with
      | none => rw [h1] at q2; exact q2.elim
      | some pr =>
        obtain ⟨ts, m3⟩ := pr
        rw [h1] at q2
        obtain ⟨w3, e3, S3, x3, r3⟩ := SR.escs S2 (.cons r1 (.cons r2 .nil)) h1
        cases r3 with
        | @cons t _ ts1 _ a1 b1 =>
          cases b1 with
          | @cons t' _ ts2 _ a2 b2 =>
            cases b2
            simp only at q2
            split at q2
            · rw [← e3]
              refine q2 w3 _ ⟨(S3.setFz a1).setFz a2, P.ex.trans (x2.trans x3), fun k hk => ?_⟩ (x2.trans x3)
              rw [List.getElem?_set_ne, List.getElem?_set_ne, P.fix k hk]
              · intro e; rw [e, hk] at nfx; exact nomatch nfx.1
              · intro e; rw [e, hk] at nfx; exact nomatch nfx.2
            · exact q2.elim
theorem st_aug {st : Stmt} {i : Nat} {f : Op} {e : E} {ti : TIp} (nfx : C.fx i = false) (ht : ∀ (x y z : T) (Q : VK) (H : Hp), augF f x y = some z → Q (vT z) H → flatT z = true → flatT x = true → flatT y = true → ti (vT x) (vT y) H Q) (hf : ∀ x y z, augF f x y = some z → flatT x = true ∧ flatT y = true ∧ flatT z = true)
    (h : PS X st (tAug i (rdD C (opdF (evE cal e))) ti)) : PS X st (rdSt C (evS cal L (.aug i f e))) := PS.imp h fun D σ H ⟨w, m, eH, P, q⟩ => by
  rw [evS] at q
  cases h0 : m[i]? with
  | none => rw [h0] at q; exact q.elim
  | some s =>
    rw [h0] at q
    have sl := P.sr.sl i s h0
    cases s with
    | no => exact q.elim
    | ow o => exact q.elim
    | fz x =>
      obtain ⟨xv, e1, rx⟩ := sl
      simp only at q
      rw [FSat_ofR] at q
      refine ⟨xv, e1, w, m, eH, P, ?_⟩
      rw [opdF, Res.sat_bind]
      refine Res.sat_mono q fun r m1 q1 w1 v S1 x1 r1 => ?_
      split at q1
      · rename_i y hy hd
        split at q1
        · rename_i z hz
          obtain ⟨f1, f2, f3⟩ := hf _ _ _ hz
          rw [RF.flat f1 rx, RA.flat f2 (S1.der r1 hd)]
          exact ht x y z _ _ hz (q1 w1 _ ⟨S1.setFz (RF.of_flat f3), P.ex.trans x1, P.fixSet (m' := m1) nfx⟩ x1) f3 f1 f2
        · exact q1.elim
      · exact q1.elim
theorem st_ex {st : Stmt} {e : E} (h : PS X st (tDrop (rdE C (evE cal e)))) : PS X st (rdSt C (evS cal L (.ex e))) := PS.imp h fun D σ H ⟨w, m, eH, P, q⟩ => by
  rw [evS, FSat_ofR] at q
  refine ⟨w, m, eH, P, Res.sat_mono q fun r m1 q1 w1 v S1 x1 r1 => q1 w1 σ (P.step S1 x1) x1⟩
theorem st_ret {st : Stmt} {e : E} (h : PS X st (tRet (rdE C (evE cal e)))) : PS X st (rdSt C (evS cal L (.ret e))) := PS.imp h fun D σ H ⟨w, m, eH, P, q⟩ => by
  rw [evS, FSat_ofR] at q
  refine ⟨w, m, eH, P, Res.sat_mono q fun r m1 q1 w1 v S1 x1 r1 => ?_⟩
  cases r with
  | fz t => exact q1 w1 σ v (P.step S1 x1) x1 r1
  | ow o => exact q1 w1 σ v (P.step S1 x1) x1 r1
  | bo i =>
    dsimp only [outR] at q1
    have r1 : σ[i]? = some (some v) := r1
    cases h1 : m1[i]? with
    | none => rw [h1] at q1; exact q1.elim
    | some s =>
      rw [h1] at q1
      have sl := S1.sl i s h1
      cases s with
      | no => exact q1.elim
      | fz t =>
        obtain ⟨x, e1, r2⟩ := sl
        rw [r1] at e1
        cases e1
        exact q1 w1 σ v (P.step S1 x1) x1 r2
      | ow o =>
        obtain ⟨a, e1, ro, l⟩ := sl
        rw [r1] at e1
        cases e1
        refine q1 w1 σ (.ref a) (P.step S1.setNo x1) x1 ⟨a, rfl, ro, l, fun k o' hk z => ?_⟩
        by_cases hj : k = i
        · subst hj
          rw [List.getElem?_set_self (List.getElem?_eq_some_iff.mp h1).1] at hk
          cases hk
        · rw [List.getElem?_set_ne (Ne.symm hj)] at hk
          exact hj (S1.inj k i o' o a hk h1 z r1)
theorem st_retn {st : Stmt} (h : PS X st tRetN) : PS X st (rdSt C (evS cal L .retn)) := PS.imp h fun D σ H ⟨w, m, eH, P, q⟩ => by
  rw [evS] at q
  have := q w σ .non P (.refl w) .non
  rwa [eH] at this
theorem st_brk {st : Stmt} (h : PS X st tBreak) : PS X st (rdSt C (evS cal L .brk)) := PS.imp h fun D σ H ⟨w, m, eH, P, q⟩ => by
  rw [evS] at q
  have := q w σ P (.refl w)
  rwa [eH] at this
theorem st_cnt {st : Stmt} (h : PS X st tCont) : PS X st (rdSt C (evS cal L .cnt)) := PS.imp h fun D σ H ⟨w, m, eH, P, q⟩ => by
  rw [evS] at q
  have := q w σ P (.refl w)
  rwa [eH] at this
theorem st_pas {st : Stmt} (h : PS X st tNext) : PS X st (rdSt C (evS cal L .pas)) := PS.imp h fun D σ H ⟨w, m, eH, P, q⟩ => by
  rw [evS] at q
  have := q w σ P (.refl w)
  rwa [eH] at this
/-- a test that is a bool -/
theorem rd_test {f : List Slot → Res R} {σ : St} {w : Wd} {m : List Slot} {Q : Bool → Hp → Prop} (P : Pre C w m σ) (h : (f m).sat (fun r m1 => ∃ k, r = .fz (.bl k) ∧ ∀ w', SR C.G w' m1 σ → Ex w w' → Q k w'.H) C.EM) : rdB C f σ w.H Q := ⟨w, m, rfl, P, h⟩
theorem st_ife {st : Stmt} {c : E} {a b : Ss} (h : PS X st (tIfS (rdB C (evE cal c)) (rdSt C (evSs cal L a)) (rdSt C (evSs cal L b)))) : PS X st (rdSt C (evS cal L (.ife c a b))) := PS.imp h fun D σ H ⟨w, m, eH, P, q⟩ => by
  rw [evS, FSat_ofR] at q
  subst eH
  refine rd_test P (Res.sat_mono q fun r m1 q1 => ?_)
  cases r with
  | ow o => exact q1.elim
  | bo k => exact q1.elim
  | fz t =>
    cases t <;> try (exact q1.elim)
    case bl k =>
      refine ⟨k, rfl, fun w1 S1 x1 => ?_⟩
      cases k with
      | true => exact ⟨w1, m1, rfl, P.step S1 x1, FSat.weak q1 x1⟩
      | false => exact ⟨w1, m1, rfl, P.step S1 x1, FSat.weak q1 x1⟩
theorem st_wh {st : Stmt} {c : E} {b : Ss} (h : PS X st (tWhile (rdB C (evE cal c)) (rdSt C (evSs cal L b)))) : PS X st (rdSt C (evS cal L (.wh c b))) := PS.imp h fun D σ H ⟨w, m, eH, P, q⟩ => by
  rw [evS] at q
  refine ⟨fun n σ H => ∃ w m, w.H = H ∧ Pre C w m σ ∧ FSat C w D (whGo (fun m => evE cal c m) (fun m => evSs cal L b m) n m), ⟨L, w, m, eH, P, q⟩, ?_⟩
  rintro n σ1 H1 ⟨w1, m1, rfl, P1, q1⟩
  cases n with
  | zero => exact q1.elim
  | succ n =>
    unfold whGo at q1
    refine rd_test P1 ?_
    cases h1 : evE cal c m1 with
    | no => rw [h1] at q1; exact q1.elim
    | ex x m2 => rw [h1] at q1; exact q1
    | ok r m2 =>
      rw [h1] at q1
      cases r with
      | ow o => exact q1.elim
      | bo k => exact q1.elim
      | fz t =>
        cases t <;> try (exact q1.elim)
        case bl k =>
          refine ⟨k, rfl, fun w2 S2 x2 => ?_⟩
          cases k with
          | false => exact q1 w2 σ1 (P1.step S2 x2) x2
          | true =>
            refine ⟨fun σ H => ∃ w m, w.H = H ∧ Pre C w m σ ∧ FSat C w D (whGo (fun m => evE cal c m) (fun m => evSs cal L b m) n m), fun σ' H' z => ⟨n, Nat.lt_succ_self n, z⟩, w2, m2, rfl, P1.step S2 x2, ?_⟩
            simp only at q1
            cases h2 : evSs cal L b m2 with
            | nx m3 => rw [h2] at q1; exact fun w3 σ3 P3 x3 => ⟨w3, m3, rfl, P3, FSat.weak q1 (x2.trans x3)⟩
            | ct m3 => rw [h2] at q1; exact fun w3 σ3 P3 x3 => ⟨w3, m3, rfl, P3, FSat.weak q1 (x2.trans x3)⟩
            | bk m3 => rw [h2] at q1; exact fun w3 σ3 P3 x3 => q1 w3 σ3 P3 (x2.trans x3)
            | rt r m3 => rw [h2] at q1; exact fun w3 σ3 v P3 x3 => q1 w3 σ3 v P3 (x2.trans x3)
            | ex x m3 => rw [h2] at q1; exact q1
            | no => rw [h2] at q1; exact q1.elim
theorem st_fr {st : Stmt} {p : Pt} {s : Src} {b : Ss} {g : TG} (hg : GP C.G p g) (nfx : ∀ j ∈ p.sl, C.fx j = false) (h : PS X st (tFor (rdS C (evSrc cal s)) g (rdSt C (evSs cal L b)))) : PS X st (rdSt C (evS cal L (.fr p s b))) := PS.imp h fun D σ H ⟨w, m, eH, P, q⟩ => by
  rw [evS] at q
  refine ⟨w, m, eH, P, ?_⟩
  cases h0 : evSrc cal s m with
  | no => rw [h0] at q; exact q.elim
  | ex x m1 => rw [h0] at q; exact q
  | ok xs m1 =>
    rw [h0] at q
    have q : FSat C w D (forGo p (fun m => evSs cal L b m) xs m1) := q
    intro w1 J S1 x1 it
    refine ⟨fun i n σ H => i + n = xs.length ∧ ∃ wc m, wc.H = H ∧ Pre C wc m σ ∧ Ex w1 wc ∧ FSat C w1 D (forGo p (fun m => evSs cal L b m) (xs.drop i) m), ⟨xs.length, by omega, w1, m1, rfl, P.step S1 x1, .refl w1, by rw [List.drop_zero]; exact FSat.weak q x1⟩, ?_⟩
    rintro i n σ2 H2 ⟨hin, wc, mc, rfl, Pc, xc, qc⟩
    cases hdr : xs.drop i with
    | nil =>
      have hi : i = xs.length := by
        have := congrArg List.length hdr
        rw [List.length_drop] at this
        simp at this
        omega
      subst hi
      rw [hdr] at qc
      exact .inl ⟨it.stop wc xc.mo, qc wc σ2 Pc xc⟩
    | cons x rest =>
      have hx : xs[i]? = some x := by
        have := congrArg (fun l => l[0]?) hdr
        simpa using this
      have hlt : i < xs.length := (List.getElem?_eq_some_iff.mp hx).1
      have hrest : xs.drop (i + 1) = rest := by
        have := congrArg List.tail hdr
        simpa using this
      rw [hdr] at qc
      unfold forGo at qc
      obtain ⟨hgo, hyl⟩ := it.go i x wc xc.mo hx
      refine .inr ⟨hgo, fun σ H => ∃ wc m, wc.H = H ∧ Pre C wc m σ ∧ Ex w1 wc ∧ FSat C w1 D (forGo p (fun m => evSs cal L b m) rest m), fun σ' H' z => ⟨n - 1, by omega, by omega, by rw [hrest]; exact z⟩, fun v H' y => ?_⟩
      obtain ⟨w2, e2, S2, x2, r2, _⟩ := hyl v H' mc σ2 Pc.sr y
      cases hb : bindP mc p x with
      | none => rw [hb] at qc; exact qc.elim
      | some m3 =>
        rw [hb] at qc
        simp only at qc
        rw [← e2]
        refine hg w2 mc m3 σ2 x v _ S2 r2 hb fun σ3 S3 f3 l3 => ?_
        have P3 : Pre C w2 m3 σ3 := ⟨S3, Pc.ex.trans x2, fun j hj => by rw [f3 j (fun z => by rw [nfx j z] at hj; cases hj), Pc.fix j hj]⟩
        refine ⟨w2, m3, rfl, P3, ?_⟩
        cases h2 : evSs cal L b m3 with
        | nx m4 => rw [h2] at qc; exact fun w4 σ4 P4 x4 => ⟨w4, m4, rfl, P4, xc.trans (x2.trans x4), qc⟩
        | ct m4 => rw [h2] at qc; exact fun w4 σ4 P4 x4 => ⟨w4, m4, rfl, P4, xc.trans (x2.trans x4), qc⟩
        | bk m4 => rw [h2] at qc; exact fun w4 σ4 P4 x4 => qc w4 σ4 P4 (xc.trans (x2.trans x4))
        | rt r m4 => rw [h2] at qc; exact fun w4 σ4 v P4 x4 => qc w4 σ4 v P4 (xc.trans (x2.trans x4))
        | ex x m4 => rw [h2] at qc; exact qc
        | no => rw [h2] at qc; exact qc.elim
theorem st_app {st : Stmt} {i : Nat} {e : E} (h : PS X st (tDrop (tBM C.G.K "list" rAppend (tVar i) (tCons (rdD C (opdF (evE cal e))) tNil)))) : PS X st (rdSt C (evS cal L (.app i e))) := PS.imp h fun D σ H ⟨w, m, eH, P, q⟩ => by
  rw [evS] at q
  cases h0 : m[i]? with
  | none => rw [h0] at q; exact q.elim
  | some s =>
    rw [h0] at q
    have sl := P.sr.sl i s h0
    cases s with
    | no => exact q.elim
    | fz t => exact q.elim
    | ow o =>
      cases o with
      | dic k => exact q.elim
      | ins c k => exact q.elim
      | lst xs0 =>
        simp only at q
        rw [FSat_ofR] at q
        obtain ⟨a, e1, ro, l⟩ := sl
        obtain ⟨vs0, hv0, _⟩ := ro.lst_inv
        refine ⟨_, e1, .inl ⟨rfl, vs0, .inl (.inl (by rw [← eH]; exact hv0))⟩, w, m, eH, P, ?_⟩
        rw [opdF, Res.sat_bind]
        refine Res.sat_mono q fun r m1 q1 w1 v S1 x1 r1 => ?_
        cases h1 : esc m1 r.opd with
        | none => rw [h1] at q1; exact q1.elim
        | some pr =>
          obtain ⟨t, m2⟩ := pr
          rw [h1] at q1
          obtain ⟨w2, e2, S2, x2, r2⟩ := S1.esc r1 h1
          simp only at q1
          cases h2 : m2[i]? with
          | none => rw [h2] at q1; exact q1.elim
          | some s2 =>
            rw [h2] at q1
            have sl2 := S2.sl i s2 h2
            cases s2 with
            | no => exact q1.elim
            | fz t => exact q1.elim
            | ow o2 =>
              cases o2 with
              | dic k => exact q1.elim
              | ins c k => exact q1.elim
              | lst xs =>
                obtain ⟨a2, e3, ro2, l2⟩ := sl2
                rw [e1] at e3
                cases e3
                obtain ⟨vs, hv, rs⟩ := ro2.lst_inv
                simp only at q1
                split at q1
                · rename_i hlt
                  have nf := S2.sep a l2
                  obtain ⟨S3, x3⟩ := S2.write (u := .lst (vs ++ [v])) (o' := .lst (xs ++ [t])) h2 e1 (.lst upd_same (RFs.mono (Mo.poke nf) (rs.append (.cons r2 .nil))))
                  refine ⟨a, vs, v, rfl, rfl, by rw [← e2]; exact hv, by rw [← rs.length]; exact hlt, ?_⟩
                  rw [← e2]
                  exact q1 (w2.wr a (.lst (vs ++ [v]))) σ (P.step S3 (x1.trans (x2.trans x3))) (x1.trans (x2.trans x3))
                · exact q1.elim
/-! name[key] = value -/
def rSetM : TSet := fun o i v H Q => rSetL o i v H Q ∨ rSetD o i v H Q
theorem RFk.any {G : Gm} {w : Wd} (k : Key) : ∀ {kvs : List (Key × T)} {ks : List (Key × V)}, RFk G w kvs ks → (kvs.any fun kv => decide (kv.1 = k)) = ks.any fun kv => decide (kv.1 = k)
  | _, _, .nil => rfl
  | _, _, .cons a b => by simp only [List.any_cons, RFk.any k b]
theorem RFk.app {G : Gm} {w : Wd} : ∀ {kvs kvs' : List (Key × T)} {ks ks' : List (Key × V)}, RFk G w kvs ks → RFk G w kvs' ks' → RFk G w (kvs ++ kvs') (ks ++ ks')
  | _, _, _, _, .nil, s => s
  | _, _, _, _, .cons a b, s => .cons a (RFk.app b s)
theorem RFk.map {G : Gm} {w : Wd} {k : Key} {t : T} {v : V} (q : RF G w t v) : ∀ {kvs : List (Key × T)} {ks : List (Key × V)}, RFk G w kvs ks → RFk G w (kvs.map fun kv => if decide (kv.1 = k) = true then (kv.1, t) else kv) (ks.map fun kv => if kv.1 = k then (kv.1, v) else kv)
  | _, _, .nil => .nil
  | _, _, .cons (k := k') a b => by
    simp only [List.map_cons]
    by_cases e : k' = k
    · simp only [e, decide_true, if_true]
      exact .cons q (RFk.map q b)
    · simp only [e, decide_false, if_false, Bool.false_eq_true]
      exact .cons a (RFk.map q b)
theorem RFk.put {G : Gm} {w : Wd} {kvs : List (Key × T)} {ks : List (Key × V)} {k : Key} {t : T} {v : V} (r : RFk G w kvs ks) (q : RF G w t v) : RFk G w (putT kvs k t) (putK ks k v) := by
  unfold putT putK
  rw [r.any k]
  split
  · exact r.map q
  · exact r.app (.cons q .nil)
theorem keyT_v {w : Wd} {t : T} {k : Key} {v : V} (h : keyT t = some k) (r : RA C.G w t v) : v = kV k := by
  cases t <;> try (cases h; done)
  case int i => cases h; exact r.int
  case str s => cases h; exact r.str
theorem st_sto {st : Stmt} {i : Nat} {k v : E} (h : PS X st (tAsg (rdE C (evE cal v)) (gSub (tVar i) (rdE C (evE cal k)) rSetM))) : PS X st (rdSt C (evS cal L (.sto i k v))) := PS.imp h fun D σ H ⟨w, m, eH, P, q⟩ => by
  rw [evS, FSat_ofR] at q
  apply rd_opd
  refine ⟨w, m, eH, P, ?_⟩
  rw [opdF, Res.sat_bind]
  refine Res.sat_mono q fun rv m1 q1 w1 vv S1 x1 r1 => ?_
  cases h0 : m1[i]? with
  | none => rw [h0] at q1; exact q1.elim
  | some s0 =>
    rw [h0] at q1
    have sl0 := S1.sl i s0 h0
    cases s0 with
    | no => exact q1.elim
    | fz t => exact q1.elim
    | ow o0 =>
      obtain ⟨a, ea, _, _⟩ := sl0
      simp only at q1
      rw [FSat_ofR] at q1
      refine ⟨_, ea, ?_⟩
      apply rd_opd
      refine ⟨w1, m1, rfl, P.step S1 x1, ?_⟩
      rw [opdF, Res.sat_bind]
      refine Res.sat_mono q1 fun rk m2 q2 w2 kv S2 x2 r2 => ?_
      cases h1 : esc m2 rv.opd with
      | none => rw [h1] at q2; exact q2.elim
      | some pr =>
        obtain ⟨t, m3⟩ := pr
        rw [h1] at q2
        simp only at q2
        obtain ⟨w3, e3, S3, x3, r3⟩ := S2.esc (r1.mono x2.mo) h1
        cases h2 : der m3 rk.opd with
        | none => rw [h2] at q2; exact q2.elim
        | some kt =>
          rw [h2] at q2
          have rk' := S3.der (r2.mono x3.mo) h2
          cases h3 : m3[i]? with
          | none => rw [h3] at q2; cases kt <;> exact q2.elim
          | some s3 =>
            rw [h3] at q2
            have sl3 := S3.sl i s3 h3
            cases s3 with
            | no => cases kt <;> exact q2.elim
            | fz t => cases kt <;> exact q2.elim
            | ow o3 =>
              obtain ⟨a3, e4, ro, l3⟩ := sl3
              rw [ea] at e4
              cases e4
              have nf := S3.sep a l3
              cases o3 with
              | ins c fs => cases kt <;> exact q2.elim
              | lst xs =>
                cases kt <;> try (exact q2.elim)
                case int j =>
                  obtain ⟨vs, hv, rs⟩ := ro.lst_inv
                  simp only at q2
                  cases h4 : ixN xs.length j with
                  | none => rw [h4] at q2; exact q2.elim
                  | some n =>
                    rw [h4] at q2
                    obtain ⟨S5, x5⟩ := S3.write (u := .lst (vs.set n vv)) (o' := .lst (xs.set n t)) h3 ea (.lst upd_same (RFs.mono (Mo.poke nf) (RFs.set r3 n rs)))
                    refine .inl ⟨a, vs, j, n, rfl, rk'.int, by rw [← e3]; exact hv, by rw [← rs.length]; exact h4, ?_⟩
                    rw [← e3]
                    exact q2 (w3.wr a (.lst (vs.set n vv))) σ (P.step S5 (x1.trans (x2.trans (x3.trans x5)))) (x1.trans (x2.trans (x3.trans x5)))
              | dic kvs =>
                obtain ⟨ks, hv, rs⟩ := ro.dic_inv
                have q2 : FSat C w D (match keyT kt with
                  | some k => if kvs.length < sizeLine then .nx (m3.set i (.ow (.dic (putT kvs k t)))) else .no
                  | none => .no) := by cases kt <;> exact q2
                cases h4 : keyT kt with
                | none => rw [h4] at q2; exact q2.elim
                | some ky =>
                  rw [h4] at q2
                  simp only at q2
                  split at q2
                  · rename_i hlt
                    obtain ⟨S5, x5⟩ := S3.write (u := .dK (putK ks ky vv)) (o' := .dic (putT kvs ky t)) h3 ea (.dic upd_same (RFk.mono (Mo.poke nf) (rs.put r3)))
                    refine .inr ⟨a, upd w2.H a (.dK (putK ks ky vv)), rfl, .inl ⟨ks, ky, by rw [← e3]; exact hv, keyT_v h4 rk', by rw [← rs.length]; exact hlt, rfl⟩, ?_⟩
                    rw [← e3]
                    exact q2 (w3.wr a (.dK (putK ks ky vv))) σ (P.step S5 (x1.trans (x2.trans (x3.trans x5)))) (x1.trans (x2.trans (x3.trans x5)))
                  · exact q2.elim
end
end Mi
set_option maxHeartbeats 1000000
namespace Mi
open PySem PySem.Spec PyProof.Rows L2

section
variable {X : Cx}
theorem or_add : OpR X (binaryOp .Add) rAddM := OpR.or (OpR.or op_add op_add_str) op_cat
theorem or_muls : OpR X (binaryOp .Mult) rMulS := fun pins s σ H x y v u Q I rx ry h => by
  obtain ⟨z, n, rfl, rfl, h0, h1, hz, q⟩ := h
  obtain ⟨t, rfl⟩ := rx
  obtain ⟨t', rfl⟩ := ry
  refine PySem.SB.mul ⟨?_, fun h2 _ => ?_, fun h2 _ => ?_⟩ fun t2 k => ⟨.str (Txt.mul z n), H, I.tok k, ⟨t2, rfl⟩, q⟩
  · simp only [Bool.or_eq_false_iff, decide_eq_false_iff_not]
    omega
  · intro h3
    have h4 : (2 ^ 63 - 1 : Int) / 1000 ≤ (2 ^ 63 - 1) / n := by
      have : (0 : Int) < n := by omega
      apply Int.le_ediv_of_mul_le this
      calc (2 ^ 63 - 1 : Int) / 1000 * n ≤ (2 ^ 63 - 1 : Int) / 1000 * 1000 := Int.mul_le_mul_of_nonneg_left h1 (by decide)
        _ ≤ 2 ^ 63 - 1 := by decide
    have h5 : (z.length : Int) ≤ 1000 := by exact_mod_cast hz
    have : (1000 : Int) < (2 ^ 63 - 1 : Int) / 1000 := by decide
    omega
  · have : z.length * n.toNat ≤ 1000 * 1000 := Nat.mul_le_mul hz (by omega)
    have l : (1000 * 1000 : Nat) ≤ sizeLine := by decide
    show decide (_ > sizeLine) = false
    exact decide_eq_false (by omega)
theorem or_mul : OpR X (binaryOp .Mult) rMulM := OpR.or op_mulW or_muls
theorem or_eq (hu : X.A.units + 64 < cLine) : OpR X (compareOp .Eq) (rEqM X.K) := OpR.or op_eq (op_eqD hu)
theorem or_ne (hu : X.A.units + 64 < cLine) : OpR X (compareOp .NotEq) (rNeM X.K) := OpR.or op_ne (op_neD hu)
theorem OpR.imp {f : Value → Value → Sem Value} {r r' : R2} (h : OpR X f r) (i : ∀ x y H Q, r' x y H Q → r x y H Q) : OpR X f r' := fun pins s σ H x y v u Q I rx ry q => h pins s σ H x y v u Q I rx ry (i _ _ _ _ q)
theorem CallR.imp {f : Value} {r r' : List V → Hp → VK → Prop} (h : CallR X f r) (i : ∀ x H Q, r' x H Q → r x H Q) : CallR X f r' := fun pins s σ H x u Q I rx q => h pins s σ H x u Q I rx (i _ _ _ q)
theorem or_in : OpR X (compareOp .In) (rInM X.K false) := OpR.or op_in_sign op_in_seq
theorem or_notin : OpR X (compareOp .NotIn) (rInM X.K true) := OpR.or op_notIn_sign op_notIn_seq
theorem cr_lenM : CallR X (.builtin "len") (rLenM X.K) := CallR.or call_len fun pins s σ H xs us Q I r h => by
  obtain ⟨a, kvs, rfl, ha, q⟩ := h
  obtain ⟨u, rfl, ru⟩ := vals1 r
  cases ru
  exact d_len I ha fun t s' I' => ⟨.int kvs.length, H, I', ⟨t, rfl⟩, q⟩
theorem cr_strM : CallR X (.type "str") rStrM := CallR.or call_str_int SkE.call_str_str
theorem cr_intM : CallR X (.type "int") rIntM := CallR.or call_int1 call_int_str
theorem sl_M : L2.SlR X (rSlM X.K) := L2.SlR.or sl_list sl_str
end

/-! ### isinstance -/
def tyX : T → Option String
  | .ins _ _ => none
  | t => some (tyT t)
section
variable {G : Gm}
theorem RA.ty {w : Wd} {t : T} {v : V} (r : RA G w t v) (h : ∀ c fs, t ≠ .ins c fs) : TyX G.K w.H v (.type (tyT t)) := by
  cases t with
  | ins c fs => exact absurd rfl (h c fs)
  | non => cases r.non; exact .base .non
  | bl b => cases r.bl; exact .base (.bl b)
  | int i => cases r.int; exact .base (.int i)
  | str s => cases r.str; exact .base (.str s)
  | lst xs => obtain ⟨a, vs, rfl, h1, _⟩ := r.lst; exact .base (.lst h1)
  | tup xs =>
    obtain ⟨a, vs, rfl, h1, _⟩ := r.tup
    rcases h1 with (h1 | ⟨o, h1⟩) | ⟨o, its, n, h1, h2, h3⟩
    · exact .base (.tup h1)
    · exact .fTuple h1
    · exact .kTuple h1 h2
  | dic kvs =>
    obtain ⟨a, ks, rfl, h1, _⟩ := r.dic
    rcases h1 with h1 | ⟨o, h1⟩
    · exact .base (.dK h1)
    · exact .fDict h1
  | scr ns =>
    obtain ⟨a, rfl, h1⟩ := r.scr
    rcases h1 with (h1 | ⟨o, h1⟩) | ⟨o, its, n, h1, h2, h3⟩
    · exact .base (.lst h1)
    · exact .base (.frz h1)
    · exact .kList h1 h2
theorem kit_has {t : T} {l : Ty} (h : ∀ c fs, t ≠ .ins c fs) : kitB (tyT t) l.nm = some (Ty.has t l) := by
  cases t with
  | ins c fs => exact absurd rfl (h c fs)
  | non => cases l <;> (show kitB "NoneType" _ = some false; decide +kernel)
  | bl b => cases l <;> first | (show kitB "bool" _ = some false; decide +kernel) | (show kitB "bool" _ = some true; decide +kernel)
  | int i => cases l <;> first | (show kitB "int" _ = some false; decide +kernel) | (show kitB "int" _ = some true; decide +kernel)
  | str s => cases l <;> first | (show kitB "str" _ = some false; decide +kernel) | (show kitB "str" _ = some true; decide +kernel)
  | lst xs => cases l <;> first | (show kitB "list" _ = some false; decide +kernel) | (show kitB "list" _ = some true; decide +kernel)
  | tup xs => cases l <;> first | (show kitB "tuple" _ = some false; decide +kernel) | (show kitB "tuple" _ = some true; decide +kernel)
  | dic xs => cases l <;> first | (show kitB "dict" _ = some false; decide +kernel) | (show kitB "dict" _ = some true; decide +kernel)
  | scr xs => cases l <;> first | (show kitB "list" _ = some false; decide +kernel) | (show kitB "list" _ = some true; decide +kernel)
theorem kit_any {K : PySem.W.Frag} {t : T} (h : ∀ c fs, t ≠ .ins c fs) : ∀ l : List Ty, PySem.W.kitAny K (.type (tyT t)) (l.map fun y => .type y.nm) = some (l.any (Ty.has t))
  | [] => rfl
  | y :: l => by
    refine kitAny_cons (kit_ty (kit_has (l := y) h)) (fun e => ?_) (fun e => ?_)
    · rw [kit_any h l, List.any_cons, e]; rfl
    · rw [List.any_cons, e]; rfl
theorem okIsi1 {l : Ty} : OpOk1 G (.isi1 l) (fun x H Q => rIsi G.K [x, .ty l.nm] H Q) := fun w m σ t1 v1 res Q S a h k => by
  have h : isi1F l t1 = some res := h
  have nt : ∀ c fs, t1 ≠ .ins c fs := fun c fs e => by subst e; cases h
  have h' : fB (Ty.has t1 l) = some res := by cases t1 <;> first | exact h | exact absurd rfl (nt _ _)
  cases h'
  exact ⟨v1, .ty l.nm, _, _, _, rfl, .ty _, a.ty nt, kit_ty (kit_has nt), k.fz S (.bl _)⟩
def rIsiL (K : PySem.W.Frag) (l : List Ty) : V → Hp → VK → Prop := fun x H Q => (l.map fun y => V.ty y.nm).length ≤ sizeLine ∧ ∀ p, H p = none → rIsiT K [x, .ref p] (upd H p (.tup (l.map fun y => V.ty y.nm))) Q
theorem paired_ty : ∀ l : List Ty, Paired ClsV (l.map fun y => V.ty y.nm) (l.map fun y => .type y.nm)
  | [] => .nil
  | y :: l => .cons (.ty _) (paired_ty l)
theorem okIsi {l : List Ty} (hl : l.length ≤ 30) : OpOk1 G (.isi l) (rIsiL G.K l) := fun w m σ t1 v1 res Q S a h k => by
  have h : isiF l t1 = some res := h
  have nt : ∀ c fs, t1 ≠ .ins c fs := fun c fs e => by subst e; cases h
  have h' : fB (l.any (Ty.has t1)) = some res := by cases t1 <;> first | exact h | exact absurd rfl (nt _ _)
  cases h'
  have l30 : 30 ≤ sizeLine := by decide
  refine ⟨by rw [List.length_map]; omega, fun p hp => ?_⟩
  have a' : RA G (w.new p (.tup (l.map fun y => V.ty y.nm))) t1 v1 := by
    rcases a.cases' with a | ⟨o, q, rfl, rfl, ro⟩
    · exact .fz (RF.mono (Mo.new S.trk hp) a)
    · refine .ow (ro.mono (Mo.new S.trk hp) ?_)
      obtain ⟨u, hu⟩ := ro.trk
      exact (upd_trk hp hu).trans hu.symm
  have e := k (w.new p (.tup (l.map fun y => V.ty y.nm))) (.bl (l.any (Ty.has t1))) (S.new hp) (Ex.new S.trk hp) (.bl _)
  exact ⟨v1, p, _, _, _, _, rfl, upd_same, paired_ty l, a'.ty nt, kit_any nt l, e⟩
end
end Mi
set_option maxHeartbeats 1000000
namespace Mi
open PySem PySem.Spec PyProof.Rows L2

structure XC (C : Ct) (X : Cx) (k : Nat) : Prop where
  K : C.G.K = X.K
  nd : X.N.Nodup
  calm : X.calm = true
  room : Room k X.A
  tk : Takes X (WM C)
section
variable {C : Ct} {X : Cx} {k : Nat} {cal : Nat → List Slot → CRes} {L : Nat}
theorem XC.hu (c : XC C X k) : X.A.units + 64 < cLine := by have := c.room.un; omega
theorem XC.blk (c : XC C X k) {s : Shared} {H : Hp} {scope : Scope} {env : Env} {fp : List Addr} : XC C.inn (X.blk s H scope env fp) k :=
  ⟨c.K, c.nd, c.calm, c.room, fun u s' ⟨a, B, sI, pins, σ, H, cls, d, e, I, nb, up, sky, na, os, ag, w⟩ => by
    obtain ⟨_, _, _, _, _, _, z⟩ := w
    exact z.elim⟩
/-! ### constants, names -/
variable {pos p1 p2 p3 : Pos} {j : Option Str}
theorem x_int {i : Int} {j} : PE X (.Constant (.int i) j pos) (rdE C (evE cal (.c (.int i)))) := n_cst pe_int fun _ => .int i
theorem x_str {i : Str} {j} : PE X (.Constant (.str i) j pos) (rdE C (evE cal (.c (.str i)))) := n_cst pe_str fun _ => .str i
theorem x_bl {i : Bool} {j} : PE X (.Constant (.bool i) j pos) (rdE C (evE cal (.c (.bl i)))) := n_cst pe_bl fun _ => .bl i
theorem x_non {j} : PE X (.Constant .none j pos) (rdE C (evE cal (.c .non))) := n_cst pe_non fun _ => .non
theorem x_var {i : Nat} {x : Str} (hN : X.N[i]? = some x := by rfl) (hv : Vis X.env.scope x := by first | exact Or.inl rfl | exact Or.inr (Or.inl rfl) | exact Or.inr (Or.inr rfl)) (hd : (x == ("__debug__" : Str)) = false := by decide)
    (hcd : (x == ("__classdict__" : Str)) = false := by decide) : PE X (.Name x pos) (rdE C (evE cal (.var i))) := n_var (pv i hN hv hd hcd)
/-- a name of the text's top that is never stored again -/
def GlobAt (X : Cx) (G : Gm) (x : Str) (t : T) : Prop := ∃ u v, X.mg x = some u ∧ RelV v u ∧ ∀ w, RF G w t v
theorem x_glob {x : Str} {t : T} (h : GlobAt X C.G x t) (hg : Gl X x := by rfl) (hdb : (x == ("__debug__" : Str)) = false := by decide) : PE X (.Name x pos) (rdE C (evE cal (.c t))) := by
  obtain ⟨u, v, h1, h2, h3⟩ := h
  exact n_cst (pe_glob hg h1 h2 hdb) h3
/-! ### displays -/
theorem evDs_nil : evDs cal .nil = fun m => .ok [] m := by funext m; rw [evDs]
theorem evDs_cons {e : E} {r : Es} : evDs cal (.cons e r) = consD (evE cal e) (evDs cal r) := by funext m; rw [evDs]; rfl
theorem a_nil : PA X [] (rdDs C (evDs cal .nil)) := by rw [evDs_nil]; exact pa_nilM
theorem a_cons {e : Expr} {es : List Expr} {a : E} {r : Es} (h : PE X e (rdE C (evE cal a))) (hr : PA X es (rdDs C (evDs cal r))) (hs : starEach (e :: es) X.env = (false, eval e X.env) :: starEach es X.env := by rfl) :
    PA X (e :: es) (rdDs C (evDs cal (.cons a r))) := by rw [evDs_cons]; exact pa_consM h hr hs
theorem x_lst {exs : List Expr} {es : Es} (h : PA X exs (rdDs C (evDs cal es))) : PE X (.List exs pos) (rdE C (evE cal (.lst es))) := n_lst (fun _ => pe_lst) h
theorem x_tup {exs : List Expr} {es : Es} {n} (h : PA X exs (rdDs C (evDs cal es))) : PE X (.Tuple exs n pos) (rdE C (evE cal (.tup es))) := n_tup (fun _ => pe_tup) h
/-! ### operators -/
def BP (C : Ct) (X : Cx) (op : Operator) (f : Op) : Prop := ∃ r, OpR X (binaryOp op) r ∧ OpOk2 C.G f r
theorem b_add : BP C X .Add .add := ⟨_, or_add, okAdd⟩
theorem b_sub : BP C X .Sub .sub := ⟨_, op_sub, okSub⟩
theorem b_mul : BP C X .Mult .mul := ⟨_, or_mul, okMul⟩
theorem b_fdiv : BP C X .FloorDiv .fdiv := ⟨_, op_fdivW, okFdiv⟩
theorem b_mod : BP C X .Mod .mod := ⟨_, op_mod, okMod⟩
theorem b_pow : BP C X .Pow .pow := ⟨_, op_pow, okPow⟩
theorem x_bin {op : Operator} {f : Op} {a b : Expr} {ea eb : E} (h : BP C X op f) (ha : PE X a (rdE C (evE cal ea))) (hb : PE X b (rdE C (evE cal eb))) : PE X (.BinOp a op b pos) (rdE C (evE cal (.op f (.cons ea (.cons eb .nil))))) := by
  obtain ⟨r, h1, h2⟩ := h
  exact n_op2 (fun _ _ => pe_op h1) h2 ha hb
theorem x_neg {a : Expr} {ea : E} (ha : PE X a (rdE C (evE cal ea))) : PE X (.UnaryOp .USub a pos) (rdE C (evE cal (.op .neg (.cons ea .nil)))) := n_op1 (fun _ => pe_un un_neg) okNeg ha
def CP (C : Ct) (X : Cx) (op : CmpOp) (f : Op) : Prop := ∃ r, OpR X (compareOp op) r ∧ OpOk2 C.G f r
theorem c_eq (c : XC C X k) : CP C X .Eq .eq := ⟨_, by rw [c.K]; exact or_eq c.hu, okEq⟩
theorem c_ne (c : XC C X k) : CP C X .NotEq .ne := ⟨_, by rw [c.K]; exact or_ne c.hu, okNe⟩
theorem c_lt (c : XC C X k) : CP C X .Lt .lt := ⟨_, op_lt, okCmp fun _ _ => rfl⟩
theorem c_le (c : XC C X k) : CP C X .LtE .le := ⟨_, op_le, okCmp fun _ _ => rfl⟩
theorem c_gt (c : XC C X k) : CP C X .Gt .gt := ⟨_, op_gt, okCmp fun _ _ => rfl⟩
theorem c_ge (c : XC C X k) : CP C X .GtE .ge := ⟨_, op_ge, okCmp fun _ _ => rfl⟩
theorem c_in (c : XC C X k) : CP C X .In .isin := ⟨_, by rw [c.K]; exact or_in, okIn⟩
theorem c_notin (c : XC C X k) : CP C X .NotIn .notin := ⟨_, by rw [c.K]; exact or_notin, okNotin⟩
theorem c_is (c : XC C X k) : CP C X .Is .isn := ⟨_, op_isN, okIsn⟩
theorem c_isnot (c : XC C X k) : CP C X .IsNot .notn := ⟨_, op_notN, okNotn⟩
theorem x_cmp {op : CmpOp} {f : Op} {a b : Expr} {ea eb : E} (h : CP C X op f) (ha : PE X a (rdE C (evE cal ea))) (hb : PE X b (rdE C (evE cal eb))) (hm : behindInMarks op b = false := by first | exact nomark _ | rfl) :
    PE X (.Compare a [op] [b] pos) (rdE C (evE cal (.op f (.cons ea (.cons eb .nil))))) := by
  obtain ⟨r, h1, h2⟩ := h
  exact n_op2 (fun _ _ a b => pe_cmpR h1 a b hm) h2 ha hb
theorem y_cmp {op : CmpOp} {f : Op} {a b : Expr} {ea eb : E} (h : CP C X op f) (ha : PE X a (rdE C (evE cal ea))) (hb : PE X b (rdE C (evE cal eb))) (hm : behindInMarks op b = false := by first | exact nomark _ | rfl) :
    PT X (.Compare a [op] [b] pos) (rdB C (evE cal (.op f (.cons ea (.cons eb .nil))))) := by
  obtain ⟨r, h1, h2⟩ := h
  exact t_op2 (fun _ _ a b => pt_cmpR h1 a b hm) h2 ha hb
theorem x_chain {op op' : CmpOp} {f f' : Op} {a b d : Expr} {ea eb ed : E} (h : CP C X op f) (h' : CP C X op' f') (ha : PE X a (rdE C (evE cal ea))) (hb : PE X b (rdE C (evE cal eb))) (hd : PE X d (rdE C (evE cal ed)))
    (hm : lastMarks [op, op'] [b, d] = false := by with_unfolding_all rfl) : PE X (.Compare a [op, op'] [b, d] pos) (rdE C (evE cal (.ch f f' ea eb ed))) := by
  obtain ⟨r, h1, h2⟩ := h
  obtain ⟨r', h1', h2'⟩ := h'
  exact n_chain (fun _ _ _ a b d => pe_chain h1 h1' a b d hm) h2 h2' ha hb hd
theorem y_chain {op op' : CmpOp} {f f' : Op} {a b d : Expr} {ea eb ed : E} (h : CP C X op f) (h' : CP C X op' f') (ha : PE X a (rdE C (evE cal ea))) (hb : PE X b (rdE C (evE cal eb))) (hd : PE X d (rdE C (evE cal ed)))
    (hm : lastMarks [op, op'] [b, d] = false := by with_unfolding_all rfl) : PT X (.Compare a [op, op'] [b, d] pos) (rdB C (evE cal (.ch f f' ea eb ed))) := by
  obtain ⟨r, h1, h2⟩ := h
  obtain ⟨r', h1', h2'⟩ := h'
  exact t_chain (fun _ _ _ a b d => pt_chain h1 h1' a b d hm) h2 h2' ha hb hd
/-! ### and, or, not, if -/
theorem x_one {op} {a : Expr} {ea : E} (h : PE X a (rdE C (evE cal ea))) : PE X (.BoolOp op [a] pos) (rdE C (evE cal ea)) := pe_one h
theorem x_and {a b : Expr} {rest : List Expr} {ea eb : E} (ha : PE X a (rdE C (evE cal ea))) (hb : PE X (.BoolOp .And (b :: rest) pos) (rdE C (evE cal eb))) : PE X (.BoolOp .And (a :: b :: rest) pos) (rdE C (evE cal (.an ea eb))) := n_and (fun _ _ => pe_and) ha hb
theorem x_or {a b : Expr} {rest : List Expr} {ea eb : E} (ha : PE X a (rdE C (evE cal ea))) (hb : PE X (.BoolOp .Or (b :: rest) pos) (rdE C (evE cal eb))) : PE X (.BoolOp .Or (a :: b :: rest) pos) (rdE C (evE cal (.or ea eb))) := n_or (fun _ _ => pe_or) ha hb
theorem x_not {a : Expr} {ea : E} (ha : PE X a (rdE C (evE cal ea))) : PE X (.UnaryOp .Not a pos) (rdE C (evE cal (.nt ea))) := n_not (fun _ => pe_not) ha
theorem x_ite {c a b : Expr} {ec ea eb : E} (hc : PT X c (rdB C (evE cal ec))) (ha : PE X a (rdE C (evE cal ea))) (hb : PE X b (rdE C (evE cal eb))) : PE X (.IfExp c a b pos) (rdE C (evE cal (.ite ec ea eb))) := n_ite (fun _ _ _ => pe_ifExp) hc ha hb
theorem PW.imp' {e : Expr} {t t' : TT} (h : PW X e t) (i : ∀ σ H Q, t' σ H Q → t σ H Q) : PW X e t' := PW.imp h i
theorem y_val {e : Expr} {ea : E} (h : PE X e (rdE C (evE cal ea))) (he : ∀ whole, isTrue e X.env whole = (do let v ← whole; standAt e.pos; holding [v] (truthy v)) := by intro _; rfl) : PT X e (rdB C (evE cal ea)) := t_val (fun _ h => pt_val h he) h
theorem y_not {a : Expr} {ea : E} (h : PT X a (rdB C (evE cal ea))) : PT X (.UnaryOp .Not a pos) (rdB C (evE cal (.nt ea))) := t_not (fun _ => pt_not) h
theorem z_and1 {a : Expr} {ea : E} (h : PT X a (rdB C (evE cal ea))) : PW X (.BoolOp .And [a] pos) (rdB C (evE cal ea)) := pw_and1 h
theorem z_or1 {a : Expr} {ea : E} (h : PT X a (rdB C (evE cal ea))) : PW X (.BoolOp .Or [a] pos) (rdB C (evE cal ea)) := pw_or1 h
theorem rd_and {a b : E} {σ : St} {H : Hp} {Q : Bool → Hp → Prop} (h : rdB C (evE cal (.an a b)) σ H Q) : tAnd (rdB C (evE cal a)) (rdB C (evE cal b)) σ H Q := by
  obtain ⟨w, m, e, P, q⟩ := h
  rw [evE, Res.sat_bind] at q
  refine ⟨w, m, e, P, Res.sat_mono q fun r m1 q1 => ?_⟩
  split at q1
  · refine ⟨true, rfl, fun w1 S1 x1 => ?_⟩
    refine iteT ?_
    exact ⟨w1, m1, rfl, P.step S1 x1, Res.sat_mono q1 fun r m2 ⟨k, e, q2⟩ => ⟨k, e, fun w2 S2 x2 => q2 w2 S2 (x1.trans x2)⟩⟩
  · refine ⟨false, rfl, fun w1 S1 x1 => ?_⟩
    refine iteF ?_
    obtain ⟨k, e, q2⟩ := q1
    cases e
    exact q2 w1 S1 x1
  · exact q1.elim
theorem rd_or {a b : E} {σ : St} {H : Hp} {Q : Bool → Hp → Prop} (h : rdB C (evE cal (.or a b)) σ H Q) : tOr (rdB C (evE cal a)) (rdB C (evE cal b)) σ H Q := by
  obtain ⟨w, m, e, P, q⟩ := h
  rw [evE, Res.sat_bind] at q
  refine ⟨w, m, e, P, Res.sat_mono q fun r m1 q1 => ?_⟩
  split at q1
  · refine ⟨true, rfl, fun w1 S1 x1 => ?_⟩
    refine iteT ?_
    obtain ⟨k, e, q2⟩ := q1
    cases e
    exact q2 w1 S1 x1
  · refine ⟨false, rfl, fun w1 S1 x1 => ?_⟩
    refine iteF ?_
    exact ⟨w1, m1, rfl, P.step S1 x1, Res.sat_mono q1 fun r m2 ⟨k, e, q2⟩ => ⟨k, e, fun w2 S2 x2 => q2 w2 S2 (x1.trans x2)⟩⟩
  · exact q1.elim
theorem z_and {a b : Expr} {rest : List Expr} {ea eb : E} (ha : PT X a (rdB C (evE cal ea))) (hb : PW X (.BoolOp .And (b :: rest) pos) (rdB C (evE cal eb))) : PW X (.BoolOp .And (a :: b :: rest) pos) (rdB C (evE cal (.an ea eb))) := PW.imp (pw_and ha hb) fun _ _ _ => rd_and
theorem z_or {a b : Expr} {rest : List Expr} {ea eb : E} (ha : PT X a (rdB C (evE cal ea))) (hb : PW X (.BoolOp .Or (b :: rest) pos) (rdB C (evE cal eb))) : PW X (.BoolOp .Or (a :: b :: rest) pos) (rdB C (evE cal (.or ea eb))) := PW.imp (pw_or ha hb) fun _ _ _ => rd_or
/-! ### subscripts -/
theorem x_idx (c : XC C X k) {a b : Expr} {ea eb : E} (ha : PE X a (rdE C (evE cal ea))) (hb : PE X b (rdE C (evE cal eb))) (hs : PlainIx b := by intro _ _; rfl) : PE X (.Subscript a b pos) (rdE C (evE cal (.op .idx (.cons ea (.cons eb .nil))))) :=
  n_op2 (r := rIx C.G.K) (fun _ _ a b => pe_ix (by rw [c.K]; exact ix_seq) a b hs) okIdx ha hb
theorem intO_some {t : T} {i : Int} (h : intO t = some i) : t = .int i := by
  cases t <;> first | (cases h; rfl) | cases h
theorem sl_MK (c : XC C X k) : L2.SlR X (rSlM C.G.K) := by rw [c.K]; exact sl_M
theorem x_sl0 (c : XC C X k) {a : Expr} {ea : E} (ha : PE X a (rdE C (evE cal ea))) : PE X (.Subscript a (.Slice none none none p1) pos) (rdE C (evE cal (.op (.sl false false) (.cons ea .nil)))) :=
  n_op1 (r := fun x H Q => rSlM C.G.K x none none H Q) (fun ta a => PE.imp (pe_slice (sl_MK c) a po_none po_none) fun σ H Q q => q) (fun w m σ t1 v1 res Q S a h q => okSl S a h q) ha
theorem x_slHi (c : XC C X k) {a b : Expr} {ea eb : E} (ha : PE X a (rdE C (evE cal ea))) (hb : PE X b (rdE C (evE cal eb))) : PE X (.Subscript a (.Slice none (some b) none p1) pos) (rdE C (evE cal (.op (.sl false true) (.cons ea (.cons eb .nil))))) :=
  n_op2 (r := fun x y H Q => ∃ i, y = .int i ∧ rSlM C.G.K x none (some i) H Q) (fun ta tb a b => PE.imp (pe_slice (sl_MK c) a po_none (po_some b)) fun σ H Q q => q) (fun w m σ t1 t2 v1 v2 res Q S a b h q => by
    have h : (intO t2).bind (fun i => slF t1 none (some i)) = some res := h
    cases e : intO t2 with
    | none => rw [e] at h; cases h
    | some i =>
      rw [e] at h
      cases intO_some e
      exact ⟨i, b.int, okSl S a h q⟩) ha hb
theorem x_slLo (c : XC C X k) {a b : Expr} {ea eb : E} (ha : PE X a (rdE C (evE cal ea))) (hb : PE X b (rdE C (evE cal eb))) : PE X (.Subscript a (.Slice (some b) none none p1) pos) (rdE C (evE cal (.op (.sl true false) (.cons ea (.cons eb .nil))))) :=
  n_op2 (r := fun x y H Q => ∃ i, y = .int i ∧ rSlM C.G.K x (some i) none H Q) (fun ta tb a b => PE.imp (pe_slice (sl_MK c) a (po_some b) po_none) fun σ H Q q => q) (fun w m σ t1 t2 v1 v2 res Q S a b h q => by
    have h : (intO t2).bind (fun i => slF t1 (some i) none) = some res := h
    cases e : intO t2 with
    | none => rw [e] at h; cases h
    | some i =>
      rw [e] at h
      cases intO_some e
      exact ⟨i, b.int, okSl S a h q⟩) ha hb
theorem x_slBoth (c : XC C X k) {a b d : Expr} {ea eb ed : E} (ha : PE X a (rdE C (evE cal ea))) (hb : PE X b (rdE C (evE cal eb))) (hd : PE X d (rdE C (evE cal ed))) : PE X (.Subscript a (.Slice (some b) (some d) none p1) pos) (rdE C (evE cal (.slc ea eb ed))) :=
  PE.imp (pe_slice (sl_MK c) (pe_opd ha) (po_some (pe_opd hb)) (po_some (pe_opd hd))) fun σ H Q ⟨w, m, e, P, q⟩ => by
  rw [evE, Res.sat_bind] at q
  refine ⟨w, m, e, P, ?_⟩
  rw [opdF, Res.sat_bind]
  refine Res.sat_mono q fun ra m1 q1 w1 v1 S1 x1 r1 => ?_
  rw [Res.sat_bind] at q1
  refine ⟨w1, m1, rfl, P.step S1 x1, ?_⟩
  rw [opdF, Res.sat_bind]
  refine Res.sat_mono q1 fun rb m2 q2 w2 v2 S2 x2 r2 => ?_
  split at q2
  · rename_i i hi
    rw [Res.sat_bind] at q2
    refine ⟨i, (S2.der r2 hi).int, w2, m2, rfl, (P.step S1 x1).step S2 x2, ?_⟩
    rw [opdF, Res.sat_bind]
    refine Res.sat_mono q2 fun rc m3 q3 w3 v3 S3 x3 r3 => ?_
    split at q3
    · rename_i j t hj ht
      split at q3
      · rename_i r hr
        exact ⟨j, (S3.der r3 hj).int, okSl S3 (S3.der ((r1.mono x2.mo).mono x3.mo) ht) hr fun w' v S' x' r' => q3 w' v S' (x1.trans (x2.trans (x3.trans x'))) r'⟩
      · exact q3.elim
    · exact q3.elim
  · exact q2.elim
end
end Mi
set_option maxHeartbeats 1000000
namespace Mi
open PySem PySem.Spec PyProof.Rows L2

/-- a built-in name, free of the text's own -/
def Fr (X : Cx) (x : Str) : Prop := X.mg x = none
section
variable {C : Ct} {X : Cx} {k : Nat} {cal : Nat → List Slot → CRes} {L : Nat} {pos p1 p2 p3 p4 : Pos}
/-! ### built-in calls of one value -/
theorem x_bi {x : Str} {id : String} {f : Op} {a : Expr} {ea : E} {r : List V → Hp → VK → Prop} (hc : CallR X (.builtin id) r) (hv : bootBuiltins x = some (.builtin id)) (ok : OpOk1 C.G f fun x H Q => r [x] H Q) (hm : Fr X x) (hg : Gl X x) (hn : x ≠ "__name__") (hdb : (x == ("__debug__" : Str)) = false)
    (hs : starEach [a] X.env = (false, eval a X.env) :: starEach [] X.env) (ha : PE X a (rdE C (evE cal ea))) : PE X (.Call (.Name x p1) [a] [] pos) (rdE C (evE cal (.op f (.cons ea .nil)))) :=
  n_op1 (fun ta h => PE.imp (pe_callB hc hg hm hv (pa_cons h pa_nil hs) hn hdb hs (by rfl)) fun _ _ _ q => q) ok ha
theorem x_ty {x : Str} {id : String} {f : Op} {a : Expr} {ea : E} {r : List V → Hp → VK → Prop} (hc : CallR X (.type id) r) (hv : bootBuiltins x = some (.type id)) (ok : OpOk1 C.G f fun x H Q => r [x] H Q) (hm : Fr X x) (hg : Gl X x) (hn : x ≠ "__name__") (hdb : (x == ("__debug__" : Str)) = false)
    (hs : starEach [a] X.env = (false, eval a X.env) :: starEach [] X.env) (ha : PE X a (rdE C (evE cal ea))) : PE X (.Call (.Name x p1) [a] [] pos) (rdE C (evE cal (.op f (.cons ea .nil)))) :=
  n_op1 (fun ta h => PE.imp (pe_callTy hc hg hm hv (pa_cons h pa_nil hs) hn hdb hs (by rfl)) fun _ _ _ q => q) ok ha
theorem x_len (c : XC C X k) {a : Expr} {ea : E} (hm : Fr X "len") (ha : PE X a (rdE C (evE cal ea))) (hg : Gl X "len" := by rfl) (hs : starEach [a] X.env = (false, eval a X.env) :: starEach [] X.env := by rfl) : PE X (.Call (.Name "len" p1) [a] [] pos) (rdE C (evE cal (.op .len (.cons ea .nil)))) :=
  x_bi (r := rLenM C.G.K) (by rw [c.K]; exact cr_lenM) boot_len okLen hm hg (by decide) (by decide) hs ha
theorem x_abs (c : XC C X k) {a : Expr} {ea : E} (hm : Fr X "abs") (ha : PE X a (rdE C (evE cal ea))) (hg : Gl X "abs" := by rfl) (hs : starEach [a] X.env = (false, eval a X.env) :: starEach [] X.env := by rfl) : PE X (.Call (.Name "abs" p1) [a] [] pos) (rdE C (evE cal (.op .abs (.cons ea .nil)))) :=
  x_bi call_abs (by rfl) okAbs hm hg (by decide) (by decide) hs ha
theorem x_all (c : XC C X k) {a : Expr} {ea : E} (hm : Fr X "all") (ha : PE X a (rdE C (evE cal ea))) (hg : Gl X "all" := by rfl) (hs : starEach [a] X.env = (false, eval a X.env) :: starEach [] X.env := by rfl) : PE X (.Call (.Name "all" p1) [a] [] pos) (rdE C (evE cal (.op .all (.cons ea .nil)))) :=
  x_bi (r := rAll C.G.K) (by rw [c.K]; exact cr_all c.calm) (by rfl) okAll hm hg (by decide) (by decide) hs ha
theorem x_any (c : XC C X k) {a : Expr} {ea : E} (hm : Fr X "any") (ha : PE X a (rdE C (evE cal ea))) (hg : Gl X "any" := by rfl) (hs : starEach [a] X.env = (false, eval a X.env) :: starEach [] X.env := by rfl) : PE X (.Call (.Name "any" p1) [a] [] pos) (rdE C (evE cal (.op .any (.cons ea .nil)))) :=
  x_bi (r := rAny C.G.K) (by rw [c.K]; exact cr_any c.calm) (by rfl) okAny hm hg (by decide) (by decide) hs ha
theorem x_toInt (c : XC C X k) {a : Expr} {ea : E} (hm : Fr X "int") (ha : PE X a (rdE C (evE cal ea))) (hg : Gl X "int" := by rfl) (hs : starEach [a] X.env = (false, eval a X.env) :: starEach [] X.env := by rfl) : PE X (.Call (.Name "int" p1) [a] [] pos) (rdE C (evE cal (.op .int (.cons ea .nil)))) :=
  x_ty cr_intM (by rfl) okInt hm hg (by decide) (by decide) hs ha
theorem x_toStr (c : XC C X k) {a : Expr} {ea : E} (hm : Fr X "str") (ha : PE X a (rdE C (evE cal ea))) (hg : Gl X "str" := by rfl) (hs : starEach [a] X.env = (false, eval a X.env) :: starEach [] X.env := by rfl) : PE X (.Call (.Name "str" p1) [a] [] pos) (rdE C (evE cal (.op .str (.cons ea .nil)))) :=
  x_ty cr_strM (by rfl) okStr hm hg (by decide) (by decide) hs ha
theorem x_toList (c : XC C X k) {a : Expr} {ea : E} (hm : Fr X "list") (ha : PE X a (rdE C (evE cal ea))) (hg : Gl X "list" := by rfl) (hs : starEach [a] X.env = (false, eval a X.env) :: starEach [] X.env := by rfl) : PE X (.Call (.Name "list" p1) [a] [] pos) (rdE C (evE cal (.op .list (.cons ea .nil)))) :=
  x_ty (r := rListM C.G.K) (by rw [c.K]; exact call_list_of) (by rfl) okList hm hg (by decide) (by decide) hs ha
/-! ### isinstance -/
theorem x_cls {x : Str} (l : Ty) (hv : bootBuiltins x = some (.type l.nm)) (hm : Fr X x) (hg : Gl X x) (hn : x ≠ "__name__" := by decide) (hd : (x == ("__debug__" : Str)) = false := by decide) : PE X (.Name x p1) (tC (.ty l.nm)) := pe_bltn hg hm hv rfl hn hd
theorem x_isi1 (c : XC C X k) {a : Expr} {x : Str} {ea : E} (l : Ty) (hm : Fr X "isinstance") (hx : PE X (.Name x p2) (tC (.ty l.nm))) (ha : PE X a (rdE C (evE cal ea))) (hg : Gl X "isinstance" := by rfl)
    (hs : starEach [a, .Name x p2] X.env = (false, eval a X.env) :: starEach [.Name x p2] X.env := by rfl) : PE X (.Call (.Name "isinstance" p1) [a, .Name x p2] [] pos) (rdE C (evE cal (.op (.isi1 l) (.cons ea .nil)))) :=
  n_op1 (fun ta h => PE.imp (pe_callB (r := rIsi C.G.K) (by rw [c.K]; exact call_isi) hg hm PyProof.Rows.boot_isinstance (pa_cons h (pa_cons hx pa_nil) hs) (by decide) (by decide) hs (by rfl)) fun _ _ _ q => q) okIsi1 ha
theorem x_isi2 (c : XC C X k) {a : Expr} {x y : Str} {ea : E} {n} (l l' : Ty) (hm : Fr X "isinstance") (hx : PE X (.Name x p2) (tC (.ty l.nm))) (hy : PE X (.Name y p3) (tC (.ty l'.nm))) (ha : PE X a (rdE C (evE cal ea))) (hg : Gl X "isinstance" := by rfl)
    (hs : starEach [a, .Tuple [.Name x p2, .Name y p3] n p4] X.env = (false, eval a X.env) :: starEach [.Tuple [.Name x p2, .Name y p3] n p4] X.env := by rfl) : PE X (.Call (.Name "isinstance" p1) [a, .Tuple [.Name x p2, .Name y p3] n p4] [] pos) (rdE C (evE cal (.op (.isi [l, l']) (.cons ea .nil)))) :=
  n_op1 (r := rIsiL C.G.K [l, l']) (fun ta h => PE.imp (pe_callB (r := rIsiT C.G.K) (by rw [c.K]; exact call_isiT) hg hm PyProof.Rows.boot_isinstance (pa_cons h (pa_cons (pe_tup (pa_cons hx (pa_cons hy pa_nil))) pa_nil) hs) (by decide) (by decide) hs (by rfl)) fun _ _ _ q => q) (okIsi (by simp)) ha
theorem x_isi3 (c : XC C X k) {a : Expr} {x y z : Str} {ea : E} {n} {p5 : Pos} (l l' l'' : Ty) (hm : Fr X "isinstance") (hx : PE X (.Name x p2) (tC (.ty l.nm))) (hy : PE X (.Name y p3) (tC (.ty l'.nm))) (hz : PE X (.Name z p5) (tC (.ty l''.nm))) (ha : PE X a (rdE C (evE cal ea))) (hg : Gl X "isinstance" := by rfl)
    (hs : starEach [a, .Tuple [.Name x p2, .Name y p3, .Name z p5] n p4] X.env = (false, eval a X.env) :: starEach [.Tuple [.Name x p2, .Name y p3, .Name z p5] n p4] X.env := by rfl) : PE X (.Call (.Name "isinstance" p1) [a, .Tuple [.Name x p2, .Name y p3, .Name z p5] n p4] [] pos) (rdE C (evE cal (.op (.isi [l, l', l'']) (.cons ea .nil)))) :=
  n_op1 (r := rIsiL C.G.K [l, l', l'']) (fun ta h => PE.imp (pe_callB (r := rIsiT C.G.K) (by rw [c.K]; exact call_isiT) hg hm PyProof.Rows.boot_isinstance (pa_cons h (pa_cons (pe_tup (pa_cons hx (pa_cons hy (pa_cons hz pa_nil)))) pa_nil) hs) (by decide) (by decide) hs (by rfl)) fun _ _ _ q => q) (okIsi (by simp)) ha
/-! ### 'text'.join(list) -/
theorem x_join (c : XC C X k) {o e : Expr} {eo ee : E} (ho : PE X o (rdE C (evE cal eo))) (he : PE X e (rdE C (evE cal ee))) (hs : starEach [e] X.env = [(false, eval e X.env)] := by rfl) (hbase : attributeBase o "join" X.env (eval o X.env) = eval o X.env := by rfl) (hline : (p1.endLine == pos.line) = true := by rfl) :
    PE X (.Call (.Attribute o "join" p1) [e] [] pos) (rdE C (evE cal (.jn eo ee))) :=
  PE.imp (pe_join (pe_opd ho) (pe_opd he) hs hbase hline) fun σ H Q ⟨w, m, e, P, q⟩ => by
  rw [evE, Res.sat_bind] at q
  refine ⟨w, m, e, P, ?_⟩
  rw [opdF, Res.sat_bind]
  refine Res.sat_mono q fun ra m1 q1 w1 v1 S1 x1 r1 => ?_
  split at q1
  · rename_i z hz
    rw [Res.sat_bind] at q1
    refine ⟨⟨z, (S1.der r1 hz).str⟩, w1, m1, rfl, P.step S1 x1, ?_⟩
    rw [opdF, Res.sat_bind]
    refine Res.sat_mono q1 fun rb m2 q2 w2 v2 S2 x2 r2 => ?_
    split at q2
    · rename_i t ht
      split at q2
      · rename_i r hr
        cases (S1.der r1 hz).str
        have := okJoin w2 m2 σ (.str z) t (.str z) v2 r Q S2 (.fz (.str z)) (S2.der r2 ht) hr fun w' v S' x' r' => q2 w' v S' (x1.trans (x2.trans x')) r'
        rw [← c.K]
        exact this.2
      · exact q2.elim
    · exact q2.elim
  · exact q1.elim
/-! ### own functions -/
structure FnAt (X : Cx) (k : Nat) (G : Gm) (cal : Nat → List Slot → CRes) (f : Nat) (x : Str) (ps : List Str) : Prop where
  ex : ∃ fa fd, X.mg x = some (.ref fa) ∧ PySem.W.keepIn X.K (.ref fa) = true ∧ Binds X.K fd ps [] ∧ FnOk X.prog X.w X.K X.mg X.base (L2.CX X.prog X.w) k fa fd ps (spM G cal f)
theorem x_call (c : XC C X k) {f : Nat} {x : Str} {ps : List Str} {e : Expr} {es : List Expr} {io : List Bool} {as : Es} (F : FnAt X k C.G cal f x ps) (ha : PA X (e :: es) (rdDs C (evDs cal as))) (hg : Gl X x := by rfl) (hdb : (x == ("__debug__" : Str)) = false := by decide)
    (he : starEach (e :: es) X.env = (false, eval e X.env) :: starEach es X.env := by rfl) (hpl : (backTo pos (starEach es X.env)).any (·.1) = false := by rfl) : PE X (.Call (.Name x p1) (e :: es) [] pos) (rdE C (evE cal (.call f io as))) := by
  obtain ⟨fa, fd, h1, h2, h3, h4⟩ := F.ex
  exact n_call (fun t ht => PE.imp (pe_callS (E := WE (WM C)) h4 c.room hg h1 h2 h3 (fun σ => passAt c.tk σ) ht hdb he hpl) fun _ _ _ q => q) ha
theorem x_call0 (c : XC C X k) {f : Nat} {x : Str} (F : FnAt X k C.G cal f x []) (hg : Gl X x := by rfl) (hdb : (x == ("__debug__" : Str)) = false := by decide) : PE X (.Call (.Name x p1) [] [] pos) (rdE C (evE cal (.call f [] .nil))) := by
  obtain ⟨fa, fd, h1, h2, h3, h4⟩ := F.ex
  refine PE.imp (t := tCallM C cal f tNil) ⟨fun pins s σ H Q I h => ?_⟩ fun σ H Q ⟨w, m, e, P, q⟩ => ?_
  · refine wpAny_Call_Name_kw (ld_glob I hg h1 ?_ hdb)
    exact PySem.W.callWith_K0 I.kIn h2 (run_fnS (E := WE (WM C)) (us := []) h4 c.room h3 (passAt c.tk σ) I .nil h)
  · rw [evE, Res.sat_bind, evDs] at q
    subst e
    exact call_core P .nil q
/-- by keywords alone, in the parameters' order -/
structure FnAtK (X : Cx) (k : Nat) (G : Gm) (cal : Nat → List Slot → CRes) (f : Nat) (x : Str) (ps : List Str) : Prop where
  ex : ∃ fa fd, X.mg x = some (.ref fa) ∧ PySem.W.keepIn X.K (.ref fa) = true ∧ (∀ us : List Value, us.length = ps.length → bindArgs fd ⟨[], ps.zip us⟩ = pure (ps.zip us)) ∧ FnOk X.prog X.w X.K X.mg X.base (L2.CX X.prog X.w) k fa fd ps (spM G cal f)
theorem PK.imp {es : List Keyword} {t t' : TA} (h : PK X es t) (i : ∀ σ H Q, t' σ H Q → t σ H Q) : PK X es t' := ⟨fun p pins s σ H Q I q => h.run p pins s σ H Q I (i σ H Q q)⟩
theorem k_nil : PK X [] (rdDs C (evDs cal .nil)) := by
  rw [evDs_nil]
  exact PK.imp pk_nil fun σ H Q ⟨w, m, e, P, q⟩ => by
    have := q w [] P.sr (.refl w) .nil
    rwa [e] at this
theorem k_cons {e : Expr} {nm : Option Str} {kws : List Keyword} {a : E} {r : Es} (h : PE X e (rdE C (evE cal a))) (hr : PK X kws (rdDs C (evDs cal r))) : PK X (⟨nm, e, p1⟩ :: kws) (rdDs C (evDs cal (.cons a r))) := by
  rw [evDs_cons]
  exact PK.imp (pk_cons (pe_opd h) hr) fun _ _ _ q => rd_cons q
theorem x_callK (c : XC C X k) {f : Nat} {x : Str} {ps : List Str} {kws : List Keyword} {io : List Bool} {as : Es} (F : FnAtK X k C.G cal f x ps) (hkw : PK X kws (rdDs C (evDs cal as))) (hg : Gl X x := by rfl) (hdb : (x == ("__debug__" : Str)) = false := by decide)
    (hall : (backToKw pos (keywordEach kws X.env)).all (·.1.isSome) = true := by rfl) (hks : (backToKw pos (keywordEach kws X.env)).filterMap (·.1) = ps := by rfl) (hpl : ((backTo pos (starEach [] X.env)).any (·.1) || (backToKw pos (keywordEach kws X.env)).any (·.1.isNone)) = false := by rfl) :
    PE X (.Call (.Name x p1) [] kws pos) (rdE C (evE cal (.call f io as))) := by
  obtain ⟨fa, fd, h1, h2, h3, h4⟩ := F.ex
  refine PE.imp (t := tCallM C cal f (rdDs C (evDs cal as))) ⟨fun pins s σ H Q I h => ?_⟩ fun σ H Q ⟨w, m, e, P, q⟩ => ?_
  · refine wpAny_Call_Name_kw (ld_glob I hg h1 ?_ hdb)
    refine PySem.W.callWith_KW0 (h₀ := X.base) I.ok.mod.kin h2 hall (thn (hkw.run pos pins s σ H _ I h) fun ws s2 ⟨zs, H2, I2, rz, q2⟩ => ⟨I2.kIn, ?_⟩) hpl
    rw [hks]
    have hl : ws.length = ps.length := by rw [← rz.length]; exact h4.len _ _ _ _ q2
    refine wpAny_call (codeAny_mono (h4.run X.A X.stack s2 H2 ⟨[], ps.zip ws⟩ ws zs Q (WE (WM C) σ) c.room I2.env0 (.of_eq (h3 ws hl)) rz q2) fun r s' hq => ?_)
    cases r with
    | error e => exact passAt c.tk σ pins H2 s2 e s' I2 hq
    | ok fl =>
      cases fl with
      | ret u => exact I2.after hq
      | next => exact False.elim hq
      | brk => exact False.elim hq
      | cont => exact False.elim hq
  · rw [evE, Res.sat_bind] at q
    refine ⟨w, m, e, P, Res.sat_mono q fun ds m1 q1 w1 vs S1 x1 r1 => ?_⟩
    exact call_core (P.step S1 x1) r1 (Res.sat_mono q1 fun r m2 k w' v S' x' rr => k w' v S' (x1.trans x') rr)
/-! ### loops' sources -/
theorem i_any (c : XC C X k) {tg e : Expr} {ea : E} (h : PE X e (rdE C (evE cal ea))) : PI X tg e (rdS C (evSrc cal (.it ea))) := s_it (fun t h => by rw [c.K]; exact Mi.PI.or (Mi.PI.or (pi_list h) (pi_tup h)) (pi_str h)) h
theorem i_rng1 (c : XC C X k) {tg e : Expr} {ea : E} (hm : Fr X "range") (h : PE X e (rdE C (evE cal ea))) (hg : Gl X "range" := by rfl) (hs : starEach [e] X.env = [(false, eval e X.env)] := by rfl) : PI X tg (.Call (.Name "range" p1) [e] [] pos) (rdS C (evSrc cal (.rng1 ea))) :=
  s_rng1 (fun t h => pi_range1 hg hm (pa_cons h pa_nil hs) hs) h
theorem i_rng2 (c : XC C X k) {tg a b : Expr} {ea eb : E} (hm : Fr X "range") (h : PE X a (rdE C (evE cal ea))) (h' : PE X b (rdE C (evE cal eb))) (hg : Gl X "range" := by rfl) (hs : starEach [a, b] X.env = [(false, eval a X.env), (false, eval b X.env)] := by rfl) (hs2 : starEach [b] X.env = [(false, eval b X.env)] := by rfl) :
    PI X tg (.Call (.Name "range" p1) [a, b] [] pos) (rdS C (evSrc cal (.rng2 ea eb))) :=
  s_rng2 (fun t u h h' => pi_range2 hg hm (pa_cons h (pa_cons h' pa_nil hs2) (by rw [hs, hs2])) hs hs2) h h'
theorem i_enum (c : XC C X k) {e : Expr} {ea : E} {elts} {kk} (hm : Fr X "enumerate") (h : PE X e (rdE C (evE cal ea))) (hg : Gl X "enumerate" := by rfl) (hs : starEach [e] X.env = [(false, eval e X.env)] := by rfl) : PI X (.Tuple elts kk p2) (.Call (.Name "enumerate" p1) [e] [] pos) (rdS C (evSrc cal (.enum ea))) :=
  s_enum (fun t h => by rw [c.K]; exact pi_enum hg hm (pa_cons h pa_nil hs) hs) h
theorem i_zip (c : XC C X k) {a b : Expr} {ea eb : E} {elts} {kk} (hm : Fr X "zip") (h : PE X a (rdE C (evE cal ea))) (h' : PE X b (rdE C (evE cal eb))) (hg : Gl X "zip" := by rfl) (hs : starEach [a, b] X.env = (false, eval a X.env) :: starEach [b] X.env := by rfl)
    (hs2 : starEach [b] X.env = [(false, eval b X.env)] := by rfl) (hpl : (backTo pos (starEach [b] X.env)).any (·.1) = false := by rfl) : PI X (.Tuple elts kk p2) (.Call (.Name "zip" p1) [a, b] [] pos) (rdS C (evSrc cal (.zip ea eb))) :=
  s_zip (fun t u h h' => by rw [c.K]; exact pi_zip hg hm (pa_cons h (pa_cons h' pa_nil hs2) hs) hs hpl) h h'
/-! ### comprehensions -/
theorem evAll_nil : evAll cal .nil = fun m => .ok (.fz (.bl true)) m := by funext m; rw [evAll]
theorem f_nil : PTs X [] (rdB C (evAll cal .nil)) := by
  rw [evAll_nil]
  exact ⟨fun pins s σ H Q I ⟨w, m, e, P, ⟨k, hk, q⟩⟩ => by
    cases hk
    have := q w P.sr (.refl w)
    rw [e] at this
    exact pts_nil.run pins s σ H Q I this⟩
theorem f_one {e : Expr} {a : E} (h : PT X e (rdB C (evE cal a))) : PTs X [e] (rdB C (evAll cal (.cons a .nil))) :=
  ⟨fun pins s σ H Q I ⟨w, m, e, P, q⟩ => by
    refine (pts_one h).run pins s σ H Q I ⟨w, m, e, P, ?_⟩
    rw [evAll, Res.sat_bind] at q
    refine Res.sat_mono q fun r m1 q1 => ?_
    split at q1
    · rw [evAll] at q1
      obtain ⟨k, hk, q1⟩ := q1
      exact ⟨true, rfl, by cases hk; exact q1⟩
    · obtain ⟨k, hk, q1⟩ := q1
      exact ⟨false, rfl, by cases hk; exact q1⟩
    · exact q1.elim⟩
theorem x_comp (c : XC C X k) {elt tg iter : Expr} {ifs : List Expr} {scope : Scope} {own : List (Str × Nat)} {ow : List Nat} {p : Pt} {s : Src} {cs : Es} {e : E} {g : TG} (gp : GP C.G p g) (ok : BlkOk X.N X.env.scope scope own) (hi : PI X tg iter (rdS C (evSrc cal s)))
    (hg : ∀ (s : Shared) (H : Hp) (D : Addr) (cl : List (Str × Addr)) (fp : List Addr), PG (X.blk s H scope (compEnvC scope cl D X.env) fp) tg g)
    (ht : ∀ (s : Shared) (H : Hp) (D : Addr) (cl : List (Str × Addr)) (fp : List Addr), XC C.inn (X.blk s H scope (compEnvC scope cl D X.env) fp) k → PTs (X.blk s H scope (compEnvC scope cl D X.env) fp) ifs (rdB C.inn (evAll cal cs)))
    (he : ∀ (s : Shared) (H : Hp) (D : Addr) (cl : List (Str × Addr)) (fp : List Addr), XC C.inn (X.blk s H scope (compEnvC scope cl D X.env) fp) k → PE (X.blk s H scope (compEnvC scope cl D X.env) fp) elt (rdE C.inn (evE cal e)))
    (how : own.map (·.2) = ow := by rfl) (hsub : ∀ j ∈ p.sl, j ∈ ow := by decide) (hs : ∀ x, foldedSetIterable iter X.env x = pure x := by intro _; rfl) :
    PE X (.ListComp elt [⟨tg, iter, ifs, 0⟩] scope pos) (rdE C (evE cal (.comp ow p s cs e))) := by
  subst how
  exact n_comp gp hsub (pe_lc c.calm c.nd hi ok hg (fun s H D cl fp => ht s H D cl fp c.blk) (fun s H D cl fp => he s H D cl fp c.blk) hs)
end
end Mi
set_option maxHeartbeats 1000000
namespace Mi
open PySem PySem.Spec PyProof.Rows L2

section
variable {C : Ct} {X : Cx} {k : Nat} {cal : Nat → List Slot → CRes} {L : Nat} {pos p1 p2 p3 p4 : Pos}
/-! ### statements -/
theorem w_set (c : XC C X k) {i : Nat} {x : Str} {e : Expr} {ea : E} (nfx : C.fx i = false) (he : PE X e (rdE C (evE cal ea))) (hi : X.N[i]? = some x := by rfl) (hx : Loc X.env.scope x := by first | exact Or.inl rfl | exact Or.inr rfl) (hs : swapsWith e (some (.Name x p1)) pos.line X.env = pure false := by rfl)
    (hf : X.fn x = true ∨ X.env.scope.names.lookup x = some .local := by first | exact .inl rfl | exact .inr rfl) : PS X (.Assign [.Name x p1] e pos) (rdSt C (evS cal L (.set i ea))) := st_set nfx (ps_set c.nd hi hx he hs hf)
theorem w_setc (c : XC C X k) {i : Nat} {x : Str} {elt tg iter : Expr} {ifs : List Expr} {scope : Scope} {own : List (Str × Nat)} {ow : List Nat} {p : Pt} {s : Src} {cs : Es} {e : E} {g : TG} (nfx : C.fx i = false) (gp : GP C.G p g) (ok : BlkOk X.N X.env.scope scope own) (hi : PI X tg iter (rdS C (evSrc cal s)))
    (hg : ∀ (s : Shared) (H : Hp) (D : Addr) (cl : List (Str × Addr)) (fp : List Addr), PG (X.blk s H scope (compEnvC scope cl D X.env) fp) tg g)
    (ht : ∀ (s : Shared) (H : Hp) (D : Addr) (cl : List (Str × Addr)) (fp : List Addr), XC C.inn (X.blk s H scope (compEnvC scope cl D X.env) fp) k → PTs (X.blk s H scope (compEnvC scope cl D X.env) fp) ifs (rdB C.inn (evAll cal cs)))
    (he : ∀ (s : Shared) (H : Hp) (D : Addr) (cl : List (Str × Addr)) (fp : List Addr), XC C.inn (X.blk s H scope (compEnvC scope cl D X.env) fp) k → PE (X.blk s H scope (compEnvC scope cl D X.env) fp) elt (rdE C.inn (evE cal e)))
    (hN : X.N[i]? = some x := by rfl) (hx : X.env.scope.names.lookup x = some .local := by rfl) (hsw : swapsWith (.ListComp elt [⟨tg, iter, ifs, 0⟩] scope p2) (some (.Name x p1)) pos.line X.env = pure true := by rfl)
    (how : own.map (·.2) = ow := by rfl) (hsub : ∀ j ∈ p.sl, j ∈ ow := by decide) (hs : ∀ x, foldedSetIterable iter X.env x = pure x := by intro _; rfl) :
    PS X (.Assign [.Name x p1] (.ListComp elt [⟨tg, iter, ifs, 0⟩] scope p2) pos) (rdSt C (evS cal L (.set i (.comp ow p s cs e)))) := by
  subst how
  exact st_set nfx (PS.imp (ps_setLc c.calm c.nd hN hx hsw hi ok hg (fun s H D cl fp => ht s H D cl fp c.blk) (fun s H D cl fp => he s H D cl fp c.blk) hs) fun D σ H q => rd_comp gp hsub q)
theorem w_unp (c : XC C X k) {tg e : Expr} {p : Pt} {ea : E} {g : TG} (gp : GP C.G p g) (nfx : ∀ j ∈ p.sl, C.fx j = false) (hg : PG X tg g) (he : PE X e (rdE C (evE cal ea))) (hs : swapsWithSole [tg] e pos.line X.env = pure false := by rfl) (hw : swappedStores [tg] e X.env = pure none := by rfl)
    (h1 : (assignEach [tg] X.env).map (·.2) = [assign tg X.env] := by rfl) : PS X (.Assign [tg] e pos) (rdSt C (evS cal L (.unp p ea))) := st_unp gp nfx (ps_asg he hg hs hw h1)
theorem w_par (c : XC C X k) {i j : Nat} {x y : Str} {a b : Expr} {ea eb : E} {kt k2} (nfx : C.fx i = false ∧ C.fx j = false) (ha : PA X [a, b] (rdDs C (evDs cal (.cons ea (.cons eb .nil))))) (hw : swappedStores [.Tuple [.Name x p1, .Name y p2] kt p3] (.Tuple [a, b] k2 p4) X.env = pure (some [x, y]) := by rfl)
    (hi : X.N[i]? = some x := by rfl) (hj : X.N[j]? = some y := by rfl) (hij : i ≠ j := by decide) (hx : X.env.scope.names.lookup x = some .local := by rfl) (hy : X.env.scope.names.lookup y = some .local := by rfl)
    (hs : swapsWithSole [.Tuple [.Name x p1, .Name y p2] kt p3] (.Tuple [a, b] k2 p4) pos.line X.env = pure false := by rfl) : PS X (.Assign [.Tuple [.Name x p1, .Name y p2] kt p3] (.Tuple [a, b] k2 p4) pos) (rdSt C (evS cal L (.par i j ea eb))) :=
  st_par nfx (ps_par c.calm c.nd hi hj hij hx hy ha hw hs)
theorem w_augAdd (c : XC C X k) {i : Nat} {x : Str} {e : Expr} {ea : E} (nfx : C.fx i = false) (he : PE X e (rdE C (evE cal ea))) (hi : X.N[i]? = some x := by rfl) (hx : Loc X.env.scope x := by first | exact Or.inl rfl | exact Or.inr rfl) (hf : X.fn x = true ∨ X.env.scope.names.lookup x = some .local := by first | exact .inl rfl | exact .inr rfl) :
    PS X (.AugAssign (.Name x p1) .Add e pos) (rdSt C (evS cal L (.aug i .add ea))) := st_aug nfx (fun x y z Q H h q f1 f2 f3 => by
      unfold augF at h
      split at h
      · cases h; exact ⟨_, _, rfl, rfl, q⟩
      · rename_i h0; cases h0
      · cases h) (fun x y z h => by
      unfold augF at h
      split at h
      · cases h; exact ⟨rfl, rfl, rfl⟩
      · rename_i h0; cases h0
      · cases h) (ps_aug c.nd hi hx (pe_opd he) ip_add hf)
theorem w_augSub (c : XC C X k) {i : Nat} {x : Str} {e : Expr} {ea : E} (nfx : C.fx i = false) (he : PE X e (rdE C (evE cal ea))) (hi : X.N[i]? = some x := by rfl) (hx : Loc X.env.scope x := by first | exact Or.inl rfl | exact Or.inr rfl) (hf : X.fn x = true ∨ X.env.scope.names.lookup x = some .local := by first | exact .inl rfl | exact .inr rfl) :
    PS X (.AugAssign (.Name x p1) .Sub e pos) (rdSt C (evS cal L (.aug i .sub ea))) := st_aug nfx (fun x y z Q H h q f1 f2 f3 => by
      unfold augF at h
      split at h
      · rename_i h0; cases h0
      · cases h; exact ⟨_, _, rfl, rfl, q⟩
      · cases h) (fun x y z h => by
      unfold augF at h
      split at h
      · rename_i h0; cases h0
      · cases h; exact ⟨rfl, rfl, rfl⟩
      · cases h) (ps_aug c.nd hi hx (pe_opd he) ip_sub hf)
theorem w_ex {e : Expr} {ea : E} (he : PE X e (rdE C (evE cal ea))) (hs : swapsWith e none pos.line X.env = pure false := by rfl) : PS X (.Expr e pos) (rdSt C (evS cal L (.ex ea))) := st_ex (ps_expr he hs)
theorem w_ret {e : Expr} {ea : E} (he : PE X e (rdE C (evE cal ea))) : PS X (.Return (some e) pos) (rdSt C (evS cal L (.ret ea))) := st_ret (ps_ret he)
theorem w_retn : PS X (.Return none pos) (rdSt C (evS cal L .retn)) := st_retn ps_retN
theorem w_brk : PS X (.Break pos) (rdSt C (evS cal L .brk)) := st_brk ps_break
theorem w_cnt : PS X (.Continue pos) (rdSt C (evS cal L .cnt)) := st_cnt ps_continue
theorem w_pas : PS X (.Pass pos) (rdSt C (evS cal L .pas)) := st_pas ps_pass
theorem w_ife {c : Expr} {a b : List Stmt} {ec : E} {sa sb : Ss} (hc : PT X c (rdB C (evE cal ec))) (ha : PSs X a (rdSt C (evSs cal L sa))) (hb : PSs X b (rdSt C (evSs cal L sb))) : PS X (.If c a b pos) (rdSt C (evS cal L (.ife ec sa sb))) := st_ife (ps_if hc ha hb)
theorem w_wh (hp : PassesOwn (model X.prog X.w) X.A X.env X.xe) {c : Expr} {b : List Stmt} {ec : E} {sb : Ss} (hc : PT X c (rdB C (evE cal ec))) (hb : PSs X b (rdSt C (evSs cal L sb))) : PS X (.While c b [] pos) (rdSt C (evS cal L (.wh ec sb))) := st_wh (ps_while hp hc hb)
theorem w_fr (c : XC C X k) (hp : PassesOwn (model X.prog X.w) X.A X.env X.xe) {tg iter : Expr} {b : List Stmt} {p : Pt} {s : Src} {sb : Ss} {g : TG} (gp : GP C.G p g) (nfx : ∀ j ∈ p.sl, C.fx j = false) (hg : PG X tg g) (hi : PI X tg iter (rdS C (evSrc cal s))) (hb : PSs X b (rdSt C (evSs cal L sb)))
    (hs : ∀ x, foldedSetIterable iter X.env x = pure x := by intro _; rfl) : PS X (.For tg iter b [] pos) (rdSt C (evS cal L (.fr p s sb))) := st_fr gp nfx (ps_for hp c.calm hi hg hb hs)
theorem w_app (c : XC C X k) {i : Nat} {x : Str} {e : Expr} {ea : E} (he : PE X e (rdE C (evE cal ea))) (ho : PE X (.Name x p1) (tVar i)) (hbase : attributeBase (.Name x p1) "append" X.env (eval (.Name x p1) X.env) = eval (.Name x p1) X.env := by rfl)
    (hfew : ((backTo p3 (starEach [e] X.env)).all (fun x => !x.1) && (backToKw p3 (keywordEach [] X.env)).all (fun x => x.1.isSome) && decide ([e].length + ([] : List Keyword).length + (if ([] : List Keyword).isEmpty then 0 else 1) < 30)) = true := by rfl)
    (hline : (p2.endLine == p3.line) = true := by rfl) (hst : starEach [e] X.env = (false, eval e X.env) :: starEach [] X.env := by rfl) (hs : swapsWith (.Call (.Attribute (.Name x p1) "append" p2) [e] [] p3) none pos.line X.env = pure false := by rfl) :
    PS X (.Expr (.Call (.Attribute (.Name x p1) "append" p2) [e] [] p3) pos) (rdSt C (evS cal L (.app i ea))) :=
  st_app (ps_expr (PE.imp (pe_bm PySem.F.plainAttrs_list PySem.F.slot_list_append PySem.F.type_list_append mt_append ho (pa_cons (pe_opd he) pa_nil hst) hbase hfew hline hst (by rfl)) fun σ H Q q => by rw [← c.K]; exact q) hs)
theorem ps_or {o o' : TSet} (h : PSet X o) (h' : PSet X o') : PSet X fun a b c H Q => o a b c H Q ∨ o' a b c H Q := fun pins s σ H o i v ov iv u Q I ro ri rv q => q.elim (h pins s σ H o i v ov iv u Q I ro ri rv) (h' pins s σ H o i v ov iv u Q I ro ri rv)
theorem w_sto (c : XC C X k) {i : Nat} {x : Str} {ke e : Expr} {ek ea : E} (ho : PE X (.Name x p1) (tVar i)) (hk : PE X ke (rdE C (evE cal ek))) (he : PE X e (rdE C (evE cal ea)))
    (ha : ∀ v, assign (.Subscript (.Name x p1) ke p2) X.env v = (do
      let ov ← holding [v] (eval (.Name x p1) X.env)
      let iv ← holding [v, ov] (eval ke X.env)
      standAt p2
      holding [v, ov, iv] (setItem ov iv v)
      release [v, ov, iv] []) := by intro _; rfl)
    (hs : swapsWithSole [.Subscript (.Name x p1) ke p2] e pos.line X.env = pure false := by rfl) (hw : swappedStores [.Subscript (.Name x p1) ke p2] e X.env = pure none := by rfl)
    (h1 : (assignEach [.Subscript (.Name x p1) ke p2] X.env).map (·.2) = [assign (.Subscript (.Name x p1) ke p2) X.env] := by rfl) : PS X (.Assign [.Subscript (.Name x p1) ke p2] e pos) (rdSt C (evS cal L (.sto i ek ea))) :=
  st_sto (ps_asg he (pg_sub ho hk (ps_or set_list (set_dict (hu_of c.room))) ha) hs hw h1)
end

/-! ### a def's promise -/
def fxOf (io : List Bool) (j : Nat) : Bool := io[j]?.getD false
theorem outsM_get : ∀ {io : List Bool} {m : List Slot} {j : Nat} {s : Slot}, (outsM io m)[j]? = some s → (io[j]? = some true ∧ m[j]? = some s) ∨ s = .no
  | [], m, j, s, h => by cases m <;> simp [outsM] at h
  | _ :: io, [], 0, s, h => .inr (by simpa [outsM] using h.symm)
  | _ :: io, [], j + 1, s, h => by
    rcases outsM_get (io := io) (m := []) (j := j) (s := s) (by simpa [outsM] using h) with h | h
    · simp at h
    · exact .inr h
  | true :: io, x :: m, 0, s, h => .inl ⟨rfl, h⟩
  | false :: io, x :: m, 0, s, h => .inr (by simpa [outsM] using h.symm)
  | true :: io, x :: m, j + 1, s, h => by
    rcases outsM_get (io := io) (m := m) (j := j) (s := s) h with h | h
    · exact .inl (by simpa using h)
    · exact .inr h
  | false :: io, x :: m, j + 1, s, h => by
    rcases outsM_get (io := io) (m := m) (j := j) (s := s) h with h | h
    · exact .inl (by simpa using h)
    · exact .inr h
theorem outsM_length : ∀ {io : List Bool} {m : List Slot}, (outsM io m).length = io.length
  | [], m => by cases m <;> rfl
  | b :: io, [] => congrArg Nat.succ (outsM_length (io := io) (m := []))
  | true :: io, x :: m => congrArg Nat.succ (outsM_length (io := io) (m := m))
  | false :: io, x :: m => congrArg Nat.succ (outsM_length (io := io) (m := m))
section
variable {G : Gm} {w : Wd}
theorem start_get {N : List Str} {vs : List V} {j : Nat} (h : j < vs.length) : (L2.start N vs)[j]? = (vs.map some)[j]? := by
  unfold L2.start
  rw [List.getElem?_append_left (by simpa using h)]
theorem outs_sr {io : List Bool} {N : List Str} {vs : List V} {m : List Slot} {σ : St} (S : SR G w m σ) (hf : ∀ j, fxOf io j = true → σ[j]? = (L2.start N vs)[j]?) (hl : io.length = vs.length) : SR G w (outsM io m) (vs.map some) := by
  have key : ∀ {j s}, (outsM io m)[j]? = some s → io[j]? = some true → σ[j]? = (vs.map some)[j]? := fun {j s} h e => by
    have lt : j < vs.length := by rw [← hl]; exact (List.getElem?_eq_some_iff.mp e).1
    rw [hf j (by unfold fxOf; rw [e]; rfl), start_get lt]
  refine ⟨by rw [outsM_length, List.length_map, hl], fun j s h => ?_, fun i j o o' a h1 h2 e1 e2 => ?_, S.sep, S.trk⟩
  · rcases outsM_get h with ⟨e, q⟩ | rfl
    · have := S.sl j s q
      rwa [key h e] at this
    · trivial
  · rcases outsM_get h1 with ⟨g1, q1⟩ | z
    · rcases outsM_get h2 with ⟨g2, q2⟩ | z
      · exact S.inj i j o o' a q1 q2 (by rw [key h1 g1]; exact e1) (by rw [key h2 g2]; exact e2)
      · cases z
    · cases z
theorem start_sr {N : List Str} {vs : List V} {args : List Slot} {n : Nat} (S : SR G w args (vs.map some)) (hn : n = N.length - vs.length) : SR G w (args ++ List.replicate n Slot.no) (L2.start N vs) := by
  have len : args.length = vs.length := by have := S.len; rwa [List.length_map] at this
  subst hn
  have key : ∀ {j s}, (args ++ List.replicate (N.length - vs.length) Slot.no)[j]? = some s → s = Slot.no ∨ (args[j]? = some s ∧ (L2.start N vs)[j]? = (vs.map some)[j]?) := fun {j s} h => by
    by_cases lt : j < args.length
    · rw [List.getElem?_append_left lt] at h
      exact .inr ⟨h, start_get (by omega)⟩
    · rw [List.getElem?_append_right (by omega), List.getElem?_replicate] at h
      split at h
      · cases h; exact .inl rfl
      · cases h
  refine ⟨?_, fun j s h => ?_, fun i j o o' a h1 h2 e1 e2 => ?_, S.sep, S.trk⟩
  · show _ = List.length (vs.map some ++ List.replicate (N.length - vs.length) none)
    rw [List.length_append, List.length_append, List.length_replicate, List.length_replicate, List.length_map, len]
  · rcases key h with rfl | ⟨q, e⟩
    · trivial
    · rw [e]; exact S.sl j s q
  · rcases key h1 with z | ⟨q1, g1⟩
    · cases z
    · rcases key h2 with z | ⟨q2, g2⟩
      · cases z
      · exact S.inj i j o o' a q1 q2 (by rw [← g1]; exact e1) (by rw [← g2]; exact e2)
end
/-- the def's body, in a context over k -/
def BodyOk (G : Gm) (P : Program) (w : World) (K : PySem.W.Frag) (mg : Str → Option Value) (base : Heap) (N : List Str) (io : List Bool) (qual : Str) (scope : Scope) (f : Addr) (body : List Stmt) (k : Nat) (cal : Nat → List Slot → CRes) (L : Nat) (b : Ss) : Prop :=
  ∀ (cdv : Value) (A : Around) (outer : List Env) (s : Shared) (H : Hp) (E : XK) (C : Ct), C.G = G → C.fx = fxOf io → XC C (cxOf (L2.CX P w) P w K mg base N qual scope f cdv A outer s H E) k →
    PassesOwn (model P w) (cxOf (L2.CX P w) P w K mg base N qual scope f cdv A outer s H E).A (cxOf (L2.CX P w) P w K mg base N qual scope f cdv A outer s H E).env (cxOf (L2.CX P w) P w K mg base N qual scope f cdv A outer s H E).xe →
    PSs (cxOf (L2.CX P w) P w K mg base N qual scope f cdv A outer s H E) body (rdSt C (evSs cal L b))
theorem fn_ok {G : Gm} {P : Program} {w : World} {K : PySem.W.Frag} {mg : Str → Option Value} {base : Heap} {x qual : Str} {params : Arguments} {body : List Stmt} {scope : Scope} {dvs : List V} {kws : List (Str × V)} {fa : Addr} {fd : FuncData} {N ps : List Str} {k L f : Nat} {Γ : List Def} {d : Def}
    (F : FunD K x qual params body scope dvs kws fa fd) (S : FnScope N ps scope) (hK : G.K = K) (hd : Γ[f]? = some d) (hnp : d.np = ps.length) (hns : d.ns = N.length) (hio : d.io.length = ps.length) (hle : ps.length ≤ N.length)
    (B : BodyOk G P w K mg base N d.io qual scope fa body k (callF Γ L k) L d.body) : FnOk P w K mg base (L2.CX P w) (k + 1) fa fd ps (spM G (callF Γ L (k + 1)) f) := by
  have run : ∀ args, callF Γ L (k + 1) f args = runD (callF Γ L k) L d args := fun args => by
    show (match Γ[f]? with | some d => _ | none => _) = _
    rw [hd]
  have len : ∀ vs H Q E, spM G (callF Γ L (k + 1)) f vs H Q E → vs.length = ps.length := fun vs H Q E ⟨w0, args, e, S0, q⟩ => by
    rw [run] at q
    unfold runD at q
    have := S0.len
    rw [List.length_map] at this
    by_cases h : args.length = d.np
    · omega
    · rw [if_neg h] at q; exact q.elim
  refine F.ok S len fun cdv A outer s H vs Q E hr h => ?_
  have hl := len vs H Q E h
  obtain ⟨w0, args, e, S0, q⟩ := h
  rw [run] at q
  unfold runD at q
  by_cases hlen : args.length = d.np
  · rw [if_pos hlen] at q
    let C : Ct := ⟨G, w0, L2.start N vs, fxOf d.io, fun x m => ∀ w' cls dd, SR G w' (outsM d.io m) (vs.map some) → Ex w0 w' → RX G w' x cls dd → E cls dd w'.H⟩
    have S1 : SR G w0 (args ++ List.replicate (d.ns - d.np) .no) (L2.start N vs) := start_sr S0 (by rw [hns, hnp, hl])
    have outs : ∀ {w' : Wd} {m : List Slot} {σ' : St}, Pre C w' m σ' → SR G w' (outsM d.io m) (vs.map some) := fun {w' m σ'} P => outs_sr P.sr P.fix (by omega)
    have tk : Takes (cxOf (L2.CX P w) P w K mg base N qual scope fa cdv A outer s H E) (WM C) := Takes.imp (takes_of (E := E) rfl rfl rfl rfl) fun c dd σ H' ⟨w', m, x, e', P', rx, em⟩ => by
      subst e'
      exact em w' c dd (outs P') P'.ex rx
    have xc : XC C (cxOf (L2.CX P w) P w K mg base N qual scope fa cdv A outer s H E) k := ⟨hK, S.nd, rfl, hr, tk⟩
    refine ⟨_, B cdv A outer s H E C rfl rfl xc (passes_of rfl), w0, args ++ List.replicate (d.ns - d.np) .no, e, ⟨S1, .refl w0, fun _ _ => rfl⟩, ?_⟩
    cases hb : evSs (callF Γ L k) L d.body (args ++ List.replicate (d.ns - d.np) .no) with
    | no => rw [hb] at q; exact q.elim
    | bk m => rw [hb] at q; exact q.elim
    | ct m => rw [hb] at q; exact q.elim
    | nx m =>
      rw [hb] at q
      exact fun w' σ' P' x' => q w' .non (outs P') x' .non
    | ex x m =>
      rw [hb] at q
      exact fun w' cls dd S' x' rx => q w' cls dd S' x' rx
    | rt r m =>
      rw [hb] at q
      cases r with
      | fz t => exact fun w' σ' v P' x' rr => q w' v (outs P') x' rr
      | bo i => exact q.elim
      | ow o =>
        refine fun w' σ' v P' x' rr => q w' v (outs P') x' ?_
        obtain ⟨p, rfl, ro, l, n⟩ := rr
        refine ⟨p, rfl, ro, l, fun j o' hj z => ?_⟩
        rcases outsM_get hj with ⟨g, q'⟩ | g
        · have lt : j < vs.length := by have := (List.getElem?_eq_some_iff.mp g).1; omega
          refine n j o' q' ?_
          rw [P'.fix j (by show fxOf d.io j = true; unfold fxOf; rw [g]; rfl)]
          show (L2.start N vs)[j]? = _
          rw [start_get lt]
          exact z
        · cases g
  · rw [if_neg hlen] at q; exact q.elim
end Mi
set_option maxHeartbeats 1000000
namespace Mi
open PySem PySem.Spec PyProof.Rows L2

/-! ### constants of the top -/
mutual
def matV (K : PySem.W.Frag) : T → Value → Bool
  | .non, u => (match u with | .none => true | _ => false)
  | .bl b, u => (match u with | .bool c => b == c | _ => false)
  | .int i, u => (match u with | .int j _ => decide (i = j) | _ => false)
  | .str x, u => (match u with | .str y _ => decide (x = y) | _ => false)
  | .tup xs, u => (match u with
    | .ref a => (match K.lookup a with
      | some ⟨.type c, _, .seq its _, _⟩ => decide (c = "tuple") && (decide (its.size ≤ sizeLine) && matVs K xs its.toList)
      | _ => false)
    | _ => false)
  | _, _ => false
def matVs (K : PySem.W.Frag) : List T → List Value → Bool
  | [], [] => true
  | t :: ts, u :: us => matV K t u && matVs K ts us
  | _, _ => false
end
mutual
theorem matV_ok {G : Gm} : ∀ {t : T} {u : Value}, matV G.K t u = true → ∃ v, RelV v u ∧ ∀ w, RF G w t v
  | .non, u, h => by
    cases u <;> first | exact ⟨.non, rfl, fun _ => .non⟩ | (simp [matV] at h)
  | .bl b, u, h => by
    cases u <;> try (simp [matV] at h; done)
    case bool c =>
      have e : b = c := by simpa [matV] using h
      subst e
      exact ⟨.bl b, rfl, fun _ => .bl b⟩
  | .int i, u, h => by
    cases u <;> try (simp [matV] at h; done)
    case int j t =>
      have e : i = j := by simpa [matV] using h
      subst e
      exact ⟨.int i, ⟨t, rfl⟩, fun _ => .int i⟩
  | .str x, u, h => by
    cases u <;> try (simp [matV] at h; done)
    case str j t =>
      have e : x = j := by simpa [matV] using h
      subst e
      exact ⟨.str x, ⟨t, rfl⟩, fun _ => .str x⟩
  | .tup xs, u, h => by
    cases u <;> try (simp [matV] at h; done)
    case ref a =>
      rw [matV] at h
      cases q : G.K.lookup a with
      | none => simp [q] at h
      | some o =>
        obtain ⟨oc, od, dt, osl⟩ := o
        simp only [q] at h
        cases oc <;> try (cases dt <;> simp at h; done)
        case type c =>
          cases dt <;> try (simp at h; done)
          case seq its n =>
            simp only [Bool.and_eq_true, decide_eq_true_eq] at h
            obtain ⟨rfl, h2, h3⟩ := h
            obtain ⟨vs, r1, r2⟩ := matVs_ok h3
            exact ⟨.ref a, rfl, fun w => .tup (.inr ⟨_, its, n, q, rfl, rfl, h2, r1⟩) (r2 w)⟩
  | .lst _, u, h => by simp [matV] at h
  | .dic _, u, h => by simp [matV] at h
  | .ins _ _, u, h => by simp [matV] at h
  | .scr _, u, h => by simp [matV] at h
theorem matVs_ok {G : Gm} : ∀ {t : List T} {u : List Value}, matVs G.K t u = true → ∃ v, Vals v u ∧ ∀ w, RFs G w t v
  | [], [], _ => ⟨[], .nil, fun _ => .nil⟩
  | [], _ :: _, h => by simp [matVs] at h
  | _ :: _, [], h => by simp [matVs] at h
  | t :: ts, u :: us, h => by
    simp only [matVs, Bool.and_eq_true] at h
    obtain ⟨v, a, b⟩ := matV_ok h.1
    obtain ⟨vs, c, d⟩ := matVs_ok h.2
    exact ⟨v :: vs, .cons a c, fun w => .cons (b w) (d w)⟩
end
def globK (K : PySem.W.Frag) (p : Str × T) : Bool := match PySem.W.nsIn K mainGlobals p.1 with
  | some (some u) => matV K p.2 u
  | _ => false
abbrev AlM : Type := He.AlD × Bool
def obsM (fa : List He.Fa) (fn : List He.DefD) (gk : List (Str × T)) (K : PySem.W.Frag) : AlM := (He.obsD fa fn K, gk.all (globK K))
def SaysM (fa : List He.Fa) (fn : List He.DefD) (gk : List (Str × T)) (K : PySem.W.Frag) : Prop := obsM fa fn gk K = (He.valD fn, true)
def obsMG (n : Nat) (fa : List He.Fa) (fn : List He.DefD) (gk : List (Str × T)) (g : Addr → Option Obj) : AlM := obsM fa fn gk (He.frG g (He.asD g n))
def hookM (n : Nat) (fa : List He.Fa) (fn : List He.DefD) (gk : List (Str × T)) : PySem.W.Hook where
  α := AlM
  obs := fun s => obsMG n fa fn gk s.heap.get?
  val := fun _ => (He.valD fn, true)
  says := fun _ h => ∃ K : PySem.W.Frag, K.In h ∧ SaysM fa fn gk K
  of := fun _ _ e => ⟨_, He.frG_in, e⟩
  keeps := fun _ _ _ ⟨K, hK, c⟩ k => ⟨K, PySem.W.Frag.In.keeps hK k, c⟩
theorem obsMG_eq {n : Nat} {fa : List He.Fa} {fn : List He.DefD} {gk : List (Str × T)} {g : Addr → Option Obj} {s : Shared} (h : ∀ a, g a = s.heap.get? a) : obsMG n fa fn gk g = (hookM n fa fn gk).obs s := by
  have e : g = s.heap.get? := funext h
  rw [e] <;> rfl
theorem SaysM.d {fa : List He.Fa} {fn : List He.DefD} {gk : List (Str × T)} {K : PySem.W.Frag} (c : SaysM fa fn gk K) : He.SaysD fa fn K := congrArg Prod.fst c
theorem SaysM.g {fa : List He.Fa} {fn : List He.DefD} {gk : List (Str × T)} {K : PySem.W.Frag} (c : SaysM fa fn gk K) : ∀ p ∈ gk, globK K p = true := List.all_eq_true.mp (congrArg Prod.snd c)

theorem globK_ok {G : Gm} {h : Heap} {mg : Str → Option Value} {x : Str} {t : T} (X : G.K.In h) (Gn : h.Ns mainGlobals mg) (c : globK G.K (x, t) = true) : ∃ u v, mg x = some u ∧ RelV v u ∧ ∀ w, RF G w t v := by
  unfold globK at c
  cases q : PySem.W.nsIn G.K mainGlobals x with
  | none => simp [q] at c
  | some o =>
    cases o with
    | none => simp [q] at c
    | some u =>
      simp only [q] at c
      obtain ⟨v, a, b⟩ := matV_ok c
      exact ⟨u, v, PySem.W.mg_of X Gn q, a, b⟩
/-! ### what a def's body leans on -/
def FnIn (P : Program) (w : World) (K : PySem.W.Frag) (mg : Str → Option Value) (base : Heap) (k : Nat) (G : Gm) (cal : Nat → List Slot → CRes) (f : Nat) (x : Str) (ps : List Str) : Prop :=
  ∃ fa fd, mg x = some (.ref fa) ∧ PySem.W.keepIn K (.ref fa) = true ∧ Binds K fd ps [] ∧ FnOk P w K mg base (L2.CX P w) k fa fd ps (spM G cal f)
def FnInK (P : Program) (w : World) (K : PySem.W.Frag) (mg : Str → Option Value) (base : Heap) (k : Nat) (G : Gm) (cal : Nat → List Slot → CRes) (f : Nat) (x : Str) (ps : List Str) : Prop :=
  ∃ fa fd, mg x = some (.ref fa) ∧ PySem.W.keepIn K (.ref fa) = true ∧ (∀ us : List Value, us.length = ps.length → bindArgs fd ⟨[], ps.zip us⟩ = pure (ps.zip us)) ∧ FnOk P w K mg base (L2.CX P w) k fa fd ps (spM G cal f)
structure GE (tab : List (Str × List Str)) (tk : List Nat) (gk : List (Str × T)) (fr : List Str) (P : Program) (w : World) (K : PySem.W.Frag) (mg : Str → Option Value) (base : Heap) (k : Nat) (G : Gm) (cal : Nat → List Slot → CRes) : Prop where
  fns : ∀ (f : Nat) (x : Str) (ps : List Str), tab[f]? = some (x, ps) → FnIn P w K mg base k G cal f x ps
  fnk : ∀ (f : Nat) (x : Str) (ps : List Str), tab[f]? = some (x, ps) → f ∈ tk → FnInK P w K mg base k G cal f x ps
  gs : ∀ (i : Nat) (x : Str) (t : T), gk[i]? = some (x, t) → ∃ u v, mg x = some u ∧ RelV v u ∧ ∀ w, RF G w t v
  frs : ∀ (i : Nat) (x : Str), fr[i]? = some x → mg x = none
section
variable {tab : List (Str × List Str)} {tk : List Nat} {gk : List (Str × T)} {fr : List Str} {G : Gm} {cal : Nat → List Slot → CRes} {k : Nat}
theorem GE.f {X : Cx} (e : GE tab tk gk fr X.prog X.w X.K X.mg X.base k G cal) (f : Nat) {x : Str} {ps : List Str} (h : tab[f]? = some (x, ps) := by rfl) : FnAt X k G cal f x ps := ⟨e.fns f x ps h⟩
theorem GE.fk {X : Cx} (e : GE tab tk gk fr X.prog X.w X.K X.mg X.base k G cal) (f : Nat) {x : Str} {ps : List Str} (h : tab[f]? = some (x, ps) := by rfl) (h2 : f ∈ tk := by decide) : FnAtK X k G cal f x ps := ⟨e.fnk f x ps h h2⟩
theorem GE.g {X : Cx} (e : GE tab tk gk fr X.prog X.w X.K X.mg X.base k G cal) (i : Nat) {x : Str} {t : T} (h : gk[i]? = some (x, t) := by rfl) : GlobAt X G x t := e.gs i x t h
theorem GE.b {X : Cx} (e : GE tab tk gk fr X.prog X.w X.K X.mg X.base k G cal) (i : Nat) {x : Str} (h : fr[i]? = some x := by rfl) : Fr X x := e.frs i x h
theorem nf {C : Ct} {io : List Bool} {i : Nat} (h : C.fx = fxOf io) (e : fxOf io i = false := by rfl) : C.fx i = false := by rw [h]; exact e
theorem nfs {C : Ct} {io : List Bool} {p : Pt} (h : C.fx = fxOf io) (e : (p.sl.all fun j => !fxOf io j) = true := by rfl) : ∀ j ∈ p.sl, C.fx j = false := fun j hj => by
  rw [h]
  have := List.all_eq_true.mp e j hj
  simpa using this
end
/-- the first turn: nothing is promised -/
theorem fn_zero {P : Program} {w : World} {K : PySem.W.Frag} {mg : Str → Option Value} {base : Heap} {G : Gm} {Γ : List Def} {L f : Nat} {fa : Addr} {fd : FuncData} {ps : List Str} : FnOk P w K mg base (L2.CX P w) 0 fa fd ps (spM G (callF Γ L 0) f) :=
  ⟨fun _ _ _ _ ⟨_, _, _, _, z⟩ => z.elim, fun _ _ _ _ _ _ _ _ _ _ _ _ _ ⟨_, _, _, _, z⟩ => z.elim⟩
theorem FunD.kws {K : PySem.W.Frag} {x qual : Str} {params : Arguments} {body : List Stmt} {scope : Scope} {kws : List (Str × V)} {f : Addr} {fd : FuncData} {ps : List Str} (F : FunD K x qual params body scope [] kws f fd)
    (h : ∀ (kV doc pm : Value) (an : Option Addr) (cdv ct : Value) (us : List Value), us.length = ps.length → bindArgs (PySem.W.fnOf x qual params body scope .none kV doc pm an cdv ct) ⟨[], ps.zip us⟩ = pure (ps.zip us)) :
    ∀ us : List Value, us.length = ps.length → bindArgs fd ⟨[], ps.zip us⟩ = pure (ps.zip us) := by
  obtain ⟨oc, od, dV, kV, doc, pm, an, cdv, ct, osl, rfl, lk, hcd, hD, hK⟩ := F.ex
  rcases hD with ⟨_, rfl⟩ | ⟨e, _⟩
  · exact h kV doc pm an cdv ct
  · exact absurd rfl e
/-- the law's promise, from the evaluator's answer -/
theorem law_sp {G : Gm} {cal : Nat → List Slot → CRes} {f : Nat} {ns : List Int} {outs : List Slot} (hc : cal f [.fz (.scr ns)] = .ok (.fz (.bl true)) outs) {H : Hp} {a : Addr} (hO : Only H) (hS : SqL G.K H a (ns.map V.int)) (E : XK) : spM G cal f [.ref a] H (fun v _ => v = .bl true) E := by
  refine ⟨⟨fun b => ∃ u, H b = some u, fun _ => False, H⟩, [.fz (.scr ns)], rfl, ⟨rfl, fun i s h => ?_, fun i j o o' a h1 => ?_, fun _ z => z.elim, fun b h => h⟩, ?_⟩
  · cases i with
    | succ i => cases h
    | zero =>
      cases h
      refine ⟨.ref a, rfl, .scr ?_⟩
      rcases hS with (h | ⟨o, h⟩) | ⟨o, its, n, h1, h2, h3, h4, h5, h6⟩
      · rcases hO a with z | ⟨o, xs, z⟩ <;> rw [h] at z <;> cases z
      · exact .inl ⟨⟨_, h⟩, o, h⟩
      · exact .inr ⟨o, its, n, h1, h2, h3, h4, h5, h6⟩
  · cases i with
    | succ i => cases h1
    | zero => cases h1
  · rw [hc]
    intro w' v _ _ rr
    cases rr
    rfl
/-- an exception that may leave, at some world -/
def CXA (P : Program) : CXT := fun outer H s E u s' => ∃ w, L2.CX P w outer H s E u s'
theorem cxA {P : Program} {w : World} {K : PySem.W.Frag} {mg : Str → Option Value} {base : Heap} {k : Nat} {fa : Addr} {fd : FuncData} {ps : List Str} {sp : Sp} (F : FnOk P w K mg base (L2.CX P w) k fa fd ps sp) : FnOk P w K mg base (CXA P) k fa fd ps sp :=
  ⟨F.len, fun A outer s H args us vs Q E hr he hb hv hs => codeAny_mono (F.run A outer s H args us vs Q E hr he hb hv hs) fun r s' q => by
    cases r with
    | error e => exact ⟨w, q⟩
    | ok fl => cases fl <;> exact q⟩
theorem cxA_no {P : Program} {H : Hp} {s : Shared} {e : Value} {s' : Shared} (h : CXA P [] H s (fun _ _ _ => False) e s') : False := by
  obtain ⟨w, _, _, _, _, _, _, _, _, _, _, _, _, z⟩ := h
  exact z
end Mi
set_option maxHeartbeats 4000000
namespace Mi
open PySem PySem.Spec PyProof.Rows L2

/-! ### the law's own helpers: as data -/
def bagB : Ss :=
  (.cons (.set 1 (.op .mod (.cons (.op .int (.cons (.op .add (.cons (.op .add (.cons (.op .mul (.cons (.var 1) (.cons (.c (.int 46337)) .nil))) (.cons (.op .mul (.cons (.op .mod (.cons (.op .int (.cons (.var 2) .nil)) (.cons (.c (.int 1000211)) .nil))) (.cons (.c (.int 919)) .nil))) .nil))) (.cons (.c (.int 41)) .nil))) .nil)) (.cons (.c (.int 2147483563)) .nil)))) .nil)
def dBag : Def := ⟨1, 3, [false],
  (.cons (.set 1 (.c (.int 12006)))
  (.cons (.fr (.nm 2) (.it (.op (.sl false true) (.cons (.var 0) (.cons (.c (.int 63)) .nil)))) bagB)
  (.cons (.ret (.lst (.cons (.op .list (.cons (.op (.sl false true) (.cons (.var 0) (.cons (.c (.int 63)) .nil))) .nil)) (.cons (.c (.int 0)) (.cons (.c (.int 0)) (.cons (.var 1) (.cons (.c (.int 0)) .nil)))))))
  .nil)))⟩
def dTake : Def := ⟨2, 5, [true, false],
  (.cons (.sto 0 (.c (.int 4)) (.op .add (.cons (.op .idx (.cons (.var 0) (.cons (.c (.int 4)) .nil))) (.cons (.c (.int 1)) .nil))))
  (.cons (.ife (.an (.op .eq (.cons (.op .idx (.cons (.var 0) (.cons (.c (.int 2)) .nil))) (.cons (.c (.int 0)) .nil))) (.op .lt (.cons (.op .idx (.cons (.var 0) (.cons (.c (.int 1)) .nil))) (.cons (.op .len (.cons (.op .idx (.cons (.var 0) (.cons (.c (.int 0)) .nil))) .nil)) .nil)))) (.cons (.set 2 (.op .idx (.cons (.op .idx (.cons (.var 0) (.cons (.c (.int 0)) .nil))) (.cons (.op .idx (.cons (.var 0) (.cons (.c (.int 1)) .nil))) .nil))))
  (.cons (.sto 0 (.c (.int 1)) (.op .add (.cons (.op .idx (.cons (.var 0) (.cons (.c (.int 1)) .nil))) (.cons (.c (.int 1)) .nil))))
  (.cons (.ife (.op .ge (.cons (.op .abs (.cons (.var 2) .nil)) (.cons (.op .pow (.cons (.c (.int 10)) (.cons (.c (.int 18)) .nil))) .nil))) (.cons (.sto 0 (.c (.int 2)) (.op .abs (.cons (.var 2) .nil)))
  .nil) (.cons (.sto 0 (.c (.int 3)) (.op .mod (.cons (.op .int (.cons (.op .add (.cons (.op .add (.cons (.op .mul (.cons (.op .idx (.cons (.var 0) (.cons (.c (.int 3)) .nil))) (.cons (.c (.int 47303)) .nil))) (.cons (.op .mul (.cons (.op .mod (.cons (.op .int (.cons (.var 2) .nil)) (.cons (.c (.int 1000211)) .nil))) (.cons (.c (.int 733)) .nil))) .nil))) (.cons (.c (.int 59)) .nil))) .nil)) (.cons (.c (.int 2147483579)) .nil))))
  .nil))
  .nil))) .nil)
  (.cons (.ife (.op .gt (.cons (.op .idx (.cons (.var 0) (.cons (.c (.int 2)) .nil))) (.cons (.c (.int 0)) .nil))) (.cons (.set 3 (.op .mod (.cons (.op .int (.cons (.op .idx (.cons (.var 0) (.cons (.c (.int 2)) .nil))) .nil)) (.cons (.var 1) .nil))))
  (.cons (.sto 0 (.c (.int 2)) (.op .fdiv (.cons (.op .idx (.cons (.var 0) (.cons (.c (.int 2)) .nil))) (.cons (.var 1) .nil))))
  (.cons (.ret (.var 3))
  .nil))) .nil)
  (.cons (.set 4 (.op .mod (.cons (.op .int (.cons (.op .add (.cons (.op .mul (.cons (.op .idx (.cons (.var 0) (.cons (.c (.int 3)) .nil))) (.cons (.op .idx (.cons (.var 0) (.cons (.c (.int 3)) .nil))) .nil))) (.cons (.op .mul (.cons (.op .idx (.cons (.var 0) (.cons (.c (.int 4)) .nil))) (.cons (.c (.int 8191)) .nil))) .nil))) .nil)) (.cons (.c (.int 2147483647)) .nil))))
  (.cons (.sto 0 (.c (.int 3)) (.op .mod (.cons (.op .int (.cons (.op .add (.cons (.op .add (.cons (.op .mul (.cons (.var 4) (.cons (.c (.int 16981)) .nil))) (.cons (.op .mul (.cons (.op .idx (.cons (.var 0) (.cons (.c (.int 3)) .nil))) (.cons (.c (.int 47969)) .nil))) .nil))) (.cons (.c (.int 70019)) .nil))) .nil)) (.cons (.c (.int 2147483579)) .nil))))
  (.cons (.ret (.op .mod (.cons (.op .int (.cons (.op .fdiv (.cons (.op .idx (.cons (.var 0) (.cons (.c (.int 3)) .nil))) (.cons (.c (.int 67)) .nil))) .nil)) (.cons (.var 1) .nil))))
  .nil))))))⟩
def dOf (t : Nat) : Def := ⟨2, 2, [true, false],
  (.cons (.ret (.op .idx (.cons (.var 1) (.cons (.call t [true, false] (.cons (.var 0) (.cons (.op .len (.cons (.var 1) .nil)) .nil))) .nil))))
  .nil)⟩
/-! ### small steps -/
theorem mulF_ok {i j : Int} (h : i.natAbs < 2 ^ 200) (h' : j.natAbs < 2 ^ 200) : mulF (.int i) (.int j) = fI (i * j) := by
  have e : ∀ {n : Nat}, n < 2 ^ 200 → n.log2 ≤ 200 := fun {n} h => by
    by_cases z : n = 0
    · subst z; decide
    · exact Nat.le_of_lt ((Nat.log2_lt z).mpr h)
  have := e h
  have := e h'
  show (if _ then _ else _) = _
  rw [if_pos (by omega)]
theorem natAbs_lt {i : Int} {n : Nat} (h0 : 0 ≤ i) (h : i < n) : i.natAbs < n := by omega
theorem atI_nat {α : Type} {xs : List α} {i : Int} {n : Nat} {x : α} (h : i = (n : Int)) (e : xs[n]? = some x) : atI xs i = some x := by
  have lt := (List.getElem?_eq_some_iff.mp e).1
  subst h
  unfold atI ixN
  rw [if_pos (by omega), if_pos (by omega)]
  simpa using e
/-! ### the bag -/
structure BagS (ns : List Int) (i : Nat) (r x : Int) (c : Nat) : Prop where
  r0 : 0 ≤ r
  x0 : 0 ≤ x
  x1 : x < 2147483647
def bag (ns : List Int) (i : Nat) (r x : Int) (c : Nat) : Slot := .ow (.lst [.lst (ns.map .int), .int i, .int r, .int x, .int c])
def Bag (c : Nat) (s : Slot) : Prop := ∃ ns i r x, s = bag ns i r x c ∧ BagS ns i r x c
theorem at4 {a b c d e : T} : atI [a, b, c, d, e] 4 = some e := rfl
theorem at3 {a b c d e : T} : atI [a, b, c, d, e] 3 = some d := rfl
theorem at2 {a b c d e : T} : atI [a, b, c, d, e] 2 = some c := rfl
theorem at1 {a b c d e : T} : atI [a, b, c, d, e] 1 = some b := rfl
theorem at0 {a b c d e : T} : atI [a, b, c, d, e] 0 = some a := rfl
theorem ix4 : ixN 5 4 = some 4 := rfl
theorem ix3 : ixN 5 3 = some 3 := rfl
theorem ix2 : ixN 5 2 = some 2 := rfl
theorem ix1 : ixN 5 1 = some 1 := rfl
def takeTail : Ss :=
  (.cons (.ife (.op .gt (.cons (.op .idx (.cons (.var 0) (.cons (.c (.int 2)) .nil))) (.cons (.c (.int 0)) .nil))) (.cons (.set 3 (.op .mod (.cons (.op .int (.cons (.op .idx (.cons (.var 0) (.cons (.c (.int 2)) .nil))) .nil)) (.cons (.var 1) .nil))))
  (.cons (.sto 0 (.c (.int 2)) (.op .fdiv (.cons (.op .idx (.cons (.var 0) (.cons (.c (.int 2)) .nil))) (.cons (.var 1) .nil))))
  (.cons (.ret (.var 3))
  .nil))) .nil)
  (.cons (.set 4 (.op .mod (.cons (.op .int (.cons (.op .add (.cons (.op .mul (.cons (.op .idx (.cons (.var 0) (.cons (.c (.int 3)) .nil))) (.cons (.op .idx (.cons (.var 0) (.cons (.c (.int 3)) .nil))) .nil))) (.cons (.op .mul (.cons (.op .idx (.cons (.var 0) (.cons (.c (.int 4)) .nil))) (.cons (.c (.int 8191)) .nil))) .nil))) .nil)) (.cons (.c (.int 2147483647)) .nil))))
  (.cons (.sto 0 (.c (.int 3)) (.op .mod (.cons (.op .int (.cons (.op .add (.cons (.op .add (.cons (.op .mul (.cons (.var 4) (.cons (.c (.int 16981)) .nil))) (.cons (.op .mul (.cons (.op .idx (.cons (.var 0) (.cons (.c (.int 3)) .nil))) (.cons (.c (.int 47969)) .nil))) .nil))) (.cons (.c (.int 70019)) .nil))) .nil)) (.cons (.c (.int 2147483579)) .nil))))
  (.cons (.ret (.op .mod (.cons (.op .int (.cons (.op .fdiv (.cons (.op .idx (.cons (.var 0) (.cons (.c (.int 3)) .nil))) (.cons (.c (.int 67)) .nil))) .nil)) (.cons (.var 1) .nil))))
  .nil))))
theorem tail_pos {cal : Nat → List Slot → CRes} {L : Nat} {ns : List Int} {i : Nat} {r x : Int} {c : Nat} {many : Int} {s2 s3 s4 : Slot} (hr : 0 < r) (hm : 0 < many) (hm2 : many < 2 ^ 64) :
    evSs cal L takeTail [bag ns i r x c, .fz (.int many), s2, s3, s4] = .rt (.fz (.int (r % many))) [bag ns i (r / many) x c, .fz (.int many), s2, .fz (.int (r % many)), s4] := by
  have q1 : fdivF (.int r) (.int many) = fI (r / many) := by
    have : many.natAbs.log2 ≤ 64 := Nat.le_of_lt ((Nat.log2_lt (by omega)).mpr (by omega))
    show (if _ then _ else _) = _
    rw [if_pos ⟨hm, by omega⟩]
  have q2 : modF (.int r) (.int many) = fI (r % many) := by
    show (if _ then _ else _) = _
    rw [if_pos hm]
  unfold takeTail bag
  simp [evSs, evS, evE, evDs, Res.bind, ofR, R.opd, opR, ders, der, opF, op2, op1, O.frz, idxF, esc, at4, at3, at2, at1, at0, ix4, ix3, ix2, ix1, fI, fB, cmpF, putR, intF, outR, q1, q2, hr]
theorem tail_zero {cal : Nat → List Slot → CRes} {L : Nat} {ns : List Int} {i : Nat} {x : Int} {c : Nat} {many : Int} {s2 s3 s4 : Slot} (x0 : 0 ≤ x) (x1 : x < 2147483647) (hc : c < 2 ^ 41) (hm : 0 < many) (hm2 : many < 2 ^ 64) :
    ∃ t x', evSs cal L takeTail [bag ns i 0 x c, .fz (.int many), s2, s3, s4] = .rt (.fz (.int (x' / 67 % many))) [bag ns i 0 x' c, .fz (.int many), s2, s3, .fz (.int t)] ∧ 0 ≤ x' ∧ x' < 2147483647 := by
  have b400 : (2 : Nat) ^ 64 < 2 ^ 200 := by decide
  have q1 : mulF (.int x) (.int x) = fI (x * x) := mulF_ok (by omega) (by omega)
  have q2 : mulF (.int c) (.int 8191) = fI (c * 8191) := mulF_ok (by omega) (by decide)
  have q3 : mulF (.int x) (.int 47969) = fI (x * 47969) := mulF_ok (by omega) (by decide)
  have m1 : ∀ y : Int, modF (.int y) (.int 2147483647) = fI (y % 2147483647) := fun y => rfl
  have m2 : ∀ y : Int, modF (.int y) (.int 2147483579) = fI (y % 2147483579) := fun y => rfl
  have m3 : ∀ y : Int, modF (.int y) (.int many) = fI (y % many) := fun y => by
    show (if _ then _ else _) = _
    rw [if_pos hm]
  have d1 : ∀ y : Int, fdivF (.int y) (.int 67) = fI (y / 67) := fun y => by
    show (if (0 : Int) < 67 ∧ (67 : Int).natAbs.log2 < 9000 then fI (y / 67) else none) = _
    rw [if_pos (by decide)]
  obtain ⟨t, ht⟩ : ∃ t, t = (x * x + c * 8191) % 2147483647 := ⟨_, rfl⟩
  have t0 : 0 ≤ t := by rw [ht]; exact Int.emod_nonneg _ (by decide)
  have t1 : t < 2147483647 := by rw [ht]; exact Int.emod_lt_of_pos _ (by decide)
  have q4 : mulF (.int t) (.int 16981) = fI (t * 16981) := mulF_ok (by omega) (by decide)
  refine ⟨t, (t * 16981 + x * 47969 + 70019) % 2147483579, ?_, Int.emod_nonneg _ (by decide), Int.lt_trans (Int.emod_lt_of_pos _ (by decide)) (by decide)⟩
  unfold takeTail bag
  simp [evSs, evS, evE, evDs, Res.bind, ofR, R.opd, opR, ders, der, opF, op2, op1, O.frz, idxF, esc, at4, at3, at2, at1, at0, ix4, ix3, ix2, ix1, fI, fB, cmpF, putR, intF, outR, addF, q1, q2, q3, m1, m2, m3, d1, ← ht, q4]
theorem take_body {cal : Nat → List Slot → CRes} {L : Nat} {ns : List Int} {i : Nat} {r x : Int} {c : Nat} {many : Int} (B : BagS ns i r x c) (hc : c < 2 ^ 40) (hm : 0 < many) (hm2 : many < 2 ^ 64) :
    ∃ d s m, evSs cal L dTake.body [bag ns i r x c, .fz (.int many), .no, .no, .no] = .rt (.fz (.int d)) (s :: m) ∧ 0 ≤ d ∧ d < many ∧ Bag (c + 1) s := by
  obtain ⟨r0, x0, x1⟩ := B
  have key : ∀ {i' : Nat} {r' x' : Int} {s2 : Slot}, 0 ≤ r' → 0 ≤ x' → x' < 2147483647 → ∃ d s m, evSs cal L takeTail [bag ns i' r' x' (c + 1), .fz (.int many), s2, .no, .no] = .rt (.fz (.int d)) (s :: m) ∧ 0 ≤ d ∧ d < many ∧ Bag (c + 1) s := fun {i' r' x' s2} h1 h2 h3 => by
    by_cases hr : 0 < r'
    · exact ⟨_, _, _, tail_pos hr hm hm2, Int.emod_nonneg _ (by omega), Int.emod_lt_of_pos _ hm, ns, i', r' / many, x', rfl, Int.ediv_nonneg h1 (by omega), h2, h3⟩
    · have : r' = 0 := by omega
      subst this
      obtain ⟨t, x'', e, g1, g2⟩ := tail_zero (cal := cal) (L := L) (ns := ns) (i := i') (s2 := s2) (s3 := .no) (s4 := .no) h2 h3 (show c + 1 < 2 ^ 41 by omega) hm hm2
      exact ⟨_, _, _, e, Int.emod_nonneg _ (by omega), Int.emod_lt_of_pos _ hm, ns, i', 0, x'', rfl, Int.le_refl _, g1, g2⟩
  have s1 : ∀ rest, evSs cal L (.cons (.sto 0 (.c (.int 4)) (.op .add (.cons (.op .idx (.cons (.var 0) (.cons (.c (.int 4)) .nil))) (.cons (.c (.int 1)) .nil)))) rest) [bag ns i r x c, .fz (.int many), .no, .no, .no] = evSs cal L rest [bag ns i r x (c + 1), .fz (.int many), .no, .no, .no] := fun rest => by
    unfold bag
    simp [evSs, evS, evE, evDs, Res.bind, ofR, R.opd, opR, ders, der, opF, op2, op1, O.frz, idxF, esc, at4, ix4, fI, addF]
  unfold dTake
  rw [s1]
  by_cases hb : r = 0 ∧ i < ns.length
  · obtain ⟨rfl, hi⟩ := hb
    obtain ⟨n, hn⟩ : ∃ n, ns[i]? = some n := ⟨ns[i], List.getElem?_eq_getElem hi⟩
    have a1 : atI (ns.map T.int) (i : Int) = some (.int n) := atI_nat rfl (by rw [List.getElem?_map, hn]; rfl)
    have p1 : powF (.int 10) (.int 18) = fI 1000000000000000000 := rfl
    have m2 : ∀ y : Int, modF (.int y) (.int 2147483579) = fI (y % 2147483579) := fun y => rfl
    have m3 : ∀ y : Int, modF (.int y) (.int 1000211) = fI (y % 1000211) := fun y => rfl
    have n0 : 0 ≤ n % 1000211 := Int.emod_nonneg _ (by decide)
    have n1 : n % 1000211 < 1000211 := Int.emod_lt_of_pos _ (by decide)
    have b400 : (2 : Nat) ^ 64 < 2 ^ 200 := by decide
    have q1 : mulF (.int x) (.int 47303) = fI (x * 47303) := mulF_ok (by omega) (by decide)
    have q2 : mulF (.int (n % 1000211)) (.int 733) = fI (n % 1000211 * 733) := mulF_ok (by omega) (by decide)
    have e : ∃ r' x' s2, evSs cal L (.cons (.ife (.an (.op .eq (.cons (.op .idx (.cons (.var 0) (.cons (.c (.int 2)) .nil))) (.cons (.c (.int 0)) .nil))) (.op .lt (.cons (.op .idx (.cons (.var 0) (.cons (.c (.int 1)) .nil))) (.cons (.op .len (.cons (.op .idx (.cons (.var 0) (.cons (.c (.int 0)) .nil))) .nil)) .nil)))) (.cons (.set 2 (.op .idx (.cons (.op .idx (.cons (.var 0) (.cons (.c (.int 0)) .nil))) (.cons (.op .idx (.cons (.var 0) (.cons (.c (.int 1)) .nil))) .nil))))
  (.cons (.sto 0 (.c (.int 1)) (.op .add (.cons (.op .idx (.cons (.var 0) (.cons (.c (.int 1)) .nil))) (.cons (.c (.int 1)) .nil))))
  (.cons (.ife (.op .ge (.cons (.op .abs (.cons (.var 2) .nil)) (.cons (.op .pow (.cons (.c (.int 10)) (.cons (.c (.int 18)) .nil))) .nil))) (.cons (.sto 0 (.c (.int 2)) (.op .abs (.cons (.var 2) .nil)))
  .nil) (.cons (.sto 0 (.c (.int 3)) (.op .mod (.cons (.op .int (.cons (.op .add (.cons (.op .add (.cons (.op .mul (.cons (.op .idx (.cons (.var 0) (.cons (.c (.int 3)) .nil))) (.cons (.c (.int 47303)) .nil))) (.cons (.op .mul (.cons (.op .mod (.cons (.op .int (.cons (.var 2) .nil)) (.cons (.c (.int 1000211)) .nil))) (.cons (.c (.int 733)) .nil))) .nil))) (.cons (.c (.int 59)) .nil))) .nil)) (.cons (.c (.int 2147483579)) .nil))))
  .nil))
  .nil))) .nil) takeTail) [bag ns i 0 x (c + 1), .fz (.int many), .no, .no, .no] = evSs cal L takeTail [bag ns (i + 1) r' x' (c + 1), .fz (.int many), s2, .no, .no] ∧ 0 ≤ r' ∧ 0 ≤ x' ∧ x' < 2147483647 := by
      by_cases hg : (1000000000000000000 : Int) ≤ (if n < 0 then -n else n)
      · refine ⟨if n < 0 then -n else n, x, .fz (.int n), ?_, by omega, x0, x1⟩
        unfold bag
        simp [evSs, evS, evE, evDs, Res.bind, ofR, R.opd, opR, ders, der, opF, op2, op1, O.frz, idxF, esc, at4, at3, at2, at1, at0, ix1, ix2, ix3, fI, fB, cmpF, eqF, scalT, flatT, eqT, lenF, hi, a1, p1, absF, hg, addF, putR]
      · refine ⟨0, (x * 47303 + n % 1000211 * 733 + 59) % 2147483579, .fz (.int n), ?_, by omega, Int.emod_nonneg _ (by decide), Int.lt_trans (Int.emod_lt_of_pos _ (by decide)) (by decide)⟩
        unfold bag
        simp [evSs, evS, evE, evDs, Res.bind, ofR, R.opd, opR, ders, der, opF, op2, op1, O.frz, idxF, esc, at4, at3, at2, at1, at0, ix1, ix2, ix3, fI, fB, cmpF, eqF, scalT, flatT, eqT, lenF, hi, a1, p1, absF, hg, addF, intF, m2, m3, q1, q2, putR]
    obtain ⟨r', x', s2, e, g1, g2, g3⟩ := e
    exact e ▸ key g1 g2 g3
  · have e : evSs cal L (.cons (.ife (.an (.op .eq (.cons (.op .idx (.cons (.var 0) (.cons (.c (.int 2)) .nil))) (.cons (.c (.int 0)) .nil))) (.op .lt (.cons (.op .idx (.cons (.var 0) (.cons (.c (.int 1)) .nil))) (.cons (.op .len (.cons (.op .idx (.cons (.var 0) (.cons (.c (.int 0)) .nil))) .nil)) .nil)))) (.cons (.set 2 (.op .idx (.cons (.op .idx (.cons (.var 0) (.cons (.c (.int 0)) .nil))) (.cons (.op .idx (.cons (.var 0) (.cons (.c (.int 1)) .nil))) .nil))))
  (.cons (.sto 0 (.c (.int 1)) (.op .add (.cons (.op .idx (.cons (.var 0) (.cons (.c (.int 1)) .nil))) (.cons (.c (.int 1)) .nil))))
  (.cons (.ife (.op .ge (.cons (.op .abs (.cons (.var 2) .nil)) (.cons (.op .pow (.cons (.c (.int 10)) (.cons (.c (.int 18)) .nil))) .nil))) (.cons (.sto 0 (.c (.int 2)) (.op .abs (.cons (.var 2) .nil)))
  .nil) (.cons (.sto 0 (.c (.int 3)) (.op .mod (.cons (.op .int (.cons (.op .add (.cons (.op .add (.cons (.op .mul (.cons (.op .idx (.cons (.var 0) (.cons (.c (.int 3)) .nil))) (.cons (.c (.int 47303)) .nil))) (.cons (.op .mul (.cons (.op .mod (.cons (.op .int (.cons (.var 2) .nil)) (.cons (.c (.int 1000211)) .nil))) (.cons (.c (.int 733)) .nil))) .nil))) (.cons (.c (.int 59)) .nil))) .nil)) (.cons (.c (.int 2147483579)) .nil))))
  .nil))
  .nil))) .nil) takeTail) [bag ns i r x (c + 1), .fz (.int many), .no, .no, .no] = evSs cal L takeTail [bag ns i r x (c + 1), .fz (.int many), .no, .no, .no] := by
      unfold bag
      by_cases h0 : r = 0
      · have : ¬ i < ns.length := fun z => hb ⟨h0, z⟩
        simp [evSs, evS, evE, evDs, Res.bind, ofR, R.opd, opR, ders, der, opF, op2, op1, O.frz, idxF, esc, at2, at1, at0, fI, fB, cmpF, eqF, scalT, flatT, eqT, lenF, h0, this]
      · have : (r == 0) = false := by simpa using h0
        simp [evSs, evS, evE, evDs, Res.bind, ofR, R.opd, opR, ders, der, opF, op2, op1, O.frz, idxF, esc, at2, at1, at0, fI, fB, cmpF, eqF, scalT, flatT, eqT, lenF, this]
    exact e ▸ key r0 x0 x1
/-! ### a call, by its body's run -/
theorem run_rt {Γ : List Def} {L k f : Nat} {d : Def} {args m : List Slot} {r : R} (hf : Γ[f]? = some d) (hl : args.length = d.np) (hr : ∀ i, r ≠ .bo i) (h : evSs (callF Γ L k) L d.body (args ++ List.replicate (d.ns - d.np) .no) = .rt r m) : callF Γ L (k + 1) f args = .ok r (outsM d.io m) := by
  unfold callF
  rw [hf]
  show runD _ _ d _ = _
  unfold runD
  rw [if_pos hl, h]
  cases r with
  | fz t => rfl
  | ow o => rfl
  | bo i => exact absurd rfl (hr i)
theorem run_fz {Γ : List Def} {L k f : Nat} {d : Def} {args m : List Slot} {t : T} (hf : Γ[f]? = some d) (hl : args.length = d.np) (h : evSs (callF Γ L k) L d.body (args ++ List.replicate (d.ns - d.np) .no) = .rt (.fz t) m) : callF Γ L (k + 1) f args = .ok (.fz t) (outsM d.io m) := run_rt hf hl (fun _ z => nomatch z) h
theorem run_ow {Γ : List Def} {L k f : Nat} {d : Def} {args m : List Slot} {o : O} (hf : Γ[f]? = some d) (hl : args.length = d.np) (h : evSs (callF Γ L k) L d.body (args ++ List.replicate (d.ns - d.np) .no) = .rt (.ow o) m) : callF Γ L (k + 1) f args = .ok (.ow o) (outsM d.io m) := run_rt hf hl (fun _ z => nomatch z) h
theorem take_ok {Γ : List Def} {L k f : Nat} (hf : Γ[f]? = some dTake) {s : Slot} {c : Nat} {many : Int} (B : Bag c s) (hc : c < 2 ^ 40) (hm : 0 < many) (hm2 : many < 2 ^ 64) :
    ∃ d s', callF Γ L (k + 1) f [s, .fz (.int many)] = .ok (.fz (.int d)) [s', .no] ∧ 0 ≤ d ∧ d < many ∧ Bag (c + 1) s' := by
  obtain ⟨ns, i, r, x, rfl, B⟩ := B
  obtain ⟨d, s', m, e, h0, h1, h2⟩ := take_body (cal := callF Γ L k) (L := L) B hc hm hm2
  refine ⟨d, s', ?_, h0, h1, h2⟩
  rw [run_fz (args := [bag ns i r x c, .fz (.int many)]) hf rfl e]
  cases m <;> rfl
theorem Bag.ow {c : Nat} {s : Slot} (B : Bag c s) : ∃ o, s = .ow o := by
  obtain ⟨ns, i, r, x, rfl, _⟩ := B
  exact ⟨_, rfl⟩
theorem of_ok {Γ : List Def} {L k f t : Nat} (hf : Γ[f]? = some (dOf t)) (ht : Γ[t]? = some dTake) {s : Slot} {c n : Nat} {xs : T} (B : Bag c s) (hc : c < 2 ^ 40) (hx : lenF xs = fI n) (h0 : 0 < n) (h1 : n < 2 ^ 63) (hi : ∀ d : Nat, d < n → ∃ y, idxF xs (.int d) = some (.fz y)) :
    ∃ d y s', callF Γ L (k + 2) f [s, .fz xs] = .ok (.fz y) [s', .no] ∧ d < n ∧ idxF xs (.int (d : Nat)) = some (.fz y) ∧ Bag (c + 1) s' := by
  obtain ⟨d, s', e, g0, g1, B'⟩ := take_ok (Γ := Γ) (L := L) (k := k) ht B hc (show (0 : Int) < n by omega) (by omega)
  obtain ⟨d', rfl⟩ := Int.eq_ofNat_of_zero_le g0
  obtain ⟨y, hy⟩ := hi d' (by omega)
  refine ⟨d', y, s', ?_, by omega, hy, B'⟩
  obtain ⟨o, rfl⟩ := B.ow
  have hb : evSs (callF Γ L (k + 1)) L (dOf t).body ([.ow o, .fz xs] ++ List.replicate ((dOf t).ns - (dOf t).np) .no) = .rt (.fz y) [s', .fz xs] := by
    have hy' : idxF xs (.int (d' : Int)) = some (.fz y) := hy
    have e' : callF Γ L (k + 1) t [.ow o, .fz (.int (n : Int))] = .ok (.fz (.int (d' : Int))) [s', .no] := e
    unfold dOf
    simp [evSs, evS, evE, evDs, Res.bind, ofR, R.opd, opR, ders, der, opF, op2, op1, O.frz, esc, callR, pass, back, hx, fI, e', hy', outR]
  rw [run_fz (args := [.ow o, .fz xs]) hf rfl hb]
  rfl
/-! ### the bag's making -/
def bagMix (x n : Int) : Int := (x * 46337 + n % 1000211 * 919 + 41) % 2147483563
theorem bag_loop {cal : Nat → List Slot → CRes} {L : Nat} {s0 : Slot} : ∀ (ns : List Int) (x : Int) (s2 : Slot), 0 ≤ x → x < 2147483647 → ∃ x' s2', forGo (.nm 2) (fun m => evSs cal L bagB m) (ns.map T.int) [s0, .fz (.int x), s2] = .nx [s0, .fz (.int x'), s2'] ∧ 0 ≤ x' ∧ x' < 2147483647
  | [], x, s2, h0, h1 => ⟨x, s2, rfl, h0, h1⟩
  | n :: ns, x, s2, h0, h1 => by
    have n0 : 0 ≤ n % 1000211 := Int.emod_nonneg _ (by decide)
    have n1 : n % 1000211 < 1000211 := Int.emod_lt_of_pos _ (by decide)
    have b400 : (2 : Nat) ^ 64 < 2 ^ 200 := by decide
    have q1 : mulF (.int x) (.int 46337) = fI (x * 46337) := mulF_ok (by omega) (by decide)
    have q2 : mulF (.int (n % 1000211)) (.int 919) = fI (n % 1000211 * 919) := mulF_ok (by omega) (by decide)
    have m2 : ∀ y : Int, modF (.int y) (.int 2147483563) = fI (y % 2147483563) := fun y => rfl
    have m3 : ∀ y : Int, modF (.int y) (.int 1000211) = fI (y % 1000211) := fun y => rfl
    obtain ⟨x', s2', e, g0, g1⟩ := bag_loop (cal := cal) (L := L) (s0 := s0) ns ((x * 46337 + n % 1000211 * 919 + 41) % 2147483563) (.fz (.int n)) (Int.emod_nonneg _ (by decide)) (Int.lt_trans (Int.emod_lt_of_pos _ (by decide)) (by decide))
    refine ⟨x', s2', ?_, g0, g1⟩
    rw [List.map_cons]
    unfold forGo
    rw [← e]
    simp [bagB, bindP, evSs, evS, evE, evDs, Res.bind, ofR, R.opd, opR, ders, der, opF, op2, op1, fI, intF, addF, q1, q2, m2, m3, putR]
theorem bag_ok {Γ : List Def} {L k f : Nat} (hf : Γ[f]? = some dBag) {ns : List Int} : ∃ s, callF Γ L (k + 1) f [.fz (.scr ns)] = .ok (.ow s) [.no] ∧ Bag 0 (.ow s) := by
  obtain ⟨x', s2', e, g0, g1⟩ := bag_loop (cal := callF Γ L k) (L := L) (s0 := .fz (.scr ns)) (cutI ns none (some 63)) 12006 .no (by decide) (by decide)
  have hb : evSs (callF Γ L k) L dBag.body ([.fz (.scr ns)] ++ List.replicate (dBag.ns - dBag.np) .no) = .rt (.ow (.lst [.lst ((cutI ns none (some 63)).map .int), .int 0, .int 0, .int x', .int 0])) [.fz (.scr ns), .fz (.int x'), s2'] := by
    have sl : (5 : Nat) ≤ sizeLine := by decide
    unfold dBag
    simp [evSs, evS, evSrc, evE, evDs, Res.bind, ofR, R.opd, opR, ders, der, opF, op2, op1, intO, slF, esc, escs, O.frz, itemsT, putR, e, listF, outR, sl]
  exact ⟨_, run_ow (args := [.fz (.scr ns)]) hf rfl hb, _, 0, 0, x', rfl, Int.le_refl _, g0, g1⟩
end Mi
set_option maxHeartbeats 4000000
namespace Mi
open PySem PySem.Spec PyProof.Rows L2

/-! ### equal, of the same kinds -/
def sameK (f : Nat) : E := (.call f [false, false] (.cons (.op .idx (.cons (.var 0) (.cons (.var 2) .nil))) (.cons (.op .idx (.cons (.var 1) (.cons (.var 2) .nil))) .nil)))
def sameE (f : Nat) : E := (.call f [false, false] (.cons (.var 3) (.cons (.var 4) .nil)))
def same0 (f : Nat) : S := (.ife (.or (.op .isn (.cons (.var 1) (.cons (.c .non) .nil))) (.op .isn (.cons (.var 0) (.cons (.c .non) .nil)))) (.cons (.ret (.an (.op .isn (.cons (.var 1) (.cons (.c .non) .nil))) (.op .isn (.cons (.var 0) (.cons (.c .non) .nil)))))
  .nil) .nil)
def same1 (f : Nat) : S := (.ife (.op (.isi1 .dict) (.cons (.var 1) .nil)) (.cons (.ife (.or (.nt (.op (.isi1 .dict) (.cons (.var 0) .nil))) (.op .ne (.cons (.op .list (.cons (.var 0) .nil)) (.cons (.op .list (.cons (.var 1) .nil)) .nil)))) (.cons (.ret (.c (.bl false)))
  .nil) .nil)
  (.cons (.ret (.op .all (.cons (.comp [2] (.nm 2) (.it (.var 1)) .nil (sameK f)) .nil)))
  .nil)) .nil)
def same2 (f : Nat) : S := (.ife (.op (.isi [.list, .tuple]) (.cons (.var 1) .nil)) (.cons (.ife (.op .ne (.cons (.op (.isi1 .list) (.cons (.var 0) .nil)) (.cons (.op (.isi1 .list) (.cons (.var 1) .nil)) .nil))) (.cons (.ret (.c (.bl false)))
  .nil) .nil)
  (.cons (.ife (.or (.op .ne (.cons (.op (.isi1 .tuple) (.cons (.var 0) .nil)) (.cons (.op (.isi1 .tuple) (.cons (.var 1) .nil)) .nil))) (.op .ne (.cons (.op .len (.cons (.var 0) .nil)) (.cons (.op .len (.cons (.var 1) .nil)) .nil)))) (.cons (.ret (.c (.bl false)))
  .nil) .nil)
  (.cons (.ret (.op .all (.cons (.comp [3, 4] (.tup (.cons (.nm 3) (.cons (.nm 4) .nil))) (.zip (.var 0) (.var 1)) .nil (sameE f)) .nil)))
  .nil))) .nil)
def same3 (f : Nat) : S := (.ife (.op (.isi [.list, .tuple, .dict]) (.cons (.var 0) .nil)) (.cons (.ret (.c (.bl false)))
  .nil) .nil)
def same4 (f : Nat) : S := (.ife (.op .ne (.cons (.op (.isi1 .bool) (.cons (.var 0) .nil)) (.cons (.op (.isi1 .bool) (.cons (.var 1) .nil)) .nil))) (.cons (.ret (.c (.bl false)))
  .nil) .nil)
def same5 (f : Nat) : S := (.ife (.op .ne (.cons (.op (.isi1 .int) (.cons (.var 0) .nil)) (.cons (.op (.isi1 .int) (.cons (.var 1) .nil)) .nil))) (.cons (.ret (.c (.bl false)))
  .nil) .nil)
def same6 (f : Nat) : S := (.ret (.an (.op .eq (.cons (.op (.isi1 .str) (.cons (.var 0) .nil)) (.cons (.op (.isi1 .str) (.cons (.var 1) .nil)) .nil))) (.op .eq (.cons (.var 0) (.cons (.var 1) .nil)))))
def dSame (f : Nat) : Def := ⟨2, 5, [false, false],
  (.cons (same0 f) (.cons (same1 f) (.cons (same2 f) (.cons (same3 f) (.cons (same4 f) (.cons (same5 f) (.cons (same6 f) .nil)))))))⟩
theorem seq_nx {cal : Nat → List Slot → CRes} {L : Nat} {s : S} {r : Ss} {m m' : List Slot} (h : evS cal L s m = .nx m') : evSs cal L (.cons s r) m = evSs cal L r m' := by
  rw [evSs, h]
theorem seq_rt {cal : Nat → List Slot → CRes} {L : Nat} {s : S} {r : Ss} {m m' : List Slot} {x : R} (h : evS cal L s m = .rt x m') : evSs cal L (.cons s r) m = .rt x m' := by
  rw [evSs, h]
/-- a comprehension whose turns leave the slots as they are -/
theorem comp_map {own : List Nat} {p : Pt} {cond elt : List Slot → Res R} {m0 : List Slot} (g : T → T) : ∀ (xs acc : List T), (∀ x ∈ xs, ∃ m1 r, bindP (wipeM m0 own) p x = some m1 ∧ cond m1 = .ok (.fz (.bl true)) m1 ∧ elt m1 = .ok r m1 ∧ esc m1 r.opd = some (g x, m1) ∧ wipeM m1 own = m0) → acc.length + xs.length ≤ sizeLine →
    compGo own p cond elt xs acc m0 = .ok (acc ++ xs.map g) m0
  | [], acc, _, _ => by rw [compGo, List.map_nil, List.append_nil]
  | x :: xs, acc, h, hl => by
    obtain ⟨m1, r, h1, h2, h3, h4, h5⟩ := h x List.mem_cons_self
    simp only [List.length_cons] at hl
    unfold compGo
    simp only [h1, h2, Res.bind, h3, h4, h5]
    rw [if_pos (by omega), comp_map g xs (acc ++ [g x]) (fun y hy => h y (List.mem_cons_of_mem _ hy)) (by simp; omega), List.append_assoc]
    rfl
/-! ### the law's draws, at a slot -/
theorem ev_bag {cal : Nat → List Slot → CRes} {i : Nat} {m : List Slot} {s : Slot} {c : Nat} (h : m[i]? = some s) (B : Bag c s) : evE cal (.var i) m = .ok (.bo i) m := by
  obtain ⟨o, rfl⟩ := B.ow
  rw [evE, h]
theorem ev_take {Γ : List Def} {L k f i c0 c : Nat} (hf : Γ[f]? = some dTake) {m m1 : List Slot} {s0 s : Slot} {e : E} {many : Int} (h0 : m[i]? = some s0) (B0 : Bag c0 s0) (he : evE (callF Γ L (k + 1)) e m = .ok (.fz (.int many)) m1) (h1 : m1[i]? = some s) (B : Bag c s) (hc : c < 2 ^ 40) (hm : 0 < many) (hm2 : many < 2 ^ 64) :
    ∃ d s', evE (callF Γ L (k + 1)) (.call f [true, false] (.cons (.var i) (.cons e .nil))) m = .ok (.fz (.int d)) (m1.set i s') ∧ 0 ≤ d ∧ d < many ∧ Bag (c + 1) s' := by
  obtain ⟨d, s', e1, g0, g1, B'⟩ := take_ok (Γ := Γ) (L := L) (k := k) hf B hc hm hm2
  refine ⟨d, s', ?_, g0, g1, B'⟩
  obtain ⟨o, rfl⟩ := B.ow
  rw [evE, evDs, ev_bag h0 B0]
  simp only [Res.bind]
  rw [evDs, he]
  simp [Res.bind, evDs, R.opd, callR, pass, h1, esc, e1, back, List.set_set]
theorem ev_of {Γ : List Def} {L k f t i c0 c n : Nat} (hf : Γ[f]? = some (dOf t)) (ht : Γ[t]? = some dTake) {m m1 : List Slot} {s0 s : Slot} {e : E} {xs : T} {r : R} (h0 : m[i]? = some s0) (B0 : Bag c0 s0) (he : evE (callF Γ L (k + 2)) e m = .ok r m1) (hr : esc (m1.set i .no) r.opd = some (xs, m1.set i .no)) (h1 : m1[i]? = some s) (B : Bag c s) (hc : c < 2 ^ 40)
    (hx : lenF xs = fI n) (hn : 0 < n) (hn2 : n < 2 ^ 63) (hi : ∀ d : Nat, d < n → ∃ y, idxF xs (.int d) = some (.fz y)) :
    ∃ d y s', evE (callF Γ L (k + 2)) (.call f [true, false] (.cons (.var i) (.cons e .nil))) m = .ok (.fz y) (m1.set i s') ∧ d < n ∧ idxF xs (.int (d : Nat)) = some (.fz y) ∧ Bag (c + 1) s' := by
  obtain ⟨d, y, s', e1, g0, g1, B'⟩ := of_ok (Γ := Γ) (L := L) (k := k) hf ht B hc hx hn hn2 hi
  refine ⟨d, y, s', ?_, g0, g1, B'⟩
  obtain ⟨o, rfl⟩ := B.ow
  rw [evE, evDs, ev_bag h0 B0]
  simp only [Res.bind]
  rw [evDs, he]
  simp only [Res.bind, evDs, callR]
  have hp : pass m1 [true, false] [Opd.b i, r.opd] = some ([.ow o, .fz xs], m1.set i .no) := by
    simp only [pass, h1, hr]
  rw [show (R.bo i).opd = Opd.b i from rfl, hp]
  simp only [e1, back, List.set_set]
theorem idx_lst {xs : List T} {d : Nat} (h : d < xs.length) : ∃ y, idxF (.lst xs) (.int d) = some (.fz y) := by
  refine ⟨xs[d], ?_⟩
  show (atI xs d).map _ = _
  rw [atI_nat (x := xs[d]) rfl (List.getElem?_eq_getElem h)]
  rfl
theorem idx_lst_mem {xs : List T} {d : Nat} {y : T} (hd : d < xs.length) (h : idxF (.lst xs) (.int d) = some (.fz y)) : y ∈ xs := by
  have h : (atI xs (d : Int)).map R.fz = some (.fz y) := h
  rw [atI_nat (x := xs[d]) rfl (List.getElem?_eq_getElem hd)] at h
  cases h
  exact List.getElem_mem hd
/-- a draw out of a list that was just made -/
theorem ev_ofL {Γ : List Def} {L k f t i c0 c : Nat} (hf : Γ[f]? = some (dOf t)) (ht : Γ[t]? = some dTake) {m m1 : List Slot} {s0 s : Slot} {e : E} {xs : List T} (h0 : m[i]? = some s0) (B0 : Bag c0 s0) (he : evE (callF Γ L (k + 2)) e m = .ok (.ow (.lst xs)) m1) (h1 : m1[i]? = some s) (B : Bag c s) (hc : c < 2 ^ 40) (hn : 0 < xs.length) (hn2 : xs.length < 2 ^ 63) :
    ∃ y s', evE (callF Γ L (k + 2)) (.call f [true, false] (.cons (.var i) (.cons e .nil))) m = .ok (.fz y) (m1.set i s') ∧ y ∈ xs ∧ Bag (c + 1) s' := by
  obtain ⟨d, y, s', e1, g0, g1, B'⟩ := ev_of (n := xs.length) (xs := .lst xs) hf ht h0 B0 he rfl h1 B hc rfl hn hn2 fun d hd => idx_lst hd
  exact ⟨y, s', e1, idx_lst_mem g0 g1, B'⟩
/-- displays -/
theorem ds_nil {cal : Nat → List Slot → CRes} {m : List Slot} : evDs cal .nil m = .ok [] m := by rw [evDs]
theorem ds_cons {cal : Nat → List Slot → CRes} {e : E} {r : Es} {m m1 m2 : List Slot} {x : R} {t : T} {ts : List T} (h : evE cal e m = .ok x m1) (hx : x.opd = .t t) (h' : evDs cal r m1 = .ok (ts.map Opd.t) m2) : evDs cal (.cons e r) m = .ok ((t :: ts).map Opd.t) m2 := by
  rw [evDs, h]
  simp only [Res.bind, h', hx, List.map_cons]
theorem escs_t {m : List Slot} : ∀ ts : List T, escs m (ts.map Opd.t) = some (ts, m)
  | [] => rfl
  | t :: ts => by simp only [List.map_cons, escs, esc, escs_t ts]
theorem ev_lst {cal : Nat → List Slot → CRes} {es : Es} {m m1 : List Slot} {ts : List T} (h : evDs cal es m = .ok (ts.map Opd.t) m1) (hl : ts.length ≤ sizeLine) : evE cal (.lst es) m = .ok (.ow (.lst ts)) m1 := by
  rw [evE, h]
  simp only [Res.bind, escs_t, if_pos hl]
theorem ev_tup {cal : Nat → List Slot → CRes} {es : Es} {m m1 : List Slot} {ts : List T} (h : evDs cal es m = .ok (ts.map Opd.t) m1) (hl : ts.length ≤ sizeLine) : evE cal (.tup es) m = .ok (.fz (.tup ts)) m1 := by
  rw [evE, h]
  simp only [Res.bind, escs_t, if_pos hl]
theorem ev_pair {cal : Nat → List Slot → CRes} {a b : E} {m m1 m2 : List Slot} {x y : R} {t u : T} (h : evE cal a m = .ok x m1) (hx : x.opd = .t t) (h' : evE cal b m1 = .ok y m2) (hy : y.opd = .t u) : evE cal (.tup (.cons a (.cons b .nil))) m = .ok (.fz (.tup [t, u])) m2 :=
  ev_tup (ts := [t, u]) (ds_cons h hx (ds_cons (ts := []) h' hy ds_nil)) (show 2 ≤ sizeLine by decide)
theorem src_rng1 {cal : Nat → List Slot → CRes} {e : E} {m m1 : List Slot} {j : Int} (h : evE cal e m = .ok (.fz (.int j)) m1) (hw : wideI j = true) : evSrc cal (.rng1 e) m = .ok (Mi.rangeT 0 j) m1 := by
  rw [evSrc, h]
  simp only [Res.bind, R.opd, der, hw, if_true]
theorem src_it {cal : Nat → List Slot → CRes} {e : E} {m m1 m2 : List Slot} {r : R} {t : T} {xs : List T} (h : evE cal e m = .ok r m1) (he : esc m1 r.opd = some (t, m2)) (hi : itemsT t = some xs) : evSrc cal (.it e) m = .ok xs m2 := by
  rw [evSrc, h]
  simp only [Res.bind, he, hi]
theorem ev_comp {cal : Nat → List Slot → CRes} {own : List Nat} {p : Pt} {s : Src} {cs : Es} {e : E} {m m1 m2 : List Slot} {xs acc : List T} (h : evSrc cal s m = .ok xs m1) (hn : noOw m1 own = true) (hc : compGo own p (fun m => evAll cal cs m) (fun m => evE cal e m) xs [] (wipeM m1 own) = .ok acc m2) :
    evE cal (.comp own p s cs e) m = .ok (.ow (.lst acc)) (restM m1 m2 own) := by
  rw [evE, h]
  simp only [Res.bind, if_pos hn, hc, Res.calm]
/-! own calls -/
theorem ev_call1 {cal : Nat → List Slot → CRes} {f : Nat} {a : E} {m m1 : List Slot} {r : R} {t u : T} {o : Slot} (h : evE cal a m = .ok r m1) (hr : r.opd = .t t) (hc : cal f [.fz t] = .ok (.fz u) [o]) : evE cal (.call f [false] (.cons a .nil)) m = .ok (.fz u) m1 := by
  rw [evE, evDs, h]
  simp [Res.bind, evDs, hr, callR, pass, esc, hc, back]
theorem ev_call2 {cal : Nat → List Slot → CRes} {f : Nat} {a b : E} {m m1 m2 : List Slot} {r r' : R} {t t' u : T} {o o' : Slot} (h : evE cal a m = .ok r m1) (hr : r.opd = .t t) (h' : evE cal b m1 = .ok r' m2) (hr' : r'.opd = .t t') (hc : cal f [.fz t, .fz t'] = .ok (.fz u) [o, o']) : evE cal (.call f [false, false] (.cons a (.cons b .nil))) m = .ok (.fz u) m2 := by
  rw [evE, evDs, h]
  simp only [Res.bind]
  rw [evDs, h']
  simp [Res.bind, evDs, hr, hr', callR, pass, esc, hc, back]
theorem ev_call3 {cal : Nat → List Slot → CRes} {f : Nat} {a b d : E} {m m1 m2 m3 : List Slot} {r r' r2 : R} {t t' t2 u : T} {o o' o2 : Slot} (h : evE cal a m = .ok r m1) (hr : r.opd = .t t) (h' : evE cal b m1 = .ok r' m2) (hr' : r'.opd = .t t') (h2 : evE cal d m2 = .ok r2 m3) (hr2 : r2.opd = .t t2) (hc : cal f [.fz t, .fz t', .fz t2] = .ok (.fz u) [o, o', o2]) :
    evE cal (.call f [false, false, false] (.cons a (.cons b (.cons d .nil)))) m = .ok (.fz u) m3 := by
  rw [evE, evDs, h]
  simp only [Res.bind]
  rw [evDs, h']
  simp only [Res.bind]
  rw [evDs, h2]
  simp [Res.bind, evDs, hr, hr', hr2, callR, pass, esc, hc, back]
/-- flat values, compared -/
def sameT : T → T → Bool
  | .non, .non => true
  | .bl a, .bl b => a == b
  | .int a, .int b => a == b
  | .str a, .str b => a == b
  | _, _ => false
theorem same_flat {Γ : List Def} {L k f s : Nat} (hf : Γ[f]? = some (dSame s)) {x y : T} (hx : flatT x = true) (hy : flatT y = true) : callF Γ L (k + 1) f [.fz x, .fz y] = .ok (.fz (.bl (sameT x y))) [.no, .no] := by
  have hb : ∃ m, evSs (callF Γ L k) L (dSame s).body ([.fz x, .fz y] ++ List.replicate ((dSame s).ns - (dSame s).np) .no) = .rt (.fz (.bl (sameT x y))) m := by
    cases x <;> first | (cases hx; done) | skip
    all_goals (cases y <;> first | (cases hy; done) | skip)
    all_goals exact ⟨_, rfl⟩
  obtain ⟨m, hb⟩ := hb
  rw [run_fz (args := [.fz x, .fz y]) hf rfl hb]
  rcases m with _ | ⟨a, _ | ⟨b, m⟩⟩ <;> rfl
theorem ev_an1 {cal : Nat → List Slot → CRes} {a b : E} {m m1 : List Slot} (h : evE cal a m = .ok (.fz (.bl true)) m1) : evE cal (.an a b) m = evE cal b m1 := by rw [evE, h]; rfl
theorem ev_an0 {cal : Nat → List Slot → CRes} {a b : E} {m m1 : List Slot} (h : evE cal a m = .ok (.fz (.bl false)) m1) : evE cal (.an a b) m = .ok (.fz (.bl false)) m1 := by rw [evE, h]; rfl
theorem ev_or1 {cal : Nat → List Slot → CRes} {a b : E} {m m1 : List Slot} (h : evE cal a m = .ok (.fz (.bl true)) m1) : evE cal (.or a b) m = .ok (.fz (.bl true)) m1 := by rw [evE, h]; rfl
theorem ev_or0 {cal : Nat → List Slot → CRes} {a b : E} {m m1 : List Slot} (h : evE cal a m = .ok (.fz (.bl false)) m1) : evE cal (.or a b) m = evE cal b m1 := by rw [evE, h]; rfl
theorem ev_nt {cal : Nat → List Slot → CRes} {a : E} {m m1 : List Slot} {b : Bool} (h : evE cal a m = .ok (.fz (.bl b)) m1) : evE cal (.nt a) m = .ok (.fz (.bl (!b))) m1 := by rw [evE, h]; rfl
theorem ev_op1 {cal : Nat → List Slot → CRes} {f : Op} {a : E} {m m1 : List Slot} {t : T} {r : R} (h : evE cal a m = .ok (.fz t) m1) (hr : opF f [t] = some r) : evE cal (.op f (.cons a .nil)) m = .ok r m1 := by
  rw [evE, evDs, h]; simp [Res.bind, evDs, opR, ders, der, R.opd, hr]
theorem ev_op2 {cal : Nat → List Slot → CRes} {f : Op} {a b : E} {m m1 m2 : List Slot} {t u : T} {r : R} (h : evE cal a m = .ok (.fz t) m1) (h' : evE cal b m1 = .ok (.fz u) m2) (hr : opF f [t, u] = some r) : evE cal (.op f (.cons a (.cons b .nil))) m = .ok r m2 := by
  rw [evE, evDs, h]
  simp only [Res.bind]
  rw [evDs, h']
  simp [Res.bind, evDs, opR, ders, der, R.opd, hr]
theorem ev_var {cal : Nat → List Slot → CRes} {i : Nat} {m : List Slot} {t : T} (h : m[i]? = some (.fz t)) : evE cal (.var i) m = .ok (.fz t) m := by rw [evE, h]
theorem ev_c {cal : Nat → List Slot → CRes} {m : List Slot} {t : T} : evE cal (.c t) m = .ok (.fz t) m := by rw [evE]
theorem st_ret_fz {cal : Nat → List Slot → CRes} {L : Nat} {e : E} {m m1 : List Slot} {t : T} (h : evE cal e m = .ok (.fz t) m1) : evS cal L (.ret e) m = .rt (.fz t) m1 := by rw [evS, h]; rfl
theorem st_if1 {cal : Nat → List Slot → CRes} {L : Nat} {c : E} {a b : Ss} {m m1 : List Slot} (h : evE cal c m = .ok (.fz (.bl true)) m1) : evS cal L (.ife c a b) m = evSs cal L a m1 := by rw [evS, h]; rfl
theorem st_if0 {cal : Nat → List Slot → CRes} {L : Nat} {c : E} {a b : Ss} {m m1 : List Slot} (h : evE cal c m = .ok (.fz (.bl false)) m1) : evS cal L (.ife c a b) m = evSs cal L b m1 := by rw [evS, h]; rfl
theorem st_set_fz {cal : Nat → List Slot → CRes} {L : Nat} {i : Nat} {e : E} {m m1 : List Slot} {t : T} (h : evE cal e m = .ok (.fz t) m1) (hi : i < m1.length) : evS cal L (.set i e) m = .nx (m1.set i (.fz t)) := by rw [evS, h]; exact if_pos hi
theorem st_set_ow {cal : Nat → List Slot → CRes} {L : Nat} {i : Nat} {e : E} {m m1 : List Slot} {o : O} (h : evE cal e m = .ok (.ow o) m1) (hi : i < m1.length) : evS cal L (.set i e) m = .nx (m1.set i (.ow o)) := by rw [evS, h]; exact if_pos hi
/-- lists of flat values, compared -/
theorem same_list {Γ : List Def} {L k f s : Nat} (hf : Γ[f]? = some (dSame s)) (hs : Γ[s]? = some (dSame s)) {xs ys : List T} (hx : xs.all flatT = true) (hy : ys.all flatT = true) (hl : xs.length = ys.length) (hz : xs.length ≤ sizeLine) :
    callF Γ L (k + 2) f [.fz (.lst xs), .fz (.lst ys)] = .ok (.fz (.bl ((xs.zip ys).all fun p => sameT p.1 p.2))) [.no, .no] := by
  let g : T → T := fun z => match z with
    | .tup [a, b] => .bl (sameT a b)
    | z => z
  have hg : (zipT xs ys).map g = ((xs.zip ys).map fun p => T.bl (sameT p.1 p.2)) := by
    clear hz hx hy
    induction xs generalizing ys with
    | nil => simp [zipT]
    | cons x xs ih =>
      cases ys with
      | nil => simp [zipT]
      | cons y ys => simp only [zipT, List.map_cons, List.zip_cons_cons, ih (by simpa using hl)]; rfl
  have hlen : (zipT xs ys).length ≤ sizeLine := by
    have := congrArg List.length hg
    rw [List.length_map, List.length_map, List.length_zip] at this
    omega
  have hmem : ∀ z ∈ zipT xs ys, ∃ a b, z = .tup [a, b] ∧ flatT a = true ∧ flatT b = true := by
    clear hg hlen hz
    induction xs generalizing ys with
    | nil => simp [zipT]
    | cons x xs ih =>
      cases ys with
      | nil => simp [zipT]
      | cons y ys =>
        intro z hz
        simp only [List.all_cons, Bool.and_eq_true] at hx hy
        simp only [zipT, List.mem_cons] at hz
        rcases hz with rfl | hz
        · exact ⟨x, y, rfl, hx.1, hy.1⟩
        · exact ih hx.2 hy.2 (by simpa using hl) z hz
  have hc := comp_map (own := [3, 4]) (p := .tup (.cons (.nm 3) (.cons (.nm 4) .nil))) (cond := fun m => evAll (callF Γ L (k + 1)) .nil m) (elt := fun m => evE (callF Γ L (k + 1)) (sameE s) m) (m0 := [.fz (.lst xs), .fz (.lst ys), .no, .no, .no]) g (zipT xs ys) [] (fun z hz => by
    obtain ⟨a, b, rfl, ha, hb⟩ := hmem z hz
    refine ⟨[.fz (.lst xs), .fz (.lst ys), .no, .fz a, .fz b], .fz (.bl (sameT a b)), by simp [bindP, bindPs, wipeM], by rw [evAll], ?_, rfl, by simp [wipeM]⟩
    simp [sameE, evE, evDs, Res.bind, R.opd, callR, pass, esc, back, same_flat (k := k) hs ha hb]) (by simpa using hlen)
  rw [List.nil_append, hg] at hc
  have hb2 : bools ((xs.zip ys).map fun p => T.bl (sameT p.1 p.2)) = some ((xs.zip ys).map fun p => sameT p.1 p.2) := by
    generalize xs.zip ys = l
    induction l with
    | nil => rfl
    | cons p l ih => simp only [List.map_cons, bools, ih, Option.map_some]
  have hb : ∃ m, evSs (callF Γ L (k + 1)) L (dSame s).body ([.fz (.lst xs), .fz (.lst ys)] ++ List.replicate ((dSame s).ns - (dSame s).np) .no) = .rt (.fz (.bl ((xs.zip ys).all fun p => sameT p.1 p.2))) m := by
    refine ⟨[.fz (.lst xs), .fz (.lst ys), .no, .no, .no], ?_⟩
    unfold dSame same0 same1 same2 same3 same4 same5 same6
    simp [evSs, evS, evE, evDs, evSrc, Res.bind, ofR, R.opd, opR, ders, der, opF, op2, op1, O.frz, esc, escs, isnF, isNon, fB, isi1F, isiF, Ty.has, eqF, scalT, flatT, eqT, lenF, fI, hl, loT, noOw, wipeM, hc, Res.calm, restM, allF, hb2, outR, List.all_map]
  obtain ⟨m, hb⟩ := hb
  rw [run_fz (args := [.fz (.lst xs), .fz (.lst ys)]) hf rfl hb]
  rcases m with _ | ⟨a, _ | ⟨b, m⟩⟩ <;> rfl
end Mi
set_option maxHeartbeats 0
namespace K02
open PySem PySem.Spec PyProof.Rows L2 Mi
def top (i : Nat) : Stmt := PySem.Challenge.pw_loneround_k02_names_and_numerals.main.body.getD i (.Pass ⟨0, 0, 0, 0⟩)
abbrev s0 : Stmt := top 6
abbrev n0 : List PySem.Str := ["value"]
abbrev p0 : List PySem.Str := ["value"]
def t0_0 : S := (.ret (.an (.op (.isi1 .int) (.cons (.var 0) .nil)) (.nt (.op (.isi1 .bool) (.cons (.var 0) .nil)))))
def d0 : Def := ⟨1, 1, [false],
  (.cons t0_0 .nil)⟩
abbrev s1 : Stmt := top 7
abbrev n1 : List PySem.Str := ["value", "least", "most"]
abbrev p1 : List PySem.Str := ["value", "least", "most"]
def t1_0 : S := (.ret (.an (.call 0 [false] (.cons (.var 0) .nil)) (.ch .le .le (.var 1) (.var 0) (.var 2))))
def d1 : Def := ⟨3, 3, [false, false, false],
  (.cons t1_0 .nil)⟩
abbrev s2 : Stmt := top 8
abbrev n2 : List PySem.Str := ["value", "letter"]
abbrev p2 : List PySem.Str := ["value"]
def e2_0 : E := (.op .isin (.cons (.var 1) (.cons (.c (.str "abcdefghijklmnopqrstuvwxyz")) .nil)))
def t2_0 : S := (.ife (.or (.nt (.op (.isi1 .str) (.cons (.var 0) .nil))) (.or (.nt (.ch .le .le (.c (.int 1)) (.op .len (.cons (.var 0) .nil)) (.c (.int 6)))) (.op .isin (.cons (.var 0) (.cons (.c (.tup [(.str "and"), (.str "or"), (.str "not"), (.str "of"), (.str "let"), (.str "none"), (.str "odd"), (.str "open"), (.str "phase"), (.str "round"), (.str "self")])) .nil))))) (.cons (.ret (.c (.bl false)))
  .nil) .nil)
def t2_1 : S := (.ret (.op .all (.cons (.comp [1] (.nm 1) (.it (.var 0)) .nil e2_0) .nil)))
def d2 : Def := ⟨1, 2, [false],
  (.cons t2_0 (.cons t2_1 .nil))⟩
abbrev s3 : Stmt := top 9
abbrev n3 : List PySem.Str := ["value", "digit"]
abbrev p3 : List PySem.Str := ["value"]
def e3_0 : E := (.op .isin (.cons (.var 1) (.cons (.c (.str "0123456789")) .nil)))
def t3_0 : S := (.ife (.or (.nt (.op (.isi1 .str) (.cons (.var 0) .nil))) (.nt (.ch .le .le (.c (.int 1)) (.op .len (.cons (.var 0) .nil)) (.c (.int 18))))) (.cons (.ret (.c (.bl false)))
  .nil) .nil)
def t3_1 : S := (.ret (.an (.op .all (.cons (.comp [1] (.nm 1) (.it (.var 0)) .nil e3_0) .nil)) (.or (.op .eq (.cons (.var 0) (.cons (.c (.str "0")) .nil))) (.op .ne (.cons (.op .idx (.cons (.var 0) (.cons (.c (.int 0)) .nil))) (.cons (.c (.str "0")) .nil))))))
def d3 : Def := ⟨1, 2, [false],
  (.cons t3_0 (.cons t3_1 .nil))⟩
abbrev s4 : Stmt := top 11
abbrev n4 : List PySem.Str := ["_law_script", "_law_mixed", "_law_cell"]
abbrev p4 : List PySem.Str := ["_law_script"]
def l4_0 : Ss := (.cons (.set 1 (.op .mod (.cons (.op .int (.cons (.op .add (.cons (.op .add (.cons (.op .mul (.cons (.var 1) (.cons (.c (.int 46337)) .nil))) (.cons (.op .mul (.cons (.op .mod (.cons (.op .int (.cons (.var 2) .nil)) (.cons (.c (.int 1000211)) .nil))) (.cons (.c (.int 919)) .nil))) .nil))) (.cons (.c (.int 41)) .nil))) .nil)) (.cons (.c (.int 2147483563)) .nil))))
  .nil)
def t4_0 : S := (.set 1 (.c (.int 12006)))
def t4_1 : S := (.fr (.nm 2) (.it (.op (.sl false true) (.cons (.var 0) (.cons (.c (.int 63)) .nil)))) l4_0)
def t4_2 : S := (.ret (.lst (.cons (.op .list (.cons (.op (.sl false true) (.cons (.var 0) (.cons (.c (.int 63)) .nil))) .nil)) (.cons (.c (.int 0)) (.cons (.c (.int 0)) (.cons (.var 1) (.cons (.c (.int 0)) .nil)))))))
def d4 : Def := ⟨1, 3, [false],
  (.cons t4_0 (.cons t4_1 (.cons t4_2 .nil)))⟩
abbrev s5 : Stmt := top 12
abbrev n5 : List PySem.Str := ["_law_bag_here", "_law_many", "_law_cell", "_law_digit", "_law_twice"]
abbrev p5 : List PySem.Str := ["_law_bag_here", "_law_many"]
def t5_0 : S := (.sto 0 (.c (.int 4)) (.op .add (.cons (.op .idx (.cons (.var 0) (.cons (.c (.int 4)) .nil))) (.cons (.c (.int 1)) .nil))))
def t5_1 : S := (.ife (.an (.op .eq (.cons (.op .idx (.cons (.var 0) (.cons (.c (.int 2)) .nil))) (.cons (.c (.int 0)) .nil))) (.op .lt (.cons (.op .idx (.cons (.var 0) (.cons (.c (.int 1)) .nil))) (.cons (.op .len (.cons (.op .idx (.cons (.var 0) (.cons (.c (.int 0)) .nil))) .nil)) .nil)))) (.cons (.set 2 (.op .idx (.cons (.op .idx (.cons (.var 0) (.cons (.c (.int 0)) .nil))) (.cons (.op .idx (.cons (.var 0) (.cons (.c (.int 1)) .nil))) .nil))))
  (.cons (.sto 0 (.c (.int 1)) (.op .add (.cons (.op .idx (.cons (.var 0) (.cons (.c (.int 1)) .nil))) (.cons (.c (.int 1)) .nil))))
  (.cons (.ife (.op .ge (.cons (.op .abs (.cons (.var 2) .nil)) (.cons (.op .pow (.cons (.c (.int 10)) (.cons (.c (.int 18)) .nil))) .nil))) (.cons (.sto 0 (.c (.int 2)) (.op .abs (.cons (.var 2) .nil)))
  .nil) (.cons (.sto 0 (.c (.int 3)) (.op .mod (.cons (.op .int (.cons (.op .add (.cons (.op .add (.cons (.op .mul (.cons (.op .idx (.cons (.var 0) (.cons (.c (.int 3)) .nil))) (.cons (.c (.int 47303)) .nil))) (.cons (.op .mul (.cons (.op .mod (.cons (.op .int (.cons (.var 2) .nil)) (.cons (.c (.int 1000211)) .nil))) (.cons (.c (.int 733)) .nil))) .nil))) (.cons (.c (.int 59)) .nil))) .nil)) (.cons (.c (.int 2147483579)) .nil))))
  .nil))
  .nil))) .nil)
def t5_2 : S := (.ife (.op .gt (.cons (.op .idx (.cons (.var 0) (.cons (.c (.int 2)) .nil))) (.cons (.c (.int 0)) .nil))) (.cons (.set 3 (.op .mod (.cons (.op .int (.cons (.op .idx (.cons (.var 0) (.cons (.c (.int 2)) .nil))) .nil)) (.cons (.var 1) .nil))))
  (.cons (.sto 0 (.c (.int 2)) (.op .fdiv (.cons (.op .idx (.cons (.var 0) (.cons (.c (.int 2)) .nil))) (.cons (.var 1) .nil))))
  (.cons (.ret (.var 3))
  .nil))) .nil)
def t5_3 : S := (.set 4 (.op .mod (.cons (.op .int (.cons (.op .add (.cons (.op .mul (.cons (.op .idx (.cons (.var 0) (.cons (.c (.int 3)) .nil))) (.cons (.op .idx (.cons (.var 0) (.cons (.c (.int 3)) .nil))) .nil))) (.cons (.op .mul (.cons (.op .idx (.cons (.var 0) (.cons (.c (.int 4)) .nil))) (.cons (.c (.int 8191)) .nil))) .nil))) .nil)) (.cons (.c (.int 2147483647)) .nil))))
def t5_4 : S := (.sto 0 (.c (.int 3)) (.op .mod (.cons (.op .int (.cons (.op .add (.cons (.op .add (.cons (.op .mul (.cons (.var 4) (.cons (.c (.int 16981)) .nil))) (.cons (.op .mul (.cons (.op .idx (.cons (.var 0) (.cons (.c (.int 3)) .nil))) (.cons (.c (.int 47969)) .nil))) .nil))) (.cons (.c (.int 70019)) .nil))) .nil)) (.cons (.c (.int 2147483579)) .nil))))
def t5_5 : S := (.ret (.op .mod (.cons (.op .int (.cons (.op .fdiv (.cons (.op .idx (.cons (.var 0) (.cons (.c (.int 3)) .nil))) (.cons (.c (.int 67)) .nil))) .nil)) (.cons (.var 1) .nil))))
def d5 : Def := ⟨2, 5, [true, false],
  (.cons t5_0 (.cons t5_1 (.cons t5_2 (.cons t5_3 (.cons t5_4 (.cons t5_5 .nil))))))⟩
abbrev s6 : Stmt := top 13
abbrev n6 : List PySem.Str := ["_law_bag_here", "_law_things"]
abbrev p6 : List PySem.Str := ["_law_bag_here", "_law_things"]
def t6_0 : S := (.ret (.op .idx (.cons (.var 1) (.cons (.call 5 [true, false] (.cons (.var 0) (.cons (.op .len (.cons (.var 1) .nil)) .nil))) .nil))))
def d6 : Def := ⟨2, 2, [true, false],
  (.cons t6_0 .nil)⟩
abbrev s7 : Stmt := top 14
abbrev n7 : List PySem.Str := ["_law_found", "_law_due", "_law_key", "_law_a", "_law_b"]
abbrev p7 : List PySem.Str := ["_law_found", "_law_due"]
def e7_0 : E := (.call 7 [false, false] (.cons (.op .idx (.cons (.var 0) (.cons (.var 2) .nil))) (.cons (.op .idx (.cons (.var 1) (.cons (.var 2) .nil))) .nil)))
def e7_1 : E := (.call 7 [false, false] (.cons (.var 3) (.cons (.var 4) .nil)))
def t7_0 : S := (.ife (.or (.op .isn (.cons (.var 1) (.cons (.c .non) .nil))) (.op .isn (.cons (.var 0) (.cons (.c .non) .nil)))) (.cons (.ret (.an (.op .isn (.cons (.var 1) (.cons (.c .non) .nil))) (.op .isn (.cons (.var 0) (.cons (.c .non) .nil)))))
  .nil) .nil)
def t7_1 : S := (.ife (.op (.isi1 .dict) (.cons (.var 1) .nil)) (.cons (.ife (.or (.nt (.op (.isi1 .dict) (.cons (.var 0) .nil))) (.op .ne (.cons (.op .list (.cons (.var 0) .nil)) (.cons (.op .list (.cons (.var 1) .nil)) .nil)))) (.cons (.ret (.c (.bl false)))
  .nil) .nil)
  (.cons (.ret (.op .all (.cons (.comp [2] (.nm 2) (.it (.var 1)) .nil e7_0) .nil)))
  .nil)) .nil)
def t7_2 : S := (.ife (.op (.isi [.list, .tuple]) (.cons (.var 1) .nil)) (.cons (.ife (.op .ne (.cons (.op (.isi1 .list) (.cons (.var 0) .nil)) (.cons (.op (.isi1 .list) (.cons (.var 1) .nil)) .nil))) (.cons (.ret (.c (.bl false)))
  .nil) .nil)
  (.cons (.ife (.or (.op .ne (.cons (.op (.isi1 .tuple) (.cons (.var 0) .nil)) (.cons (.op (.isi1 .tuple) (.cons (.var 1) .nil)) .nil))) (.op .ne (.cons (.op .len (.cons (.var 0) .nil)) (.cons (.op .len (.cons (.var 1) .nil)) .nil)))) (.cons (.ret (.c (.bl false)))
  .nil) .nil)
  (.cons (.ret (.op .all (.cons (.comp [3, 4] (.tup (.cons (.nm 3) (.cons (.nm 4) .nil))) (.zip (.var 0) (.var 1)) .nil e7_1) .nil)))
  .nil))) .nil)
def t7_3 : S := (.ife (.op (.isi [.list, .tuple, .dict]) (.cons (.var 0) .nil)) (.cons (.ret (.c (.bl false)))
  .nil) .nil)
def t7_4 : S := (.ife (.op .ne (.cons (.op (.isi1 .bool) (.cons (.var 0) .nil)) (.cons (.op (.isi1 .bool) (.cons (.var 1) .nil)) .nil))) (.cons (.ret (.c (.bl false)))
  .nil) .nil)
def t7_5 : S := (.ife (.op .ne (.cons (.op (.isi1 .int) (.cons (.var 0) .nil)) (.cons (.op (.isi1 .int) (.cons (.var 1) .nil)) .nil))) (.cons (.ret (.c (.bl false)))
  .nil) .nil)
def t7_6 : S := (.ret (.an (.op .eq (.cons (.op (.isi1 .str) (.cons (.var 0) .nil)) (.cons (.op (.isi1 .str) (.cons (.var 1) .nil)) .nil))) (.op .eq (.cons (.var 0) (.cons (.var 1) .nil)))))
def d7 : Def := ⟨2, 5, [false, false],
  (.cons t7_0 (.cons t7_1 (.cons t7_2 (.cons t7_3 (.cons t7_4 (.cons t7_5 (.cons t7_6 .nil)))))))⟩
abbrev s8 : Stmt := top 15
abbrev n8 : List PySem.Str := []
abbrev p8 : List PySem.Str := []
def t8_0 : S := (.ret (.lst (.cons (.c (.str "and")) (.cons (.c (.str "or")) (.cons (.c (.str "not")) (.cons (.c (.str "of")) (.cons (.c (.str "let")) (.cons (.c (.str "none")) (.cons (.c (.str "odd")) (.cons (.c (.str "open")) (.cons (.c (.str "phase")) (.cons (.c (.str "round")) (.cons (.c (.str "self")) .nil)))))))))))))
def d8 : Def := ⟨0, 0, [],
  (.cons t8_0 .nil)⟩
abbrev s9 : Stmt := top 16
abbrev n9 : List PySem.Str := ["_law_bag_here", "_law_most_z", "_law_top"]
abbrev p9 : List PySem.Str := ["_law_bag_here", "_law_most_z"]
def t9_0 : S := (.set 2 (.call 6 [true, false] (.cons (.var 0) (.cons (.lst (.cons (.c (.int 1)) (.cons (.c (.int 3)) (.cons (.c (.int 9)) (.cons (.var 1) .nil))))) .nil))))
def t9_1 : S := (.ret (.op .sub (.cons (.call 5 [true, false] (.cons (.var 0) (.cons (.op .add (.cons (.op .mul (.cons (.c (.int 2)) (.cons (.var 2) .nil))) (.cons (.c (.int 1)) .nil))) .nil))) (.cons (.var 2) .nil))))
def d9 : Def := ⟨2, 3, [true, false],
  (.cons t9_0 (.cons t9_1 .nil))⟩
abbrev s10 : Stmt := top 17
abbrev n10 : List PySem.Str := ["_law_bag_here"]
abbrev p10 : List PySem.Str := ["_law_bag_here"]
def t10_0 : S := (.ret (.call 6 [true, false] (.cons (.var 0) (.cons (.lst (.cons (.c .non) (.cons (.c (.bl true)) (.cons (.c (.bl false)) (.cons (.c (.str "1")) (.cons (.c (.str "")) (.cons (.lst (.cons (.c (.int 1)) .nil)) (.cons (.tup (.cons (.c (.int 1)) .nil)) (.cons (.lst (.cons (.c .non) .nil)) (.cons (.c (.str "A b")) .nil)))))))))) .nil))))
def d10 : Def := ⟨1, 1, [true],
  (.cons t10_0 .nil)⟩
abbrev s11 : Stmt := top 18
abbrev n11 : List PySem.Str := ["_law_script", "_law_bag_here", "_law_abc", "_law_word", "_law_k", "_law_at", "_law_bad", "_law_dues", "_law_value_z", "_law_due", "_law_number_here", "_law_text", "_law_spot", "_law_low", "_law_high"]
abbrev p11 : List PySem.Str := ["_law_script"]
def e11_0 : E := (.call 6 [true, false] (.cons (.var 1) (.cons (.var 2) .nil)))
def e11_1 : E := (.call 7 [false, false] (.cons (.call 2 [false] (.cons (.var 8) .nil)) (.cons (.var 9) .nil)))
def e11_2 : E := (.call 7 [false, false] (.cons (.call 3 [false] (.cons (.var 8) .nil)) (.cons (.var 9) .nil)))
def e11_3 : E := (.call 7 [false, false] (.cons (.call 1 [false, false, false] (.cons (.var 8) (.cons (.var 13) (.cons (.var 14) .nil)))) (.cons (.var 9) .nil)))
def t11_0 : S := (.set 1 (.call 4 [false] (.cons (.var 0) .nil)))
def t11_1 : S := (.set 2 (.c (.str "abcdefghijklmnopqrstuvwxyz")))
def t11_2 : S := (.ife (.or (.nt (.call 7 [false, false] (.cons (.op .list (.cons (.c (.tup [(.str "and"), (.str "or"), (.str "not"), (.str "of"), (.str "let"), (.str "none"), (.str "odd"), (.str "open"), (.str "phase"), (.str "round"), (.str "self")])) .nil)) (.cons (.call 8 [] .nil) .nil)))) (.nt (.op (.isi1 .tuple) (.cons (.c (.tup [(.str "and"), (.str "or"), (.str "not"), (.str "of"), (.str "let"), (.str "none"), (.str "odd"), (.str "open"), (.str "phase"), (.str "round"), (.str "self")])) .nil)))) (.cons (.ret (.c (.bl false)))
  .nil) .nil)
def t11_3 : S := (.set 3 (.jn (.c (.str "")) (.comp [4] (.nm 4) (.rng1 (.call 5 [true, false] (.cons (.var 1) (.cons (.c (.int 9)) .nil)))) .nil e11_0)))
def t11_4 : S := (.set 5 (.call 5 [true, false] (.cons (.var 1) (.cons (.op .add (.cons (.op .len (.cons (.var 3) .nil)) (.cons (.c (.int 1)) .nil))) .nil))))
def t11_5 : S := (.set 6 (.call 6 [true, false] (.cons (.var 1) (.cons (.lst (.cons (.c (.str "A")) (.cons (.c (.str " ")) (.cons (.c (.str "0")) (.cons (.c (.str "-")) (.cons (.c (.str "{")) (.cons (.c (.str "`")) (.cons (.c (.str "\n")) (.cons (.c (.str "_")) .nil))))))))) .nil))))
def t11_6 : S := (.set 7 (.lst (.cons (.tup (.cons (.var 3) (.cons (.an (.ch .le .le (.c (.int 1)) (.op .len (.cons (.var 3) .nil)) (.c (.int 6))) (.op .notin (.cons (.var 3) (.cons (.call 8 [] .nil) .nil)))) .nil))) (.cons (.tup (.cons (.op .add (.cons (.op .add (.cons (.op (.sl false true) (.cons (.var 3) (.cons (.var 5) .nil))) (.cons (.var 6) .nil))) (.cons (.op (.sl true false) (.cons (.var 3) (.cons (.var 5) .nil))) .nil))) (.cons (.c (.bl false)) .nil))) (.cons (.tup (.cons (.call 6 [true, false] (.cons (.var 1) (.cons (.call 8 [] .nil) .nil))) (.cons (.c (.bl false)) .nil))) (.cons (.tup (.cons (.c (.str "abcdef")) (.cons (.c (.bl true)) .nil))) (.cons (.tup (.cons (.c (.str "abcdefg")) (.cons (.c (.bl false)) .nil))) (.cons (.tup (.cons (.c (.str "z")) (.cons (.c (.bl true)) .nil))) (.cons (.tup (.cons (.c (.str "")) (.cons (.c (.bl false)) .nil))) (.cons (.tup (.cons (.call 10 [true] (.cons (.var 1) .nil)) (.cons (.c (.bl false)) .nil))) (.cons (.tup (.cons (.lst (.cons (.var 3) .nil)) (.cons (.c (.bl false)) .nil))) (.cons (.tup (.cons (.c (.str "an")) (.cons (.c (.bl true)) .nil))) .nil))))))))))))
def t11_7 : S := (.ife (.nt (.op .all (.cons (.comp [8, 9] (.tup (.cons (.nm 8) (.cons (.nm 9) .nil))) (.it (.var 7)) .nil e11_1) .nil))) (.cons (.ret (.c (.bl false)))
  .nil) .nil)
def t11_8 : S := (.set 10 (.call 5 [true, false] (.cons (.var 1) (.cons (.call 6 [true, false] (.cons (.var 1) (.cons (.lst (.cons (.c (.int 2)) (.cons (.c (.int 10)) (.cons (.op .pow (.cons (.c (.int 10)) (.cons (.c (.int 6)) .nil))) (.cons (.op .pow (.cons (.c (.int 10)) (.cons (.c (.int 18)) .nil))) .nil))))) .nil))) .nil))))
def t11_9 : S := (.set 11 (.op .str (.cons (.var 10) .nil)))
def t11_10 : S := (.set 12 (.call 5 [true, false] (.cons (.var 1) (.cons (.op .add (.cons (.op .len (.cons (.var 11) .nil)) (.cons (.c (.int 1)) .nil))) .nil))))
def t11_11 : S := (.set 7 (.lst (.cons (.tup (.cons (.var 11) (.cons (.c (.bl true)) .nil))) (.cons (.tup (.cons (.op .add (.cons (.c (.str "0")) (.cons (.var 11) .nil))) (.cons (.c (.bl false)) .nil))) (.cons (.tup (.cons (.op .add (.cons (.op .add (.cons (.op (.sl false true) (.cons (.var 11) (.cons (.var 12) .nil))) (.cons (.var 6) .nil))) (.cons (.op (.sl true false) (.cons (.var 11) (.cons (.var 12) .nil))) .nil))) (.cons (.an (.op .eq (.cons (.var 6) (.cons (.c (.str "0")) .nil))) (.an (.op .gt (.cons (.var 12) (.cons (.c (.int 0)) .nil))) (.an (.op .gt (.cons (.var 10) (.cons (.c (.int 0)) .nil))) (.op .lt (.cons (.op .len (.cons (.var 11) .nil)) (.cons (.c (.int 18)) .nil)))))) .nil))) (.cons (.tup (.cons (.op .add (.cons (.c (.str "-")) (.cons (.var 11) .nil))) (.cons (.c (.bl false)) .nil))) (.cons (.tup (.cons (.c (.str "0")) (.cons (.c (.bl true)) .nil))) (.cons (.tup (.cons (.op .mul (.cons (.c (.str "9")) (.cons (.c (.int 18)) .nil))) (.cons (.c (.bl true)) .nil))) (.cons (.tup (.cons (.op .add (.cons (.c (.str "1")) (.cons (.op .mul (.cons (.c (.str "0")) (.cons (.c (.int 18)) .nil))) .nil))) (.cons (.c (.bl false)) .nil))) (.cons (.tup (.cons (.c (.str "")) (.cons (.c (.bl false)) .nil))) (.cons (.tup (.cons (.var 10) (.cons (.c (.bl false)) .nil))) (.cons (.tup (.cons (.c .non) (.cons (.c (.bl false)) .nil))) (.cons (.tup (.cons (.lst (.cons (.var 11) .nil)) (.cons (.c (.bl false)) .nil))) (.cons (.tup (.cons (.op .add (.cons (.c (.str "+")) (.cons (.var 11) .nil))) (.cons (.c (.bl false)) .nil))) .nil))))))))))))))
def t11_12 : S := (.ife (.nt (.op .all (.cons (.comp [8, 9] (.tup (.cons (.nm 8) (.cons (.nm 9) .nil))) (.it (.var 7)) .nil e11_2) .nil))) (.cons (.ret (.c (.bl false)))
  .nil) .nil)
def t11_13 : S := (.set 13 (.call 9 [true, false] (.cons (.var 1) (.cons (.op .pow (.cons (.c (.int 10)) (.cons (.c (.int 17)) .nil))) .nil))))
def t11_14 : S := (.set 14 (.op .add (.cons (.var 13) (.cons (.call 5 [true, false] (.cons (.var 1) (.cons (.c (.int 9)) .nil))) .nil))))
def t11_15 : S := (.set 7 (.lst (.cons (.tup (.cons (.var 13) (.cons (.c (.bl true)) .nil))) (.cons (.tup (.cons (.var 14) (.cons (.c (.bl true)) .nil))) (.cons (.tup (.cons (.op .sub (.cons (.var 13) (.cons (.c (.int 1)) .nil))) (.cons (.c (.bl false)) .nil))) (.cons (.tup (.cons (.op .add (.cons (.var 14) (.cons (.c (.int 1)) .nil))) (.cons (.c (.bl false)) .nil))) (.cons (.tup (.cons (.op .str (.cons (.var 13) .nil)) (.cons (.c (.bl false)) .nil))) (.cons (.tup (.cons (.lst (.cons (.var 13) .nil)) (.cons (.c (.bl false)) .nil))) (.cons (.tup (.cons (.c .non) (.cons (.c (.bl false)) .nil))) .nil)))))))))
def t11_16 : S := (.ife (.nt (.op .all (.cons (.comp [8, 9] (.tup (.cons (.nm 8) (.cons (.nm 9) .nil))) (.it (.var 7)) .nil e11_3) .nil))) (.cons (.ret (.c (.bl false)))
  .nil) .nil)
def t11_17 : S := (.ret (.call 7 [false, false] (.cons (.lst (.cons (.call 1 [false, false, false] (.cons (.c (.bl true)) (.cons (.c (.int 0)) (.cons (.c (.int 2)) .nil)))) (.cons (.call 1 [false, false, false] (.cons (.c (.bl false)) (.cons (.c (.int 0)) (.cons (.c (.int 0)) .nil)))) (.cons (.call 1 [false, false, false] (.cons (.c (.int 1)) (.cons (.c (.int 0)) (.cons (.c (.int 1)) .nil)))) .nil)))) (.cons (.lst (.cons (.c (.bl false)) (.cons (.c (.bl false)) (.cons (.c (.bl true)) .nil)))) .nil))))
def d11 : Def := ⟨1, 15, [false],
  (.cons t11_0 (.cons t11_1 (.cons t11_2 (.cons t11_3 (.cons t11_4 (.cons t11_5 (.cons t11_6 (.cons t11_7 (.cons t11_8 (.cons t11_9 (.cons t11_10 (.cons t11_11 (.cons t11_12 (.cons t11_13 (.cons t11_14 (.cons t11_15 (.cons t11_16 (.cons t11_17 .nil))))))))))))))))))⟩
def defs : List Def := [d0, d1, d2, d3, d4, d5, d6, d7, d8, d9, d10, d11]
def tab : List (PySem.Str × List PySem.Str) := [("is_whole", p0), ("is_number", p1), ("is_name", p2), ("is_numeral", p3), ("_law_bag", p4), ("_law_take", p5), ("_law_of", p6), ("_law_same", p7), ("_law_kept", p8), ("_law_number", p9), ("_law_odd_value", p10), ("law", p11)]
def tk : List Nat := [1]
def gk : List (PySem.Str × T) := [("MOST_LETTERS", (.int 6)), ("KEPT", (.tup [(.str "and"), (.str "or"), (.str "not"), (.str "of"), (.str "let"), (.str "none"), (.str "odd"), (.str "open"), (.str "phase"), (.str "round"), (.str "self")])), ("LETTERS", (.str "abcdefghijklmnopqrstuvwxyz")), ("MOST_DIGITS", (.int 18)), ("DIGITS", (.str "0123456789"))]
def fr : List PySem.Str := ["isinstance", "int", "bool", "str", "len", "all", "list", "abs", "dict", "tuple", "zip", "range"]
section
variable {P : Program} {w : World} {mg : PySem.Str → Option Value} {base : Heap} {k : Nat} {G : Gm} {cal : Nat → List Slot → CRes} {L : Nat} {fa : Addr}
theorem b0 (e : GE tab tk gk fr P w G.K mg base k G cal) : BodyOk G P w G.K mg base n0 d0.io "is_whole" (defScope s0) fa (defBody s0) k cal L d0.body := fun cdv A outer s H E C hG hfx c hp => by
  subst hG
  exact (st_cons (w_ret (x_and (x_isi1 c .int (e.frs 0 _ rfl) (x_cls .int (by rfl) (e.frs 1 _ rfl) rfl) x_var) (x_one (x_not (x_isi1 c .bool (e.frs 0 _ rfl) (x_cls .bool (by rfl) (e.frs 2 _ rfl) rfl) x_var)))))
  st_nil)
theorem b1 (e : GE tab tk gk fr P w G.K mg base k G cal) : BodyOk G P w G.K mg base n1 d1.io "is_number" (defScope s1) fa (defBody s1) k cal L d1.body := fun cdv A outer s H E C hG hfx c hp => by
  subst hG
  exact (st_cons (w_ret (x_and (x_call c ⟨e.fns 0 _ _ rfl⟩ (a_cons x_var a_nil)) (x_one (x_chain (c_le c) (c_le c) x_var x_var x_var))))
  st_nil)
theorem b2 (e : GE tab tk gk fr P w G.K mg base k G cal) : BodyOk G P w G.K mg base n2 d2.io "is_name" (defScope s2) fa (defBody s2) k cal L d2.body := fun cdv A outer s H E C hG hfx c hp => by
  subst hG
  exact (st_cons (w_ife (PW.pt (z_or (y_not (y_val (x_isi1 c .str (e.frs 0 _ rfl) (x_cls .str (by rfl) (e.frs 3 _ rfl) rfl) x_var))) (z_or (y_not (y_chain (c_le c) (c_le c) x_int (x_len c (e.frs 4 _ rfl) x_var) (x_glob (e.gs 0 _ _ rfl)))) (z_or1 (y_cmp (c_in c) x_var (x_glob (e.gs 1 _ _ rfl))))))) (st_cons (w_ret x_bl)
  st_nil) st_nil)
  (st_cons (w_ret (x_all c (e.frs 5 _ rfl) (x_comp c gp_name (blkOk_by (own := [("letter", 1)]) (by rfl)) (i_any c x_var) (fun _ _ _ _ _ => (pg_name c.nd rfl (by first | exact Or.inl rfl | exact Or.inr rfl))) (fun _ _ _ _ _ c1 => f_nil) (fun _ _ _ _ _ c1 => (x_cmp (c_in c1) x_var (x_glob (e.gs 2 _ _ rfl)))))))
  st_nil))
theorem b3 (e : GE tab tk gk fr P w G.K mg base k G cal) : BodyOk G P w G.K mg base n3 d3.io "is_numeral" (defScope s3) fa (defBody s3) k cal L d3.body := fun cdv A outer s H E C hG hfx c hp => by
  subst hG
  exact (st_cons (w_ife (PW.pt (z_or (y_not (y_val (x_isi1 c .str (e.frs 0 _ rfl) (x_cls .str (by rfl) (e.frs 3 _ rfl) rfl) x_var))) (z_or1 (y_not (y_chain (c_le c) (c_le c) x_int (x_len c (e.frs 4 _ rfl) x_var) (x_glob (e.gs 3 _ _ rfl))))))) (st_cons (w_ret x_bl)
  st_nil) st_nil)
  (st_cons (w_ret (x_and (x_all c (e.frs 5 _ rfl) (x_comp c gp_name (blkOk_by (own := [("digit", 1)]) (by rfl)) (i_any c x_var) (fun _ _ _ _ _ => (pg_name c.nd rfl (by first | exact Or.inl rfl | exact Or.inr rfl))) (fun _ _ _ _ _ c1 => f_nil) (fun _ _ _ _ _ c1 => (x_cmp (c_in c1) x_var (x_glob (e.gs 4 _ _ rfl)))))) (x_one (x_or (x_cmp (c_eq c) x_var x_str) (x_one (x_cmp (c_ne c) (x_idx c x_var x_int) x_str))))))
  st_nil))
theorem b4 (e : GE tab tk gk fr P w G.K mg base k G cal) : BodyOk G P w G.K mg base n4 d4.io "_law_bag" (defScope s4) fa (defBody s4) k cal L d4.body := fun cdv A outer s H E C hG hfx c hp => by
  subst hG
  exact (st_cons (w_set c (nf hfx) x_int)
  (st_cons (w_fr c hp gp_name (nfs hfx) (pg_name c.nd rfl (by first | exact Or.inl rfl | exact Or.inr rfl)) (i_any c (x_slHi c x_var x_int)) (st_cons (w_set c (nf hfx) (x_bin b_mod (x_toInt c (e.frs 1 _ rfl) (x_bin b_add (x_bin b_add (x_bin b_mul x_var x_int) (x_bin b_mul (x_bin b_mod (x_toInt c (e.frs 1 _ rfl) x_var) x_int) x_int)) x_int)) x_int))
  st_nil))
  (st_cons (w_ret (x_lst (a_cons (x_toList c (e.frs 6 _ rfl) (x_slHi c x_var x_int)) (a_cons x_int (a_cons x_int (a_cons x_var (a_cons x_int a_nil)))))))
  st_nil)))
theorem b5 (e : GE tab tk gk fr P w G.K mg base k G cal) : BodyOk G P w G.K mg base n5 d5.io "_law_take" (defScope s5) fa (defBody s5) k cal L d5.body := fun cdv A outer s H E C hG hfx c hp => by
  subst hG
  exact (st_cons (w_sto c (pv 0) x_int (x_bin b_add (x_idx c x_var x_int) x_int))
  (st_cons (w_ife (PW.pt (z_and (y_cmp (c_eq c) (x_idx c x_var x_int) x_int) (z_and1 (y_cmp (c_lt c) (x_idx c x_var x_int) (x_len c (e.frs 4 _ rfl) (x_idx c x_var x_int)))))) (st_cons (w_set c (nf hfx) (x_idx c (x_idx c x_var x_int) (x_idx c x_var x_int)))
  (st_cons (w_sto c (pv 0) x_int (x_bin b_add (x_idx c x_var x_int) x_int))
  (st_cons (w_ife (y_cmp (c_ge c) (x_abs c (e.frs 7 _ rfl) x_var) (x_bin b_pow x_int x_int)) (st_cons (w_sto c (pv 0) x_int (x_abs c (e.frs 7 _ rfl) x_var))
  st_nil) (st_cons (w_sto c (pv 0) x_int (x_bin b_mod (x_toInt c (e.frs 1 _ rfl) (x_bin b_add (x_bin b_add (x_bin b_mul (x_idx c x_var x_int) x_int) (x_bin b_mul (x_bin b_mod (x_toInt c (e.frs 1 _ rfl) x_var) x_int) x_int)) x_int)) x_int))
  st_nil))
  st_nil))) st_nil)
  (st_cons (w_ife (y_cmp (c_gt c) (x_idx c x_var x_int) x_int) (st_cons (w_set c (nf hfx) (x_bin b_mod (x_toInt c (e.frs 1 _ rfl) (x_idx c x_var x_int)) x_var))
  (st_cons (w_sto c (pv 0) x_int (x_bin b_fdiv (x_idx c x_var x_int) x_var))
  (st_cons (w_ret x_var)
  st_nil))) st_nil)
  (st_cons (w_set c (nf hfx) (x_bin b_mod (x_toInt c (e.frs 1 _ rfl) (x_bin b_add (x_bin b_mul (x_idx c x_var x_int) (x_idx c x_var x_int)) (x_bin b_mul (x_idx c x_var x_int) x_int))) x_int))
  (st_cons (w_sto c (pv 0) x_int (x_bin b_mod (x_toInt c (e.frs 1 _ rfl) (x_bin b_add (x_bin b_add (x_bin b_mul x_var x_int) (x_bin b_mul (x_idx c x_var x_int) x_int)) x_int)) x_int))
  (st_cons (w_ret (x_bin b_mod (x_toInt c (e.frs 1 _ rfl) (x_bin b_fdiv (x_idx c x_var x_int) x_int)) x_var))
  st_nil))))))
theorem b6 (e : GE tab tk gk fr P w G.K mg base k G cal) : BodyOk G P w G.K mg base n6 d6.io "_law_of" (defScope s6) fa (defBody s6) k cal L d6.body := fun cdv A outer s H E C hG hfx c hp => by
  subst hG
  exact (st_cons (w_ret (x_idx c x_var (x_call c ⟨e.fns 5 _ _ rfl⟩ (a_cons x_var (a_cons (x_len c (e.frs 4 _ rfl) x_var) a_nil)))))
  st_nil)
theorem b7 (e : GE tab tk gk fr P w G.K mg base k G cal) : BodyOk G P w G.K mg base n7 d7.io "_law_same" (defScope s7) fa (defBody s7) k cal L d7.body := fun cdv A outer s H E C hG hfx c hp => by
  subst hG
  exact (st_cons (w_ife (PW.pt (z_or (y_cmp (c_is c) x_var x_non) (z_or1 (y_cmp (c_is c) x_var x_non)))) (st_cons (w_ret (x_and (x_cmp (c_is c) x_var x_non) (x_one (x_cmp (c_is c) x_var x_non))))
  st_nil) st_nil)
  (st_cons (w_ife (y_val (x_isi1 c .dict (e.frs 0 _ rfl) (x_cls .dict (by rfl) (e.frs 8 _ rfl) rfl) x_var)) (st_cons (w_ife (PW.pt (z_or (y_not (y_val (x_isi1 c .dict (e.frs 0 _ rfl) (x_cls .dict (by rfl) (e.frs 8 _ rfl) rfl) x_var))) (z_or1 (y_cmp (c_ne c) (x_toList c (e.frs 6 _ rfl) x_var) (x_toList c (e.frs 6 _ rfl) x_var))))) (st_cons (w_ret x_bl)
  st_nil) st_nil)
  (st_cons (w_ret (x_all c (e.frs 5 _ rfl) (x_comp c gp_name (blkOk_by (own := [("_law_key", 2)]) (by rfl)) (i_any c x_var) (fun _ _ _ _ _ => (pg_name c.nd rfl (by first | exact Or.inl rfl | exact Or.inr rfl))) (fun _ _ _ _ _ c1 => f_nil) (fun _ _ _ _ _ c1 => (x_call c1 ⟨e.fns 7 _ _ rfl⟩ (a_cons (x_idx c1 x_var x_var) (a_cons (x_idx c1 x_var x_var) a_nil)))))))
  st_nil)) st_nil)
  (st_cons (w_ife (y_val (x_isi2 c .list .tuple (e.frs 0 _ rfl) (x_cls .list (by rfl) (e.frs 6 _ rfl) rfl) (x_cls .tuple (by rfl) (e.frs 9 _ rfl) rfl) x_var)) (st_cons (w_ife (y_cmp (c_ne c) (x_isi1 c .list (e.frs 0 _ rfl) (x_cls .list (by rfl) (e.frs 6 _ rfl) rfl) x_var) (x_isi1 c .list (e.frs 0 _ rfl) (x_cls .list (by rfl) (e.frs 6 _ rfl) rfl) x_var)) (st_cons (w_ret x_bl)
  st_nil) st_nil)
  (st_cons (w_ife (PW.pt (z_or (y_cmp (c_ne c) (x_isi1 c .tuple (e.frs 0 _ rfl) (x_cls .tuple (by rfl) (e.frs 9 _ rfl) rfl) x_var) (x_isi1 c .tuple (e.frs 0 _ rfl) (x_cls .tuple (by rfl) (e.frs 9 _ rfl) rfl) x_var)) (z_or1 (y_cmp (c_ne c) (x_len c (e.frs 4 _ rfl) x_var) (x_len c (e.frs 4 _ rfl) x_var))))) (st_cons (w_ret x_bl)
  st_nil) st_nil)
  (st_cons (w_ret (x_all c (e.frs 5 _ rfl) (x_comp c (gp_tup rfl (gps_cons gp_name (gps_cons gp_name gps_nil))) (blkOk_by (own := [("_law_a", 3), ("_law_b", 4)]) (by rfl)) (i_zip c (e.frs 10 _ rfl) x_var x_var) (fun _ _ _ _ _ => (pg_tup c.calm (pgs_cons (pg_name c.nd rfl (by first | exact Or.inl rfl | exact Or.inr rfl)) (pgs_cons (pg_name c.nd rfl (by first | exact Or.inl rfl | exact Or.inr rfl)) pgs_nil)))) (fun _ _ _ _ _ c1 => f_nil) (fun _ _ _ _ _ c1 => (x_call c1 ⟨e.fns 7 _ _ rfl⟩ (a_cons x_var (a_cons x_var a_nil)))))))
  st_nil))) st_nil)
  (st_cons (w_ife (y_val (x_isi3 c .list .tuple .dict (e.frs 0 _ rfl) (x_cls .list (by rfl) (e.frs 6 _ rfl) rfl) (x_cls .tuple (by rfl) (e.frs 9 _ rfl) rfl) (x_cls .dict (by rfl) (e.frs 8 _ rfl) rfl) x_var)) (st_cons (w_ret x_bl)
  st_nil) st_nil)
  (st_cons (w_ife (y_cmp (c_ne c) (x_isi1 c .bool (e.frs 0 _ rfl) (x_cls .bool (by rfl) (e.frs 2 _ rfl) rfl) x_var) (x_isi1 c .bool (e.frs 0 _ rfl) (x_cls .bool (by rfl) (e.frs 2 _ rfl) rfl) x_var)) (st_cons (w_ret x_bl)
  st_nil) st_nil)
  (st_cons (w_ife (y_cmp (c_ne c) (x_isi1 c .int (e.frs 0 _ rfl) (x_cls .int (by rfl) (e.frs 1 _ rfl) rfl) x_var) (x_isi1 c .int (e.frs 0 _ rfl) (x_cls .int (by rfl) (e.frs 1 _ rfl) rfl) x_var)) (st_cons (w_ret x_bl)
  st_nil) st_nil)
  (st_cons (w_ret (x_and (x_cmp (c_eq c) (x_isi1 c .str (e.frs 0 _ rfl) (x_cls .str (by rfl) (e.frs 3 _ rfl) rfl) x_var) (x_isi1 c .str (e.frs 0 _ rfl) (x_cls .str (by rfl) (e.frs 3 _ rfl) rfl) x_var)) (x_one (x_cmp (c_eq c) x_var x_var))))
  st_nil)))))))
theorem b8 (e : GE tab tk gk fr P w G.K mg base k G cal) : BodyOk G P w G.K mg base n8 d8.io "_law_kept" (defScope s8) fa (defBody s8) k cal L d8.body := fun cdv A outer s H E C hG hfx c hp => by
  subst hG
  exact (st_cons (w_ret (x_lst (a_cons x_str (a_cons x_str (a_cons x_str (a_cons x_str (a_cons x_str (a_cons x_str (a_cons x_str (a_cons x_str (a_cons x_str (a_cons x_str (a_cons x_str a_nil)))))))))))))
  st_nil)
theorem b9 (e : GE tab tk gk fr P w G.K mg base k G cal) : BodyOk G P w G.K mg base n9 d9.io "_law_number" (defScope s9) fa (defBody s9) k cal L d9.body := fun cdv A outer s H E C hG hfx c hp => by
  subst hG
  exact (st_cons (w_set c (nf hfx) (x_call c ⟨e.fns 6 _ _ rfl⟩ (a_cons x_var (a_cons (x_lst (a_cons x_int (a_cons x_int (a_cons x_int (a_cons x_var a_nil))))) a_nil))))
  (st_cons (w_ret (x_bin b_sub (x_call c ⟨e.fns 5 _ _ rfl⟩ (a_cons x_var (a_cons (x_bin b_add (x_bin b_mul x_int x_var) x_int) a_nil))) x_var))
  st_nil))
theorem b10 (e : GE tab tk gk fr P w G.K mg base k G cal) : BodyOk G P w G.K mg base n10 d10.io "_law_odd_value" (defScope s10) fa (defBody s10) k cal L d10.body := fun cdv A outer s H E C hG hfx c hp => by
  subst hG
  exact (st_cons (w_ret (x_call c ⟨e.fns 6 _ _ rfl⟩ (a_cons x_var (a_cons (x_lst (a_cons x_non (a_cons x_bl (a_cons x_bl (a_cons x_str (a_cons x_str (a_cons (x_lst (a_cons x_int a_nil)) (a_cons (x_tup (a_cons x_int a_nil)) (a_cons (x_lst (a_cons x_non a_nil)) (a_cons x_str a_nil)))))))))) a_nil))))
  st_nil)
theorem b11 (e : GE tab tk gk fr P w G.K mg base k G cal) : BodyOk G P w G.K mg base n11 d11.io "law" (defScope s11) fa (defBody s11) k cal L d11.body := fun cdv A outer s H E C hG hfx c hp => by
  subst hG
  exact (st_cons (w_set c (nf hfx) (x_call c ⟨e.fns 4 _ _ rfl⟩ (a_cons x_var a_nil)))
  (st_cons (w_set c (nf hfx) x_str)
  (st_cons (w_ife (PW.pt (z_or (y_not (y_val (x_call c ⟨e.fns 7 _ _ rfl⟩ (a_cons (x_toList c (e.frs 6 _ rfl) (x_glob (e.gs 1 _ _ rfl))) (a_cons (x_call0 c ⟨e.fns 8 _ _ rfl⟩) a_nil))))) (z_or1 (y_not (y_val (x_isi1 c .tuple (e.frs 0 _ rfl) (x_cls .tuple (by rfl) (e.frs 9 _ rfl) rfl) (x_glob (e.gs 1 _ _ rfl)))))))) (st_cons (w_ret x_bl)
  st_nil) st_nil)
  (st_cons (w_set c (nf hfx) (x_join c x_str (x_comp c gp_name (blkOk_by (own := [("_law_k", 4)]) (by rfl)) (i_rng1 c (e.frs 11 _ rfl) (x_call c ⟨e.fns 5 _ _ rfl⟩ (a_cons x_var (a_cons x_int a_nil)))) (fun _ _ _ _ _ => (pg_name c.nd rfl (by first | exact Or.inl rfl | exact Or.inr rfl))) (fun _ _ _ _ _ c1 => f_nil) (fun _ _ _ _ _ c1 => (x_call c1 ⟨e.fns 6 _ _ rfl⟩ (a_cons x_var (a_cons x_var a_nil)))))))
  (st_cons (w_set c (nf hfx) (x_call c ⟨e.fns 5 _ _ rfl⟩ (a_cons x_var (a_cons (x_bin b_add (x_len c (e.frs 4 _ rfl) x_var) x_int) a_nil))))
  (st_cons (w_set c (nf hfx) (x_call c ⟨e.fns 6 _ _ rfl⟩ (a_cons x_var (a_cons (x_lst (a_cons x_str (a_cons x_str (a_cons x_str (a_cons x_str (a_cons x_str (a_cons x_str (a_cons x_str (a_cons x_str a_nil))))))))) a_nil))))
  (st_cons (w_set c (nf hfx) (x_lst (a_cons (x_tup (a_cons x_var (a_cons (x_and (x_chain (c_le c) (c_le c) x_int (x_len c (e.frs 4 _ rfl) x_var) x_int) (x_one (x_cmp (c_notin c) x_var (x_call0 c ⟨e.fns 8 _ _ rfl⟩)))) a_nil))) (a_cons (x_tup (a_cons (x_bin b_add (x_bin b_add (x_slHi c x_var x_var) x_var) (x_slLo c x_var x_var)) (a_cons x_bl a_nil))) (a_cons (x_tup (a_cons (x_call c ⟨e.fns 6 _ _ rfl⟩ (a_cons x_var (a_cons (x_call0 c ⟨e.fns 8 _ _ rfl⟩) a_nil))) (a_cons x_bl a_nil))) (a_cons (x_tup (a_cons x_str (a_cons x_bl a_nil))) (a_cons (x_tup (a_cons x_str (a_cons x_bl a_nil))) (a_cons (x_tup (a_cons x_str (a_cons x_bl a_nil))) (a_cons (x_tup (a_cons x_str (a_cons x_bl a_nil))) (a_cons (x_tup (a_cons (x_call c ⟨e.fns 10 _ _ rfl⟩ (a_cons x_var a_nil)) (a_cons x_bl a_nil))) (a_cons (x_tup (a_cons (x_lst (a_cons x_var a_nil)) (a_cons x_bl a_nil))) (a_cons (x_tup (a_cons x_str (a_cons x_bl a_nil))) a_nil))))))))))))
  (st_cons (w_ife (y_not (y_val (x_all c (e.frs 5 _ rfl) (x_comp c (gp_tup rfl (gps_cons gp_name (gps_cons gp_name gps_nil))) (blkOk_by (own := [("_law_value_z", 8), ("_law_due", 9)]) (by rfl)) (i_any c x_var) (fun _ _ _ _ _ => (pg_tup c.calm (pgs_cons (pg_name c.nd rfl (by first | exact Or.inl rfl | exact Or.inr rfl)) (pgs_cons (pg_name c.nd rfl (by first | exact Or.inl rfl | exact Or.inr rfl)) pgs_nil)))) (fun _ _ _ _ _ c1 => f_nil) (fun _ _ _ _ _ c1 => (x_call c1 ⟨e.fns 7 _ _ rfl⟩ (a_cons (x_call c1 ⟨e.fns 2 _ _ rfl⟩ (a_cons x_var a_nil)) (a_cons x_var a_nil)))))))) (st_cons (w_ret x_bl)
  st_nil) st_nil)
  (st_cons (w_set c (nf hfx) (x_call c ⟨e.fns 5 _ _ rfl⟩ (a_cons x_var (a_cons (x_call c ⟨e.fns 6 _ _ rfl⟩ (a_cons x_var (a_cons (x_lst (a_cons x_int (a_cons x_int (a_cons (x_bin b_pow x_int x_int) (a_cons (x_bin b_pow x_int x_int) a_nil))))) a_nil))) a_nil))))
  (st_cons (w_set c (nf hfx) (x_toStr c (e.frs 3 _ rfl) x_var))
  (st_cons (w_set c (nf hfx) (x_call c ⟨e.fns 5 _ _ rfl⟩ (a_cons x_var (a_cons (x_bin b_add (x_len c (e.frs 4 _ rfl) x_var) x_int) a_nil))))
  (st_cons (w_set c (nf hfx) (x_lst (a_cons (x_tup (a_cons x_var (a_cons x_bl a_nil))) (a_cons (x_tup (a_cons (x_bin b_add x_str x_var) (a_cons x_bl a_nil))) (a_cons (x_tup (a_cons (x_bin b_add (x_bin b_add (x_slHi c x_var x_var) x_var) (x_slLo c x_var x_var)) (a_cons (x_and (x_cmp (c_eq c) x_var x_str) (x_and (x_cmp (c_gt c) x_var x_int) (x_and (x_cmp (c_gt c) x_var x_int) (x_one (x_cmp (c_lt c) (x_len c (e.frs 4 _ rfl) x_var) x_int))))) a_nil))) (a_cons (x_tup (a_cons (x_bin b_add x_str x_var) (a_cons x_bl a_nil))) (a_cons (x_tup (a_cons x_str (a_cons x_bl a_nil))) (a_cons (x_tup (a_cons (x_bin b_mul x_str x_int) (a_cons x_bl a_nil))) (a_cons (x_tup (a_cons (x_bin b_add x_str (x_bin b_mul x_str x_int)) (a_cons x_bl a_nil))) (a_cons (x_tup (a_cons x_str (a_cons x_bl a_nil))) (a_cons (x_tup (a_cons x_var (a_cons x_bl a_nil))) (a_cons (x_tup (a_cons x_non (a_cons x_bl a_nil))) (a_cons (x_tup (a_cons (x_lst (a_cons x_var a_nil)) (a_cons x_bl a_nil))) (a_cons (x_tup (a_cons (x_bin b_add x_str x_var) (a_cons x_bl a_nil))) a_nil))))))))))))))
  (st_cons (w_ife (y_not (y_val (x_all c (e.frs 5 _ rfl) (x_comp c (gp_tup rfl (gps_cons gp_name (gps_cons gp_name gps_nil))) (blkOk_by (own := [("_law_value_z", 8), ("_law_due", 9)]) (by rfl)) (i_any c x_var) (fun _ _ _ _ _ => (pg_tup c.calm (pgs_cons (pg_name c.nd rfl (by first | exact Or.inl rfl | exact Or.inr rfl)) (pgs_cons (pg_name c.nd rfl (by first | exact Or.inl rfl | exact Or.inr rfl)) pgs_nil)))) (fun _ _ _ _ _ c1 => f_nil) (fun _ _ _ _ _ c1 => (x_call c1 ⟨e.fns 7 _ _ rfl⟩ (a_cons (x_call c1 ⟨e.fns 3 _ _ rfl⟩ (a_cons x_var a_nil)) (a_cons x_var a_nil)))))))) (st_cons (w_ret x_bl)
  st_nil) st_nil)
  (st_cons (w_set c (nf hfx) (x_call c ⟨e.fns 9 _ _ rfl⟩ (a_cons x_var (a_cons (x_bin b_pow x_int x_int) a_nil))))
  (st_cons (w_set c (nf hfx) (x_bin b_add x_var (x_call c ⟨e.fns 5 _ _ rfl⟩ (a_cons x_var (a_cons x_int a_nil)))))
  (st_cons (w_set c (nf hfx) (x_lst (a_cons (x_tup (a_cons x_var (a_cons x_bl a_nil))) (a_cons (x_tup (a_cons x_var (a_cons x_bl a_nil))) (a_cons (x_tup (a_cons (x_bin b_sub x_var x_int) (a_cons x_bl a_nil))) (a_cons (x_tup (a_cons (x_bin b_add x_var x_int) (a_cons x_bl a_nil))) (a_cons (x_tup (a_cons (x_toStr c (e.frs 3 _ rfl) x_var) (a_cons x_bl a_nil))) (a_cons (x_tup (a_cons (x_lst (a_cons x_var a_nil)) (a_cons x_bl a_nil))) (a_cons (x_tup (a_cons x_non (a_cons x_bl a_nil))) a_nil)))))))))
  (st_cons (w_ife (y_not (y_val (x_all c (e.frs 5 _ rfl) (x_comp c (gp_tup rfl (gps_cons gp_name (gps_cons gp_name gps_nil))) (blkOk_by (own := [("_law_value_z", 8), ("_law_due", 9)]) (by rfl)) (i_any c x_var) (fun _ _ _ _ _ => (pg_tup c.calm (pgs_cons (pg_name c.nd rfl (by first | exact Or.inl rfl | exact Or.inr rfl)) (pgs_cons (pg_name c.nd rfl (by first | exact Or.inl rfl | exact Or.inr rfl)) pgs_nil)))) (fun _ _ _ _ _ c1 => f_nil) (fun _ _ _ _ _ c1 => (x_call c1 ⟨e.fns 7 _ _ rfl⟩ (a_cons (x_call c1 ⟨e.fns 1 _ _ rfl⟩ (a_cons x_var (a_cons x_var (a_cons x_var a_nil)))) (a_cons x_var a_nil)))))))) (st_cons (w_ret x_bl)
  st_nil) st_nil)
  (st_cons (w_ret (x_call c ⟨e.fns 7 _ _ rfl⟩ (a_cons (x_lst (a_cons (x_call c ⟨e.fns 1 _ _ rfl⟩ (a_cons x_bl (a_cons x_int (a_cons x_int a_nil)))) (a_cons (x_call c ⟨e.fns 1 _ _ rfl⟩ (a_cons x_bl (a_cons x_int (a_cons x_int a_nil)))) (a_cons (x_callK c ⟨e.fnk 1 _ _ rfl (by decide)⟩ (k_cons x_int (k_cons x_int (k_cons x_int k_nil)))) a_nil)))) (a_cons (x_lst (a_cons x_bl (a_cons x_bl (a_cons x_bl a_nil)))) a_nil))))
  st_nil))))))))))))))))))
end
theorem sc0 : FnScope n0 p0 (defScope s0) := ⟨rfl, rfl, rfl, by decide +kernel, rfl, by decide +kernel, by decide +kernel⟩
theorem sc1 : FnScope n1 p1 (defScope s1) := ⟨rfl, rfl, rfl, by decide +kernel, rfl, by decide +kernel, by decide +kernel⟩
theorem sc2 : FnScope n2 p2 (defScope s2) := ⟨rfl, rfl, rfl, by decide +kernel, rfl, by decide +kernel, by decide +kernel⟩
theorem sc3 : FnScope n3 p3 (defScope s3) := ⟨rfl, rfl, rfl, by decide +kernel, rfl, by decide +kernel, by decide +kernel⟩
theorem sc4 : FnScope n4 p4 (defScope s4) := ⟨rfl, rfl, rfl, by decide +kernel, rfl, by decide +kernel, by decide +kernel⟩
theorem sc5 : FnScope n5 p5 (defScope s5) := ⟨rfl, rfl, rfl, by decide +kernel, rfl, by decide +kernel, by decide +kernel⟩
theorem sc6 : FnScope n6 p6 (defScope s6) := ⟨rfl, rfl, rfl, by decide +kernel, rfl, by decide +kernel, by decide +kernel⟩
theorem sc7 : FnScope n7 p7 (defScope s7) := ⟨rfl, rfl, rfl, by decide +kernel, rfl, by decide +kernel, by decide +kernel⟩
theorem sc8 : FnScope n8 p8 (defScope s8) := ⟨rfl, rfl, rfl, by decide +kernel, rfl, by decide +kernel, by decide +kernel⟩
theorem sc9 : FnScope n9 p9 (defScope s9) := ⟨rfl, rfl, rfl, by decide +kernel, rfl, by decide +kernel, by decide +kernel⟩
theorem sc10 : FnScope n10 p10 (defScope s10) := ⟨rfl, rfl, rfl, by decide +kernel, rfl, by decide +kernel, by decide +kernel⟩
theorem sc11 : FnScope n11 p11 (defScope s11) := ⟨rfl, rfl, rfl, by decide +kernel, rfl, by decide +kernel, by decide +kernel⟩
abbrev FnP (K : PySem.W.Frag) (x : PySem.Str) (st : Stmt) (f : Addr) (fd : FuncData) : Prop := FunD K x x (defArgs st) (defBody st) (defScope st) [] [] f fd
structure Fs (K : PySem.W.Frag) (mg : PySem.Str → Option Value) : Prop where
  f0 : ∃ fa fd, mg "is_whole" = some (.ref fa) ∧ FnP K "is_whole" s0 fa fd
  f1 : ∃ fa fd, mg "is_number" = some (.ref fa) ∧ FnP K "is_number" s1 fa fd
  f2 : ∃ fa fd, mg "is_name" = some (.ref fa) ∧ FnP K "is_name" s2 fa fd
  f3 : ∃ fa fd, mg "is_numeral" = some (.ref fa) ∧ FnP K "is_numeral" s3 fa fd
  f4 : ∃ fa fd, mg "_law_bag" = some (.ref fa) ∧ FnP K "_law_bag" s4 fa fd
  f5 : ∃ fa fd, mg "_law_take" = some (.ref fa) ∧ FnP K "_law_take" s5 fa fd
  f6 : ∃ fa fd, mg "_law_of" = some (.ref fa) ∧ FnP K "_law_of" s6 fa fd
  f7 : ∃ fa fd, mg "_law_same" = some (.ref fa) ∧ FnP K "_law_same" s7 fa fd
  f8 : ∃ fa fd, mg "_law_kept" = some (.ref fa) ∧ FnP K "_law_kept" s8 fa fd
  f9 : ∃ fa fd, mg "_law_number" = some (.ref fa) ∧ FnP K "_law_number" s9 fa fd
  f10 : ∃ fa fd, mg "_law_odd_value" = some (.ref fa) ∧ FnP K "_law_odd_value" s10 fa fd
  f11 : ∃ fa fd, mg "law" = some (.ref fa) ∧ FnP K "law" s11 fa fd
theorem all {P : Program} {w : World} {mg : PySem.Str → Option Value} {base : Heap} {G : Gm} {L : Nat} (fs : Fs G.K mg) (gs : ∀ (i : Nat) (x : PySem.Str) (t : T), gk[i]? = some (x, t) → ∃ u v, mg x = some u ∧ RelV v u ∧ ∀ w, RF G w t v) (frs : ∀ (i : Nat) (x : PySem.Str), fr[i]? = some x → mg x = none) :
    ∀ k, GE tab tk gk fr P w G.K mg base k G (callF defs L k)
  | 0 => by
    refine ⟨?_, ?_, gs, frs⟩
    · intro f x ps h
      match f, h with
      | 0, h =>
        cases h
        obtain ⟨fa, fd, h1, F⟩ := fs.f0
        exact ⟨fa, fd, h1, F.kp, (F.bindsN fun _ _ _ _ _ _ us hl => match us, hl with | [_], _ => rfl), fn_zero⟩
      | 1, h =>
        cases h
        obtain ⟨fa, fd, h1, F⟩ := fs.f1
        exact ⟨fa, fd, h1, F.kp, (F.bindsN fun _ _ _ _ _ _ us hl => match us, hl with | [_, _, _], _ => rfl), fn_zero⟩
      | 2, h =>
        cases h
        obtain ⟨fa, fd, h1, F⟩ := fs.f2
        exact ⟨fa, fd, h1, F.kp, (F.bindsN fun _ _ _ _ _ _ us hl => match us, hl with | [_], _ => rfl), fn_zero⟩
      | 3, h =>
        cases h
        obtain ⟨fa, fd, h1, F⟩ := fs.f3
        exact ⟨fa, fd, h1, F.kp, (F.bindsN fun _ _ _ _ _ _ us hl => match us, hl with | [_], _ => rfl), fn_zero⟩
      | 4, h =>
        cases h
        obtain ⟨fa, fd, h1, F⟩ := fs.f4
        exact ⟨fa, fd, h1, F.kp, (F.bindsN fun _ _ _ _ _ _ us hl => match us, hl with | [_], _ => rfl), fn_zero⟩
      | 5, h =>
        cases h
        obtain ⟨fa, fd, h1, F⟩ := fs.f5
        exact ⟨fa, fd, h1, F.kp, (F.bindsN fun _ _ _ _ _ _ us hl => match us, hl with | [_, _], _ => rfl), fn_zero⟩
      | 6, h =>
        cases h
        obtain ⟨fa, fd, h1, F⟩ := fs.f6
        exact ⟨fa, fd, h1, F.kp, (F.bindsN fun _ _ _ _ _ _ us hl => match us, hl with | [_, _], _ => rfl), fn_zero⟩
      | 7, h =>
        cases h
        obtain ⟨fa, fd, h1, F⟩ := fs.f7
        exact ⟨fa, fd, h1, F.kp, (F.bindsN fun _ _ _ _ _ _ us hl => match us, hl with | [_, _], _ => rfl), fn_zero⟩
      | 8, h =>
        cases h
        obtain ⟨fa, fd, h1, F⟩ := fs.f8
        exact ⟨fa, fd, h1, F.kp, (F.bindsN fun _ _ _ _ _ _ us hl => match us, hl with | [], _ => rfl), fn_zero⟩
      | 9, h =>
        cases h
        obtain ⟨fa, fd, h1, F⟩ := fs.f9
        exact ⟨fa, fd, h1, F.kp, (F.bindsN fun _ _ _ _ _ _ us hl => match us, hl with | [_, _], _ => rfl), fn_zero⟩
      | 10, h =>
        cases h
        obtain ⟨fa, fd, h1, F⟩ := fs.f10
        exact ⟨fa, fd, h1, F.kp, (F.bindsN fun _ _ _ _ _ _ us hl => match us, hl with | [_], _ => rfl), fn_zero⟩
      | 11, h =>
        cases h
        obtain ⟨fa, fd, h1, F⟩ := fs.f11
        exact ⟨fa, fd, h1, F.kp, (F.bindsN fun _ _ _ _ _ _ us hl => match us, hl with | [_], _ => rfl), fn_zero⟩
      | n + 12, h => cases h
    · intro f x ps h ht
      match f, h with
      | 0, h => exact absurd ht (by decide)
      | 1, h =>
        cases h
        obtain ⟨fa, fd, h1, F⟩ := fs.f1
        exact ⟨fa, fd, h1, F.kp, (Mi.FunD.kws F fun _ _ _ _ _ _ us hl => match us, hl with | [_, _, _], _ => rfl), fn_zero⟩
      | 2, h => exact absurd ht (by decide)
      | 3, h => exact absurd ht (by decide)
      | 4, h => exact absurd ht (by decide)
      | 5, h => exact absurd ht (by decide)
      | 6, h => exact absurd ht (by decide)
      | 7, h => exact absurd ht (by decide)
      | 8, h => exact absurd ht (by decide)
      | 9, h => exact absurd ht (by decide)
      | 10, h => exact absurd ht (by decide)
      | 11, h => exact absurd ht (by decide)
      | n + 12, h => cases h
  | k + 1 => by
    have ih := all (P := P) (w := w) (base := base) (L := L) fs gs frs k
    refine ⟨?_, ?_, gs, frs⟩
    · intro f x ps h
      match f, h with
      | 0, h =>
        cases h
        obtain ⟨fa, fd, h1, F⟩ := fs.f0
        exact ⟨fa, fd, h1, F.kp, (F.bindsN fun _ _ _ _ _ _ us hl => match us, hl with | [_], _ => rfl), Mi.fn_ok F sc0 rfl (d := d0) rfl rfl rfl rfl (by decide) (b0 ih)⟩
      | 1, h =>
        cases h
        obtain ⟨fa, fd, h1, F⟩ := fs.f1
        exact ⟨fa, fd, h1, F.kp, (F.bindsN fun _ _ _ _ _ _ us hl => match us, hl with | [_, _, _], _ => rfl), Mi.fn_ok F sc1 rfl (d := d1) rfl rfl rfl rfl (by decide) (b1 ih)⟩
      | 2, h =>
        cases h
        obtain ⟨fa, fd, h1, F⟩ := fs.f2
        exact ⟨fa, fd, h1, F.kp, (F.bindsN fun _ _ _ _ _ _ us hl => match us, hl with | [_], _ => rfl), Mi.fn_ok F sc2 rfl (d := d2) rfl rfl rfl rfl (by decide) (b2 ih)⟩
      | 3, h =>
        cases h
        obtain ⟨fa, fd, h1, F⟩ := fs.f3
        exact ⟨fa, fd, h1, F.kp, (F.bindsN fun _ _ _ _ _ _ us hl => match us, hl with | [_], _ => rfl), Mi.fn_ok F sc3 rfl (d := d3) rfl rfl rfl rfl (by decide) (b3 ih)⟩
      | 4, h =>
        cases h
        obtain ⟨fa, fd, h1, F⟩ := fs.f4
        exact ⟨fa, fd, h1, F.kp, (F.bindsN fun _ _ _ _ _ _ us hl => match us, hl with | [_], _ => rfl), Mi.fn_ok F sc4 rfl (d := d4) rfl rfl rfl rfl (by decide) (b4 ih)⟩
      | 5, h =>
        cases h
        obtain ⟨fa, fd, h1, F⟩ := fs.f5
        exact ⟨fa, fd, h1, F.kp, (F.bindsN fun _ _ _ _ _ _ us hl => match us, hl with | [_, _], _ => rfl), Mi.fn_ok F sc5 rfl (d := d5) rfl rfl rfl rfl (by decide) (b5 ih)⟩
      | 6, h =>
        cases h
        obtain ⟨fa, fd, h1, F⟩ := fs.f6
        exact ⟨fa, fd, h1, F.kp, (F.bindsN fun _ _ _ _ _ _ us hl => match us, hl with | [_, _], _ => rfl), Mi.fn_ok F sc6 rfl (d := d6) rfl rfl rfl rfl (by decide) (b6 ih)⟩
      | 7, h =>
        cases h
        obtain ⟨fa, fd, h1, F⟩ := fs.f7
        exact ⟨fa, fd, h1, F.kp, (F.bindsN fun _ _ _ _ _ _ us hl => match us, hl with | [_, _], _ => rfl), Mi.fn_ok F sc7 rfl (d := d7) rfl rfl rfl rfl (by decide) (b7 ih)⟩
      | 8, h =>
        cases h
        obtain ⟨fa, fd, h1, F⟩ := fs.f8
        exact ⟨fa, fd, h1, F.kp, (F.bindsN fun _ _ _ _ _ _ us hl => match us, hl with | [], _ => rfl), Mi.fn_ok F sc8 rfl (d := d8) rfl rfl rfl rfl (by decide) (b8 ih)⟩
      | 9, h =>
        cases h
        obtain ⟨fa, fd, h1, F⟩ := fs.f9
        exact ⟨fa, fd, h1, F.kp, (F.bindsN fun _ _ _ _ _ _ us hl => match us, hl with | [_, _], _ => rfl), Mi.fn_ok F sc9 rfl (d := d9) rfl rfl rfl rfl (by decide) (b9 ih)⟩
      | 10, h =>
        cases h
        obtain ⟨fa, fd, h1, F⟩ := fs.f10
        exact ⟨fa, fd, h1, F.kp, (F.bindsN fun _ _ _ _ _ _ us hl => match us, hl with | [_], _ => rfl), Mi.fn_ok F sc10 rfl (d := d10) rfl rfl rfl rfl (by decide) (b10 ih)⟩
      | 11, h =>
        cases h
        obtain ⟨fa, fd, h1, F⟩ := fs.f11
        exact ⟨fa, fd, h1, F.kp, (F.bindsN fun _ _ _ _ _ _ us hl => match us, hl with | [_], _ => rfl), Mi.fn_ok F sc11 rfl (d := d11) rfl rfl rfl rfl (by decide) (b11 ih)⟩
      | n + 12, h => cases h
    · intro f x ps h ht
      match f, h with
      | 0, h => exact absurd ht (by decide)
      | 1, h =>
        cases h
        obtain ⟨fa, fd, h1, F⟩ := fs.f1
        exact ⟨fa, fd, h1, F.kp, (Mi.FunD.kws F fun _ _ _ _ _ _ us hl => match us, hl with | [_, _, _], _ => rfl), Mi.fn_ok F sc1 rfl (d := d1) rfl rfl rfl rfl (by decide) (b1 ih)⟩
      | 2, h => exact absurd ht (by decide)
      | 3, h => exact absurd ht (by decide)
      | 4, h => exact absurd ht (by decide)
      | 5, h => exact absurd ht (by decide)
      | 6, h => exact absurd ht (by decide)
      | 7, h => exact absurd ht (by decide)
      | 8, h => exact absurd ht (by decide)
      | 9, h => exact absurd ht (by decide)
      | 10, h => exact absurd ht (by decide)
      | 11, h => exact absurd ht (by decide)
      | n + 12, h => cases h
end K02
set_option maxHeartbeats 0
namespace K02
open PySem PySem.Spec PyProof.Rows L2 Mi
abbrev R : PySem.W.OpenRow := PySem.W.OpenLaw.row PySem.Challenge.rw_loneround_k02_names_and_numerals
abbrev qv : Program := PySem.W.view R.prog [18]
def loose0 : List PySem.Str := ["KEPT", "LETTERS", "DIGITS", "MOST_LETTERS", "MOST_DIGITS", "is_whole", "is_number", "is_name", "is_numeral", "_law_bag", "_law_take", "_law_of", "_law_same", "_law_kept", "_law_number", "_law_odd_value"]
def loose : List PySem.Str := loose0
def D0 : He.DefD := ⟨("is_whole", none), "is_whole", "is_whole", defArgs s0, defBody s0, defScope s0, [], []⟩
def D1 : He.DefD := ⟨("is_number", none), "is_number", "is_number", defArgs s1, defBody s1, defScope s1, [], []⟩
def D2 : He.DefD := ⟨("is_name", none), "is_name", "is_name", defArgs s2, defBody s2, defScope s2, [], []⟩
def D3 : He.DefD := ⟨("is_numeral", none), "is_numeral", "is_numeral", defArgs s3, defBody s3, defScope s3, [], []⟩
def D4 : He.DefD := ⟨("_law_bag", none), "_law_bag", "_law_bag", defArgs s4, defBody s4, defScope s4, [], []⟩
def D5 : He.DefD := ⟨("_law_take", none), "_law_take", "_law_take", defArgs s5, defBody s5, defScope s5, [], []⟩
def D6 : He.DefD := ⟨("_law_of", none), "_law_of", "_law_of", defArgs s6, defBody s6, defScope s6, [], []⟩
def D7 : He.DefD := ⟨("_law_same", none), "_law_same", "_law_same", defArgs s7, defBody s7, defScope s7, [], []⟩
def D8 : He.DefD := ⟨("_law_kept", none), "_law_kept", "_law_kept", defArgs s8, defBody s8, defScope s8, [], []⟩
def D9 : He.DefD := ⟨("_law_number", none), "_law_number", "_law_number", defArgs s9, defBody s9, defScope s9, [], []⟩
def D10 : He.DefD := ⟨("_law_odd_value", none), "_law_odd_value", "_law_odd_value", defArgs s10, defBody s10, defScope s10, [], []⟩
def D11 : He.DefD := ⟨("law", none), "law", "law", defArgs s11, defBody s11, defScope s11, [], []⟩
def fn : List He.DefD := [D0, D1, D2, D3, D4, D5, D6, D7, D8, D9, D10, D11]
def fa : List He.Fa := [.glo "is_whole", .glo "is_number", .glo "is_name", .glo "is_numeral", .glo "_law_bag", .glo "_law_take", .glo "_law_of", .glo "_law_same", .glo "_law_kept", .glo "_law_number", .glo "_law_odd_value", .glo "law", .free "isinstance", .free "int", .free "bool", .free "str", .free "len", .free "all", .free "list", .free "abs", .free "dict", .free "tuple", .free "zip", .free "range"]
abbrev hk : PySem.W.Hook := hookM 4 fa fn gk
def ob (s : PySem.W.SharedT) : AlM := obsMG 4 fa fn gk (HandSHeadRun.getT s)
theorem ob_eq (s : PySem.W.SharedT) : ob s = hk.obs s.abs := obsMG_eq (HandSHeadRun.getT_eq s)
theorem run (w : World) : HandSHeadRun.RunEq R qv hk ob 2000 loose w := by
  intro os
  kernel_rfl
theorem fs {K : PySem.W.Frag} {h : Heap} {mg : PySem.Str → Option Value} (X : K.In h) (G : h.Ns mainGlobals mg) (c : He.SaysD fa fn K) : Fs K mg := by
  refine ⟨?_, ?_, ?_, ?_, ?_, ?_, ?_, ?_, ?_, ?_, ?_, ?_⟩
  · obtain ⟨fd, F⟩ := c.def_ 0 (d := D0) rfl
    exact ⟨_, fd, He.glo_ok X G (c.fact 0 (f := .glo "is_whole") rfl), F⟩
  · obtain ⟨fd, F⟩ := c.def_ 1 (d := D1) rfl
    exact ⟨_, fd, He.glo_ok X G (c.fact 1 (f := .glo "is_number") rfl), F⟩
  · obtain ⟨fd, F⟩ := c.def_ 2 (d := D2) rfl
    exact ⟨_, fd, He.glo_ok X G (c.fact 2 (f := .glo "is_name") rfl), F⟩
  · obtain ⟨fd, F⟩ := c.def_ 3 (d := D3) rfl
    exact ⟨_, fd, He.glo_ok X G (c.fact 3 (f := .glo "is_numeral") rfl), F⟩
  · obtain ⟨fd, F⟩ := c.def_ 4 (d := D4) rfl
    exact ⟨_, fd, He.glo_ok X G (c.fact 4 (f := .glo "_law_bag") rfl), F⟩
  · obtain ⟨fd, F⟩ := c.def_ 5 (d := D5) rfl
    exact ⟨_, fd, He.glo_ok X G (c.fact 5 (f := .glo "_law_take") rfl), F⟩
  · obtain ⟨fd, F⟩ := c.def_ 6 (d := D6) rfl
    exact ⟨_, fd, He.glo_ok X G (c.fact 6 (f := .glo "_law_of") rfl), F⟩
  · obtain ⟨fd, F⟩ := c.def_ 7 (d := D7) rfl
    exact ⟨_, fd, He.glo_ok X G (c.fact 7 (f := .glo "_law_same") rfl), F⟩
  · obtain ⟨fd, F⟩ := c.def_ 8 (d := D8) rfl
    exact ⟨_, fd, He.glo_ok X G (c.fact 8 (f := .glo "_law_kept") rfl), F⟩
  · obtain ⟨fd, F⟩ := c.def_ 9 (d := D9) rfl
    exact ⟨_, fd, He.glo_ok X G (c.fact 9 (f := .glo "_law_number") rfl), F⟩
  · obtain ⟨fd, F⟩ := c.def_ 10 (d := D10) rfl
    exact ⟨_, fd, He.glo_ok X G (c.fact 10 (f := .glo "_law_odd_value") rfl), F⟩
  · obtain ⟨fd, F⟩ := c.def_ 11 (d := D11) rfl
    exact ⟨_, fd, He.glo_ok X G (c.fact 11 (f := .glo "law") rfl), F⟩
theorem frs {K : PySem.W.Frag} {h : Heap} {mg : PySem.Str → Option Value} (X : K.In h) (G : h.Ns mainGlobals mg) (c : He.SaysD fa fn K) : ∀ (i : Nat) (x : PySem.Str), fr[i]? = some x → mg x = none := fun i x h => by
  match i, h with
  | 0, h =>
    cases h
    exact He.free_ok X G (c.fact 12 (f := .free "isinstance") rfl)
  | 1, h =>
    cases h
    exact He.free_ok X G (c.fact 13 (f := .free "int") rfl)
  | 2, h =>
    cases h
    exact He.free_ok X G (c.fact 14 (f := .free "bool") rfl)
  | 3, h =>
    cases h
    exact He.free_ok X G (c.fact 15 (f := .free "str") rfl)
  | 4, h =>
    cases h
    exact He.free_ok X G (c.fact 16 (f := .free "len") rfl)
  | 5, h =>
    cases h
    exact He.free_ok X G (c.fact 17 (f := .free "all") rfl)
  | 6, h =>
    cases h
    exact He.free_ok X G (c.fact 18 (f := .free "list") rfl)
  | 7, h =>
    cases h
    exact He.free_ok X G (c.fact 19 (f := .free "abs") rfl)
  | 8, h =>
    cases h
    exact He.free_ok X G (c.fact 20 (f := .free "dict") rfl)
  | 9, h =>
    cases h
    exact He.free_ok X G (c.fact 21 (f := .free "tuple") rfl)
  | 10, h =>
    cases h
    exact He.free_ok X G (c.fact 22 (f := .free "zip") rfl)
  | 11, h =>
    cases h
    exact He.free_ok X G (c.fact 23 (f := .free "range") rfl)
  | n + 12, h => cases h
theorem gks {G : Gm} {h : Heap} {mg : PySem.Str → Option Value} (X : G.K.In h) (Gn : h.Ns mainGlobals mg) (c : ∀ p ∈ gk, globK G.K p = true) : ∀ (i : Nat) (x : PySem.Str) (t : T), gk[i]? = some (x, t) → ∃ u v, mg x = some u ∧ RelV v u ∧ ∀ w, RF G w t v := fun i x t h => globK_ok X Gn (c _ (List.mem_of_getElem? h))
/-- what is left: the evaluator's answer -/
theorem holds_of {L k : Nat} (hr : L2.Room (k + 1) callerA) (law : ∀ ns : List Int, ns.length ≤ 63 → ∃ outs, callF defs L (k + 1) 11 [.fz (.scr ns)] = .ok (.fz (.bl true)) outs) : PySem.Challenge.rw_loneround_k02_names_and_numerals.Holds := by
  w_on; o_law
  refine HandSHeadRun.head_any (r := PySem.W.OpenLaw.row PySem.Challenge.rw_loneround_k02_names_and_numerals) (q := qv) (H := hk) (ob := ob) (M := 2000) (loose := loose) (d := HandSHeadRun.topDef (PySem.W.OpenLaw.row PySem.Challenge.rw_loneround_k02_names_and_numerals).prog 18) (kwd := []) ob_eq
    (by kernel_rfl) (fun s => by kernel_rfl) run (by kernel_rfl) (by kernel_rfl) (by kernel_rfl) (by rfl) (by first | assumption | decide +kernel) (by decide +kernel) ⟨rfl, rfl, rfl, rfl, rfl, by decide +kernel⟩ ?hw ?hc
  case hw => w_witness2
  case hc =>
    refine L2.walk_ofE (l := PySem.Challenge.rw_loneround_k02_names_and_numerals) (n := 63) (k := k + 1) (x := "_law_script") (CX := CXA (PySem.Challenge.rw_loneround_k02_names_and_numerals).prog) rfl (by decide) (by kernel_rfl) hr ?F (fun _ _ _ _ z => cxA_no z)
    case F =>
      intro w mg fa h Y Gn hmg0
      obtain ⟨K, KX, c⟩ := Y
      have hmg : mg ("law" : PySem.Str) = some (.ref fa) := by
        have e : (HandSHeadRun.topDef (PySem.W.OpenLaw.row PySem.Challenge.rw_loneround_k02_names_and_numerals).prog 18).name = ("law" : PySem.Str) := by kernel_rfl
        rw [← e]
        exact hmg0
      have cd := c.d
      obtain ⟨fd, F⟩ := cd.def_ 11 (d := D11) rfl
      have ea := hmg.symm.trans (He.glo_ok KX Gn (cd.fact 11 (f := .glo "law") rfl))
      cases ea
      have b := L2.FunD.bindsA (ps := p11) F fun _ _ _ _ _ _ us hl => match us, hl with | [_], _ => rfl
      refine ⟨K, fd, spM ⟨K, fun _ => 0, fun _ => default⟩ (callF defs L (k + 1)) 11, KX, fun s v => b s [v] rfl, fun H a ns hl hO hS => ?_, fun base hb hn => ?_⟩
      · obtain ⟨outs, ho⟩ := law ns hl
        exact law_sp ho hO hS _
      · exact cxA (Mi.fn_ok (G := ⟨K, fun _ => 0, fun _ => default⟩) F sc11 rfl (d := d11) rfl rfl rfl rfl (by decide) (b11 (all (G := ⟨K, fun _ => 0, fun _ => default⟩) (fs KX Gn cd) (gks (G := ⟨K, fun _ => 0, fun _ => default⟩) KX Gn c.g) (frs KX Gn cd) k)))
end K02
set_option maxHeartbeats 4000000
namespace K02
open PySem PySem.Spec PyProof.Rows L2 Mi

def LET : PySem.Str := "abcdefghijklmnopqrstuvwxyz"
def DIG : PySem.Str := "0123456789"
def KEPT : List T := [(.str "and"), (.str "or"), (.str "not"), (.str "of"), (.str "let"), (.str "none"), (.str "odd"), (.str "open"), (.str "phase"), (.str "round"), (.str "self")]
abbrev cs (z : PySem.Str) : List Nat := z.cps.toList
def isNum (t : T) (lo hi : Int) : Bool := match t with
  | .int v => decide (lo ≤ v) && decide (v ≤ hi)
  | _ => false
def isIns : T → Bool
  | .ins _ _ => true
  | _ => false
def isWhole : T → Bool
  | .int _ => true
  | _ => false
theorem whole_ok {L k : Nat} {t : T} (h : isIns t = false) : callF defs L (k + 1) 0 [.fz t] = .ok (.fz (.bl (isWhole t))) [.no] := by
  cases t <;> first | rfl | cases h
theorem num_ok {L k : Nat} {t : T} {lo hi : Int} (h : isIns t = false) : callF defs L (k + 2) 1 [.fz t, .fz (.int lo), .fz (.int hi)] = .ok (.fz (.bl (isNum t lo hi))) [.no, .no, .no] := by
  have hb : evSs (callF defs L (k + 1)) L d1.body ([.fz t, .fz (.int lo), .fz (.int hi)] ++ List.replicate (d1.ns - d1.np) .no) = .rt (.fz (.bl (isNum t lo hi))) [.fz t, .fz (.int lo), .fz (.int hi)] := by
    unfold d1 t1_0
    have w := whole_ok (L := L) (k := k) h
    cases hw : isWhole t with
    | false =>
      have : isNum t lo hi = false := by cases t <;> first | rfl | cases hw
      simp [evSs, evS, evE, evDs, Res.bind, ofR, R.opd, callR, pass, back, esc, w, hw, outR, this]
    | true =>
      cases t <;> first | cases hw | skip
      rename_i v
      by_cases h1 : lo ≤ v
      · simp [evSs, evS, evE, evDs, Res.bind, ofR, R.opd, callR, pass, back, esc, w, isWhole, outR, opR, ders, der, opF, op2, cmpF, fB, isNum, h1]
      · simp [evSs, evS, evE, evDs, Res.bind, ofR, R.opd, callR, pass, back, esc, w, isWhole, outR, opR, ders, der, opF, op2, cmpF, fB, isNum, h1]
  rw [run_fz (args := [.fz t, .fz (.int lo), .fz (.int hi)]) (d := d1) rfl rfl hb]
  rfl
def chr (c : Nat) : T := .str ⟨#[c]⟩
/-- a text, sign by sign -/
theorem chars_ok {cal : Nat → List Slot → CRes} {z : PySem.Str} {e : E} {W : PySem.Str} (he : e = .op .isin (.cons (.var 1) (.cons (.c (.str W)) .nil))) (hz : z.length ≤ sizeLine) :
    evE cal (.op .all (.cons (.comp [1] (.nm 1) (.it (.var 0)) .nil e) .nil)) [.fz (.str z), .no] = .ok (.fz (.bl ((cs z).all fun c => decide (c ∈ cs W)))) [.fz (.str z), .no] := by
  let g : T → T := fun x => match x with
    | .str ⟨#[c]⟩ => .bl (decide (c ∈ cs W))
    | x => x
  have hc := comp_map (own := [1]) (p := .nm 1) (cond := fun m => evAll cal .nil m) (elt := fun m => evE cal e m) (m0 := [.fz (.str z), .no]) g ((cs z).map chr) [] (fun x hx => by
    obtain ⟨c, _, rfl⟩ := List.mem_map.mp hx
    refine ⟨[.fz (.str z), .fz (chr c)], .fz (.bl (decide (c ∈ cs W))), by simp [bindP, wipeM], by rw [evAll], ?_, rfl, by simp [wipeM]⟩
    rw [he]
    simp [evE, evDs, Res.bind, R.opd, opR, ders, der, opF, op2, chr, inF, fB]) (by
      have : (cs z).length = z.length := Array.length_toList
      simp only [List.length_nil, List.length_map, this]; omega)
  have hg : ((cs z).map chr).map g = (cs z).map fun c => T.bl (decide (c ∈ cs W)) := by
    rw [List.map_map]; rfl
  rw [List.nil_append, hg] at hc
  have hb2 : bools ((cs z).map fun c => T.bl (decide (c ∈ cs W))) = some ((cs z).map fun c => decide (c ∈ cs W)) := by
    generalize cs z = l
    induction l with
    | nil => rfl
    | cons p l ih => simp only [List.map_cons, bools, ih, Option.map_some]
  have hi : itemsT (.str z) = some ((cs z).map chr) := if_pos hz
  have hall : ((cs z).map fun c => decide (c ∈ cs W)).all id = (cs z).all fun c => decide (c ∈ cs W) := by rw [List.all_map]; rfl
  have ho : noOw [.fz (.str z), .no] [1] = true := rfl
  have hw : wipeM [.fz (.str z), .no] [1] = [.fz (.str z), .no] := rfl
  have hr : restM [.fz (.str z), .no] [.fz (.str z), .no] [1] = [.fz (.str z), .no] := rfl
  have h1 : evE cal (.comp [1] (.nm 1) (.it (.var 0)) .nil e) [.fz (.str z), .no] = .ok (.ow (.lst ((cs z).map fun c => T.bl (decide (c ∈ cs W))))) [.fz (.str z), .no] := by
    rw [evE, evSrc, evE]
    simp only [List.getElem?_cons_zero, Res.bind, R.opd, esc, hi]
    rw [if_pos ho, hw, hc]
    show Res.ok _ (restM _ _ _) = _
    rw [hr]
  rw [evE, evDs, h1]
  simp only [Res.bind, evDs, R.opd, O.frz, opR, ders, der, opF, op1, Option.bind_some, allF, hb2, hall, fB]
def isName (z : PySem.Str) : Bool := (decide (1 ≤ z.length) && decide (z.length ≤ 6)) && (!(KEPT.any fun y => eqT y (.str z)) && (cs z).all fun c => decide (c ∈ cs LET))
theorem name_no {L k : Nat} {t : T} (h : isIns t = false) (hs : ∀ z, t ≠ .str z) : callF defs L (k + 1) 2 [.fz t] = .ok (.fz (.bl false)) [.no] := by
  cases t <;> first | rfl | (cases h; done) | exact (hs _ rfl).elim
theorem name_ok {L k : Nat} {z : PySem.Str} (hz : z.length ≤ sizeLine) : callF defs L (k + 1) 2 [.fz (.str z)] = .ok (.fz (.bl (isName z))) [.no] := by
  have hb : ∃ m, evSs (callF defs L k) L d2.body ([.fz (.str z)] ++ List.replicate (d2.ns - d2.np) .no) = .rt (.fz (.bl (isName z))) m := by
    refine ⟨[.fz (.str z), .no], ?_⟩
    have hk : inF id (.str z) (.tup KEPT) = fB (KEPT.any fun y => eqT y (.str z)) := by
      have hf : flatT (.str z) = true ∧ KEPT.all flatT = true := ⟨rfl, rfl⟩
      show (if flatT (.str z) = true ∧ KEPT.all flatT = true then fB (id (KEPT.any fun y => Mi.eqT y (.str z))) else none) = _
      rw [if_pos hf]; rfl
    unfold KEPT at hk
    have hcm := chars_ok (cal := callF defs L k) (z := z) (e := e2_0) (W := LET) rfl hz
    show evSs _ _ (.cons t2_0 (.cons t2_1 .nil)) [.fz (.str z), .no] = _
    unfold isName
    by_cases h1 : 1 ≤ z.length
    · by_cases h2 : z.length ≤ 6
      · cases h3 : KEPT.any fun y => eqT y (.str z) with
        | true =>
          unfold KEPT at h3
          rw [h3] at hk
          rw [seq_rt (m' := [.fz (.str z), .no]) (x := .fz (.bl false))]
          · simp
          · have h1' : (1 : Int) ≤ z.length := by omega
            have h2' : (z.length : Int) ≤ 6 := by omega
            unfold t2_0
            simp [evSs, evS, evE, evDs, Res.bind, ofR, R.opd, opR, ders, der, opF, op2, op1, cmpF, fB, fI, isi1F, Ty.has, lenF, hz, h1', h2', hk, outR]
        | false =>
          unfold KEPT at h3
          rw [h3] at hk
          rw [seq_nx (m' := [.fz (.str z), .no])]
          · unfold t2_1
            simp only [evSs, evS, ofR, hcm, outR]
            simp [h1, h2]
          · have h1' : (1 : Int) ≤ z.length := by omega
            have h2' : (z.length : Int) ≤ 6 := by omega
            unfold t2_0
            simp [evSs, evS, evE, evDs, Res.bind, ofR, R.opd, opR, ders, der, opF, op2, op1, cmpF, fB, fI, isi1F, Ty.has, lenF, hz, h1', h2', hk, outR]
      · rw [seq_rt (m' := [.fz (.str z), .no]) (x := .fz (.bl false))]
        · simp [h2]
        · have h1' : (1 : Int) ≤ z.length := by omega
          have h2' : ¬ (z.length : Int) ≤ 6 := by omega
          unfold t2_0
          simp [evSs, evS, evE, evDs, Res.bind, ofR, R.opd, opR, ders, der, opF, op2, op1, cmpF, fB, fI, isi1F, Ty.has, lenF, hz, h1', h2', outR]
    · rw [seq_rt (m' := [.fz (.str z), .no]) (x := .fz (.bl false))]
      · simp [h1]
      · have h1' : ¬ (1 : Int) ≤ z.length := by omega
        unfold t2_0
        simp [evSs, evS, evE, evDs, Res.bind, ofR, R.opd, opR, ders, der, opF, op2, op1, cmpF, fB, fI, isi1F, Ty.has, lenF, hz, h1', outR]
  obtain ⟨m, hb⟩ := hb
  rw [run_fz (args := [.fz (.str z)]) (d := d2) rfl rfl hb]
  rcases m with _ | ⟨a, m⟩ <;> rfl
def isNumeral (z : PySem.Str) : Bool := (decide (1 ≤ z.length) && decide (z.length ≤ 18)) && ((cs z).all (fun c => decide (c ∈ cs DIG)) && (decide (cs z = [48]) || decide ((cs z).head? ≠ some 48)))
theorem numeral_no {L k : Nat} {t : T} (h : isIns t = false) (hs : ∀ z, t ≠ .str z) : callF defs L (k + 1) 3 [.fz t] = .ok (.fz (.bl false)) [.no] := by
  cases t <;> first | rfl | (cases h; done) | exact (hs _ rfl).elim
theorem numeral_ok {L k : Nat} {z : PySem.Str} (hz : z.length ≤ sizeLine) : callF defs L (k + 1) 3 [.fz (.str z)] = .ok (.fz (.bl (isNumeral z))) [.no] := by
  have hb : ∃ m, evSs (callF defs L k) L d3.body ([.fz (.str z)] ++ List.replicate (d3.ns - d3.np) .no) = .rt (.fz (.bl (isNumeral z))) m := by
    refine ⟨[.fz (.str z), .no], ?_⟩
    have hcm := chars_ok (cal := callF defs L k) (z := z) (e := e3_0) (W := DIG) rfl hz
    show evSs _ _ (.cons t3_0 (.cons t3_1 .nil)) [.fz (.str z), .no] = _
    unfold isNumeral
    by_cases h1 : 1 ≤ z.length
    · have h1' : (1 : Int) ≤ z.length := by omega
      by_cases h2 : z.length ≤ 18
      · have h2' : (z.length : Int) ≤ 18 := by omega
        rw [seq_nx (m' := [.fz (.str z), .no])]
        · obtain ⟨c0, l, hl⟩ : ∃ c0 l, cs z = c0 :: l := by
            cases h : cs z with
            | nil =>
              have : (cs z).length = z.length := Array.length_toList
              rw [h] at this; simp at this; omega
            | cons a l => exact ⟨a, l, rfl⟩
          have ze : z = ⟨(c0 :: l).toArray⟩ := by
            rw [← hl]
          have a1 : idxF (.str z) (.int 0) = some (.fz (chr c0)) := by
            show (if z.length ≤ sizeLine then (atI z.cps.toList 0).map _ else none) = _
            rw [if_pos hz, show z.cps.toList = c0 :: l from hl]
            have : atI (c0 :: l) 0 = some c0 := atI_nat rfl rfl
            rw [this]
            rfl
          have q1 : ((z == ("0" : PySem.Str)) : Bool) = decide (cs z = [48]) := by
            rw [Bool.eq_iff_iff]
            simp only [beq_iff_eq, decide_eq_true_eq]
            constructor
            · intro e; rw [e]; rfl
            · intro e
              have : z = ⟨([48] : List Nat).toArray⟩ := by rw [← e]
              rw [this]; rfl
          have q2 : (((⟨#[c0]⟩ : PySem.Str) == ("0" : PySem.Str)) : Bool) = decide ((cs z).head? = some 48) := by
            rw [hl, Bool.eq_iff_iff]
            simp only [beq_iff_eq, decide_eq_true_eq, List.head?_cons, Option.some.injEq]
            constructor
            · intro e
              have h2 : [c0] = cs ("0" : PySem.Str) := congrArg (fun s : PySem.Str => s.cps.toList) e
              have h3 : cs ("0" : PySem.Str) = [48] := rfl
              rw [h3] at h2
              simpa using h2
            · rintro rfl; rfl
          have v0 : evE (callF defs L k) (.var 0) [.fz (.str z), .no] = .ok (.fz (.str z)) [.fz (.str z), .no] := ev_var rfl
          have hq1 : evE (callF defs L k) (.op .eq (.cons (.var 0) (.cons (.c (.str "0")) .nil))) [.fz (.str z), .no] = .ok (.fz (.bl (decide (cs z = [48])))) [.fz (.str z), .no] := by
            refine ev_op2 v0 ev_c ?_
            rw [← q1]; rfl
          have hq2 : evE (callF defs L k) (.op .ne (.cons (.op .idx (.cons (.var 0) (.cons (.c (.int 0)) .nil))) (.cons (.c (.str "0")) .nil))) [.fz (.str z), .no] = .ok (.fz (.bl (decide ((cs z).head? ≠ some 48)))) [.fz (.str z), .no] := by
            refine ev_op2 (ev_op2 v0 ev_c a1) ev_c ?_
            have : decide ((cs z).head? ≠ some 48) = !decide ((cs z).head? = some 48) := by simp
            rw [this, ← q2]; rfl
          have fin : evE (callF defs L k) (.an (.op .all (.cons (.comp [1] (.nm 1) (.it (.var 0)) .nil e3_0) .nil)) (.or (.op .eq (.cons (.var 0) (.cons (.c (.str "0")) .nil))) (.op .ne (.cons (.op .idx (.cons (.var 0) (.cons (.c (.int 0)) .nil))) (.cons (.c (.str "0")) .nil))))) [.fz (.str z), .no] = .ok (.fz (.bl ((cs z).all (fun c => decide (c ∈ cs DIG)) && (decide (cs z = [48]) || decide ((cs z).head? ≠ some 48))))) [.fz (.str z), .no] := by
            cases ha : (cs z).all fun c => decide (c ∈ cs DIG) with
            | false => rw [ha] at hcm; rw [ev_an0 hcm]; rfl
            | true =>
              rw [ha] at hcm
              rw [ev_an1 hcm]
              cases hq : decide (cs z = [48]) with
              | true => rw [hq] at hq1; rw [ev_or1 hq1]; rfl
              | false => rw [hq] at hq1; rw [ev_or0 hq1, hq2]; rfl
          rw [show (decide (1 ≤ z.length) && decide (z.length ≤ 18)) = true by simp [h1, h2], Bool.true_and]
          exact seq_rt (st_ret_fz fin)
        · unfold t3_0
          simp [evSs, evS, evE, evDs, Res.bind, ofR, R.opd, opR, ders, der, opF, op2, op1, cmpF, fB, fI, isi1F, Ty.has, lenF, hz, h1', h2', outR]
      · rw [seq_rt (m' := [.fz (.str z), .no]) (x := .fz (.bl false))]
        · simp [h2]
        · have h2' : ¬ (z.length : Int) ≤ 18 := by omega
          unfold t3_0
          simp [evSs, evS, evE, evDs, Res.bind, ofR, R.opd, opR, ders, der, opF, op2, op1, cmpF, fB, fI, isi1F, Ty.has, lenF, hz, h1', h2', outR]
    · rw [seq_rt (m' := [.fz (.str z), .no]) (x := .fz (.bl false))]
      · simp [h1]
      · have h1' : ¬ (1 : Int) ≤ z.length := by omega
        unfold t3_0
        simp [evSs, evS, evE, evDs, Res.bind, ofR, R.opd, opR, ders, der, opF, op2, op1, cmpF, fB, fI, isi1F, Ty.has, lenF, hz, h1', outR]
  obtain ⟨m, hb⟩ := hb
  rw [run_fz (args := [.fz (.str z)]) (d := d3) rfl rfl hb]
  rcases m with _ | ⟨a, m⟩ <;> rfl
end K02
set_option maxHeartbeats 4000000
namespace K02
open PySem PySem.Spec PyProof.Rows L2 Mi

theorem cs_len (z : PySem.Str) : (cs z).length = z.length := Array.length_toList
theorem str_ext {x y : PySem.Str} (h : cs x = cs y) : x = y := by
  obtain ⟨⟨l⟩⟩ := x
  obtain ⟨⟨l'⟩⟩ := y
  have : l = l' := h
  rw [this]
theorem kept_ok {L k : Nat} : callF defs L (k + 1) 8 [] = .ok (.ow (.lst KEPT)) [] := rfl
theorem odd_ok {L k c : Nat} {s : Slot} (B : Bag c s) (hc : c < 2 ^ 40) : ∃ y s', callF defs L (k + 3) 10 [s] = .ok (.fz y) [s'] ∧ isIns y = false ∧ (∀ z, y = .str z → z = ("1" : PySem.Str) ∨ z = ("" : PySem.Str) ∨ z = ("A b" : PySem.Str)) ∧ Bag (c + 1) s' := by
  have hl : evE (callF defs L (k + 2)) (.lst (.cons (.c .non) (.cons (.c (.bl true)) (.cons (.c (.bl false)) (.cons (.c (.str "1")) (.cons (.c (.str "")) (.cons (.lst (.cons (.c (.int 1)) .nil)) (.cons (.tup (.cons (.c (.int 1)) .nil)) (.cons (.lst (.cons (.c .non) .nil)) (.cons (.c (.str "A b")) .nil)))))))))) [s] = .ok (.ow (.lst [.non, .bl true, .bl false, .str "1", .str "", .lst [.int 1], .tup [.int 1], .lst [.non], .str "A b"])) [s] := by
    refine ev_lst (ts := [.non, .bl true, .bl false, .str "1", .str "", .lst [.int 1], .tup [.int 1], .lst [.non], .str "A b"]) ?_ (show 9 ≤ sizeLine by decide)
    refine ds_cons ev_c rfl (ds_cons ev_c rfl (ds_cons ev_c rfl (ds_cons ev_c rfl (ds_cons ev_c rfl (ds_cons (ev_lst (ts := [.int 1]) (ds_cons (ts := []) ev_c rfl ds_nil) (show 1 ≤ sizeLine by decide)) rfl (ds_cons (ev_tup (ts := [.int 1]) (ds_cons (ts := []) ev_c rfl ds_nil) (show 1 ≤ sizeLine by decide)) rfl (ds_cons (ev_lst (ts := [.non]) (ds_cons (ts := []) ev_c rfl ds_nil) (show 1 ≤ sizeLine by decide)) rfl (ds_cons (ts := []) ev_c rfl ds_nil))))))))
  obtain ⟨y, s', e1, hy, B'⟩ := ev_ofL (Γ := defs) (k := k) (f := 6) (t := 5) (i := 0) rfl rfl (m := [s]) rfl B hl rfl B hc (by decide) (by decide)
  refine ⟨y, s', ?_, ?_, ?_, B'⟩
  · have hb : evSs (callF defs L (k + 2)) L d10.body ([s] ++ List.replicate (d10.ns - d10.np) .no) = .rt (.fz y) [s'] := seq_rt (st_ret_fz e1)
    rw [run_fz (args := [s]) (d := d10) rfl rfl hb]
    rfl
  · simp only [List.mem_cons, List.not_mem_nil, or_false] at hy
    rcases hy with rfl | rfl | rfl | rfl | rfl | rfl | rfl | rfl | rfl <;> rfl
  · rintro z rfl
    simp only [List.mem_cons, List.not_mem_nil, or_false, T.str.injEq, reduceCtorEq, false_or] at hy
    exact hy
theorem number_ok {L k c : Nat} {s : Slot} (B : Bag c s) (hc : c < 2 ^ 39) : ∃ v s', callF defs L (k + 3) 9 [s, .fz (.int 100000000000000000)] = .ok (.fz (.int v)) [s', .no] ∧ (-(10 ^ 17) ≤ v ∧ v ≤ 10 ^ 17) ∧ Bag (c + 2) s' := by
  have hl : evE (callF defs L (k + 2)) (.lst (.cons (.c (.int 1)) (.cons (.c (.int 3)) (.cons (.c (.int 9)) (.cons (.var 1) .nil))))) [s, .fz (.int 100000000000000000), .no] = .ok (.ow (.lst [.int 1, .int 3, .int 9, .int 100000000000000000])) [s, .fz (.int 100000000000000000), .no] := by
    refine ev_lst (ts := [.int 1, .int 3, .int 9, .int 100000000000000000]) ?_ (show 4 ≤ sizeLine by decide)
    exact ds_cons ev_c rfl (ds_cons ev_c rfl (ds_cons ev_c rfl (ds_cons (ts := []) (ev_var rfl) rfl ds_nil)))
  obtain ⟨y, s1, e1, hy, B1⟩ := ev_ofL (Γ := defs) (k := k) (f := 6) (t := 5) (i := 0) rfl rfl (m := [s, .fz (.int 100000000000000000), .no]) rfl B hl rfl B (by omega) (by decide) (by decide)
  obtain ⟨n, rfl, hn⟩ : ∃ n, y = .int n ∧ (n = 1 ∨ n = 3 ∨ n = 9 ∨ n = 100000000000000000) := by
    simp only [List.mem_cons, List.not_mem_nil, or_false] at hy
    rcases hy with rfl | rfl | rfl | rfl <;> exact ⟨_, rfl, by simp⟩
  have m1 : mulF (.int 2) (.int n) = fI (2 * n) := mulF_ok (by decide) (by
    have : (100000000000000000 : Nat) < 2 ^ 200 := by decide
    omega)
  have e2 : evE (callF defs L (k + 2)) (.op .add (.cons (.op .mul (.cons (.c (.int 2)) (.cons (.var 2) .nil))) (.cons (.c (.int 1)) .nil))) [s1, .fz (.int 100000000000000000), .fz (.int n)] = .ok (.fz (.int (2 * n + 1))) [s1, .fz (.int 100000000000000000), .fz (.int n)] := ev_op2 (ev_op2 ev_c (ev_var rfl) m1) ev_c rfl
  obtain ⟨d, s2, e3, g0, g1, B2⟩ := ev_take (Γ := defs) (k := k + 1) (f := 5) (i := 0) rfl (m := [s1, .fz (.int 100000000000000000), .fz (.int n)]) rfl B1 e2 rfl B1 (by omega) (by omega) (by omega)
  refine ⟨d - n, s2, ?_, by omega, B2⟩
  have hb : evSs (callF defs L (k + 2)) L d9.body ([s, .fz (.int 100000000000000000)] ++ List.replicate (d9.ns - d9.np) .no) = .rt (.fz (.int (d - n))) [s2, .fz (.int 100000000000000000), .fz (.int n)] := by
    refine (seq_nx (st_set_fz e1 (show 2 < 3 by decide))).trans ?_
    exact seq_rt (st_ret_fz (ev_op2 e3 (ev_var rfl) rfl))
  rw [run_fz (args := [s, .fz (.int 100000000000000000)]) (d := d9) rfl rfl hb]
  rfl
/-! ### dues -/
/-- every due is met -/
theorem dues_ok {cal : Nat → List Slot → CRes} {e : E} {m : List Slot} {ds : List T} {f : T → Bool} (h7 : m[7]? = some (.ow (.lst ds))) (hm : ∃ a b c d e f g l, m = a :: b :: c :: d :: e :: f :: g :: Slot.ow (.lst ds) :: .no :: .no :: l) (hz : ds.length ≤ sizeLine)
    (hd : ∀ x ∈ ds, ∃ v b, x = .tup [v, .bl b] ∧ evE cal e (((m.set 7 (.fz (.lst ds))).set 8 (.fz v)).set 9 (.fz (.bl b))) = .ok (.fz (.bl true)) (((m.set 7 (.fz (.lst ds))).set 8 (.fz v)).set 9 (.fz (.bl b)))) {L : Nat} {a : Ss} :
    evS cal L (.ife (.nt (.op .all (.cons (.comp [8, 9] (.tup (.cons (.nm 8) (.cons (.nm 9) .nil))) (.it (.var 7)) .nil e) .nil))) a .nil) m = .nx (m.set 7 (.fz (.lst ds))) := by
  obtain ⟨x0, x1, x2, x3, x4, x5, x6, l, rfl⟩ := hm
  simp only [List.set_cons_succ, List.set_cons_zero] at hd ⊢
  have hc := comp_map (own := [8, 9]) (p := .tup (.cons (.nm 8) (.cons (.nm 9) .nil))) (cond := fun m => evAll cal .nil m) (elt := fun m => evE cal e m) (m0 := x0 :: x1 :: x2 :: x3 :: x4 :: x5 :: x6 :: .fz (.lst ds) :: .no :: .no :: l) (fun _ => .bl true) ds [] (fun x hx => by
    obtain ⟨v, b, rfl, h⟩ := hd x hx
    exact ⟨_, _, by simp [bindP, bindPs, wipeM], by rw [evAll], h, rfl, by simp [wipeM]⟩) (by simpa using hz)
  have hb : bools (ds.map fun _ => T.bl true) = some (ds.map fun _ => true) := by
    clear hc hd hz h7
    induction ds with
    | nil => rfl
    | cons a r ih => simp only [List.map_cons, bools, ih, Option.map_some]
  have ha : (ds.map fun _ => true).all id = true := by simp
  have h1 : evE cal (.comp [8, 9] (.tup (.cons (.nm 8) (.cons (.nm 9) .nil))) (.it (.var 7)) .nil e) (x0 :: x1 :: x2 :: x3 :: x4 :: x5 :: x6 :: .ow (.lst ds) :: .no :: .no :: l) = .ok (.ow (.lst (ds.map fun _ => .bl true))) (x0 :: x1 :: x2 :: x3 :: x4 :: x5 :: x6 :: .fz (.lst ds) :: .no :: .no :: l) := by
    rw [evE, evSrc, evE]
    simp only [List.getElem?_cons_succ, List.getElem?_cons_zero, Res.bind, R.opd, esc, O.frz, itemsT, List.set_cons_succ, List.set_cons_zero]
    rw [if_pos (by rfl)]
    have hw : wipeM (x0 :: x1 :: x2 :: x3 :: x4 :: x5 :: x6 :: .fz (.lst ds) :: .no :: .no :: l) [8, 9] = x0 :: x1 :: x2 :: x3 :: x4 :: x5 :: x6 :: .fz (.lst ds) :: .no :: .no :: l := by simp [wipeM]
    rw [hw, hc]
    show Res.ok _ _ = _
    simp [restM]
  have h2 : evE cal (.op .all (.cons (.comp [8, 9] (.tup (.cons (.nm 8) (.cons (.nm 9) .nil))) (.it (.var 7)) .nil e) .nil)) (x0 :: x1 :: x2 :: x3 :: x4 :: x5 :: x6 :: .ow (.lst ds) :: .no :: .no :: l) = .ok (.fz (.bl true)) (x0 :: x1 :: x2 :: x3 :: x4 :: x5 :: x6 :: .fz (.lst ds) :: .no :: .no :: l) := by
    rw [evE, evDs, h1]
    simp only [Res.bind, evDs, R.opd, O.frz, opR, ders, der, opF, op1, Option.bind_some, allF, hb, ha, fB]
  rw [st_if0 (ev_nt h2), evSs]
/-! ### the law's slots -/
def sl (ns : List Int) (b w a bad du nu te sp lo hi : Slot) : List Slot := [.fz (.scr ns), b, .fz (.str LET), w, .no, a, bad, du, .no, .no, nu, te, sp, lo, hi]
theorem word_loop {L : Nat} {ns : List Int} : ∀ (xs : List T) (l0 : List Nat) {c : Nat} {s : Slot}, Bag c s → c + xs.length < 2 ^ 30 → l0.length + xs.length ≤ sizeLine →
    ∃ l1 s', compGo [4] (.nm 4) (fun m => evAll (callF defs L 3) .nil m) (fun m => evE (callF defs L 3) e11_0 m) xs (l0.map chr) (sl ns s .no .no .no .no .no .no .no .no .no) = .ok ((l0 ++ l1).map chr) (sl ns s' .no .no .no .no .no .no .no .no .no) ∧ l1.length = xs.length ∧ (∀ x ∈ l1, x ∈ cs LET) ∧ Bag (c + xs.length) s'
  | [], l0, c, s, B, _, _ => ⟨[], s, by rw [compGo, List.append_nil], rfl, by simp, B⟩
  | x :: xs, l0, c, s, B, hc, hl => by
    simp only [List.length_cons] at hc hl
    have hx : lenF (.str LET) = fI (26 : Nat) := rfl
    have hi : ∀ d : Nat, d < 26 → ∃ y, idxF (.str LET) (.int d) = some (.fz y) := fun d hd => by
      have lt : d < (cs LET).length := hd
      refine ⟨chr (cs LET)[d], ?_⟩
      show (if LET.length ≤ sizeLine then (atI (cs LET) d).map _ else none) = _
      rw [if_pos (by decide), atI_nat (x := (cs LET)[d]) rfl (List.getElem?_eq_getElem lt)]
      rfl
    obtain ⟨d, y, s1, e1, g0, g1, B1⟩ := ev_of (Γ := defs) (L := L) (k := 1) (f := 6) (t := 5) (i := 1) (n := 26) (xs := .str LET) (e := .var 2) (r := .fz (.str LET)) rfl rfl (m := (sl ns s .no .no .no .no .no .no .no .no .no).set 4 (.fz x)) rfl B (ev_var rfl) rfl rfl B (by omega) hx (by decide) (by decide) hi
    have lt : d < (cs LET).length := g0
    have ey : y = chr (cs LET)[d] := by
      have g1 : (if LET.length ≤ sizeLine then (atI (cs LET) (d : Int)).map (fun c => R.fz (.str ⟨#[c]⟩)) else none) = some (.fz y) := g1
      rw [if_pos (by decide), atI_nat (x := (cs LET)[d]) rfl (List.getElem?_eq_getElem lt)] at g1
      cases g1
      rfl
    subst ey
    obtain ⟨l1, s', e2, h1, h2, B2⟩ := word_loop (L := L) (ns := ns) xs (l0 ++ [(cs LET)[d]]) B1 (by omega) (by simp; omega)
    refine ⟨(cs LET)[d] :: l1, s', ?_, by simp [h1], ?_, by rw [show c + (x :: xs).length = c + 1 + xs.length by simp; omega]; exact B2⟩
    · unfold compGo
      have hb : bindP (wipeM (sl ns s .no .no .no .no .no .no .no .no .no) [4]) (.nm 4) x = some ((sl ns s .no .no .no .no .no .no .no .no .no).set 4 (.fz x)) := by simp [bindP, wipeM, sl]
      have ha : evAll (callF defs L 3) .nil ((sl ns s .no .no .no .no .no .no .no .no .no).set 4 (.fz x)) = .ok (.fz (.bl true)) ((sl ns s .no .no .no .no .no .no .no .no .no).set 4 (.fz x)) := by rw [evAll]
      have he : evE (callF defs L 3) e11_0 ((sl ns s .no .no .no .no .no .no .no .no .no).set 4 (.fz x)) = _ := e1
      simp only [hb, ha, Res.bind, he, R.opd, esc]
      rw [if_pos (by simp; omega)]
      have e2' := e2
      rw [List.map_append] at e2'
      rw [show (l0 ++ (cs LET)[d] :: l1) = l0 ++ [(cs LET)[d]] ++ l1 by simp]
      exact e2'
    · intro z hz
      rcases List.mem_cons.mp hz with rfl | hz
      · exact List.getElem_mem lt
      · exact h2 z hz
end K02
set_option maxHeartbeats 4000000
namespace K02
open PySem PySem.Spec PyProof.Rows L2 Mi

/-! ### texts -/
theorem cs_app (x y : PySem.Str) : cs (x ++ y) = cs x ++ cs y := TL.tl_append x y
theorem join_cs : ∀ l : List Nat, cs (Txt.join "" (l.map fun c => (⟨#[c]⟩ : PySem.Str))) = l := fun l => by
  show TL.tl _ = _
  rw [TL.join_eq, TL.tl_join]
  have e : TL.tl ("" : PySem.Str) = [] := rfl
  rw [e, List.map_map]
  have h : ∀ l : List Nat, TL.joinL [] (l.map (TL.tl ∘ fun c => (⟨#[c]⟩ : PySem.Str))) = l := fun l => by
    induction l with
    | nil => rfl
    | cons a r ih =>
      cases r with
      | nil => rfl
      | cons b r =>
        show [a] ++ ([] ++ TL.joinL [] ((b :: r).map _)) = _
        rw [ih]; rfl
  exact h l
theorem strs_chr : ∀ l : List Nat, strsT (l.map chr) = some (l.map fun c => (⟨#[c]⟩ : PySem.Str))
  | [] => rfl
  | c :: l => by
    show (strsT (l.map chr)).map _ = _
    rw [strs_chr l]; rfl
theorem cut_to {z : PySem.Str} {a : Nat} (h : a ≤ z.length) : cs (cutS z none (some (a : Int))) = (cs z).take a := by
  show List.take _ _ = _
  rw [HT.sIx_none, HT.sIx_nat, Nat.min_eq_left h]
  simp
theorem cut_from {z : PySem.Str} {a : Nat} (h : a ≤ z.length) : cs (cutS z (some (a : Int)) none) = (cs z).drop a := by
  show List.take _ _ = _
  rw [HT.sIx_none, HT.sIx_nat, Nat.min_eq_left h]
  apply List.take_of_length_le
  show (List.drop a (cs z)).length ≤ _
  rw [List.length_drop, cs_len]
  exact Nat.le_refl _
/-- a text with a sign put in -/
theorem put_ok {cal : Nat → List Slot → CRes} {m : List Slot} {i j k : Nat} {z b : PySem.Str} {a : Nat} (hi : m[i]? = some (.fz (.str z))) (hj : m[j]? = some (.fz (.int (a : Int)))) (hk : m[k]? = some (.fz (.str b))) (ha : a ≤ z.length) (hz : z.length ≤ 100) (hb : b.length = 1) :
    ∃ t, evE cal (.op .add (.cons (.op .add (.cons (.op (.sl false true) (.cons (.var i) (.cons (.var j) .nil))) (.cons (.var k) .nil))) (.cons (.op (.sl true false) (.cons (.var i) (.cons (.var j) .nil))) .nil))) m = .ok (.fz (.str t)) m ∧ cs t = (cs z).take a ++ cs b ++ (cs z).drop a := by
  have zl : z.length ≤ sizeLine := by have : 100 ≤ sizeLine := by decide
                                      omega
  have l1 : (cutS z none (some (a : Int))).length ≤ 100 := by rw [← cs_len, cut_to ha, List.length_take, cs_len]; omega
  have l2 : (cutS z (some (a : Int)) none).length ≤ 100 := by rw [← cs_len, cut_from ha, List.length_drop, cs_len]; omega
  have l3 : (cutS z none (some (a : Int)) ++ b).length ≤ 101 := by
    rw [← cs_len, cs_app, List.length_append, cs_len, cs_len]; omega
  have sz : 300 ≤ sizeLine := by decide
  have s1 : opF (.sl false true) [.str z, .int (a : Int)] = some (.fz (.str (cutS z none (some (a : Int))))) := if_pos zl
  have s2 : opF (.sl true false) [.str z, .int (a : Int)] = some (.fz (.str (cutS z (some (a : Int)) none))) := if_pos zl
  have s3 : opF .add [.str (cutS z none (some (a : Int))), .str b] = some (.fz (.str (cutS z none (some (a : Int)) ++ b))) := if_pos (by omega)
  have s4 : opF .add [.str (cutS z none (some (a : Int)) ++ b), .str (cutS z (some (a : Int)) none)] = some (.fz (.str (cutS z none (some (a : Int)) ++ b ++ cutS z (some (a : Int)) none))) := if_pos (by omega)
  refine ⟨_, ev_op2 (ev_op2 (ev_op2 (ev_var hi) (ev_var hj) s1) (ev_var hk) s3) (ev_op2 (ev_var hi) (ev_var hj) s2) s4, ?_⟩
  rw [cs_app, cs_app, cut_to ha, cut_from ha]
theorem pre_ok {cal : Nat → List Slot → CRes} {m : List Slot} {i : Nat} {z b : PySem.Str} (hi : m[i]? = some (.fz (.str z))) (hz : z.length ≤ 100) (hb : b.length = 1) :
    evE cal (.op .add (.cons (.c (.str b)) (.cons (.var i) .nil))) m = .ok (.fz (.str (b ++ z))) m := by
  have sz : 300 ≤ sizeLine := by decide
  exact ev_op2 ev_c (ev_var hi) (if_pos (by omega))
theorem name_bad {z : PySem.Str} {c : Nat} (h : c ∈ cs z) (hc : c ∉ cs LET) : isName z = false := by
  unfold isName
  have : ((cs z).all fun c => decide (c ∈ cs LET)) = false := by
    rw [List.all_eq_false]
    exact ⟨c, h, by simpa using hc⟩
  rw [this]; simp
theorem numeral_bad {z : PySem.Str} {c : Nat} (h : c ∈ cs z) (hc : c ∉ cs DIG) : isNumeral z = false := by
  unfold isNumeral
  have : ((cs z).all fun c => decide (c ∈ cs DIG)) = false := by
    rw [List.all_eq_false]
    exact ⟨c, h, by simpa using hc⟩
  rw [this]; simp
theorem dig_mem {c : Nat} (h : 48 ≤ c ∧ c ≤ 57) : c ∈ cs DIG := by
  obtain ⟨h1, h2⟩ := h
  have : c = 48 ∨ c = 49 ∨ c = 50 ∨ c = 51 ∨ c = 52 ∨ c = 53 ∨ c = 54 ∨ c = 55 ∨ c = 56 ∨ c = 57 := by omega
  rcases this with rfl | rfl | rfl | rfl | rfl | rfl | rfl | rfl | rfl | rfl <;> decide
theorem num_dig (n : Nat) : ∀ c ∈ TL.numL n, c ∈ cs DIG := fun c hc => dig_mem (TL.numL_digits n c hc)
theorem num_head : ∀ {n : Nat}, 0 < n → (TL.numL n).head? ≠ some 48 := fun {n} => by
  induction n using Nat.strongRecOn with
  | _ n ih =>
    intro h
    by_cases h10 : n < 10
    · rw [TL.numL_lt h10]
      simp; omega
    · rw [TL.numL_step (by omega)]
      have := ih (n / 10) (by omega) (by omega)
      have ne := TL.numL_ne (n / 10)
      cases hl : TL.numL (n / 10) with
      | nil => exact absurd hl ne
      | cons a r => rw [hl] at this; simpa using this
/-! ### calls of the program's own -/
theorem e1_ok {L f : Nat} {m : List Slot} {v : T} {b : Bool} (h8 : m[8]? = some (.fz v)) (h9 : m[9]? = some (.fz (.bl b))) (hc : callF defs L 3 f [.fz v] = .ok (.fz (.bl b)) [.no]) :
    evE (callF defs L 3) (.call 7 [false, false] (.cons (.call f [false] (.cons (.var 8) .nil)) (.cons (.var 9) .nil))) m = .ok (.fz (.bl true)) m := by
  have hs := same_flat (Γ := defs) (L := L) (k := 2) (f := 7) (s := 7) rfl (x := .bl b) (y := .bl b) rfl rfl
  have : sameT (.bl b) (.bl b) = true := by simp [sameT]
  rw [this] at hs
  exact ev_call2 (ev_call1 (ev_var h8) rfl hc) rfl (ev_var h9) rfl hs
theorem e3_ok {L : Nat} {m : List Slot} {v : T} {b : Bool} {lo hi : Int} (h8 : m[8]? = some (.fz v)) (h9 : m[9]? = some (.fz (.bl b))) (h13 : m[13]? = some (.fz (.int lo))) (h14 : m[14]? = some (.fz (.int hi))) (hv : isIns v = false) (hc : isNum v lo hi = b) :
    evE (callF defs L 3) e11_3 m = .ok (.fz (.bl true)) m := by
  have hs := same_flat (Γ := defs) (L := L) (k := 2) (f := 7) (s := 7) rfl (x := .bl b) (y := .bl b) rfl rfl
  have : sameT (.bl b) (.bl b) = true := by simp [sameT]
  rw [this] at hs
  have hn := num_ok (L := L) (k := 1) (lo := lo) (hi := hi) hv
  rw [hc] at hn
  exact ev_call2 (ev_call3 (ev_var h8) rfl (ev_var h13) rfl (ev_var h14) rfl hn) rfl (ev_var h9) rfl hs
/-- what the two tests of texts say -/
def nameT : T → Bool
  | .str z => isName z
  | _ => false
def numeralT : T → Bool
  | .str z => isNumeral z
  | _ => false
def okT : T → Prop
  | .str z => z.length ≤ 1000
  | .ins _ _ => False
  | _ => True
theorem k1000 : 1000 ≤ sizeLine := by decide
theorem nameT_ok {L k : Nat} {t : T} (h : okT t) : callF defs L (k + 1) 2 [.fz t] = .ok (.fz (.bl (nameT t))) [.no] := by
  cases t with
  | str z => exact name_ok (Nat.le_trans h k1000)
  | ins c fs => exact h.elim
  | _ => exact name_no rfl (fun _ z => nomatch z)
theorem numeralT_ok {L k : Nat} {t : T} (h : okT t) : callF defs L (k + 1) 3 [.fz t] = .ok (.fz (.bl (numeralT t))) [.no] := by
  cases t with
  | str z => exact numeral_ok (Nat.le_trans h k1000)
  | ins c fs => exact h.elim
  | _ => exact numeral_no rfl (fun _ z => nomatch z)
end K02
set_option maxHeartbeats 4000000
namespace K02
open PySem PySem.Spec PyProof.Rows L2 Mi

abbrev cal : Nat → List Slot → CRes := callF defs 0 3
theorem ev_kept {m : List Slot} : evE cal (.call 8 [] .nil) m = .ok (.ow (.lst KEPT)) m := by
  rw [evE, evDs]
  have : cal 8 [] = .ok (.ow (.lst KEPT)) [] := rfl
  simp [Res.bind, callR, pass, this, back]
theorem step2 {m : List Slot} : evS cal 0 t11_2 m = .nx m := by
  have hs := same_list (Γ := defs) (L := 0) (k := 1) (f := 7) (s := 7) rfl rfl (xs := KEPT) (ys := KEPT) rfl rfl rfl (by decide)
  have e : ((KEPT.zip KEPT).all fun p => sameT p.1 p.2) = true := by decide
  rw [e] at hs
  have h1 : evE cal (.call 7 [false, false] (.cons (.op .list (.cons (.c (.tup KEPT)) .nil)) (.cons (.call 8 [] .nil) .nil))) m = .ok (.fz (.bl true)) m := ev_call2 (ev_op1 ev_c rfl) rfl ev_kept rfl hs
  exact (st_if0 ((ev_or0 (ev_nt h1)).trans (ev_nt (b := true) (ev_op1 ev_c rfl)))).trans (by rw [evSs])
theorem step3 {ns : List Int} {s : Slot} {c : Nat} (B : Bag c s) (hc : c < 2 ^ 20) : ∃ w s', evS cal 0 t11_3 (sl ns s .no .no .no .no .no .no .no .no .no) = .nx (sl ns s' (.fz (.str w)) .no .no .no .no .no .no .no .no) ∧ w.length ≤ 8 ∧ (∀ x ∈ cs w, x ∈ cs LET) ∧ ∃ c', c' ≤ c + 9 ∧ Bag c' s' := by
  obtain ⟨d, s1, e1, g0, g1, B1⟩ := ev_take (Γ := defs) (L := 0) (k := 2) (f := 5) (i := 1) (e := .c (.int 9)) rfl (m := sl ns s .no .no .no .no .no .no .no .no .no) rfl B ev_c rfl B (by omega) (by decide) (by decide)
  obtain ⟨d', rfl⟩ := Int.eq_ofNat_of_zero_le g0
  have len : (Mi.rangeT 0 (d' : Int)).length = d' := by simp [Mi.rangeT]
  obtain ⟨l1, s2, e2, h1, h2, B2⟩ := word_loop (L := 0) (ns := ns) (Mi.rangeT 0 (d' : Int)) [] B1 (by omega) (by have := k1000; simp [len]; omega)
  rw [len] at h1 B2
  refine ⟨Txt.join "" (l1.map fun c => (⟨#[c]⟩ : PySem.Str)), s2, ?_, by rw [← cs_len, join_cs]; omega, by rw [join_cs]; exact h2, _, by omega, B2⟩
  have hw : wideI (d' : Int) = true := decide_eq_true (by omega)
  have hcomp : evE cal (.comp [4] (.nm 4) (.rng1 (.call 5 [true, false] (.cons (.var 1) (.cons (.c (.int 9)) .nil)))) .nil e11_0) (sl ns s .no .no .no .no .no .no .no .no .no) = .ok (.ow (.lst (l1.map chr))) (sl ns s2 .no .no .no .no .no .no .no .no .no) := by
    have e2' := e2
    rw [List.map_nil, List.nil_append] at e2'
    exact ev_comp (m1 := sl ns s1 .no .no .no .no .no .no .no .no .no) (src_rng1 e1 hw) rfl e2'
  have hj : evE cal (.jn (.c (.str "")) (.comp [4] (.nm 4) (.rng1 (.call 5 [true, false] (.cons (.var 1) (.cons (.c (.int 9)) .nil)))) .nil e11_0)) (sl ns s .no .no .no .no .no .no .no .no .no) = .ok (.fz (.str (Txt.join "" (l1.map fun c => (⟨#[c]⟩ : PySem.Str))))) (sl ns s2 .no .no .no .no .no .no .no .no .no) := by
    have jf : joinF (.str "") (.lst (l1.map chr)) = some (.fz (.str (Txt.join "" (l1.map fun c => (⟨#[c]⟩ : PySem.Str))))) := by
      show ((strsT (l1.map chr)).bind fun ys => _) = _
      rw [strs_chr]
      have hsum : ∀ l : List Nat, ((l.map fun c => (⟨#[c]⟩ : PySem.Str)).map (·.length)).sum = l.length := fun l => by
        induction l with
        | nil => rfl
        | cons a r ih => simp only [List.map_cons, List.sum_cons, ih, List.length_cons]; show 1 + _ = _; omega
      have h0 : ("" : PySem.Str).length = 0 := rfl
      show (if _ then _ else _) = _
      rw [if_pos (by rw [hsum, h0]; omega)]
      rfl
    rw [evE, ev_c]
    simp only [Res.bind, R.opd, der, hcomp, O.frz]
    rw [jf]
  exact st_set_fz hj (show 3 < 15 by decide)
/-- the sign put in -/
def Bad (b : PySem.Str) : Prop := b = ("A" : PySem.Str) ∨ b = (" " : PySem.Str) ∨ b = ("0" : PySem.Str) ∨ b = ("-" : PySem.Str) ∨ b = ("{" : PySem.Str) ∨ b = ("`" : PySem.Str) ∨ b = ("\n" : PySem.Str) ∨ b = ("_" : PySem.Str)
theorem Bad.facts {b : PySem.Str} (h : Bad b) : b.length = 1 ∧ ∃ c, cs b = [c] ∧ c ∉ cs LET ∧ (b = ("0" : PySem.Str) ∨ c ∉ cs DIG) := by
  rcases h with rfl | rfl | rfl | rfl | rfl | rfl | rfl | rfl
  all_goals exact ⟨by decide, _, rfl, by decide, by first | exact .inl rfl | exact .inr (by decide)⟩
theorem step4 {ns : List Int} {s : Slot} {c : Nat} {w : PySem.Str} (B : Bag c s) (hc : c < 2 ^ 20) (hw : w.length ≤ 8) : ∃ a s', evS cal 0 t11_4 (sl ns s (.fz (.str w)) .no .no .no .no .no .no .no .no) = .nx (sl ns s' (.fz (.str w)) (.fz (.int ((a : Nat) : Int))) .no .no .no .no .no .no .no) ∧ a ≤ w.length ∧ Bag (c + 1) s' := by
  have he : evE cal (.op .add (.cons (.op .len (.cons (.var 3) .nil)) (.cons (.c (.int 1)) .nil))) (sl ns s (.fz (.str w)) .no .no .no .no .no .no .no .no) = .ok (.fz (.int (w.length + 1))) (sl ns s (.fz (.str w)) .no .no .no .no .no .no .no .no) :=
    ev_op2 (ev_op1 (ev_var rfl) (if_pos (by have := k1000; omega))) ev_c rfl
  obtain ⟨d, s1, e1, g0, g1, B1⟩ := ev_take (Γ := defs) (L := 0) (k := 2) (f := 5) (i := 1) rfl (m := sl ns s (.fz (.str w)) .no .no .no .no .no .no .no .no) rfl B he rfl B (by omega) (by omega) (by omega)
  obtain ⟨a, rfl⟩ := Int.eq_ofNat_of_zero_le g0
  exact ⟨a, s1, st_set_fz e1 (show 5 < 15 by decide), by omega, B1⟩
theorem step5 {ns : List Int} {s w a : Slot} {c : Nat} (B : Bag c s) (hc : c < 2 ^ 20) : ∃ b s', evS cal 0 t11_5 (sl ns s w a .no .no .no .no .no .no .no) = .nx (sl ns s' w a (.fz (.str b)) .no .no .no .no .no .no) ∧ Bad b ∧ Bag (c + 1) s' := by
  have hl : evE cal (.lst (.cons (.c (.str "A")) (.cons (.c (.str " ")) (.cons (.c (.str "0")) (.cons (.c (.str "-")) (.cons (.c (.str "{")) (.cons (.c (.str "`")) (.cons (.c (.str "\n")) (.cons (.c (.str "_")) .nil))))))))) (sl ns s w a .no .no .no .no .no .no .no) = .ok (.ow (.lst [.str "A", .str " ", .str "0", .str "-", .str "{", .str "`", .str "\n", .str "_"])) (sl ns s w a .no .no .no .no .no .no .no) := by
    refine ev_lst (ts := [.str "A", .str " ", .str "0", .str "-", .str "{", .str "`", .str "\n", .str "_"]) ?_ (show 8 ≤ sizeLine by decide)
    exact ds_cons ev_c rfl (ds_cons ev_c rfl (ds_cons ev_c rfl (ds_cons ev_c rfl (ds_cons ev_c rfl (ds_cons ev_c rfl (ds_cons ev_c rfl (ds_cons (ts := []) ev_c rfl ds_nil)))))))
  obtain ⟨y, s1, e1, hy, B1⟩ := ev_ofL (Γ := defs) (L := 0) (k := 1) (f := 6) (t := 5) (i := 1) rfl rfl (m := sl ns s w a .no .no .no .no .no .no .no) rfl B hl rfl B (by omega) (by decide) (by decide)
  have : ∃ b, y = .str b ∧ Bad b := by
    simp only [List.mem_cons, List.not_mem_nil, or_false] at hy
    unfold Bad
    rcases hy with rfl | rfl | rfl | rfl | rfl | rfl | rfl | rfl <;> exact ⟨_, rfl, by simp⟩
  obtain ⟨b, rfl, hb⟩ := this
  exact ⟨b, s1, st_set_fz e1 (show 6 < 15 by decide), hb, B1⟩
theorem kept_mem {y : T} (h : y ∈ KEPT) : ∃ z, y = .str z ∧ isName z = false ∧ z.length ≤ 1000 := by
  unfold KEPT at h
  simp only [List.mem_cons, List.not_mem_nil, or_false] at h
  rcases h with rfl | rfl | rfl | rfl | rfl | rfl | rfl | rfl | rfl | rfl | rfl <;> exact ⟨_, rfl, by decide, by decide⟩
def Met (f : T → Bool) (x : T) : Prop := ∃ v b, x = .tup [v, .bl b] ∧ okT v ∧ f v = b
theorem step6 {ns : List Int} {s : Slot} {c a : Nat} {w b : PySem.Str} (B : Bag c s) (hc : c < 2 ^ 20) (hw : w.length ≤ 8) (hl : ∀ x ∈ cs w, x ∈ cs LET) (ha : a ≤ w.length) (hb : Bad b) :
    ∃ ds s', evS cal 0 t11_6 (sl ns s (.fz (.str w)) (.fz (.int (a : Int))) (.fz (.str b)) .no .no .no .no .no .no) = .nx (sl ns s' (.fz (.str w)) (.fz (.int (a : Int))) (.fz (.str b)) (.ow (.lst ds)) .no .no .no .no .no) ∧ ds.length ≤ 1000 ∧ (∀ x ∈ ds, Met nameT x) ∧ ∃ c', c' ≤ c + 2 ∧ Bag c' s' := by
  let m := sl ns s (.fz (.str w)) (.fz (.int (a : Int))) (.fz (.str b)) .no .no .no .no .no .no
  have k := k1000
  obtain ⟨b1, c0, hc0, hn0, _⟩ := hb.facts
  -- the first due
  have hd1 : evE cal (.an (.ch .le .le (.c (.int 1)) (.op .len (.cons (.var 3) .nil)) (.c (.int 6))) (.op .notin (.cons (.var 3) (.cons (.call 8 [] .nil) .nil)))) m = .ok (.fz (.bl (isName w))) m := by
    have hle : evE cal (.op .len (.cons (.var 3) .nil)) m = .ok (.fz (.int w.length)) m := ev_op1 (ev_var rfl) (if_pos (by omega))
    have hall : ((cs w).all fun c => decide (c ∈ cs LET)) = true := List.all_eq_true.mpr fun x hx => decide_eq_true (hl x hx)
    have hch : evE cal (.ch .le .le (.c (.int 1)) (.op .len (.cons (.var 3) .nil)) (.c (.int 6))) m = .ok (.fz (.bl (decide (1 ≤ w.length) && decide (w.length ≤ 6)))) m := by
      rw [evE, ev_c]
      simp only [Res.bind, hle, R.opd, opR, ders, der, opF, op2, Option.bind_some, cmpF, fB]
      by_cases h1 : (1 : Int) ≤ w.length
      · have h1' : 1 ≤ w.length := by omega
        simp only [h1, h1', decide_true, Bool.true_and]
        rw [ev_c]
        simp only [Res.bind, R.opd, opR, ders, der, opF, op2, Option.bind_some, cmpF, fB]
        have : decide ((w.length : Int) ≤ 6) = decide (w.length ≤ 6) := by
          apply decide_eq_decide.mpr; omega
        rw [this]
      · have h1' : ¬ 1 ≤ w.length := by omega
        simp only [h1, h1', decide_false, Bool.false_and]
    have hni : evE cal (.op .notin (.cons (.var 3) (.cons (.call 8 [] .nil) .nil))) m = .ok (.fz (.bl (!(KEPT.any fun y => Mi.eqT y (.str w))))) m := by
      rw [evE, evDs, ev_var (t := .str w) rfl]
      simp only [Res.bind]
      rw [evDs, ev_kept]
      have hf : flatT (.str w) = true ∧ KEPT.all flatT = true := ⟨rfl, rfl⟩
      have hi : inF not (.str w) (.lst KEPT) = fB (!(KEPT.any fun y => Mi.eqT y (.str w))) := by
        show (if flatT (.str w) = true ∧ KEPT.all flatT = true then fB (!(KEPT.any fun y => Mi.eqT y (.str w))) else none) = _
        rw [if_pos hf]
      simp only [Res.bind, evDs, R.opd, O.frz, opR, ders, der, opF, op2, Option.bind_some, hi, fB]
    unfold isName
    rw [hall, Bool.and_true]
    cases hq : decide (1 ≤ w.length) && decide (w.length ≤ 6) with
    | true => rw [hq] at hch; rw [ev_an1 hch, hni, Bool.true_and]
    | false => rw [hq] at hch; rw [ev_an0 hch, Bool.false_and]
  obtain ⟨t, et, ht⟩ := put_ok (cal := cal) (m := m) (i := 3) (j := 5) (k := 6) rfl rfl rfl ha (by omega) b1
  have htl : t.length ≤ 1000 := by
    rw [← cs_len, ht, List.length_append, List.length_append, List.length_take, List.length_drop, hc0, cs_len]; simp; omega
  have htn : isName t = false := name_bad (c := c0) (by rw [ht, hc0]; simp) hn0
  obtain ⟨y, s1, e1, hy, B1⟩ := ev_ofL (Γ := defs) (L := 0) (k := 1) (f := 6) (t := 5) (i := 1) rfl rfl (m := m) rfl B ev_kept rfl B (by omega) (by decide) (by decide)
  obtain ⟨z, rfl, hz, hzl⟩ := kept_mem hy
  obtain ⟨y2, s2, e2, o1, o2, B2⟩ := odd_ok (L := 0) (k := 0) B1 (by omega)
  let m1 := sl ns s1 (.fz (.str w)) (.fz (.int (a : Int))) (.fz (.str b)) .no .no .no .no .no .no
  let m2 := sl ns s2 (.fz (.str w)) (.fz (.int (a : Int))) (.fz (.str b)) .no .no .no .no .no .no
  have hodd : evE cal (.call 10 [true] (.cons (.var 1) .nil)) m1 = .ok (.fz y2) m2 := by
    obtain ⟨o, rfl⟩ := B1.ow
    rw [evE, evDs, ev_bag (m := m1) (i := 1) rfl B1]
    have e2' : cal 10 [.ow o] = .ok (.fz y2) [s2] := e2
    simp [Res.bind, evDs, R.opd, callR, pass, m1, m2, sl, e2', back]
  have hy2 : okT y2 ∧ nameT y2 = false := by
    cases y2 with
    | str z2 => rcases o2 z2 rfl with rfl | rfl | rfl <;> exact ⟨(by show _ ≤ 1000; decide), by decide⟩
    | ins c fs => cases o1
    | _ => exact ⟨trivial, rfl⟩
  refine ⟨[.tup [.str w, .bl (isName w)], .tup [.str t, .bl false], .tup [.str z, .bl false], .tup [.str "abcdef", .bl true], .tup [.str "abcdefg", .bl false], .tup [.str "z", .bl true], .tup [.str "", .bl false], .tup [y2, .bl false], .tup [.lst [.str w], .bl false], .tup [.str "an", .bl true]], s2, ?_, show 10 ≤ 1000 by decide, ?_, _, by omega, B2⟩
  · refine st_set_ow (i := 7) (m1 := m2) (o := .lst _) (ev_lst ?_ (show 10 ≤ sizeLine by decide)) (show 7 < 15 by decide)
    refine ds_cons (ev_pair (ev_var (m := m) rfl) rfl hd1 rfl) rfl ?_
    refine ds_cons (ev_pair et rfl ev_c rfl) rfl ?_
    refine ds_cons (m1 := m1) (ev_pair e1 rfl ev_c rfl) rfl ?_
    refine ds_cons (ev_pair ev_c rfl ev_c rfl) rfl ?_
    refine ds_cons (ev_pair ev_c rfl ev_c rfl) rfl ?_
    refine ds_cons (ev_pair ev_c rfl ev_c rfl) rfl ?_
    refine ds_cons (ev_pair ev_c rfl ev_c rfl) rfl ?_
    refine ds_cons (ev_pair hodd rfl ev_c rfl) rfl ?_
    refine ds_cons (ev_pair (ev_lst (ts := [.str w]) (ds_cons (ts := []) (ev_var (m := m2) rfl) rfl ds_nil) (show 1 ≤ sizeLine by decide)) rfl ev_c rfl) rfl ?_
    exact ds_cons (ts := []) (ev_pair ev_c rfl ev_c rfl) rfl ds_nil
  · intro x hx
    simp only [List.mem_cons, List.not_mem_nil, or_false] at hx
    rcases hx with rfl | rfl | rfl | rfl | rfl | rfl | rfl | rfl | rfl | rfl
    · exact ⟨_, _, rfl, show w.length ≤ 1000 by omega, rfl⟩
    · exact ⟨_, _, rfl, htl, htn⟩
    · exact ⟨_, _, rfl, hzl, hz⟩
    · exact ⟨_, _, rfl, (show 6 ≤ 1000 by decide), by decide⟩
    · exact ⟨_, _, rfl, (show 7 ≤ 1000 by decide), by decide⟩
    · exact ⟨_, _, rfl, (show 1 ≤ 1000 by decide), by decide⟩
    · exact ⟨_, _, rfl, (show 0 ≤ 1000 by decide), by decide⟩
    · exact ⟨_, _, rfl, hy2.1, hy2.2⟩
    · exact ⟨_, _, rfl, trivial, rfl⟩
    · exact ⟨_, _, rfl, (show 2 ≤ 1000 by decide), by decide⟩
end K02
set_option maxHeartbeats 4000000
namespace K02
open PySem PySem.Spec PyProof.Rows L2 Mi

theorem step7 {ns : List Int} {s w a b : Slot} {ds : List T} (hl : ds.length ≤ 1000) (hm : ∀ x ∈ ds, Met nameT x) : evS cal 0 t11_7 (sl ns s w a b (.ow (.lst ds)) .no .no .no .no .no) = .nx (sl ns s w a b (.fz (.lst ds)) .no .no .no .no .no) := by
  refine dues_ok (f := nameT) rfl ⟨_, _, _, _, _, _, _, _, rfl⟩ (Nat.le_trans hl k1000) fun x hx => ?_
  obtain ⟨v, bb, rfl, h1, h2⟩ := hm x hx
  refine ⟨v, bb, rfl, e1_ok rfl rfl ?_⟩
  rw [← h2]
  exact nameT_ok h1
theorem step8 {ns : List Int} {s w a b du : Slot} {c : Nat} (B : Bag c s) (hc : c < 2 ^ 20) : ∃ n s', evS cal 0 t11_8 (sl ns s w a b du .no .no .no .no .no) = .nx (sl ns s' w a b du (.fz (.int ((n : Nat) : Int))) .no .no .no .no) ∧ n < 10 ^ 18 ∧ Bag (c + 2) s' := by
  have hl : evE cal (.lst (.cons (.c (.int 2)) (.cons (.c (.int 10)) (.cons (.op .pow (.cons (.c (.int 10)) (.cons (.c (.int 6)) .nil))) (.cons (.op .pow (.cons (.c (.int 10)) (.cons (.c (.int 18)) .nil))) .nil))))) (sl ns s w a b du .no .no .no .no .no) = .ok (.ow (.lst [.int 2, .int 10, .int 1000000, .int 1000000000000000000])) (sl ns s w a b du .no .no .no .no .no) := by
    refine ev_lst (ts := [.int 2, .int 10, .int 1000000, .int 1000000000000000000]) ?_ (show 4 ≤ sizeLine by decide)
    exact ds_cons ev_c rfl (ds_cons ev_c rfl (ds_cons (ev_op2 ev_c ev_c rfl) rfl (ds_cons (ts := []) (ev_op2 ev_c ev_c rfl) rfl ds_nil)))
  obtain ⟨y, s1, e1, hy, B1⟩ := ev_ofL (Γ := defs) (L := 0) (k := 1) (f := 6) (t := 5) (i := 1) rfl rfl (m := sl ns s w a b du .no .no .no .no .no) rfl B hl rfl B (by omega) (by decide) (by decide)
  obtain ⟨n, rfl, hn0, hn⟩ : ∃ n : Int, y = .int n ∧ 0 < n ∧ n ≤ 1000000000000000000 := by
    simp only [List.mem_cons, List.not_mem_nil, or_false] at hy
    rcases hy with rfl | rfl | rfl | rfl <;> exact ⟨_, rfl, by decide, by decide⟩
  obtain ⟨d, s2, e2, g0, g1, B2⟩ := ev_take (Γ := defs) (L := 0) (k := 2) (f := 5) (i := 1) rfl (m := sl ns s w a b du .no .no .no .no .no) rfl B e1 rfl B1 (by omega) hn0 (by omega)
  obtain ⟨n', rfl⟩ := Int.eq_ofNat_of_zero_le g0
  exact ⟨n', s2, st_set_fz e2 (show 10 < 15 by decide), by omega, B2⟩
theorem log_small {n : Nat} (h : n < 2 ^ 200) : n.log2 < 1920 := by
  by_cases z : n = 0
  · subst z; decide
  · have := (Nat.log2_lt z).mpr h
    omega
theorem str_num (n : Nat) (h : n < 10 ^ 18) : ∃ z : PySem.Str, strF (.int (n : Int)) = some (.fz (.str z)) ∧ cs z = TL.numL n ∧ z.length ≤ 18 := by
  refine ⟨_, if_pos (log_small (by have : (10 ^ 18 : Nat) < 2 ^ 200 := by decide
                                   omega)), TL.tl_num n, ?_⟩
  rw [← cs_len]
  have : cs (Str.ofString (toString ((n : Nat) : Int))) = TL.numL n := TL.tl_num n
  rw [this]
  exact TL.numL_len (by decide) h
theorem step9 {ns : List Int} {s w a b du : Slot} {n : Nat} (h : n < 10 ^ 18) : ∃ z : PySem.Str, evS cal 0 t11_9 (sl ns s w a b du (.fz (.int (n : Int))) .no .no .no .no) = .nx (sl ns s w a b du (.fz (.int (n : Int))) (.fz (.str z)) .no .no .no) ∧ cs z = TL.numL n ∧ z.length ≤ 18 := by
  obtain ⟨z, h1, h2, h3⟩ := str_num n h
  exact ⟨z, st_set_fz (ev_op1 (f := .str) (t := .int (n : Int)) (ev_var rfl) h1) (show 11 < 15 by decide), h2, h3⟩
theorem step10 {ns : List Int} {s w a b du nu : Slot} {c : Nat} {z : PySem.Str} (B : Bag c s) (hc : c < 2 ^ 20) (hz : z.length ≤ 18) : ∃ p s', evS cal 0 t11_10 (sl ns s w a b du nu (.fz (.str z)) .no .no .no) = .nx (sl ns s' w a b du nu (.fz (.str z)) (.fz (.int ((p : Nat) : Int))) .no .no) ∧ p ≤ z.length ∧ Bag (c + 1) s' := by
  have he : evE cal (.op .add (.cons (.op .len (.cons (.var 11) .nil)) (.cons (.c (.int 1)) .nil))) (sl ns s w a b du nu (.fz (.str z)) .no .no .no) = .ok (.fz (.int (z.length + 1))) (sl ns s w a b du nu (.fz (.str z)) .no .no .no) :=
    ev_op2 (ev_op1 (ev_var rfl) (if_pos (by have := k1000; omega))) ev_c rfl
  obtain ⟨d, s1, e1, g0, g1, B1⟩ := ev_take (Γ := defs) (L := 0) (k := 2) (f := 5) (i := 1) rfl (m := sl ns s w a b du nu (.fz (.str z)) .no .no .no) rfl B he rfl B (by omega) (by omega) (by omega)
  obtain ⟨p, rfl⟩ := Int.eq_ofNat_of_zero_le g0
  exact ⟨p, s1, st_set_fz e1 (show 12 < 15 by decide), by omega, B1⟩
theorem isNumeral_of {z : PySem.Str} (h : (cs z).all (fun c => decide (c ∈ cs DIG)) = true) : isNumeral z = ((decide (1 ≤ (cs z).length) && decide ((cs z).length ≤ 18)) && (decide (cs z = [48]) || decide ((cs z).head? ≠ some 48))) := by
  unfold isNumeral
  rw [h, Bool.true_and, cs_len]
theorem all_dig {l : List Nat} (h : ∀ c ∈ l, c ∈ cs DIG) : l.all (fun c => decide (c ∈ cs DIG)) = true := List.all_eq_true.mpr fun c hc => decide_eq_true (h c hc)
theorem numeral_num {n : Nat} {z : PySem.Str} (h : n < 10 ^ 18) (hz : cs z = TL.numL n) : isNumeral z = true := by
  rw [isNumeral_of (by rw [hz]; exact all_dig (num_dig n)), hz]
  have l1 : (TL.numL n).length ≤ 18 := TL.numL_len (by decide) h
  have l0 : 1 ≤ (TL.numL n).length := by
    cases e : TL.numL n with
    | nil => exact absurd e (TL.numL_ne n)
    | cons a r => simp
  have h3 : (decide (TL.numL n = [48]) || decide ((TL.numL n).head? ≠ some 48)) = true := by
    by_cases h0 : n = 0
    · subst h0; rw [TL.numL_lt (by decide)]; decide
    · have := num_head (show 0 < n by omega)
      simp [this]
  rw [h3]
  simp [l0, l1]
theorem numeral_zero {n : Nat} {z : PySem.Str} (hz : cs z = 48 :: TL.numL n) : isNumeral z = false := by
  rw [isNumeral_of (by rw [hz]; exact all_dig (by
    intro c hc
    rcases List.mem_cons.mp hc with rfl | hc
    · decide
    · exact num_dig n c hc)), hz]
  have : TL.numL n ≠ [] := TL.numL_ne n
  simp [this]
/-- the sign put into a numeral -/
theorem numeral_put {n p : Nat} {z t : PySem.Str} (h : n < 10 ^ 18) (hz : cs z = TL.numL n) (hp : p ≤ z.length) (ht : cs t = (cs z).take p ++ [48] ++ (cs z).drop p) : isNumeral t = (decide (0 < p) && (decide (0 < n) && decide (z.length < 18))) := by
  have hd : ∀ c ∈ cs t, c ∈ cs DIG := fun c hc => by
    rw [ht, List.append_assoc] at hc
    rcases List.mem_append.mp hc with hc | hc
    · exact num_dig n c (hz ▸ List.mem_of_mem_take hc)
    · rcases List.mem_append.mp hc with hc | hc
      · rw [List.mem_singleton.mp hc]; decide
      · exact num_dig n c (hz ▸ List.mem_of_mem_drop hc)
  rw [isNumeral_of (all_dig hd)]
  have hlz : z.length = (TL.numL n).length := by rw [← hz, cs_len]
  have hlen : (cs t).length = z.length + 1 := by
    rw [ht, List.length_append, List.length_append, List.length_take, List.length_drop, cs_len]
    simp; omega
  have l0 : 1 ≤ z.length := by
    rw [hlz]
    cases e : TL.numL n with
    | nil => exact absurd e (TL.numL_ne n)
    | cons a r => simp
  have n48 : cs t ≠ [48] := fun e => by rw [e] at hlen; simp at hlen; omega
  have l1 : z.length ≤ 18 := by rw [hlz]; exact TL.numL_len (by decide) h
  rw [hlen]
  by_cases p0 : p = 0
  · subst p0
    have : (cs t).head? = some 48 := by rw [ht]; simp
    simp [this, n48]
  · obtain ⟨c0, r, hc⟩ : ∃ c0 r, cs z = c0 :: r := by
      cases e : cs z with
      | nil => rw [← cs_len, e] at l0; simp at l0
      | cons a r => exact ⟨a, r, rfl⟩
    have hh : (cs t).head? = some c0 := by
      obtain ⟨p', rfl⟩ : ∃ p', p = p' + 1 := ⟨p - 1, by omega⟩
      rw [ht, hc]; simp
    have hp0 : 0 < p := by omega
    by_cases h0 : n = 0
    · subst h0
      have : c0 = 48 := by
        rw [TL.numL_lt (by decide)] at hz
        rw [hc] at hz
        simpa using (List.cons.inj hz).1
      simp [hh, this, n48]
    · have hn : 0 < n := by omega
      have : c0 ≠ 48 := by
        have := num_head hn
        rw [← hz, hc] at this
        simpa using this
      have e : decide (z.length + 1 ≤ 18) = decide (z.length < 18) := by apply decide_eq_decide.mpr; omega
      rw [e]
      simp [hh, this, hp0, hn]
end K02
set_option maxHeartbeats 4000000
namespace K02
open PySem PySem.Spec PyProof.Rows L2 Mi

theorem step11 {ns : List Int} {s w a du : Slot} {b z : PySem.Str} {n p : Nat} (hn : n < 10 ^ 18) (hz : cs z = TL.numL n) (hzl : z.length ≤ 18) (hp : p ≤ z.length) (hb : Bad b) :
    ∃ ds, evS cal 0 t11_11 (sl ns s w a (.fz (.str b)) du (.fz (.int (n : Int))) (.fz (.str z)) (.fz (.int (p : Int))) .no .no) = .nx (sl ns s w a (.fz (.str b)) (.ow (.lst ds)) (.fz (.int (n : Int))) (.fz (.str z)) (.fz (.int (p : Int))) .no .no) ∧ ds.length ≤ 1000 ∧ ∀ x ∈ ds, Met numeralT x := by
  let m := sl ns s w a (.fz (.str b)) du (.fz (.int (n : Int))) (.fz (.str z)) (.fz (.int (p : Int))) .no .no
  have k := k1000
  obtain ⟨b1, c0, hc0, _, hn0⟩ := hb.facts
  have pre : ∀ (q : PySem.Str), q.length = 1 → evE cal (.op .add (.cons (.c (.str q)) (.cons (.var 11) .nil))) m = .ok (.fz (.str (q ++ z))) m := fun q hq => pre_ok (z := z) rfl (by omega) hq
  have plen : ∀ (q : PySem.Str), q.length = 1 → (q ++ z).length ≤ 1000 := fun q hq => by rw [← cs_len, cs_app, List.length_append, cs_len, cs_len]; omega
  obtain ⟨t, et, ht⟩ := put_ok (cal := cal) (m := m) (i := 11) (j := 12) (k := 6) rfl rfl rfl hp (by omega) b1
  have htl : t.length ≤ 1000 := by
    rw [← cs_len, ht, List.length_append, List.length_append, List.length_take, List.length_drop, hc0, cs_len]; simp; omega
  -- the put sign's due
  have hq1 : evE cal (.op .eq (.cons (.var 6) (.cons (.c (.str "0")) .nil))) m = .ok (.fz (.bl (b == ("0" : PySem.Str)))) m := ev_op2 (ev_var (t := .str b) rfl) ev_c rfl
  have hq2 : evE cal (.op .gt (.cons (.var 12) (.cons (.c (.int 0)) .nil))) m = .ok (.fz (.bl (decide (0 < p)))) m := by
    refine ev_op2 (ev_var (t := .int (p : Int)) rfl) ev_c ?_
    have : decide ((0 : Int) < (p : Int)) = decide (0 < p) := by apply decide_eq_decide.mpr; omega
    rw [← this]; rfl
  have hq3 : evE cal (.op .gt (.cons (.var 10) (.cons (.c (.int 0)) .nil))) m = .ok (.fz (.bl (decide (0 < n)))) m := by
    refine ev_op2 (ev_var (t := .int (n : Int)) rfl) ev_c ?_
    have : decide ((0 : Int) < (n : Int)) = decide (0 < n) := by apply decide_eq_decide.mpr; omega
    rw [← this]; rfl
  have hq4 : evE cal (.op .lt (.cons (.op .len (.cons (.var 11) .nil)) (.cons (.c (.int 18)) .nil))) m = .ok (.fz (.bl (decide (z.length < 18)))) m := by
    refine ev_op2 (ev_op1 (ev_var (t := .str z) rfl) (if_pos (by omega))) ev_c ?_
    have : decide ((z.length : Int) < 18) = decide (z.length < 18) := by apply decide_eq_decide.mpr; omega
    rw [← this]; rfl
  have hand : ∀ {x y : E} {u v : Bool}, evE cal x m = .ok (.fz (.bl u)) m → evE cal y m = .ok (.fz (.bl v)) m → evE cal (.an x y) m = .ok (.fz (.bl (u && v))) m := fun {x y u v} h1 h2 => by
    cases u with
    | true => rw [ev_an1 h1, h2, Bool.true_and]
    | false => rw [ev_an0 h1, Bool.false_and]
  have hdue := hand hq1 (hand hq2 (hand hq3 hq4))
  have hdue2 : isNumeral t = ((b == ("0" : PySem.Str)) && (decide (0 < p) && (decide (0 < n) && decide (z.length < 18)))) := by
    rcases hn0 with rfl | hc
    · have : (("0" : PySem.Str) == ("0" : PySem.Str)) = true := by decide
      rw [this, Bool.true_and]
      exact numeral_put hn hz hp ht
    · have : (b == ("0" : PySem.Str)) = false := by
        rw [Bool.eq_false_iff]
        intro e
        have e : b = ("0" : PySem.Str) := by simpa using e
        rw [e] at hc0
        have h48 : cs ("0" : PySem.Str) = [48] := rfl
        rw [h48] at hc0
        have : c0 = 48 := by simpa using hc0.symm
        rw [this] at hc
        exact hc (by decide)
      rw [this, Bool.false_and]
      exact numeral_bad (c := c0) (by rw [ht, hc0]; simp) hc
  have c45 : (45 : Nat) ∉ cs DIG := by decide
  have c43 : (43 : Nat) ∉ cs DIG := by decide
  have q0 : ("0" : PySem.Str).length = 1 := by decide
  have qm : ("-" : PySem.Str).length = 1 := by decide
  have qp : ("+" : PySem.Str).length = 1 := by decide
  have n9 : evE cal (.op .mul (.cons (.c (.str "9")) (.cons (.c (.int 18)) .nil))) m = .ok (.fz (.str (Txt.mul "9" 18))) m := ev_op2 ev_c ev_c rfl
  have n10 : evE cal (.op .add (.cons (.c (.str "1")) (.cons (.op .mul (.cons (.c (.str "0")) (.cons (.c (.int 18)) .nil))) .nil))) m = .ok (.fz (.str ("1" ++ Txt.mul "0" 18))) m := ev_op2 ev_c (ev_op2 ev_c ev_c rfl) rfl
  have l9 : (Txt.mul ("9" : PySem.Str) 18).length = 18 := by decide
  have l10 : (("1" : PySem.Str) ++ Txt.mul ("0" : PySem.Str) 18).length = 19 := by decide
  refine ⟨[.tup [.str z, .bl true], .tup [.str ("0" ++ z), .bl false], .tup [.str t, .bl ((b == ("0" : PySem.Str)) && (decide (0 < p) && (decide (0 < n) && decide (z.length < 18))))], .tup [.str ("-" ++ z), .bl false], .tup [.str "0", .bl true], .tup [.str (Txt.mul "9" 18), .bl true], .tup [.str ("1" ++ Txt.mul "0" 18), .bl false], .tup [.str "", .bl false], .tup [.int (n : Int), .bl false], .tup [.non, .bl false], .tup [.lst [.str z], .bl false], .tup [.str ("+" ++ z), .bl false]], ?_, show 12 ≤ 1000 by decide, ?_⟩
  · refine st_set_ow (i := 7) (m1 := m) (o := .lst _) (ev_lst ?_ (show 12 ≤ sizeLine by decide)) (show 7 < 15 by decide)
    refine ds_cons (ev_pair (ev_var (m := m) rfl) rfl ev_c rfl) rfl ?_
    refine ds_cons (ev_pair (pre _ q0) rfl ev_c rfl) rfl ?_
    refine ds_cons (ev_pair et rfl hdue rfl) rfl ?_
    refine ds_cons (ev_pair (pre _ qm) rfl ev_c rfl) rfl ?_
    refine ds_cons (ev_pair ev_c rfl ev_c rfl) rfl ?_
    refine ds_cons (ev_pair n9 rfl ev_c rfl) rfl ?_
    refine ds_cons (ev_pair n10 rfl ev_c rfl) rfl ?_
    refine ds_cons (ev_pair ev_c rfl ev_c rfl) rfl ?_
    refine ds_cons (ev_pair (ev_var (m := m) rfl) rfl ev_c rfl) rfl ?_
    refine ds_cons (ev_pair ev_c rfl ev_c rfl) rfl ?_
    refine ds_cons (ev_pair (ev_lst (ts := [.str z]) (ds_cons (ts := []) (ev_var (m := m) rfl) rfl ds_nil) (show 1 ≤ sizeLine by decide)) rfl ev_c rfl) rfl ?_
    exact ds_cons (ts := []) (ev_pair (pre _ qp) rfl ev_c rfl) rfl ds_nil
  · intro x hx
    simp only [List.mem_cons, List.not_mem_nil, or_false] at hx
    rcases hx with rfl | rfl | rfl | rfl | rfl | rfl | rfl | rfl | rfl | rfl | rfl | rfl
    · exact ⟨_, _, rfl, show z.length ≤ 1000 by omega, numeral_num hn hz⟩
    · exact ⟨_, _, rfl, plen _ q0, numeral_zero (n := n) (by rw [cs_app, hz]; rfl)⟩
    · exact ⟨_, _, rfl, htl, hdue2⟩
    · exact ⟨_, _, rfl, plen _ qm, numeral_bad (c := 45) (by rw [cs_app]; exact List.mem_append_left _ (by decide)) c45⟩
    · exact ⟨_, _, rfl, (show 1 ≤ 1000 by decide), by decide⟩
    · exact ⟨_, _, rfl, (show _ ≤ 1000 by rw [l9]; decide), by decide⟩
    · exact ⟨_, _, rfl, (show _ ≤ 1000 by rw [l10]; decide), by decide⟩
    · exact ⟨_, _, rfl, (show 0 ≤ 1000 by decide), by decide⟩
    · exact ⟨_, _, rfl, trivial, rfl⟩
    · exact ⟨_, _, rfl, trivial, rfl⟩
    · exact ⟨_, _, rfl, trivial, rfl⟩
    · exact ⟨_, _, rfl, plen _ qp, numeral_bad (c := 43) (by rw [cs_app]; exact List.mem_append_left _ (by decide)) c43⟩
theorem step12 {ns : List Int} {s w a b nu te sp : Slot} {ds : List T} (hl : ds.length ≤ 1000) (hm : ∀ x ∈ ds, Met numeralT x) : evS cal 0 t11_12 (sl ns s w a b (.ow (.lst ds)) nu te sp .no .no) = .nx (sl ns s w a b (.fz (.lst ds)) nu te sp .no .no) := by
  refine dues_ok (f := numeralT) rfl ⟨_, _, _, _, _, _, _, _, rfl⟩ (Nat.le_trans hl k1000) fun x hx => ?_
  obtain ⟨v, bb, rfl, h1, h2⟩ := hm x hx
  refine ⟨v, bb, rfl, e1_ok rfl rfl ?_⟩
  rw [← h2]
  exact numeralT_ok h1
theorem step13 {ns : List Int} {s w a b du nu te sp : Slot} {c : Nat} (B : Bag c s) (hc : c < 2 ^ 20) : ∃ v s', evS cal 0 t11_13 (sl ns s w a b du nu te sp .no .no) = .nx (sl ns s' w a b du nu te sp (.fz (.int v)) .no) ∧ (-(10 ^ 17) ≤ v ∧ v ≤ 10 ^ 17) ∧ Bag (c + 2) s' := by
  obtain ⟨v, s1, e1, h1, B1⟩ := number_ok (L := 0) (k := 0) B (by omega)
  refine ⟨v, s1, ?_, h1, B1⟩
  let m := sl ns s w a b du nu te sp .no .no
  have hp : evE cal (.op .pow (.cons (.c (.int 10)) (.cons (.c (.int 17)) .nil))) m = .ok (.fz (.int 100000000000000000)) m := ev_op2 ev_c ev_c rfl
  have he : evE cal (.call 9 [true, false] (.cons (.var 1) (.cons (.op .pow (.cons (.c (.int 10)) (.cons (.c (.int 17)) .nil))) .nil))) m = .ok (.fz (.int v)) (m.set 1 s1) := by
    rw [evE, evDs, ev_bag (m := m) (i := 1) rfl B]
    simp only [Res.bind]
    rw [evDs, hp]
    obtain ⟨o, rfl⟩ := B.ow
    have e1' : cal 9 [.ow o, .fz (.int 100000000000000000)] = .ok (.fz (.int v)) [s1, .no] := e1
    simp [Res.bind, evDs, Mi.R.opd, callR, pass, m, sl, esc, e1', back]
  exact st_set_fz he (show 13 < 15 by decide)
theorem step14 {ns : List Int} {s w a b du nu te sp : Slot} {c : Nat} {v : Int} (B : Bag c s) (hc : c < 2 ^ 20) : ∃ d s', evS cal 0 t11_14 (sl ns s w a b du nu te sp (.fz (.int v)) .no) = .nx (sl ns s' w a b du nu te sp (.fz (.int v)) (.fz (.int (v + d)))) ∧ 0 ≤ d ∧ Bag (c + 1) s' := by
  obtain ⟨d, s1, e1, g0, g1, B1⟩ := ev_take (Γ := defs) (L := 0) (k := 2) (f := 5) (i := 1) (e := .c (.int 9)) rfl (m := sl ns s w a b du nu te sp (.fz (.int v)) .no) rfl B ev_c rfl B (by omega) (by decide) (by decide)
  exact ⟨d, s1, st_set_fz (ev_op2 (ev_var (t := .int v) rfl) e1 rfl) (show 14 < 15 by decide), g0, B1⟩
theorem step15 {ns : List Int} {s w a b du nu te sp : Slot} {v d : Int} (hv : -(10 ^ 17) ≤ v ∧ v ≤ 10 ^ 17) (hd : 0 ≤ d) : ∃ ds, evS cal 0 t11_15 (sl ns s w a b du nu te sp (.fz (.int v)) (.fz (.int (v + d)))) = .nx (sl ns s w a b (.ow (.lst ds)) nu te sp (.fz (.int v)) (.fz (.int (v + d)))) ∧ ds.length ≤ 1000 ∧ ∀ x ∈ ds, ∃ u bb, x = .tup [u, .bl bb] ∧ isIns u = false ∧ isNum u v (v + d) = bb := by
  let m := sl ns s w a b du nu te sp (.fz (.int v)) (.fz (.int (v + d)))
  have hs : strF (.int v) = some (.fz (.str (toString v))) := if_pos (log_small (by
    have : (10 ^ 17 : Nat) < 2 ^ 200 := by decide
    omega))
  refine ⟨[.tup [.int v, .bl true], .tup [.int (v + d), .bl true], .tup [.int (v - 1), .bl false], .tup [.int (v + d + 1), .bl false], .tup [.str (toString v), .bl false], .tup [.lst [.int v], .bl false], .tup [.non, .bl false]], ?_, show 7 ≤ 1000 by decide, ?_⟩
  · refine st_set_ow (i := 7) (m1 := m) (o := .lst _) (ev_lst ?_ (show 7 ≤ sizeLine by decide)) (show 7 < 15 by decide)
    refine ds_cons (ev_pair (ev_var (m := m) rfl) rfl ev_c rfl) rfl ?_
    refine ds_cons (ev_pair (ev_var (m := m) rfl) rfl ev_c rfl) rfl ?_
    refine ds_cons (ev_pair (ev_op2 (ev_var (m := m) (t := .int v) rfl) ev_c rfl) rfl ev_c rfl) rfl ?_
    refine ds_cons (ev_pair (ev_op2 (ev_var (m := m) (t := .int (v + d)) rfl) ev_c rfl) rfl ev_c rfl) rfl ?_
    refine ds_cons (ev_pair (ev_op1 (f := .str) (ev_var (m := m) (t := .int v) rfl) hs) rfl ev_c rfl) rfl ?_
    refine ds_cons (ev_pair (ev_lst (ts := [.int v]) (ds_cons (ts := []) (ev_var (m := m) rfl) rfl ds_nil) (show 1 ≤ sizeLine by decide)) rfl ev_c rfl) rfl ?_
    exact ds_cons (ts := []) (ev_pair ev_c rfl ev_c rfl) rfl ds_nil
  · intro x hx
    simp only [List.mem_cons, List.not_mem_nil, or_false] at hx
    rcases hx with rfl | rfl | rfl | rfl | rfl | rfl | rfl
    · exact ⟨_, _, rfl, rfl, by simp [isNum]; omega⟩
    · exact ⟨_, _, rfl, rfl, by simp [isNum]; omega⟩
    · exact ⟨_, _, rfl, rfl, by simp [isNum]; omega⟩
    · exact ⟨_, _, rfl, rfl, by simp [isNum]; omega⟩
    · exact ⟨_, _, rfl, rfl, rfl⟩
    · exact ⟨_, _, rfl, rfl, rfl⟩
    · exact ⟨_, _, rfl, rfl, rfl⟩
theorem step16 {ns : List Int} {s w a b nu te sp : Slot} {v u : Int} {ds : List T} (hl : ds.length ≤ 1000) (hm : ∀ x ∈ ds, ∃ y bb, x = .tup [y, .bl bb] ∧ isIns y = false ∧ isNum y v u = bb) : evS cal 0 t11_16 (sl ns s w a b (.ow (.lst ds)) nu te sp (.fz (.int v)) (.fz (.int u))) = .nx (sl ns s w a b (.fz (.lst ds)) nu te sp (.fz (.int v)) (.fz (.int u))) := by
  refine dues_ok (f := fun _ => true) rfl ⟨_, _, _, _, _, _, _, _, rfl⟩ (Nat.le_trans hl k1000) fun x hx => ?_
  obtain ⟨y, bb, rfl, h1, h2⟩ := hm x hx
  exact ⟨y, bb, rfl, e3_ok rfl rfl rfl rfl h1 h2⟩
theorem step17 {m : List Slot} : evS cal 0 t11_17 m = .rt (.fz (.bl true)) m := by
  have hs := same_list (Γ := defs) (L := 0) (k := 1) (f := 7) (s := 7) rfl rfl (xs := [.bl false, .bl false, .bl true]) (ys := [.bl false, .bl false, .bl true]) rfl rfl rfl (by decide)
  have e : (([T.bl false, .bl false, .bl true].zip [T.bl false, .bl false, .bl true]).all fun p => sameT p.1 p.2) = true := by decide
  rw [e] at hs
  have c1 := num_ok (L := 0) (k := 1) (t := .bl true) (lo := 0) (hi := 2) rfl
  have c2 := num_ok (L := 0) (k := 1) (t := .bl false) (lo := 0) (hi := 0) rfl
  have c3 := num_ok (L := 0) (k := 1) (t := .int 1) (lo := 0) (hi := 1) rfl
  have i3 : isNum (.int 1) 0 1 = true := by decide
  rw [i3] at c3
  refine st_ret_fz (ev_call2 (m1 := m) (r := .ow (.lst [.bl false, .bl false, .bl true])) (r' := .ow (.lst [.bl false, .bl false, .bl true])) (ev_lst (ts := [.bl false, .bl false, .bl true]) ?_ (show 3 ≤ sizeLine by decide)) rfl (ev_lst (ts := [.bl false, .bl false, .bl true]) ?_ (show 3 ≤ sizeLine by decide)) rfl hs)
  · exact ds_cons (ev_call3 ev_c rfl ev_c rfl ev_c rfl c1) rfl (ds_cons (ev_call3 ev_c rfl ev_c rfl ev_c rfl c2) rfl (ds_cons (ts := []) (ev_call3 ev_c rfl ev_c rfl ev_c rfl c3) rfl ds_nil))
  · exact ds_cons ev_c rfl (ds_cons ev_c rfl (ds_cons (ts := []) ev_c rfl ds_nil))
theorem law_true (ns : List Int) : ∃ outs, callF defs 0 4 11 [.fz (.scr ns)] = .ok (.fz (.bl true)) outs := by
  obtain ⟨o0, e0, B0⟩ := bag_ok (Γ := defs) (L := 0) (k := 2) (f := 4) rfl (ns := ns)
  have h0 : evS cal 0 t11_0 [.fz (.scr ns), .no, .no, .no, .no, .no, .no, .no, .no, .no, .no, .no, .no, .no, .no] = .nx [.fz (.scr ns), .ow o0, .no, .no, .no, .no, .no, .no, .no, .no, .no, .no, .no, .no, .no] := by
    refine st_set_ow (i := 1) (o := o0) (m1 := [.fz (.scr ns), .no, .no, .no, .no, .no, .no, .no, .no, .no, .no, .no, .no, .no, .no]) ?_ (show 1 < 15 by decide)
    rw [evE, evDs, ev_var (t := .scr ns) rfl]
    have e0' : cal 4 [.fz (.scr ns)] = .ok (.ow o0) [.no] := e0
    simp [Res.bind, evDs, Mi.R.opd, callR, pass, esc, e0', back]
  have h1 : evS cal 0 t11_1 [.fz (.scr ns), .ow o0, .no, .no, .no, .no, .no, .no, .no, .no, .no, .no, .no, .no, .no] = .nx (sl ns (.ow o0) .no .no .no .no .no .no .no .no .no) := st_set_fz ev_c (show 2 < 15 by decide)
  obtain ⟨w, s3, h3, w1, w2, c3, hc3, B3⟩ := step3 (ns := ns) B0 (by decide)
  obtain ⟨a, s4, h4, ha, B4⟩ := step4 (ns := ns) (w := w) B3 (by omega) w1
  obtain ⟨b, s5, h5, hb, B5⟩ := step5 (ns := ns) (w := .fz (.str w)) (a := .fz (.int (a : Int))) B4 (by omega)
  obtain ⟨ds, s6, h6, l6, m6, c6, hc6, B6⟩ := step6 (ns := ns) B5 (by omega) w1 w2 ha hb
  have h7 := step7 (ns := ns) (s := s6) (w := .fz (.str w)) (a := .fz (.int (a : Int))) (b := .fz (.str b)) l6 m6
  obtain ⟨n, s8, h8, hn, B8⟩ := step8 (ns := ns) (w := .fz (.str w)) (a := .fz (.int (a : Int))) (b := .fz (.str b)) (du := .fz (.lst ds)) B6 (by omega)
  obtain ⟨z, h9, hz, hzl⟩ := step9 (ns := ns) (s := s8) (w := .fz (.str w)) (a := .fz (.int (a : Int))) (b := .fz (.str b)) (du := .fz (.lst ds)) hn
  obtain ⟨p, s10, h10, hp, B10⟩ := step10 (ns := ns) (w := .fz (.str w)) (a := .fz (.int (a : Int))) (b := .fz (.str b)) (du := .fz (.lst ds)) (nu := .fz (.int (n : Int))) B8 (by omega) hzl
  obtain ⟨ds2, h11, l11, m11⟩ := step11 (ns := ns) (s := s10) (w := .fz (.str w)) (a := .fz (.int (a : Int))) (du := .fz (.lst ds)) hn hz hzl hp hb
  have h12 := step12 (ns := ns) (s := s10) (w := .fz (.str w)) (a := .fz (.int (a : Int))) (b := .fz (.str b)) (nu := .fz (.int (n : Int))) (te := .fz (.str z)) (sp := .fz (.int (p : Int))) l11 m11
  obtain ⟨v, s13, h13, hv, B13⟩ := step13 (ns := ns) (w := .fz (.str w)) (a := .fz (.int (a : Int))) (b := .fz (.str b)) (du := .fz (.lst ds2)) (nu := .fz (.int (n : Int))) (te := .fz (.str z)) (sp := .fz (.int (p : Int))) B10 (by omega)
  obtain ⟨d, s14, h14, hd, B14⟩ := step14 (ns := ns) (w := .fz (.str w)) (a := .fz (.int (a : Int))) (b := .fz (.str b)) (du := .fz (.lst ds2)) (nu := .fz (.int (n : Int))) (te := .fz (.str z)) (sp := .fz (.int (p : Int))) (v := v) B13 (by omega)
  obtain ⟨ds3, h15, l15, m15⟩ := step15 (ns := ns) (s := s14) (w := .fz (.str w)) (a := .fz (.int (a : Int))) (b := .fz (.str b)) (du := .fz (.lst ds2)) (nu := .fz (.int (n : Int))) (te := .fz (.str z)) (sp := .fz (.int (p : Int))) hv hd
  have h16 := step16 (ns := ns) (s := s14) (w := .fz (.str w)) (a := .fz (.int (a : Int))) (b := .fz (.str b)) (nu := .fz (.int (n : Int))) (te := .fz (.str z)) (sp := .fz (.int (p : Int))) l15 m15
  have hb : evSs cal 0 d11.body ([.fz (.scr ns)] ++ List.replicate (d11.ns - d11.np) .no) = .rt (.fz (.bl true)) _ :=
    (seq_nx h0).trans ((seq_nx h1).trans ((seq_nx step2).trans ((seq_nx h3).trans ((seq_nx h4).trans ((seq_nx h5).trans ((seq_nx h6).trans ((seq_nx h7).trans ((seq_nx h8).trans ((seq_nx h9).trans ((seq_nx h10).trans ((seq_nx h11).trans ((seq_nx h12).trans ((seq_nx h13).trans ((seq_nx h14).trans ((seq_nx h15).trans ((seq_nx h16).trans (seq_rt step17)))))))))))))))))
  exact ⟨_, run_fz (args := [.fz (.scr ns)]) (d := d11) rfl rfl hb⟩
end K02
theorem PySem.Challenge.cw_loneround_k02_names_and_numerals_holds : PySem.Challenge.rw_loneround_k02_names_and_numerals.Holds := by
  exact K02.holds_of (L := 0) (k := 3) ⟨rfl, by decide, by decide⟩ fun ns _ => K02.law_true ns
