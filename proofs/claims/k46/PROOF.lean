import PyProof.Rows.All
import Wide.All
import OpenK.AllK
import Wide.FinOn
import HandS.ForMost
import KE.KStateDown
import HandS.Head0
import HandS.Head1
import HandS.Head2
import HandS.HeadEnd
import HandS.HeadHook1
import HandS.HeadHook2
import HandS.HeadNt
import HandS.Head3
import HandS.Words
import HandS.ExcInit
import HandS.ExcSuper
import KE.KExcSuper
import PySem.Challenge.RW_loneround_k46_whole_forms_of_phases
import HandS.SetFor
import HandS.Strs
import PyProof.DictUpdate
import HandS.Star
import HandS.IsInst
import HandS.Wide
import HandS.Defaults
import HandS.CallSlots
import HandS.RaiseMore
import KE.GoesEnum
import KE.GoesMore
import HandS.Zip
import HandS.Small
import HandS.Text
import HandS.More
import PyProof.StrBlock2
import HandS.ExcOwn
import HandS.Iter
import HandS.Comp
import HandS.Property
import OpenK.KOps
import HandS.SortInts
import PyProof.Conv_bool
import PyProof.Rows.Range3
import HandS.FStr
import HandS.MakeKw
import HandS.MakeKwOnly
import HandS.ClsMeth
import HandS.DictComp
import HandS.Gcd
import KE.KOpsOwn
import KE.KMathG
import HandS.Style
import HandS.Conv
import HandS.Records
import KE.KMathGC
import KE.KEqNest
import KE.KItemsList
import HandS.ListEq
set_option Elab.async false
set_option linter.all false
set_option maxRecDepth 100000
set_option maxHeartbeats 4000000
namespace Mi
open PySem PySem.Spec PyProof.Rows L2

noncomputable abbrev St := L2.St
/-! ### values -/
inductive T where
  | non | bl (b : Bool) | int (i : Int) | str (s : Str)
  | lst (xs : List T) | tup (xs : List T) | dic (kvs : List (Key × T)) | ins (c : Nat) (fs : List (Str × T)) | scr (ns : List Int)
inductive O where
  | lst (xs : List T) | dic (kvs : List (Key × T)) | ins (c : Nat) (fs : List (Str × T))
noncomputable def O.frz : O → T
  | .lst xs => .lst xs
  | .dic kvs => .dic kvs
  | .ins c fs => .ins c fs
inductive R where
  | fz (t : T) | ow (o : O) | bo (i : Nat)
inductive Slot where
  | no | fz (t : T) | ow (o : O)
inductive Opd where
  | t (t : T) | b (i : Nat)

structure Gm where
  K : PySem.W.Frag
  cls : Nat → Addr

/-! ### worlds -/
structure Wd where
  F : Addr → Prop
  L : Addr → Prop
  H : Hp
noncomputable def Rdo (x : Option HO) (u : HO) : Prop := x = some u ∨ ∃ o, x = some (.frz o u)
theorem Rdo.inj {x : Option HO} {k1 k2 : List (Key × V)} (h1 : Rdo x (.dK k1)) (h2 : Rdo x (.dK k2)) : k1 = k2 := by
  rcases h1 with h1 | ⟨o, h1⟩ <;> rcases h2 with h2 | ⟨o', h2⟩ <;> rw [h1] at h2 <;> cases h2 <;> rfl
noncomputable def Kp (x y : Option HO) : Prop := x = y ∨ ∃ kvs o, x = some (.dK kvs) ∧ y = some (.frz o (.dK kvs))
theorem Kp.refl (x : Option HO) : Kp x x := .inl rfl
theorem Kp.trans {x y z : Option HO} (a : Kp x y) (b : Kp y z) : Kp x z := by
  rcases a with rfl | ⟨k, o, h1, h2⟩
  · exact b
  · rcases b with rfl | ⟨k', o', h3, h4⟩
    · exact .inr ⟨k, o, h1, h2⟩
    · rw [h2] at h3; cases h3
theorem Kp.rd {x y : Option HO} {kvs : List (Key × V)} (a : Kp x y) (h : Rdo x (.dK kvs)) : Rdo y (.dK kvs) := by
  rcases a with rfl | ⟨k, o, h1, h2⟩
  · exact h
  · have : kvs = k := h.inj (.inl h1)
    subst this
    exact .inr ⟨o, h2⟩
theorem Kp.eq {x y : Option HO} {u : HO} (a : Kp x y) (h : x = some u) (nd : ∀ kvs, ¬ Rdo (some u) (.dK kvs)) : y = some u := by
  rcases a with rfl | ⟨k, o, h1, h2⟩
  · exact h
  · rw [h] at h1; exact absurd (.inl h1) (nd k)
theorem Kp.locked {x y : Option HO} {o : Obj} {u : HO} (a : Kp x y) (h : x = some (.frz o u)) : y = some (.frz o u) := by
  rcases a with rfl | ⟨k, o', h1, h2⟩
  · exact h
  · rw [h] at h1; cases h1
theorem Kp.some {x y : Option HO} (a : Kp x y) (h : ∃ u, x = some u) : ∃ u, y = some u := by
  rcases a with rfl | ⟨k, o, h1, h2⟩
  · exact h
  · exact ⟨_, h2⟩
structure Ex (w w' : Wd) : Prop where
  fz : ∀ a, w.F a → w'.F a
  kp : ∀ a, w.F a → Kp (w.H a) (w'.H a)
  ot : ∀ a u, w.H a = some u → ¬ w.F a → ¬ w.L a → w'.H a = some u ∧ ¬ w'.F a ∧ ¬ w'.L a
theorem Ex.refl (w : Wd) : Ex w w := ⟨fun _ h => h, fun _ _ => .refl _, fun _ _ h1 h2 h3 => ⟨h1, h2, h3⟩⟩
theorem Ex.trans {a b c : Wd} (x : Ex a b) (y : Ex b c) : Ex a c :=
  ⟨fun p h => y.fz p (x.fz p h), fun p h => (x.kp p h).trans (y.kp p (x.fz p h)), fun p u h1 h2 h3 =>
    let ⟨q1, q2, q3⟩ := x.ot p u h1 h2 h3
    y.ot p u q1 q2 q3⟩

/-! ### representation -/
noncomputable def KT (K : PySem.W.Frag) (a : Addr) (xs : List V) : Prop := ∃ (o : Obj) (its : Array Value) (n : Nat), K.lookup a = some o ∧ o.cls = .type "tuple" ∧ o.data = .seq its n ∧ its.size ≤ sizeLine ∧ Vals xs its.toList
noncomputable def KL (K : PySem.W.Frag) (a : Addr) (xs : List V) : Prop := ∃ (o : Obj) (its : Array Value) (n : Nat), K.lookup a = some o ∧ o.cls = .type "list" ∧ o.dict = none ∧ o.data = .seq its n ∧ its.size ≤ sizeLine ∧ Vals xs its.toList
mutual
inductive RF (G : Gm) (w : Wd) : T → V → Prop
  | non : RF G w .non .non
  | bl (b : Bool) : RF G w (.bl b) (.bl b)
  | int (i : Int) : RF G w (.int i) (.int i)
  | str (s : Str) : RF G w (.str s) (.str s)
  | lst {xs : List T} {a : Addr} {vs : List V} : w.F a → w.H a = some (.lst vs) → RFs G w xs vs → RF G w (.lst xs) (.ref a)
  | tup {xs : List T} {a : Addr} {vs : List V} : (w.F a ∧ w.H a = some (.tup vs)) ∨ KT G.K a vs → RFs G w xs vs → RF G w (.tup xs) (.ref a)
  | dic {kvs : List (Key × T)} {a : Addr} {ks : List (Key × V)} : w.F a → Rdo (w.H a) (.dK ks) → RFk G w kvs ks → RF G w (.dic kvs) (.ref a)
  | ins {c : Nat} {fs : List (Str × T)} {a dx : Addr} {gs : List (Str × V)} : w.F a → w.H a = some (.ins (G.cls c) dx gs) → RFf G w fs gs → RF G w (.ins c fs) (.ref a)
  | scr {ns : List Int} {a : Addr} : (w.F a ∧ ∃ o, w.H a = some (.frz o (.lst (ns.map V.int)))) ∨ KL G.K a (ns.map V.int) → RF G w (.scr ns) (.ref a)
inductive RFs (G : Gm) (w : Wd) : List T → List V → Prop
  | nil : RFs G w [] []
  | cons {t : T} {v : V} {ts : List T} {vs : List V} : RF G w t v → RFs G w ts vs → RFs G w (t :: ts) (v :: vs)
inductive RFk (G : Gm) (w : Wd) : List (Key × T) → List (Key × V) → Prop
  | nil : RFk G w [] []
  | cons {k : Key} {t : T} {v : V} {ts : List (Key × T)} {vs : List (Key × V)} : RF G w t v → RFk G w ts vs → RFk G w ((k, t) :: ts) ((k, v) :: vs)
inductive RFf (G : Gm) (w : Wd) : List (Str × T) → List (Str × V) → Prop
  | nil : RFf G w [] []
  | cons {k : Str} {t : T} {v : V} {ts : List (Str × T)} {vs : List (Str × V)} : RF G w t v → RFf G w ts vs → RFf G w ((k, t) :: ts) ((k, v) :: vs)
end
inductive RO (G : Gm) (w : Wd) (p : Addr) : O → Prop
  | lst {xs : List T} {vs : List V} : w.H p = some (.lst vs) → RFs G w xs vs → RO G w p (.lst xs)
  | dic {kvs : List (Key × T)} {ks : List (Key × V)} : w.H p = some (.dK ks) → RFk G w kvs ks → RO G w p (.dic kvs)
  | ins {c : Nat} {fs : List (Str × T)} {dx : Addr} {gs : List (Str × V)} : w.H p = some (.ins (G.cls c) dx gs) → RFf G w fs gs → RO G w p (.ins c fs)

structure Mo (w w' : Wd) : Prop where
  fz : ∀ a, w.F a → w'.F a
  kp : ∀ a, w.F a → Kp (w.H a) (w'.H a)
theorem Ex.mo {w w' : Wd} (x : Ex w w') : Mo w w' := ⟨x.fz, x.kp⟩
section
variable {G : Gm} {w w' : Wd}
mutual
theorem RF.mono (m : Mo w w') : ∀ {t : T} {v : V}, RF G w t v → RF G w' t v
  | _, _, .non => .non
  | _, _, .bl b => .bl b
  | _, _, .int i => .int i
  | _, _, .str s => .str s
  | _, _, .lst f h r => .lst (m.fz _ f) ((m.kp _ f).eq h (fun k q => by rcases q with q | ⟨o, q⟩ <;> cases q)) (RFs.mono m r)
  | _, _, .tup h r => .tup (h.imp (fun ⟨f, h⟩ => ⟨m.fz _ f, (m.kp _ f).eq h (fun k q => by rcases q with q | ⟨o, q⟩ <;> cases q)⟩) id) (RFs.mono m r)
  | _, _, .dic f h r => .dic (m.fz _ f) ((m.kp _ f).rd h) (RFk.mono m r)
  | _, _, .ins f h r => .ins (m.fz _ f) ((m.kp _ f).eq h (fun k q => by rcases q with q | ⟨o, q⟩ <;> cases q)) (RFf.mono m r)
  | _, _, .scr h => .scr (h.imp (fun ⟨f, o, h⟩ => ⟨m.fz _ f, o, (m.kp _ f).eq h (fun k q => by rcases q with q | ⟨o, q⟩ <;> cases q)⟩) id)
theorem RFs.mono (m : Mo w w') : ∀ {t : List T} {v : List V}, RFs G w t v → RFs G w' t v
  | _, _, .nil => .nil
  | _, _, .cons a b => .cons (RF.mono m a) (RFs.mono m b)
theorem RFk.mono (m : Mo w w') : ∀ {t : List (Key × T)} {v : List (Key × V)}, RFk G w t v → RFk G w' t v
  | _, _, .nil => .nil
  | _, _, .cons a b => .cons (RF.mono m a) (RFk.mono m b)
theorem RFf.mono (m : Mo w w') : ∀ {t : List (Str × T)} {v : List (Str × V)}, RFf G w t v → RFf G w' t v
  | _, _, .nil => .nil
  | _, _, .cons a b => .cons (RF.mono m a) (RFf.mono m b)
end
theorem RFs.length : ∀ {t : List T} {v : List V}, RFs G w t v → t.length = v.length
  | _, _, .nil => rfl
  | _, _, .cons _ b => congrArg Nat.succ (RFs.length b)
theorem RFs.append : ∀ {t t' : List T} {v v' : List V}, RFs G w t v → RFs G w t' v' → RFs G w (t ++ t') (v ++ v')
  | _, _, _, _, .nil, s => s
  | _, _, _, _, .cons a b, s => .cons a (RFs.append b s)
theorem RFs.get : ∀ {ts : List T} {vs : List V} {i : Nat} {t : T}, RFs G w ts vs → ts[i]? = some t → ∃ v, vs[i]? = some v ∧ RF G w t v
  | _, _, _, _, .nil, e => by simp at e
  | _, _, 0, _, .cons a _, e => by
    simp at e; subst e
    exact ⟨_, rfl, a⟩
  | _, _, i + 1, t, .cons _ b, e => by
    obtain ⟨v, h1, h2⟩ := RFs.get (i := i) (t := t) b (by simpa using e)
    exact ⟨v, by simpa using h1, h2⟩
theorem RFs.take : ∀ {ts : List T} {vs : List V} (n : Nat), RFs G w ts vs → RFs G w (ts.take n) (vs.take n)
  | _, _, 0, _ => .nil
  | _, _, _ + 1, .nil => .nil
  | _, _, n + 1, .cons r t => .cons r (RFs.take n t)
theorem RFs.drop : ∀ {ts : List T} {vs : List V} (n : Nat), RFs G w ts vs → RFs G w (ts.drop n) (vs.drop n)
  | _, _, 0, r => r
  | _, _, _ + 1, .nil => .nil
  | _, _, n + 1, .cons _ t => RFs.drop n t
theorem RFs.set {t : T} {v : V} (r : RF G w t v) : ∀ {ts : List T} {vs : List V} (i : Nat), RFs G w ts vs → RFs G w (ts.set i t) (vs.set i v)
  | _, _, _, .nil => .nil
  | _, _, 0, .cons _ q => .cons r q
  | _, _, i + 1, .cons q p => .cons q (RFs.set r i p)
theorem RFk.length : ∀ {t : List (Key × T)} {v : List (Key × V)}, RFk G w t v → t.length = v.length
  | _, _, .nil => rfl
  | _, _, .cons _ b => congrArg Nat.succ (RFk.length b)
end

/-! ### slots -/
noncomputable def SlR (G : Gm) (w : Wd) (s : Slot) (v : Option (Option V)) : Prop := match s with
  | .no => True
  | .fz t => ∃ x, v = some (some x) ∧ RF G w t x
  | .ow o => ∃ a, v = some (some (.ref a)) ∧ RO G w a o ∧ w.L a
structure SR (G : Gm) (w : Wd) (m : List Slot) (σ : St) : Prop where
  len : m.length = σ.length
  sl : ∀ (i : Nat) (s : Slot), m[i]? = some s → SlR G w s σ[i]?
  inj : ∀ (i j : Nat) (o o' : O) (a : Addr), m[i]? = some (.ow o) → m[j]? = some (.ow o') → σ[i]? = some (some (.ref a)) → σ[j]? = some (some (.ref a)) → i = j
  sep : ∀ a, w.L a → ¬ w.F a
  trk : ∀ a, w.F a → ∃ u, w.H a = some u
section
variable {G : Gm} {w w' : Wd} {m : List Slot} {σ : St} {i : Nat} {o : O} {a : Addr}
theorem RO.trk (r : RO G w a o) : ∃ u, w.H a = some u := by cases r <;> exact ⟨_, by assumption⟩
theorem RO.mono (r : RO G w a o) (mo : Mo w w') (h : w'.H a = w.H a) : RO G w' a o := by
  cases r with
  | lst h1 r => exact .lst (h.trans h1) (r.mono mo)
  | dic h1 r => exact .dic (h.trans h1) (r.mono mo)
  | ins h1 r => exact .ins (h.trans h1) (r.mono mo)
theorem SR.grow (S : SR G w m σ) (mo : Mo w w') (hL : ∀ a, w.L a → w'.L a ∧ ((∃ u, w.H a = some u) → w'.H a = w.H a)) (sep : ∀ a, w'.L a → ¬ w'.F a) (trk : ∀ a, w'.F a → ∃ u, w'.H a = some u) : SR G w' m σ := by
  refine ⟨S.len, fun i s h => ?_, S.inj, sep, trk⟩
  have q := S.sl i s h
  cases s with
  | no => trivial
  | fz t => obtain ⟨x, e, r⟩ := q; exact ⟨x, e, r.mono mo⟩
  | ow o => obtain ⟨a, e, r, l⟩ := q; exact ⟨a, e, r.mono mo ((hL a l).2 r.trk), (hL a l).1⟩
noncomputable def Wd.new (w : Wd) (p : Addr) (u : HO) : Wd := ⟨w.F, fun a => w.L a ∨ a = p, upd w.H p u⟩
theorem upd_trk {H : Hp} {p a : Addr} {u v : HO} (hp : H p = none) (h : H a = some v) : upd H p u a = some v := by
  rw [upd_ne (ne_of_none h hp)]; exact h
theorem Mo.new {w : Wd} {p : Addr} {u : HO} (trk : ∀ a, w.F a → ∃ u, w.H a = some u) (hp : w.H p = none) : Mo w (w.new p u) :=
  ⟨fun _ h => h, fun a h => by
    obtain ⟨v, e⟩ := trk a h
    exact .inl (e.trans (upd_trk hp e).symm)⟩
theorem Ex.new {w : Wd} {p : Addr} {u : HO} (trk : ∀ a, w.F a → ∃ u, w.H a = some u) (hp : w.H p = none) : Ex w (w.new p u) :=
  ⟨fun _ h => h, (Mo.new trk hp).kp, fun a v h1 h2 h3 => ⟨upd_trk hp h1, h2, fun q => q.elim h3 (ne_of_none h1 hp)⟩⟩
theorem SR.new (S : SR G w m σ) {p : Addr} {u : HO} (hp : w.H p = none) : SR G (w.new p u) m σ :=
  S.grow (Mo.new S.trk hp) (fun a l => ⟨.inl l, fun ⟨v, e⟩ => (upd_trk hp e).trans e.symm⟩)
    (fun a l f => l.elim (fun l => S.sep a l f) fun e => by
      obtain ⟨v, q⟩ := S.trk a f
      rw [e, hp] at q; cases q)
    fun a f => by
      obtain ⟨v, e⟩ := S.trk a f
      exact ⟨v, upd_trk hp e⟩
noncomputable def Wd.fr (w : Wd) (p : Addr) : Wd := ⟨fun a => w.F a ∨ a = p, fun a => w.L a ∧ a ≠ p, w.H⟩
theorem Mo.fr {p : Addr} : Mo w (w.fr p) := ⟨fun _ h => .inl h, fun _ _ => .refl _⟩
theorem Ex.fr {p : Addr} (l : w.L p) : Ex w (w.fr p) :=
  ⟨fun _ h => .inl h, fun _ _ => .refl _, fun a u h1 h2 h3 => ⟨h1, fun q => q.elim h2 fun e => h3 (e ▸ l), fun q => h3 q.1⟩⟩
theorem RO.rf {p : Addr} (r : RO G w p o) (f : w'.F p) (mo : Mo w w') (h : w'.H p = w.H p) : RF G w' o.frz (.ref p) := by
  cases r with
  | lst h1 r => exact .lst f (h.trans h1) (r.mono mo)
  | dic h1 r => exact .dic f (.inl (h.trans h1)) (r.mono mo)
  | ins h1 r => exact .ins f (h.trans h1) (r.mono mo)
theorem SR.fr (S : SR G w m σ) {p : Addr} (l : w.L p) (k : ∃ u, w.H p = some u) (n : ∀ (i : Nat) (o : O), m[i]? = some (.ow o) → σ[i]? ≠ some (some (.ref p))) : SR G (w.fr p) m σ := by
  refine ⟨S.len, fun i s h => ?_, S.inj, fun a ⟨q, ne⟩ f => f.elim (S.sep a q) ne, fun a f => f.elim (S.trk a) fun e => e ▸ k⟩
  have q := S.sl i s h
  cases s with
  | no => trivial
  | fz t => obtain ⟨x, e, r⟩ := q; exact ⟨x, e, r.mono .fr⟩
  | ow o => obtain ⟨a, e, r, l'⟩ := q; exact ⟨a, e, r.mono .fr rfl, l', fun z => n i o h (z ▸ e)⟩
theorem SR.frSlot (S : SR G w m σ) (h : m[i]? = some (.ow o)) (e : σ[i]? = some (some (.ref a))) : SR G (w.fr a) (m.set i (.fz o.frz)) σ ∧ RF G (w.fr a) o.frz (.ref a) ∧ Ex w (w.fr a) := by
  obtain ⟨a', e', r, l⟩ := S.sl i _ h
  rw [e] at e'
  cases e'
  have rf : RF G (w.fr a) o.frz (.ref a) := r.rf (.inr rfl) .fr rfl
  refine ⟨⟨by rw [List.length_set]; exact S.len, fun j s h' => ?_, fun j k o1 o2 b h1 h2 => ?_, fun b ⟨q, ne⟩ f => f.elim (S.sep b q) ne, fun b f => f.elim (S.trk b) fun z => z ▸ r.trk⟩, rf, .fr l⟩
  · by_cases hj : j = i
    · subst hj
      rw [List.getElem?_set_self (List.getElem?_eq_some_iff.mp h).1] at h'
      cases h'
      exact ⟨_, e, rf⟩
    · rw [List.getElem?_set_ne (Ne.symm hj)] at h'
      have q := S.sl j s h'
      cases s with
      | no => trivial
      | fz t => obtain ⟨x, e, r⟩ := q; exact ⟨x, e, r.mono .fr⟩
      | ow o' =>
        obtain ⟨b, eb, rb, lb⟩ := q
        refine ⟨b, eb, rb.mono .fr rfl, lb, fun z => hj ?_⟩
        exact S.inj j i o' o a h' h (z ▸ eb) e
  · have lt := (List.getElem?_eq_some_iff.mp h).1
    have ne : ∀ {k : Nat} {o1 : O}, (m.set i (.fz o.frz))[k]? = some (.ow o1) → m[k]? = some (.ow o1) := fun {k o1} hk => by
      by_cases hj : k = i
      · subst hj
        rw [List.getElem?_set_self lt] at hk
        cases hk
      · rwa [List.getElem?_set_ne (Ne.symm hj)] at hk
    exact S.inj j k o1 o2 b (ne h1) (ne h2)
theorem SR.setFz (S : SR G w m σ) {t : T} {v : V} (r : RF G w t v) : SR G w (m.set i (.fz t)) (σ.set i (some v)) := by
  have sub : ∀ {k : Nat} {o1 : O}, (m.set i (.fz t))[k]? = some (.ow o1) → k ≠ i ∧ m[k]? = some (.ow o1) := fun {k o1} hk => by
    by_cases hj : k = i
    · subst hj
      by_cases lt : k < m.length
      · rw [List.getElem?_set_self lt] at hk; cases hk
      · rw [List.getElem?_eq_none (by rw [List.length_set]; omega)] at hk; cases hk
    · exact ⟨hj, by rwa [List.getElem?_set_ne (Ne.symm hj)] at hk⟩
  refine ⟨by rw [List.length_set, List.length_set]; exact S.len, fun j s h => ?_, fun j k o1 o2 b h1 h2 e1 e2 => ?_, S.sep, S.trk⟩
  · by_cases hj : j = i
    · subst hj
      have lt : j < m.length := by have := (List.getElem?_eq_some_iff.mp h).1; rwa [List.length_set] at this
      rw [List.getElem?_set_self lt] at h
      cases h
      exact ⟨v, List.getElem?_set_self (by rw [← S.len]; exact lt), r⟩
    · rw [List.getElem?_set_ne (Ne.symm hj)] at h
      rw [List.getElem?_set_ne (Ne.symm hj)]
      exact S.sl j s h
  · obtain ⟨n1, q1⟩ := sub h1
    obtain ⟨n2, q2⟩ := sub h2
    rw [List.getElem?_set_ne (Ne.symm n1)] at e1
    rw [List.getElem?_set_ne (Ne.symm n2)] at e2
    exact S.inj j k o1 o2 b q1 q2 e1 e2
theorem SR.setOw (S : SR G w m σ) {p : Addr} (r : RO G w p o) (l : w.L p) (n : ∀ (i : Nat) (o : O), m[i]? = some (.ow o) → σ[i]? ≠ some (some (.ref p))) : SR G w (m.set i (.ow o)) (σ.set i (some (.ref p))) := by
  have sub : ∀ {k : Nat} {o1 : O}, (m.set i (.ow o))[k]? = some (.ow o1) → (k = i ∧ k < m.length) ∨ (k ≠ i ∧ m[k]? = some (.ow o1)) := fun {k o1} hk => by
    by_cases hj : k = i
    · subst hj
      refine .inl ⟨rfl, ?_⟩
      have := (List.getElem?_eq_some_iff.mp hk).1
      rwa [List.length_set] at this
    · exact .inr ⟨hj, by rwa [List.getElem?_set_ne (Ne.symm hj)] at hk⟩
  refine ⟨by rw [List.length_set, List.length_set]; exact S.len, fun j s h => ?_, fun j k o1 o2 b h1 h2 e1 e2 => ?_, S.sep, S.trk⟩
  · by_cases hj : j = i
    · subst hj
      have lt : j < m.length := by have := (List.getElem?_eq_some_iff.mp h).1; rwa [List.length_set] at this
      rw [List.getElem?_set_self lt] at h
      cases h
      exact ⟨p, List.getElem?_set_self (by rw [← S.len]; exact lt), r, l⟩
    · rw [List.getElem?_set_ne (Ne.symm hj)] at h
      rw [List.getElem?_set_ne (Ne.symm hj)]
      exact S.sl j s h
  · rcases sub h1 with ⟨n1, l1⟩ | ⟨n1, q1⟩ <;> rcases sub h2 with ⟨n2, l2⟩ | ⟨n2, q2⟩
    · rw [n1, n2]
    · subst n1
      rw [List.getElem?_set_self (by rw [← S.len]; exact l1)] at e1
      rw [List.getElem?_set_ne (Ne.symm n2)] at e2
      cases e1
      exact absurd e2 (n k o2 q2)
    · subst n2
      rw [List.getElem?_set_self (by rw [← S.len]; exact l2)] at e2
      rw [List.getElem?_set_ne (Ne.symm n1)] at e1
      cases e2
      exact absurd e1 (n j o1 q1)
    · rw [List.getElem?_set_ne (Ne.symm n1)] at e1
      rw [List.getElem?_set_ne (Ne.symm n2)] at e2
      exact S.inj j k o1 o2 b q1 q2 e1 e2
theorem SR.setNo (S : SR G w m σ) : SR G w (m.set i .no) σ := by
  have sub : ∀ {k : Nat} {o1 : O}, (m.set i Slot.no)[k]? = some (.ow o1) → m[k]? = some (.ow o1) := fun {k o1} hk => by
    by_cases hj : k = i
    · subst hj
      by_cases lt : k < m.length
      · rw [List.getElem?_set_self lt] at hk; cases hk
      · rw [List.getElem?_eq_none (by rw [List.length_set]; omega)] at hk; cases hk
    · rwa [List.getElem?_set_ne (Ne.symm hj)] at hk
  refine ⟨by rw [List.length_set]; exact S.len, fun j s h => ?_, fun j k o1 o2 b h1 h2 => S.inj j k o1 o2 b (sub h1) (sub h2), S.sep, S.trk⟩
  by_cases hj : j = i
  · subst hj
    have lt : j < m.length := by have := (List.getElem?_eq_some_iff.mp h).1; rwa [List.length_set] at this
    rw [List.getElem?_set_self lt] at h
    cases h
    trivial
  · rw [List.getElem?_set_ne (Ne.symm hj)] at h
    exact S.sl j s h
noncomputable def Wd.wr (w : Wd) (p : Addr) (u : HO) : Wd := ⟨w.F, w.L, upd w.H p u⟩
theorem SR.write (S : SR G w m σ) {o' : O} {u : HO} (h : m[i]? = some (.ow o)) (e : σ[i]? = some (some (.ref a))) (r : RO G (w.wr a u) a o') : SR G (w.wr a u) (m.set i (.ow o')) σ ∧ Ex w (w.wr a u) := by
  obtain ⟨a', e', r0, l⟩ := S.sl i _ h
  rw [e] at e'
  cases e'
  have nf : ¬ w.F a := S.sep a l
  have mo : Mo w (w.wr a u) := ⟨fun _ h => h, fun b f => .inl (upd_ne (show b ≠ a from fun z => nf (by rw [← z]; exact f))).symm⟩
  have lt := (List.getElem?_eq_some_iff.mp h).1
  refine ⟨⟨by rw [List.length_set]; exact S.len, fun j s h' => ?_, fun j k o1 o2 b h1 h2 e1 e2 => ?_, S.sep, fun b f => ?_⟩, ⟨mo.fz, mo.kp, fun b v h1 h2 h3 => ⟨?_, h2, h3⟩⟩⟩
  · by_cases hj : j = i
    · subst hj
      rw [List.getElem?_set_self lt] at h'
      cases h'
      exact ⟨a, e, r, l⟩
    · rw [List.getElem?_set_ne (Ne.symm hj)] at h'
      have q := S.sl j s h'
      cases s with
      | no => trivial
      | fz t => obtain ⟨x, e, r⟩ := q; exact ⟨x, e, r.mono mo⟩
      | ow o2 =>
        obtain ⟨b, eb, rb, lb⟩ := q
        refine ⟨b, eb, rb.mono mo (upd_ne fun z => hj ?_), lb⟩
        exact S.inj j i o2 o a h' h (z ▸ eb) e
  · have sub : ∀ {k : Nat} {o1 : O}, (m.set i (.ow o'))[k]? = some (.ow o1) → ∃ o2, m[k]? = some (.ow o2) := fun {k o1} hk => by
      by_cases hj : k = i
      · subst hj; exact ⟨o, h⟩
      · exact ⟨o1, by rwa [List.getElem?_set_ne (Ne.symm hj)] at hk⟩
    obtain ⟨p1, q1⟩ := sub h1
    obtain ⟨p2, q2⟩ := sub h2
    exact S.inj j k p1 p2 b q1 q2 e1 e2
  · obtain ⟨v, q⟩ := S.trk b f
    exact ⟨v, (upd_ne (show b ≠ a from fun z => nf (by rw [← z]; exact f))).trans q⟩
  · show upd w.H a u b = some v
    rw [upd_ne (show b ≠ a from fun z => h3 (by rw [z]; exact l))]; exact h1
end
end Mi
set_option maxHeartbeats 1000000
namespace Mi
open PySem PySem.Spec PyProof.Rows L2
/-! ### facts of the top, and the hook over them: what a head wants -/
mutual
noncomputable def matV (K : PySem.W.Frag) : T → Value → Bool
  | .non, u => (match u with | .none => true | _ => false)
  | .bl b, u => (match u with | .bool c => b == c | _ => false)
  | .int i, u => (match u with | .int j _ => decide (i = j) | _ => false)
  | .str x, u => (match u with | .str y _ => decide (x = y) | _ => false)
  | .tup xs, u => (match u with
    | .ref a => (match K.lookup a with
      | some ⟨.type c, _, .seq its _, _⟩ => decide (c = "tuple") && (decide (its.size ≤ sizeLine) && matVs K xs its.toList)
      | _ => false)
    | _ => false)
  | _, _ => false
noncomputable def matVs (K : PySem.W.Frag) : List T → List Value → Bool
  | [], [] => true
  | t :: ts, u :: us => matV K t u && matVs K ts us
  | _, _ => false
end
noncomputable def globK (K : PySem.W.Frag) (p : Str × T) : Bool := match PySem.W.nsIn K mainGlobals p.1 with
  | some (some u) => matV K p.2 u
  | _ => false
noncomputable def eqv (a b : Option (Option Value)) : Bool := decide (a = b)
theorem eqv_ok {a b : Option (Option Value)} (h : eqv a b = true) : a = b := of_decide_eq_true h
/-! ### an exception class of the text, with its __init__ -/
inductive Fx where
  | glo (x : Str) | free (x : Str) | bfun (x : Str) (id : String)
  | cls (c : Str) | noat (c f : Str) | meth (c m : Str) | mkr (c : Str) | con (c f : Str) (t : T) | cval (c f : Str) (t : T) | prop (c f : Str) | ne (c : Str) | self1 (c : Str) | crd (c : Str) | cmet (c m : Str) | smet (c m : Str)
  | kty (c : Str) | kown (c' c : Str) (b : Bool) | val (p : PySem.W.Frag → Addr) (t : T) | nint (c : Str)
noncomputable def tyNames : List String := ["NoneType", "bool", "int", "str", "list", "tuple", "dict"]
noncomputable def Fx.ok (K : PySem.W.Frag) : Fx → Bool
  | .glo x => (He.Fa.glo x).ok K
  | .free x => (He.Fa.free x).ok K
  | .bfun x id => eqv (PySem.W.nsIn K mainGlobals x) (some (some (.builtin id)))
  | .cls c => (He.Fa.cls c).ok K && (eqv (PySem.W.findIn K (.ref (He.ga K c)) "__class__") (some (some (.builtin "object.__class__"))) && (eqv (PySem.W.specialIn K (.builtin "object.__class__") "__get__") (some (some (.builtin "getset_descriptor.__get__"))) &&
      (decide (PySem.W.takesIn K (.builtin "object.__class__") = some true) && decide (PySem.W.mroIn K (He.ga K c) (.type "object") = some true))))
  | .noat c f => (He.Fa.noat c f).ok K
  | .meth c m => (He.Fa.meth c m).ok K
  | .mkr c => (He.Fa.mkr c).ok K
  | .con c f t => (match PySem.W.findIn K (.ref (He.ga K c)) f with
    | some (some u) => matV K t u && (eqv (PySem.W.specialIn K u "__get__") (some none) && !PySem.W.copiedNames.contains f)
    | _ => false)
  | .cval c f t => (match PySem.W.findCls K (.ref (He.ga K c)) (.type "type") f with
    | some (.val u) => matV K t u
    | _ => false)
  | .prop c f => eqv (PySem.W.findIn K (.ref (He.ga K c)) f) (some (some (.ref (He.ma K (He.ga K c) f)))) && (eqv (PySem.W.specialIn K (.ref (He.ma K (He.ga K c) f)) "__get__") (some (some (.builtin "property.__get__"))) &&
      (decide (PySem.W.takesIn K (.ref (He.ma K (He.ga K c) f)) = some true) && (match PySem.W.recIn K (He.ma K (He.ga K c) f) "property" with
        | some (.ref g :: _) => decide (g = He5.wf K (He.ga K c) "property" f)
        | _ => false)))
  | .ne c => eqv (PySem.W.findIn K (.ref (He.ga K c)) "__ne__") (some (some (.builtin "object.__ne__")))
  | .self1 c => PySem.W.selfFirst K (He.ga K c)
  | .crd c => PySem.W.readsIn K (He.ga K c) (.type "type") && eqv (PySem.W.specialIn K (.ref (He.ga K c)) "__getattribute__") (some (some (.builtin "type.__getattribute__")))
  | .cmet c m => He5.wrapB K (He.ga K c) "classmethod" "classmethod.__get__" m && PySem.W.fnIn K (He5.wf K (He.ga K c) "classmethod" m)
  | .smet c m => He5.wrapB K (He.ga K c) "staticmethod" "staticmethod.__get__" m
  | .kty c => tyNames.all fun x => decide (PySem.W.kitOne K (.type x) (.ref (He.ga K c)) = some false)
  | .kown c' c b => decide (PySem.W.kitOne K (.ref (He.ga K c')) (.ref (He.ga K c)) = some b)
  | .val p t => matV K t (.ref (p K))
  | .nint c => decide (PySem.W.mroIn K (He.ga K c) (.type "int") = some false)
noncomputable abbrev AlQ : Type := Bool × (List He.FnW × List Unit)
noncomputable def obsQ (fx : List Fx) (fn : List He5.DefA) (gk : List (Str × T)) (K : PySem.W.Frag) : AlQ := ((fx.all fun f => f.ok K) && ((fn.all fun d => d.ok K) && gk.all (globK K)), (fn.map fun d => He5.fnA K (d.at_ K), ([] : List Unit)))
noncomputable def valQ (fx : List Fx) (fn : List He5.DefA) : AlQ := (true, (fn.map He5.DefA.val, ([] : List Unit)))
noncomputable def SaysQ (fx : List Fx) (fn : List He5.DefA) (gk : List (Str × T)) (K : PySem.W.Frag) : Prop := obsQ fx fn gk K = valQ fx fn
noncomputable def obsQG (n : Nat) (fx : List Fx) (fn : List He5.DefA) (gk : List (Str × T)) (g : Addr → Option Obj) : AlQ := obsQ fx fn gk (He.frG g (He5.asA g n))
noncomputable def hookQ (n : Nat) (fx : List Fx) (fn : List He5.DefA) (gk : List (Str × T)) : PySem.W.Hook where
  α := AlQ
  obs := fun s => obsQG n fx fn gk s.heap.get?
  val := fun _ => valQ fx fn
  says := fun _ h => ∃ K : PySem.W.Frag, K.In h ∧ SaysQ fx fn gk K
  of := fun _ _ e => ⟨_, He.frG_in, e⟩
  keeps := fun _ _ _ ⟨K, hK, c⟩ k => ⟨K, PySem.W.Frag.In.keeps hK k, c⟩
noncomputable def obsT (n : Nat) (fx : List Fx) (fn : List He5.DefA) (gk : List (Str × T)) (s : Shared) : Option AlQ := match HandSHeadRun.treeOf s with
  | some x => HandSHeadRun.frS x fun x => some (obsQG n fx fn gk (HandSHeadRun.getT x))
  | none => none
theorem obsT_ok {n : Nat} {fx : List Fx} {fn : List He5.DefA} {gk : List (Str × T)} {s : Shared} {v : AlQ} (h : obsT n fx fn gk s = some v) : obsQG n fx fn gk s.heap.get? = v := by
  unfold obsT at h
  cases e : HandSHeadRun.treeOf s with
  | none => rw [e] at h; cases h
  | some x =>
    rw [e] at h
    simp only [HandSHeadRun.frS_eq] at h
    obtain ⟨h1, _⟩ := HandSHeadRun.treeOf_eq e
    have : HandSHeadRun.getT x = s.heap.get? := funext fun a => by rw [HandSHeadRun.getT_eq, h1]
    rw [this] at h
    exact Option.some.inj h
noncomputable def hookT (n : Nat) (fx : List Fx) (fn : List He5.DefA) (gk : List (Str × T)) : PySem.W.Hook where
  α := Option AlQ
  obs := obsT n fx fn gk
  val := fun _ => some (valQ fx fn)
  says := (hookQ n fx fn gk).says
  of := fun w s e => (hookQ n fx fn gk).of w s (obsT_ok e)
  keeps := (hookQ n fx fn gk).keeps
theorem aside {P T : Prop} (h : P) (hc : T) : P := h
end Mi
set_option maxHeartbeats 0
namespace K46
open PySem PySem.Spec PyProof.Rows L2 Mi
noncomputable def top (i : Nat) : Stmt := PySem.Challenge.pw_loneround_k46_whole_forms_of_phases.main.body.getD i (.Pass ⟨0, 0, 0, 0⟩)
noncomputable def inCls (s : Stmt) (j : Nat) : Stmt := match s with
  | .ClassDef _ _ _ b _ _ _ _ _ _ _ => b.getD j (.Pass ⟨0, 0, 0, 0⟩)
  | s => s
noncomputable abbrev s56 : Stmt := top 56
noncomputable abbrev n56 : List PySem.Str := ["_law_script", "_law_bag_here", "_law_spec", "_law_loop_here", "_law_names_here", "_law_name", "_law_number_here", "_law_phase_z", "_law_found", "_law_turn", "_law_values", "_law_late", "_law_one", "_law_two"]
noncomputable abbrev p56 : List PySem.Str := ["_law_script"]
noncomputable def D56 : He5.DefA := ⟨fun K => He.ga K "law", "law", "law", defArgs s56, defBody s56, defScope s56, [], []⟩
noncomputable abbrev s2 : Stmt := top 43
noncomputable abbrev n2 : List PySem.Str := ["_law_script", "_law_mixed", "_law_cell"]
noncomputable abbrev p2 : List PySem.Str := ["_law_script"]
noncomputable def D2 : He5.DefA := ⟨fun K => He.ga K "_law_bag", "_law_bag", "_law_bag", defArgs s2, defBody s2, defScope s2, [], []⟩
noncomputable abbrev s57 : Stmt := top 53
noncomputable abbrev n57 : List PySem.Str := ["_law_bag_here", "_law_sizes", "_law_names_here", "_law_starts", "_law_name", "_law_phases", "_law_most", "_law_k", "_law_deeds", "_law_j", "_law_spec"]
noncomputable abbrev p57 : List PySem.Str := ["_law_bag_here", "_law_sizes"]
noncomputable def D57 : He5.DefA := ⟨fun K => He.ga K "_law_some_loop", "_law_some_loop", "_law_some_loop", defArgs s57, defBody s57, defScope s57, [], []⟩
noncomputable abbrev s58 : Stmt := top 54
noncomputable abbrev n58 : List PySem.Str := ["_law_spec", "_law_parts", "_law_phase_z", "_law_name", "_law_form_here"]
noncomputable abbrev p58 : List PySem.Str := ["_law_spec"]
noncomputable def D58 : He5.DefA := ⟨fun K => He.ga K "_law_loop", "_law_loop", "_law_loop", defArgs s58, defBody s58, defScope s58, [], []⟩
noncomputable abbrev s165 : Stmt := inCls (top 37) 9
noncomputable abbrev n165 : List PySem.Str := ["self", "phase", "found", "name", "form", "late", "one"]
noncomputable abbrev p165 : List PySem.Str := ["self", "phase"]
noncomputable def D165 : He5.DefA := ⟨fun K => He.ma K (He.ga K "Loop") "forms", "forms", "Loop.forms", defArgs s165, defBody s165, defScope s165, [], []⟩
noncomputable abbrev s13 : Stmt := top 46
noncomputable abbrev n13 : List PySem.Str := ["_law_found", "_law_due", "_law_key", "_law_a", "_law_b"]
noncomputable abbrev p13 : List PySem.Str := ["_law_found", "_law_due"]
noncomputable def D13 : He5.DefA := ⟨fun K => He.ga K "_law_same", "_law_same", "_law_same", defArgs s13, defBody s13, defScope s13, [], []⟩
noncomputable abbrev s166 : Stmt := inCls (top 37) 5
noncomputable abbrev n166 : List PySem.Str := ["self"]
noncomputable abbrev p166 : List PySem.Str := ["self"]
noncomputable def D166 : He5.DefA := ⟨fun K => He5.wf K (He.ga K "Loop") "property" "period", "period", "Loop.period", defArgs s166, defBody s166, defScope s166, [], []⟩
noncomputable abbrev s17 : Stmt := top 45
noncomputable abbrev n17 : List PySem.Str := ["_law_bag_here", "_law_things"]
noncomputable abbrev p17 : List PySem.Str := ["_law_bag_here", "_law_things"]
noncomputable def D17 : He5.DefA := ⟨fun K => He.ga K "_law_of", "_law_of", "_law_of", defArgs s17, defBody s17, defScope s17, [], []⟩
noncomputable abbrev s26 : Stmt := top 49
noncomputable abbrev n26 : List PySem.Str := ["_law_bag_here", "_law_most", "_law_top"]
noncomputable abbrev p26 : List PySem.Str := ["_law_bag_here", "_law_most"]
noncomputable def D26 : He5.DefA := ⟨fun K => He.ga K "_law_number", "_law_number", "_law_number", defArgs s26, defBody s26, defScope s26, [], []⟩
noncomputable abbrev s139 : Stmt := top 55
noncomputable abbrev n139 : List PySem.Str := ["_law_values", "_law_phase_z", "_law_found", "_law_name", "_law_form_here"]
noncomputable abbrev p139 : List PySem.Str := ["_law_values", "_law_phase_z"]
noncomputable def D139 : He5.DefA := ⟨fun K => He.ga K "_law_behind", "_law_behind", "_law_behind", defArgs s139, defBody s139, defScope s139, [], []⟩
noncomputable abbrev s167 : Stmt := inCls (top 25) 7
noncomputable abbrev n167 : List PySem.Str := ["self", "values", "total", "name"]
noncomputable abbrev p167 : List PySem.Str := ["self", "values"]
noncomputable def D167 : He5.DefA := ⟨fun K => He.ma K (He.ga K "Form") "value", "value", "Form.value", defArgs s167, defBody s167, defScope s167, [], []⟩
noncomputable abbrev s145 : Stmt := inCls (top 25) 4
noncomputable abbrev n145 : List PySem.Str := ["self"]
noncomputable abbrev p145 : List PySem.Str := ["self"]
noncomputable def D145 : He5.DefA := ⟨fun K => He.ma K (He.ga K "Form") "names", "names", "Form.names", defArgs s145, defBody s145, defScope s145, [], []⟩
noncomputable abbrev s142 : Stmt := inCls (top 25) 14
noncomputable abbrev n142 : List PySem.Str := ["self", "other"]
noncomputable abbrev p142 : List PySem.Str := ["self", "other"]
noncomputable def D142 : He5.DefA := ⟨fun K => He.ma K (He.ga K "Form") "__eq__", "__eq__", "Form.__eq__", defArgs s142, defBody s142, defScope s142, [], []⟩
noncomputable abbrev s147 : Stmt := inCls (top 25) 2
noncomputable abbrev n147 : List PySem.Str := ["pairs", "constant", "found", "at", "pair"]
noncomputable abbrev p147 : List PySem.Str := ["pairs", "constant"]
noncomputable def D147 : He5.DefA := ⟨fun K => He5.wf K (He.ga K "Form") "staticmethod" "of", "of", "Form.of", defArgs s147, defBody s147, defScope s147, [.int 0], []⟩
noncomputable abbrev s168 : Stmt := inCls (top 37) 0
noncomputable abbrev n168 : List PySem.Str := ["self", "starts", "phases", "at", "pair", "names", "name", "number", "phase", "deed"]
noncomputable abbrev p168 : List PySem.Str := ["self", "starts", "phases"]
noncomputable def D168 : He5.DefA := ⟨fun K => He.ma K (He.ga K "Loop") "__init__", "__init__", "Loop.__init__", defArgs s168, defBody s168, defScope s168, [], []⟩
noncomputable abbrev s154 : Stmt := inCls (top 25) 0
noncomputable abbrev n154 : List PySem.Str := ["self", "constant", "factors", "name"]
noncomputable abbrev p154 : List PySem.Str := ["self", "constant", "factors"]
noncomputable def D154 : He5.DefA := ⟨fun K => He.ma K (He.ga K "Form") "__init__", "__init__", "Form.__init__", defArgs s154, defBody s154, defScope s154, [.int 0], []⟩
noncomputable abbrev s140 : Stmt := inCls (top 25) 16
noncomputable abbrev n140 : List PySem.Str := ["self", "terms", "name", "first", "rest", "number"]
noncomputable abbrev p140 : List PySem.Str := ["self"]
noncomputable def D140 : He5.DefA := ⟨fun K => He.ma K (He.ga K "Form") "text", "text", "Form.text", defArgs s140, defBody s140, defScope s140, [], []⟩
noncomputable abbrev s50 : Stmt := top 48
noncomputable abbrev n50 : List PySem.Str := ["_law_bag_here", "_law_many", "_law_abc", "_law_found", "_law_k", "_law_word", "_law_j", "_law_ways", "_law_letter", "_law_one"]
noncomputable abbrev p50 : List PySem.Str := ["_law_bag_here", "_law_many"]
noncomputable def D50 : He5.DefA := ⟨fun K => He.ga K "_law_names", "_law_names", "_law_names", defArgs s50, defBody s50, defScope s50, [], []⟩
noncomputable abbrev s15 : Stmt := top 44
noncomputable abbrev n15 : List PySem.Str := ["_law_bag_here", "_law_many", "_law_cell", "_law_digit", "_law_twice"]
noncomputable abbrev p15 : List PySem.Str := ["_law_bag_here", "_law_many"]
noncomputable def D15 : He5.DefA := ⟨fun K => He.ga K "_law_take", "_law_take", "_law_take", defArgs s15, defBody s15, defScope s15, [], []⟩
noncomputable abbrev s51 : Stmt := top 50
noncomputable abbrev n51 : List PySem.Str := ["_law_bag_here", "_law_names_here", "_law_most", "_law_pairs", "_law_name", "_law_pair"]
noncomputable abbrev p51 : List PySem.Str := ["_law_bag_here", "_law_names_here", "_law_most"]
noncomputable def D51 : He5.DefA := ⟨fun K => He.ga K "_law_some_form", "_law_some_form", "_law_some_form", defArgs s51, defBody s51, defScope s51, [], []⟩
noncomputable abbrev s52 : Stmt := top 51
noncomputable abbrev n52 : List PySem.Str := ["_law_spec", "_law_name"]
noncomputable abbrev p52 : List PySem.Str := ["_law_spec"]
noncomputable def D52 : He5.DefA := ⟨fun K => He.ga K "_law_form", "_law_form", "_law_form", defArgs s52, defBody s52, defScope s52, [], []⟩
noncomputable abbrev s18 : Stmt := top 20
noncomputable abbrev n18 : List PySem.Str := ["value", "least", "most"]
noncomputable abbrev p18 : List PySem.Str := ["value", "least", "most"]
noncomputable def D18 : He5.DefA := ⟨fun K => He.ga K "is_number", "is_number", "is_number", defArgs s18, defBody s18, defScope s18, [], []⟩
noncomputable abbrev s169 : Stmt := inCls (top 37) 10
noncomputable abbrev n169 : List PySem.Str := ["self", "name"]
noncomputable abbrev p169 : List PySem.Str := ["self", "name"]
noncomputable def D169 : He5.DefA := ⟨fun K => He.ma K (He.ga K "Loop") "unit", "unit", "Loop.unit", defArgs s169, defBody s169, defScope s169, [], []⟩
noncomputable abbrev s144 : Stmt := inCls (top 25) 1
noncomputable abbrev n144 : List PySem.Str := ["self"]
noncomputable abbrev p144 : List PySem.Str := ["self"]
noncomputable def D144 : He5.DefA := ⟨fun K => He5.wf K (He.ga K "Form") "property" "constant", "constant", "Form.constant", defArgs s144, defBody s144, defScope s144, [], []⟩
noncomputable abbrev s156 : Stmt := inCls (top 25) 6
noncomputable abbrev n156 : List PySem.Str := ["self", "name"]
noncomputable abbrev p156 : List PySem.Str := ["self", "name"]
noncomputable def D156 : He5.DefA := ⟨fun K => He.ma K (He.ga K "Form") "__getitem__", "__getitem__", "Form.__getitem__", defArgs s156, defBody s156, defScope s156, [], []⟩
noncomputable abbrev s163 : Stmt := inCls (top 25) 12
noncomputable abbrev n163 : List PySem.Str := ["self", "number", "name"]
noncomputable abbrev p163 : List PySem.Str := ["self", "number"]
noncomputable def D163 : He5.DefA := ⟨fun K => He.ma K (He.ga K "Form") "__mul__", "__mul__", "Form.__mul__", defArgs s163, defBody s163, defScope s163, [], []⟩
noncomputable abbrev s160 : Stmt := inCls (top 25) 9
noncomputable abbrev n160 : List PySem.Str := ["self", "other", "found", "name"]
noncomputable abbrev p160 : List PySem.Str := ["self", "other"]
noncomputable def D160 : He5.DefA := ⟨fun K => He.ma K (He.ga K "Form") "__add__", "__add__", "Form.__add__", defArgs s160, defBody s160, defScope s160, [], []⟩
noncomputable abbrev s170 : Stmt := top 52
noncomputable abbrev n170 : List PySem.Str := ["_law_spec", "_law_values", "_law_name"]
noncomputable abbrev p170 : List PySem.Str := ["_law_spec", "_law_values"]
noncomputable def D170 : He5.DefA := ⟨fun K => He.ga K "_law_value", "_law_value", "_law_value", defArgs s170, defBody s170, defScope s170, [], []⟩
noncomputable abbrev s19 : Stmt := top 21
noncomputable abbrev n19 : List PySem.Str := ["value"]
noncomputable abbrev p19 : List PySem.Str := ["value"]
noncomputable def D19 : He5.DefA := ⟨fun K => He.ga K "is_list", "is_list", "is_list", defArgs s19, defBody s19, defScope s19, [], []⟩
noncomputable abbrev s150 : Stmt := top 22
noncomputable abbrev n150 : List PySem.Str := ["value", "letter"]
noncomputable abbrev p150 : List PySem.Str := ["value"]
noncomputable def D150 : He5.DefA := ⟨fun K => He.ga K "is_name", "is_name", "is_name", defArgs s150, defBody s150, defScope s150, [], []⟩
noncomputable abbrev s22 : Stmt := top 19
noncomputable abbrev n22 : List PySem.Str := ["value"]
noncomputable abbrev p22 : List PySem.Str := ["value"]
noncomputable def D22 : He5.DefA := ⟨fun K => He.ga K "is_whole", "is_whole", "is_whole", defArgs s22, defBody s22, defScope s22, [], []⟩
noncomputable abbrev s151 : Stmt := top 27
noncomputable abbrev n151 : List PySem.Str := ["constant", "factors", "kept"]
noncomputable abbrev p151 : List PySem.Str := ["constant", "factors"]
noncomputable def D151 : He5.DefA := ⟨fun K => He.ga K "form_of", "form_of", "form_of", defArgs s151, defBody s151, defScope s151, [], []⟩
noncomputable abbrev s171 : Stmt := top 40
noncomputable abbrev n171 : List PySem.Str := ["value"]
noncomputable abbrev p171 : List PySem.Str := ["value"]
noncomputable def D171 : He5.DefA := ⟨fun K => He.ga K "is_start", "is_start", "is_start", defArgs s171, defBody s171, defScope s171, [], []⟩
noncomputable abbrev s172 : Stmt := top 41
noncomputable abbrev n172 : List PySem.Str := ["value", "names", "form", "name"]
noncomputable abbrev p172 : List PySem.Str := ["value", "names"]
noncomputable def D172 : He5.DefA := ⟨fun K => He.ga K "is_deed", "is_deed", "is_deed", defArgs s172, defBody s172, defScope s172, [], []⟩
noncomputable abbrev s153 : Stmt := top 26
noncomputable abbrev n153 : List PySem.Str := ["factors", "name"]
noncomputable abbrev p153 : List PySem.Str := ["factors"]
noncomputable def D153 : He5.DefA := ⟨fun K => He.ga K "kept_factors", "kept_factors", "kept_factors", defArgs s153, defBody s153, defScope s153, [], []⟩
noncomputable abbrev s148 : Stmt := top 28
noncomputable abbrev n148 : List PySem.Str := ["number", "name"]
noncomputable abbrev p148 : List PySem.Str := ["number", "name"]
noncomputable def D148 : He5.DefA := ⟨fun K => He.ga K "term_text", "term_text", "term_text", defArgs s148, defBody s148, defScope s148, [], []⟩
noncomputable abbrev s54 : Stmt := top 47
noncomputable abbrev n54 : List PySem.Str := []
noncomputable abbrev p54 : List PySem.Str := []
noncomputable def D54 : He5.DefA := ⟨fun K => He.ga K "_law_kept", "_law_kept", "_law_kept", defArgs s54, defBody s54, defScope s54, [], []⟩
noncomputable def tabL : List (Nat × (He5.DefA × List PySem.Str)) := [(56, (D56, p56)), (2, (D2, p2)), (57, (D57, p57)), (58, (D58, p58)), (165, (D165, p165)), (13, (D13, p13)), (166, (D166, p166)), (17, (D17, p17)), (26, (D26, p26)), (139, (D139, p139)), (167, (D167, p167)), (145, (D145, p145)), (142, (D142, p142)), (147, (D147, p147)), (168, (D168, p168)), (154, (D154, p154)), (140, (D140, p140)), (50, (D50, p50)), (15, (D15, p15)), (51, (D51, p51)), (52, (D52, p52)), (18, (D18, p18)), (169, (D169, p169)), (144, (D144, p144)), (156, (D156, p156)), (163, (D163, p163)), (160, (D160, p160)), (170, (D170, p170)), (19, (D19, p19)), (150, (D150, p150)), (22, (D22, p22)), (151, (D151, p151)), (171, (D171, p171)), (172, (D172, p172)), (153, (D153, p153)), (148, (D148, p148)), (54, (D54, p54))]
noncomputable def tab (f : Nat) : Option (He5.DefA × List PySem.Str) := tabL.lookup f
noncomputable def fx : List Fx := [.glo "_law_bag",
  .glo "_law_some_loop",
  .glo "_law_loop",
  .free "len",
  .free "range",
  .cls "Loop",
  .meth "Loop" "forms",
  .free "isinstance",
  .free "dict",
  .free "list",
  .prop "Loop" "period",
  .glo "_law_same",
  .glo "_law_number",
  .glo "_law_of",
  .glo "_law_behind",
  .cls "Form",
  .meth "Form" "value",
  .meth "Form" "names",
  .free "all",
  .glo "Form",
  .crd "Form",
  .smet "Form" "of",
  .meth "Form" "__eq__",
  .ne "Form",
  .glo "Loop",
  .mkr "Loop",
  .mkr "Form",
  .meth "Form" "text",
  .free "int",
  .glo "_law_take",
  .glo "_law_names",
  .glo "_law_some_form",
  .glo "_law_form",
  .noat "Loop" "own_phases",
  .glo "is_number",
  .noat "Loop" "own_starts",
  .meth "Loop" "unit",
  .prop "Form" "constant",
  .meth "Form" "__getitem__",
  .self1 "Form",
  .meth "Form" "__mul__",
  .meth "Form" "__rmul__",
  .meth "Form" "__add__",
  .free "tuple",
  .free "zip",
  .free "bool",
  .free "str",
  .glo "_law_value",
  .noat "Form" "own_constant",
  .noat "Form" "own_factors",
  .kty "Form",
  .kown "Form" "Form" true,
  .glo "is_list",
  .free "enumerate",
  .glo "is_name",
  .glo "is_whole",
  .glo "form_of",
  .glo "is_start",
  .glo "is_deed",
  .glo "kept_factors",
  .free "abs",
  .glo "term_text",
  .glo "_law_kept",
  .free "sorted",
  .free "sum",
  .kown "Loop" "Form" false,
  .kown "Draft" "Form" false,
  .cls "Draft",
  .glo "law"]
noncomputable def gk : List (PySem.Str × T) := [("MOST_NAMES", (.int 3)), ("MOST_PHASES", (.int 3)), ("MOST_DEEDS", (.int 6)), ("MOST_LETTERS", (.int 6)), ("KEPT", (.tup [(.str "and"), (.str "or"), (.str "not"), (.str "of"), (.str "let"), (.str "none"), (.str "odd"), (.str "open"), (.str "phase"), (.str "round"), (.str "self")])), ("LETTERS", (.str "abcdefghijklmnopqrstuvwxyz")), ("MOST_START", (.int 1000000)), ("MOST_FACTOR", (.int 99))]
noncomputable abbrev R : PySem.W.OpenRow := PySem.W.OpenLaw.row PySem.Challenge.rw_loneround_k46_whole_forms_of_phases
noncomputable def fn : List He5.DefA := tabL.map (·.2.1)
noncomputable abbrev hk : PySem.W.Hook := hookT 6 fx fn gk

noncomputable def Owes : Prop := ∃ (CX : CXT) (k : Nat), Room k callerA ∧ (∀ (H : Hp) (s : Shared) (e : Value) (s' : Shared), CX [] H s (fun _ _ _ => False) e s' → False) ∧
  ∀ (w : World) (mg : PySem.Str → Option Value) (fa : Addr) (h : Heap), hk.says w h → h.Ns mainGlobals mg → mg "law" = some (.ref fa) →
    ∃ (K : PySem.W.Frag) (fd : FuncData) (sp : Sp), K.In h ∧ (∀ (s : Shared) (u : Value), BindsTo s fd ⟨[u], []⟩ [("_law_script", u)]) ∧
      (∀ (H : Hp) (a : Addr) (ns : List Int), ns.length ≤ 63 → Only H → SqL K H a (ns.map V.int) → sp [.ref a] H (fun v _ => v = .bl true) fun _ _ _ => False) ∧
      ∀ base : Heap, K.In base → base.Ns mainGlobals mg → FnOk R.prog w K mg base CX k fa fd ["_law_script"] sp
end K46
set_option maxHeartbeats 0
section
open PySem PySem.Spec PyProof.Rows L2 Mi K46
theorem K46.head (hF : K46.Owes) : PySem.Challenge.rw_loneround_k46_whole_forms_of_phases.Holds := by
  w_on; o_law
  apply aside
  focus
    o_head hk
    case hw => w_witness2
  obtain ⟨CX, k, hroom, hCX, F⟩ := hF
  refine L2.walk_ofE (l := PySem.Challenge.rw_loneround_k46_whole_forms_of_phases) (n := 63) (k := k) (x := "_law_script") (CX := CX) rfl (by decide) (by kernel_rfl) hroom (fun w mg fa h Y Gn hmg0 => F w mg fa h Y Gn ?_) hCX
  have e : (HandSHeadRun.topDef R.prog 56).name = ("law" : PySem.Str) := by kernel_rfl
  rw [← e]
  exact hmg0
end
set_option maxHeartbeats 4000000
namespace MiP
open PySem PySem.Spec PyProof.Rows L2
section
variable {P : Program} {w : World} {A : Around} {E : Value → Shared → Prop} {s : Shared}
set_option maxHeartbeats 8000000 in
end
section
variable {X : Cx}
end
end MiP
set_option maxHeartbeats 4000000
namespace Mi
open PySem PySem.Spec PyProof.Rows L2

/-! ### results -/
inductive Res (α : Type) where
  | ok (a : α) (m : List Slot) | ex (x : T) (m : List Slot) | no
noncomputable def Res.calm {α : Type} (r : Res α) : Res α := match r with
  | .ex _ _ => .no
  | r => r
noncomputable def Res.bind {α β : Type} (r : Res α) (f : α → List Slot → Res β) : Res β := match r with
  | .ok a m => f a m
  | .ex x m => .ex x m
  | .no => .no
inductive CRes where
  | ok (r : R) (outs : List Slot) | ex (x : T) (outs : List Slot) | no
inductive Fl where
  | nx (m : List Slot) | rt (r : R) (m : List Slot) | bk (m : List Slot) | ct (m : List Slot) | ex (x : T) (m : List Slot) | no

/-! ### operations -/
inductive Ty where
  | int | bool | str | list | tuple | dict
  deriving DecidableEq
inductive Op where
  | add | sub | mul | fdiv | mod | pow | neg | eq | ne | lt | le | gt | ge | isin | notin | isn | notn | len | idx | sl (lo hi : Bool)
  | srt | dict | uniq | tuple | min2 | max2 | lcm | gcd | dmod | mind | maxd | abs | int | str | list | all | any | join | isi (l : List Ty) | isi1 (l : Ty) | kwd (ns : List Str) | split (b : Str) | boo | rev | neP | odds | uniT | sum | eqL
noncomputable def Ty.has : T → Ty → Bool
  | .bl _, .bool => true
  | .bl _, .int => true
  | .int _, .int => true
  | .str _, .str => true
  | .lst _, .list => true
  | .scr _, .list => true
  | .tup _, .tuple => true
  | .dic _, .dict => true
  | _, _ => false
noncomputable def flatT : T → Bool
  | .non => true
  | .bl _ => true
  | .int _ => true
  | .str _ => true
  | _ => false
noncomputable def eqT : T → T → Bool
  | .non, .non => true
  | .bl a, .bl b => a == b
  | .bl a, .int b => (if a then 1 else 0) == b
  | .int a, .bl b => a == (if b then 1 else 0)
  | .int a, .int b => a == b
  | .str a, .str b => a == b
  | _, _ => false
noncomputable def isNon : T → Bool
  | .non => true
  | _ => false
noncomputable def cutT (xs : List T) (lo hi : Option Int) : List T := (xs.drop (HT.sIx xs.length 0 lo)).take (HT.sIx xs.length xs.length hi - HT.sIx xs.length 0 lo)
noncomputable def cutI (xs : List Int) (lo hi : Option Int) : List Int := (xs.drop (HT.sIx xs.length 0 lo)).take (HT.sIx xs.length xs.length hi - HT.sIx xs.length 0 lo)
noncomputable def bools : List T → Option (List Bool)
  | [] => some []
  | .bl b :: r => (bools r).map (b :: ·)
  | _ :: _ => none
noncomputable def strsT : List T → Option (List Str)
  | [] => some []
  | .str b :: r => (strsT r).map (b :: ·)
  | _ :: _ => none
noncomputable def slF (x : T) (lo hi : Option Int) : Option R := match x with
  | .lst xs => some (.ow (.lst (cutT xs lo hi)))
  | .scr ns => some (.ow (.lst ((cutI ns lo hi).map .int)))
  | .str z => if z.length ≤ sizeLine then some (.fz (.str (cutS z lo hi))) else none
  | _ => none
noncomputable def fI (i : Int) : Option R := some (.fz (.int i))
noncomputable def fB (b : Bool) : Option R := some (.fz (.bl b))
noncomputable def fS (s : Str) : Option R := some (.fz (.str s))
noncomputable def addF : T → T → Option R
  | .int i, .int j => fI (i + j)
  | .str x, .str y => if x.length + y.length ≤ sizeLine then fS (x ++ y) else none
  | .lst xs, .lst ys => if xs.length + ys.length ≤ sizeLine then some (.ow (.lst (xs ++ ys))) else none
  | _, _ => none
noncomputable def subF : T → T → Option R
  | .int i, .int j => fI (i - j)
  | _, _ => none
noncomputable def mulF : T → T → Option R
  | .int i, .int j => if i.natAbs.log2 + j.natAbs.log2 < 1000000 then fI (i * j) else none
  | .str x, .int n => if 0 ≤ n ∧ n ≤ 1000 ∧ x.length ≤ 1000 then fS (Txt.mul x n) else none
  | _, _ => none
noncomputable def fdivF : T → T → Option R
  | .int i, .int j => if 0 < j ∧ j.natAbs.log2 < 9000 then fI (i / j) else none
  | _, _ => none
noncomputable def modF : T → T → Option R
  | .int i, .int j => if 0 < j then fI (i % j) else none
  | _, _ => none
noncomputable def powF : T → T → Option R
  | .int i, .int j => if 0 ≤ j ∧ j ≤ 1000000 ∧ i.natAbs < 2 ^ 64 then fI (i ^ j.toNat) else none
  | _, _ => none
noncomputable def scalT : T → T → Bool
  | .bl _, .int _ => false
  | .int _, .bl _ => false
  | x, y => flatT x && flatT y
mutual
noncomputable def pyT : T → Option PyData
  | .non => some .none
  | .bl b => some (.bool b)
  | .int i => some (.int i)
  | .str s => some (.str s)
  | .lst xs => (pyTs xs).map .list
  | .tup xs => (pyTs xs).map .tuple
  | _ => none
noncomputable def pyTs : List T → Option (List PyData)
  | [] => some []
  | x :: r => match pyT x, pyTs r with
    | some d, some ds => some (d :: ds)
    | _, _ => none
end
noncomputable def sameK : T → T → Bool
  | .bl _, .bl _ => true
  | .int _, .int _ => true
  | .str _, .str _ => true
  | _, _ => false
noncomputable def valT (kvs : List (Key × T)) (k : Key) : Option T := (kvs.find? fun kv => decide (kv.1 = k)).map (·.2)
noncomputable def hitsT (ls : List (Key × T)) : List (Key × T) → Option Bool
  | [] => some true
  | (k, v) :: r => match valT ls k with
    | none => some false
    | some u => if sameK v u = true then (hitsT ls r).map fun b => eqT v u && b else none
noncomputable def eqD (k : Bool → Bool) (ks ls : List (Key × T)) : Option R := if ks.length = ls.length then (match hitsT ls ks with
  | some b => fB (k b)
  | none => none) else fB (k false)
noncomputable def eqF (x y : T) (k : Bool → Bool) : Option R := if scalT x y = true then fB (k (eqT x y)) else match pyT x, pyT y with
  | some d, some e => if SeqAt.shaped d = true ∧ SeqAt.shaped e = true then fB (k (PyData.eqv d e)) else none
  | _, _ => match x, y with
    | .dic ks, .dic ls => eqD k ks ls
    | _, _ => none
noncomputable def nePF : T → T → Option R
  | .tup [.int c, .dic ks], .tup [.int d, .dic []] => fB (!(c == d && ks.isEmpty))
  | _, _ => none
noncomputable def eqLF : T → T → Option R
  | .lst xs, .lst [] => fB xs.isEmpty
  | _, _ => none
noncomputable def cmpF (p : Int → Int → Bool) : T → T → Option R
  | .int i, .int j => fB (p i j)
  | _, _ => none
noncomputable def keyT : T → Option Key
  | .int i => some (.inl i)
  | .str s => some (.inr s)
  | _ => none
noncomputable def unkey : Key → T
  | .inl i => .int i
  | .inr s => .str s
noncomputable def intsT : List T → Option (List Int)
  | [] => some []
  | .int b :: r => (intsT r).map (b :: ·)
  | _ :: _ => none
noncomputable def seqI : T → Option (List Int)
  | .lst xs => intsT xs
  | .scr ns => some ns
  | _ => none
noncomputable def insS (a : Int) : List Int → List Int
  | [] => [a]
  | b :: r => if a ≤ b then a :: b :: r else b :: insS a r
noncomputable def sortS : List Int → List Int
  | [] => []
  | a :: r => insS a (sortS r)
noncomputable def insU (a : Int) : List Int → List Int
  | [] => [a]
  | b :: r => if a < b then a :: b :: r else if a = b then b :: r else b :: insU a r
noncomputable def uniqS : List Int → List Int
  | [] => []
  | a :: r => insU a (uniqS r)
noncomputable def leT (a b : Str) : Bool := !PySem.Spec.ltCps b.cps.toList a.cps.toList
noncomputable def insT (a : Str) : List Str → List Str
  | [] => [a]
  | b :: r => if leT a b = true then a :: b :: r else b :: insT a r
noncomputable def sortT : List Str → List Str
  | [] => []
  | a :: r => insT a (sortT r)
noncomputable def srtF (x : T) : Option R := match seqI x with
  | some ns => some (.ow (.lst ((sortS ns).map .int)))
  | none => match x with
    | .lst xs => (strsT xs).bind fun ys => if ys.length < 64 then some (.ow (.lst ((sortT ys).map .str))) else none
    | _ => none
noncomputable def sumF (x : T) : Option R := (seqI x).map fun ns => .fz (.int ns.sum)
noncomputable def uniT : List Str → List Str
  | [] => []
  | a :: r => if a ∈ r then uniT r else insT a (uniT r)
noncomputable def uniTF (x : T) : Option R := match x with
  | .lst xs => (strsT xs).bind fun ys => if ys.length < 64 then some (.ow (.lst ((uniT ys).map .str))) else none
  | _ => none
noncomputable def revF : T → Option R
  | .lst xs => some (.ow (.lst xs.reverse))
  | _ => none
noncomputable def oddL {α : Type} (xs : List α) : List α := (List.range (xs.length / 2)).filterMap fun k => xs[1 + 2 * k]?
noncomputable def oddF : T → Option R
  | .lst xs => some (.ow (.lst (oddL xs)))
  | _ => none
noncomputable def booF : T → Option R
  | .bl b => fB b
  | .int i => fB (i != 0)
  | _ => none
noncomputable def splF (b : Str) : T → Option R
  | .str a => if (b.length == 0) = false ∧ a.length + 2 ≤ sizeLine then some (.ow (.lst ((Txt.split a b).map .str))) else none
  | _ => none
noncomputable def uniqF (x : T) : Option R := (seqI x).bind fun ns => if ns.length < 64 then some (.ow (.lst ((uniqS ns).map .int))) else none
noncomputable def tupF : T → Option R
  | .lst xs => some (.fz (.tup xs))
  | .tup xs => some (.fz (.tup xs))
  | _ => none
noncomputable def inF (k : Bool → Bool) : T → T → Option R
  | .str x, .str z => (match x.cps.toList with
    | [c] => fB (k (decide (c ∈ z.cps.toList)))
    | _ => none)
  | x, .lst xs => if flatT x = true ∧ xs.all flatT = true then fB (k (xs.any fun y => eqT y x)) else none
  | x, .tup xs => if flatT x = true ∧ xs.all flatT = true then fB (k (xs.any fun y => eqT y x)) else none
  | x, .dic kvs => (keyT x).bind fun q => fB (k (kvs.any fun kv => decide (kv.1 = q)))
  | _, _ => none
noncomputable def lenF : T → Option R
  | .str z => if z.length ≤ sizeLine then fI z.length else none
  | .lst xs => fI xs.length
  | .tup xs => fI xs.length
  | .scr xs => fI xs.length
  | .dic kvs => fI kvs.length
  | _ => none
noncomputable def idxF : T → T → Option R
  | .lst xs, .int i => (atI xs i).map .fz
  | .tup xs, .int i => (atI xs i).map .fz
  | .scr ns, .int i => (atI ns i).map fun n => .fz (.int n)
  | .str z, .int i => if z.length ≤ sizeLine then (atI z.cps.toList i).map fun c => .fz (.str ⟨#[c]⟩) else none
  | .dic kvs, k => (keyT k).bind fun q => (valT kvs q).map .fz
  | _, _ => none
noncomputable def putT (kvs : List (Key × T)) (k : Key) (v : T) : List (Key × T) := if (kvs.any fun kv => decide (kv.1 = k)) = true then kvs.map fun kv => if decide (kv.1 = k) = true then (kv.1, v) else kv else kvs ++ [(k, v)]
noncomputable def putsT (acc l : List (Key × T)) : List (Key × T) := l.foldl (fun a kv => putT a kv.1 kv.2) acc
noncomputable def pairT : T → Option (Key × T)
  | .tup [k, v] => (keyT k).map fun q => (q, v)
  | _ => none
noncomputable def pairsT : List T → Option (List (Key × T))
  | [] => some []
  | x :: r => (pairT x).bind fun p => (pairsT r).map fun l => p :: l
noncomputable def dictF : T → Option R
  | .lst xs => (pairsT xs).map fun kvs => .ow (.dic (putsT [] kvs))
  | .dic kvs => some (.ow (.dic kvs))
  | _ => none
noncomputable def kwdF (ns : List Str) : T → Option R
  | .dic kvs => if (kvs.all fun kv => match kv.1 with
    | .inr x => !ns.contains x
    | .inl _ => false) = true then some (.ow (.dic kvs)) else none
  | _ => none
noncomputable def lcmF : T → T → Option R
  | .int i, .int j => if 0 < i ∧ i < 2 ^ 60 ∧ 0 < j ∧ j < 2 ^ 60 then fI ((Nat.lcm i.toNat j.toNat : Nat) : Int) else none
  | _, _ => none
noncomputable def gcdF : T → T → Option R
  | .int i, .int j => fI ((Nat.gcd i.natAbs j.natAbs : Nat) : Int)
  | _, _ => none
noncomputable def dmodF : T → T → Option R
  | .int i, .int j => if 0 < j ∧ j.natAbs.log2 < 9000 then some (.fz (.tup [.int (i / j), .int (i % j)])) else none
  | _, _ => none
noncomputable def minF (k : Int → Int → Bool) : T → T → Option R
  | .int i, .int j => fI (if k i j = true then j else i)
  | _, _ => none
noncomputable def negF : T → Option R
  | .int i => fI (-i)
  | _ => none
noncomputable def absF : T → Option R
  | .int i => fI (if i < 0 then -i else i)
  | _ => none
noncomputable def intF : T → Option R
  | .int i => fI i
  | .bl k => fI (if k then 1 else 0)
  | .str a => (match PySem.intText? a with
    | some n => if a.length ≤ 640 then fI n else none
    | none => none)
  | _ => none
noncomputable def strF : T → Option R
  | .int i => if i.natAbs.log2 < 1920 then fS (toString i) else none
  | .str x => fS x
  | _ => none
noncomputable def listF : T → Option R
  | .lst xs => some (.ow (.lst xs))
  | .tup xs => some (.ow (.lst xs))
  | .scr ns => some (.ow (.lst (ns.map .int)))
  | .dic kvs => some (.ow (.lst (kvs.map fun kv => unkey kv.1)))
  | _ => none
noncomputable def allF : T → Option R
  | .lst xs => (bools xs).bind fun bs => fB (bs.all id)
  | _ => none
noncomputable def anyF : T → Option R
  | .lst xs => (bools xs).bind fun bs => fB (bs.any id)
  | _ => none
noncomputable def joinF : T → T → Option R
  | .str a, .lst xs => (strsT xs).bind fun ys => if (ys.map (·.length)).sum + ys.length * a.length ≤ 16777216 then fS (Txt.join a ys) else none
  | _, _ => none
noncomputable def isnF (k : Bool → Bool) (x y : T) : Option R := if isNon y = true then fB (k (isNon x)) else none
noncomputable def intO : T → Option Int
  | .int i => some i
  | _ => none
noncomputable def isiF (l : List Ty) : T → Option R
  | .ins _ _ => none
  | x => fB (l.any (Ty.has x))
noncomputable def isi1F (l : Ty) : T → Option R
  | .ins _ _ => none
  | x => fB (Ty.has x l)
noncomputable def op1 : Op → Option (T → Option R)
  | .neg => some negF
  | .len => some lenF
  | .sl false false => some fun x => slF x none none
  | .abs => some absF
  | .int => some intF
  | .str => some strF
  | .list => some listF
  | .srt => some srtF
  | .dict => some dictF
  | .uniq => some uniqF
  | .uniT => some uniTF
  | .sum => some sumF
  | .tuple => some tupF
  | .all => some allF
  | .any => some anyF
  | .isi l => some (isiF l)
  | .isi1 l => some (isi1F l)
  | .kwd ns => some (kwdF ns)
  | .split b => some (splF b)
  | .boo => some booF
  | .rev => some revF
  | .odds => some oddF
  | _ => none
noncomputable def op2 : Op → Option (T → T → Option R)
  | .add => some addF
  | .sub => some subF
  | .mul => some mulF
  | .fdiv => some fdivF
  | .mod => some modF
  | .pow => some powF
  | .eq => some fun x y => eqF x y id
  | .ne => some fun x y => eqF x y not
  | .lt => some (cmpF fun i j => decide (i < j))
  | .le => some (cmpF fun i j => decide (i ≤ j))
  | .gt => some (cmpF fun i j => decide (j < i))
  | .ge => some (cmpF fun i j => decide (j ≤ i))
  | .neP => some nePF
  | .eqL => some eqLF
  | .isin => some (inF id)
  | .notin => some (inF not)
  | .isn => some (isnF id)
  | .notn => some (isnF not)
  | .idx => some idxF
  | .sl true false => some fun x i => (intO i).bind fun i => slF x (some i) none
  | .sl false true => some fun x i => (intO i).bind fun i => slF x none (some i)
  | .join => some joinF
  | .lcm => some lcmF
  | .min2 => some (minF fun i j => decide (j < i))
  | .max2 => some (minF fun i j => decide (j > i))
  | .gcd => some gcdF
  | .dmod => some dmodF
  | _ => none
noncomputable def op3 : Op → Option (T → T → T → Option R)
  | .sl true true => some fun x i j => (intO i).bind fun i => (intO j).bind fun j => slF x (some i) (some j)
  | _ => none
noncomputable def opF (f : Op) (ts : List T) : Option R := match ts with
  | [x] => (op1 f).bind fun g => g x
  | [x, y] => (op2 f).bind fun g => g x y
  | [x, y, z] => (op3 f).bind fun g => g x y z
  | _ => none

/-! ### syntax -/
mutual
inductive Pt where
  | nm (i : Nat) | tup (ps : Pts)
inductive Pts where
  | nil | cons (p : Pt) (r : Pts)
end
noncomputable def Pts.len : Pts → Nat
  | .nil => 0
  | .cons _ r => r.len + 1
mutual
inductive E where
  | c (t : T) | var (i : Nat) | lst (es : Es) | tup (es : Es) | op (f : Op) (es : Es)
  | an (a b : E) | or (a b : E) | nt (a : E) | ite (c a b : E) | ch (f g : Op) (a b c : E)
  | slc (a b c : E) | jn (a b : E)
  | fld (c : Nat) (e : E) (f : Str) | con (c : Nat) (e : E) (f : Str) (t : T) | prop (c f : Nat) (e : E) | meth (c f : Nat) (n : Str) (io : List Bool) (e : E) (es : Es) | mk (c f : Nat) (pm : List Nat) (es : Es) | ceq (neg : Bool) (c f : Nat) (a b : E) | spc (s : Bool) (c f : Nat) (a : E) | fst (es : Es) | lsx (bs : List Bool) (es : Es)
  | dic0 | dsc (kvs : List (Key × T)) | dgt (a b c : E) | dcm (own : List Nat) (p : Pt) (s : Src) (cs : Es) (k v : E) | isc (cs ns : List Nat) (e : E) | bop (c f : Nat) (a b : E) | uop (c f : Nat) (a : E) | inn (neg : Bool) (c f : Nat) (a b : E) | gti (c f : Nat) (a b : E) | bopi (c f : Nat) (a b : E) | ropi (c f : Nat) (a b : E)
  | ccm (f : Nat) | lr (s : Src) | lend (is : List Nat) (e : E) | lenb (is : List Nat) (e : E) | mki (c f : Nat) (io : List Bool) (es : Es)
  | call (f : Nat) (io : List Bool) (es : Es)
  | comp (own : List Nat) (p : Pt) (s : Src) (cs : Es) (e : E)
inductive Es where
  | nil | cons (e : E) (r : Es)
inductive Src where
  | it (e : E) | rng1 (e : E) | rng2 (a b : E) | enum (e : E) | zip (a b : E)
end
mutual
inductive S where
  | set (i : Nat) (e : E) | unp (p : Pt) (e : E) | par (i j : Nat) (a b : E) | aug (i : Nat) (f : Op) (e : E) | ex (e : E) | ret (e : E) | retn
  | ife (c : E) (a b : Ss) | wh (c : E) (b : Ss) | fr (p : Pt) (s : Src) (b : Ss) | app (i : Nat) (e : E) | insr (i : Nat) (k e : E) | sto (i : Nat) (k v : E) | stf (i c : Nat) (f : Str) (e : E) | stp (i c : Nat) (fs : List Str) (e : E) | nev | rse (c : Nat) (code : Str) (at_ : Option Str) (es : Es) | brk | cnt | pas | paro (i j : Nat) (a b : E) | parf (i j : Nat) (a b : E) | par3 (i j l : Nat) (a b : E) (t : T) | scp (is A : List Nat) (b : Ss)
inductive Ss where
  | nil | cons (s : S) (r : Ss)
end
structure Def where
  np : Nat
  ns : Nat
  io : List Bool
  body : Ss

/-! ### slots -/
noncomputable def pmT (pm : List Nat) (ts : List T) : List T := match pm with
  | [] => ts
  | pm => pm.map fun i => ts.getD i .non
noncomputable def Es.len : Es → Nat
  | .nil => 0
  | .cons _ r => r.len + 1
noncomputable def R.opd : R → Opd
  | .fz t => .t t
  | .ow o => .t o.frz
  | .bo i => .b i
noncomputable def der (m : List Slot) : Opd → Option T
  | .t t => some t
  | .b i => match m[i]? with
    | some (.ow o) => some o.frz
    | some (.fz t) => some t
    | _ => none
noncomputable def ders (m : List Slot) : List Opd → Option (List T)
  | [] => some []
  | d :: r => match der m d, ders m r with
    | some t, some ts => some (t :: ts)
    | _, _ => none
noncomputable def esc (m : List Slot) : Opd → Option (T × List Slot)
  | .t t => some (t, m)
  | .b i => match m[i]? with
    | some (.ow o) => some (o.frz, m.set i (.fz o.frz))
    | some (.fz t) => some (t, m)
    | _ => none
noncomputable def escs (m : List Slot) : List Opd → Option (List T × List Slot)
  | [] => some ([], m)
  | d :: r => match esc m d with
    | some (t, m1) => (match escs m1 r with
      | some (ts, m2) => some (t :: ts, m2)
      | none => none)
    | none => none
noncomputable def pass (m : List Slot) : List Bool → List Opd → Option (List Slot × List Slot)
  | [], [] => some ([], m)
  | false :: io, d :: r => match esc m d with
    | some (t, m1) => (match pass m1 io r with
      | some (ss, m2) => some (.fz t :: ss, m2)
      | none => none)
    | none => none
  | true :: io, .b i :: r => match m[i]? with
    | some (.ow o) => (match pass (m.set i .no) io r with
      | some (ss, m2) => some (.ow o :: ss, m2)
      | none => none)
    | _ => none
  | _, _ => none
noncomputable def back (m : List Slot) : List Bool → List Opd → List Slot → Option (List Slot)
  | [], [], _ => some m
  | false :: io, _ :: r, _ :: outs => back m io r outs
  | true :: io, .b i :: r, s :: outs => back (m.set i s) io r outs
  | _, _, _ => none
mutual
noncomputable def bindP (m : List Slot) : Pt → T → Option (List Slot)
  | .nm i, x => if i < m.length then some (m.set i (.fz x)) else none
  | .tup ps, x => match x with
    | .tup xs => bindPs m ps xs
    | _ => none
noncomputable def bindPs (m : List Slot) : Pts → List T → Option (List Slot)
  | .nil, [] => some m
  | .cons p r, x :: xs => (match bindP m p x with
    | some m1 => bindPs m1 r xs
    | none => none)
  | _, _ => none
end
noncomputable def wipeM (m : List Slot) : List Nat → List Slot
  | [] => m
  | v :: vs => (wipeM m vs).set v .no
noncomputable def restM (m0 m : List Slot) : List Nat → List Slot
  | [] => m
  | v :: vs => (restM m0 m vs).set v (m0[v]?.getD .no)
noncomputable def noOw (m : List Slot) (vs : List Nat) : Bool := vs.all fun v => match m[v]? with
  | some (.ow _) => false
  | some _ => true
  | none => false
noncomputable def rangeT (lo hi : Int) : List T := (List.range (hi - lo).toNat).map fun (k : Nat) => T.int (lo + (k : Int))
noncomputable def enumT : Nat → List T → List T
  | _, [] => []
  | k, x :: r => .tup [.int (k : Int), x] :: enumT (k + 1) r
noncomputable def zipT : List T → List T → List T
  | x :: xs, y :: ys => .tup [x, y] :: zipT xs ys
  | _, _ => []
noncomputable def itemsT : T → Option (List T)
  | .lst xs => some xs
  | .tup xs => some xs
  | .scr ns => some (ns.map .int)
  | .dic kvs => some (kvs.map fun kv => unkey kv.1)
  | .str z => if z.length ≤ sizeLine then some (z.cps.toList.map fun c => .str ⟨#[c]⟩) else none
  | _ => none
noncomputable def zipO : T → T → Option (List T)
  | .lst xs, .lst ys => some (zipT xs ys)
  | .tup xs, .tup ys => some (zipT xs ys)
  | _, _ => none
noncomputable def loE (x : T) : Option (List T) := match x with
  | .lst xs => some xs
  | .tup xs => some xs
  | _ => none
noncomputable def wideI (i : Int) : Bool := decide (-(2 ^ 62) ≤ i ∧ i < 2 ^ 62)

noncomputable def O.lendable : O → Bool
  | .dic _ => false
  | _ => true
noncomputable def lendM (is : List Nat) : Nat → List Slot → List Slot
  | _, [] => []
  | k, .ow o :: r => (if k ∈ is ∧ o.lendable = true then .fz o.frz else .no) :: lendM is (k + 1) r
  | k, .fz t :: r => .fz t :: lendM is (k + 1) r
  | k, .no :: r => .no :: lendM is (k + 1) r
noncomputable def thinO : O → Bool
  | .lst xs => xs.all flatT
  | .dic kvs => kvs.all fun kv => flatT kv.2
  | .ins _ _ => false
/-! no list within -/
mutual
noncomputable def noL : T → Bool
  | .lst _ => false
  | .scr _ => false
  | .tup xs => noLs xs
  | .dic kvs => noLk kvs
  | .ins _ fs => noLf fs
  | _ => true
noncomputable def noLs : List T → Bool
  | [] => true
  | x :: r => noL x && noLs r
noncomputable def noLk : List (Key × T) → Bool
  | [] => true
  | (_, x) :: r => noL x && noLk r
noncomputable def noLf : List (Str × T) → Bool
  | [] => true
  | (_, x) :: r => noL x && noLf r
end
noncomputable def noLO : O → Bool
  | .lst _ => false
  | .dic kvs => noLk kvs
  | .ins _ fs => noLf fs
noncomputable def lstS (is : List Nat) (m : List Slot) : Bool := is.all fun i => match m[i]? with
  | some (.ow (.lst _)) => true
  | _ => false
/-! ### the comprehension's and the loops' turns -/
noncomputable def compGo (own : List Nat) (p : Pt) (cond elt : List Slot → Res R) : List T → List T → List Slot → Res (List T)
  | [], acc, m => .ok acc m
  | x :: xs, acc, m => match bindP (wipeM m own) p x with
    | none => .no
    | some m1 => (cond m1).bind fun r m2 => match r with
      | .fz (.bl true) => (elt m2).bind fun r m3 => match esc m3 r.opd with
        | some (t, m4) => if acc.length < sizeLine then compGo own p cond elt xs (acc ++ [t]) (wipeM m4 own) else .no
        | none => .no
      | .fz (.bl false) => compGo own p cond elt xs acc (wipeM m2 own)
      | _ => .no
noncomputable def dcGo (own : List Nat) (p : Pt) (cond ke ve : List Slot → Res R) : List T → List (Key × T) → List Slot → Res (List (Key × T))
  | [], acc, m => .ok acc m
  | x :: xs, acc, m => match bindP (wipeM m own) p x with
    | none => .no
    | some m1 => (cond m1).bind fun r m2 => match r with
      | .fz (.bl true) => (ke m2).bind fun rk m3 => match rk with
        | .fz kt => (match keyT kt with
          | some k => (ve m3).bind fun rv m4 => (match esc m4 rv.opd with
            | some (t, m5) => if acc.length < sizeLine then dcGo own p cond ke ve xs (putT acc k t) (wipeM m5 own) else .no
            | none => .no)
          | none => .no)
        | _ => .no
      | .fz (.bl false) => dcGo own p cond ke ve xs acc (wipeM m2 own)
      | _ => .no
noncomputable def forGo (p : Pt) (body : List Slot → Fl) : List T → List Slot → Fl
  | [], m => .nx m
  | x :: xs, m => match bindP m p x with
    | none => .no
    | some m1 => match body m1 with
      | .nx m2 => forGo p body xs m2
      | .ct m2 => forGo p body xs m2
      | .bk m2 => .nx m2
      | f => f
noncomputable def whGo (cond : List Slot → Res R) (body : List Slot → Fl) : Nat → List Slot → Fl
  | 0, _ => .no
  | n + 1, m => match cond m with
    | .ok (.fz (.bl true)) m1 => (match body m1 with
      | .nx m2 => whGo cond body n m2
      | .ct m2 => whGo cond body n m2
      | .bk m2 => .nx m2
      | f => f)
    | .ok (.fz (.bl false)) m1 => .nx m1
    | .ex x m1 => .ex x m1
    | _ => .no

/-! ### the evaluator -/
noncomputable def opR (f : Op) (ds : List Opd) (m : List Slot) : Res R := match ders m ds with
  | some ts => (match opF f ts with
    | some r => .ok r m
    | none => .no)
  | none => .no
noncomputable def besideT (c : Nat) : Option T → Bool
  | some (.ins c' _) => decide (c' = c)
  | some _ => true
  | none => false
noncomputable def callR (cal : Nat → List Slot → CRes) (f : Nat) (io : List Bool) (ds : List Opd) (m : List Slot) : Res R := match pass m io ds with
  | some (args, m1) => (match cal f args with
    | .ok (.bo _) _ => .no
    | .ok r outs => (match back m1 io ds outs with
      | some m2 => .ok r m2
      | none => .no)
    | .ex x outs => (match back m1 io ds outs with
      | some m2 => .ex x m2
      | none => .no)
    | .no => .no)
  | none => .no
section
variable (cal : Nat → List Slot → CRes)
mutual
noncomputable def evE : E → List Slot → Res R
  | .c t, m => .ok (.fz t) m
  | .var i, m => match m[i]? with
    | some (.fz t) => .ok (.fz t) m
    | some (.ow _) => .ok (.bo i) m
    | _ => .no
  | .lst es, m => (evDs es m).bind fun ds m1 => match escs m1 ds with
    | some (ts, m2) => if ts.length ≤ sizeLine then .ok (.ow (.lst ts)) m2 else .no
    | none => .no
  | .tup es, m => (evDs es m).bind fun ds m1 => match escs m1 ds with
    | some (ts, m2) => if ts.length ≤ sizeLine then .ok (.fz (.tup ts)) m2 else .no
    | none => .no
  | .op f es, m => (evDs es m).bind fun ds m1 => opR f ds m1
  | .an a b, m => (evE a m).bind fun r m1 => match r with
    | .fz (.bl true) => evE b m1
    | .fz (.bl false) => .ok (.fz (.bl false)) m1
    | _ => .no
  | .or a b, m => (evE a m).bind fun r m1 => match r with
    | .fz (.bl true) => .ok (.fz (.bl true)) m1
    | .fz (.bl false) => evE b m1
    | _ => .no
  | .nt a, m => (evE a m).bind fun r m1 => match r with
    | .fz (.bl k) => .ok (.fz (.bl (!k))) m1
    | _ => .no
  | .ite c a b, m => (evE c m).bind fun r m1 => match r with
    | .fz (.bl true) => evE a m1
    | .fz (.bl false) => evE b m1
    | _ => .no
  | .ch f g a b c, m => (evE a m).bind fun ra m1 => (evE b m1).bind fun rb m2 => (opR f [ra.opd, rb.opd] m2).bind fun r m3 => match r with
    | .fz (.bl true) => (evE c m3).bind fun rc m4 => opR g [rb.opd, rc.opd] m4
    | .fz (.bl false) => .ok (.fz (.bl false)) m3
    | _ => .no
  | .slc a b c, m => (evE a m).bind fun ra m1 => (evE b m1).bind fun rb m2 => match der m2 rb.opd with
    | some (.int i) => (evE c m2).bind fun rc m3 => (match der m3 rc.opd, der m3 ra.opd with
      | some (.int j), some t => (match slF t (some i) (some j) with
        | some r => .ok r m3
        | none => .no)
      | _, _ => .no)
    | _ => .no
  | .jn a b, m => (evE a m).bind fun ra m1 => match der m1 ra.opd with
    | some (.str z) => (evE b m1).bind fun rb m2 => (match der m2 rb.opd with
      | some t => (match joinF (.str z) t with
        | some r => .ok r m2
        | none => .no)
      | none => .no)
    | _ => .no
  | .fld c e f, m => (evE e m).bind fun r m1 => match der m1 r.opd with
    | some (.ins c' fs) => if c' = c then (match fs.lookup f with
      | some t => .ok (.fz t) m1
      | none => .no) else .no
    | _ => .no
  | .con c e f t, m => (evE e m).bind fun r m1 => match der m1 r.opd with
    | some (.ins c' fs) => if c' = c ∧ fs.lookup f = none then .ok (.fz t) m1 else .no
    | _ => .no
  | .prop c f e, m => (evE e m).bind fun r m1 => match der m1 r.opd with
    | some (.ins c' _) => if c' = c then (callR cal f [false] [r.opd] m1).calm else .no
    | _ => .no
  | .meth c f n io e es, m => (evE e m).bind fun r m1 => match der m1 r.opd with
    | some (.ins c' fs) => if c' = c ∧ fs.lookup n = none then (evDs es m1).bind fun ds m2 => (callR cal f (false :: io) (r.opd :: ds) m2).calm else .no
    | _ => .no
  | .mk c f pm es, m => (evDs es m).bind fun ds m1 => match escs m1 ds with
    | some (ts, m2) => (match cal f (.ow (.ins c []) :: (pmT pm ts).map .fz) with
      | .ok (.fz .non) (.ow o :: _) => .ok (.ow o) m2
      | _ => .no)
    | none => .no
  | .ceq neg c f a b, m => (evE a m).bind fun ra m1 => (evE b m1).bind fun rb m2 => match der m2 ra.opd with
    | some (.ins c' _) => if c' = c ∧ besideT c (der m2 rb.opd) = true then (callR cal f [false, false] [ra.opd, rb.opd] m2).calm.bind fun r m3 => (match r with
      | .fz (.bl k) => .ok (.fz (.bl (if neg = true then !k else k))) m3
      | _ => .no) else .no
    | _ => opR (if neg = true then .ne else .eq) [ra.opd, rb.opd] m2
  | .spc s c f a, m => (evE a m).bind fun ra m1 => match der m1 ra.opd with
    | some (.ins c' _) => if c' = c then (callR cal f [false] [ra.opd] m1).calm.bind fun r m2 => (match r with
      | .fz (.str z) => if s = true then .ok (.fz (.str z)) m2 else .no
      | .fz (.bl z) => if s = true then .no else .ok (.fz (.bl z)) m2
      | _ => .no) else .no
    | _ => .no
  | .lsx bs es, m => (evDx es bs m).bind fun ds m1 => match escs m1 ds with
    | some (ts, m2) => if ts.length ≤ sizeLine then .ok (.ow (.lst ts)) m2 else .no
    | none => .no
  | .fst es, m => (evJs es Str.empty m).bind fun z m1 => .ok (.fz (.str z)) m1
  | .dic0, m => .ok (.ow (.dic [])) m
  | .dgt a b c, m => (evE a m).bind fun ra m1 => match der m1 ra.opd with
    | some (.dic _) => (evE b m1).bind fun rb m2 => (evE c m2).bind fun rc m3 => (match der m3 ra.opd, der m3 rb.opd, der m3 rc.opd with
      | some (.dic kvs), some k, some x => if flatT x = true then (match keyT k with
        | some q => .ok (.fz ((valT kvs q).getD x)) m3
        | none => .no) else .no
      | _, _, _ => .no)
    | _ => .no
  | .dsc kvs, m => if kvs.all (fun kv => flatT kv.2) = true ∧ kvs.length ≤ 15 then .ok (.ow (.dic (putsT [] kvs))) m else .no
  | .dcm own p s cs k v, m => (evSrc s m).bind fun xs m1 => if noOw m1 own = true then
      (dcGo own p (fun m => evAll cs m) (fun m => evE k m) (fun m => evE v m) xs [] (wipeM m1 own)).calm.bind fun acc m2 => .ok (.ow (.dic acc)) (restM m1 m2 own)
    else .no
  | .isc cs ns e, m => (evE e m).bind fun r m1 => match der m1 r.opd with
    | some (.ins c _) => if c ∈ cs then .ok (.fz (.bl true)) m1 else if c ∈ ns then .ok (.fz (.bl false)) m1 else .no
    | some _ => .ok (.fz (.bl false)) m1
    | none => .no
  | .bop c f a b, m => (evE a m).bind fun ra m1 => (evE b m1).bind fun rb m2 => match der m2 ra.opd, der m2 rb.opd with
    | some (.ins c1 _), some (.ins c2 _) => if c1 = c ∧ c2 = c then (callR cal f [false, false] [ra.opd, rb.opd] m2).calm else .no
    | _, _ => .no
  | .uop c f a, m => (evE a m).bind fun ra m1 => match der m1 ra.opd with
    | some (.ins c1 _) => if c1 = c then (callR cal f [false] [ra.opd] m1).calm else .no
    | _ => .no
  | .inn neg c f a b, m => (evE a m).bind fun ra m1 => (evE b m1).bind fun rb m2 => match der m2 rb.opd with
    | some (.ins c1 _) => if c1 = c then (callR cal f [false, false] [rb.opd, ra.opd] m2).calm.bind fun r m3 => (match r with
      | .fz (.bl k) => .ok (.fz (.bl (if neg = true then !k else k))) m3
      | _ => .no) else .no
    | _ => .no
  | .gti c f a b, m => (evE a m).bind fun ra m1 => (evE b m1).bind fun rb m2 => match der m2 ra.opd with
    | some (.ins c1 _) => if c1 = c then (callR cal f [false, false] [ra.opd, rb.opd] m2).calm else .no
    | _ => .no
  | .bopi c f a b, m => (evE a m).bind fun ra m1 => (evE b m1).bind fun rb m2 => match der m2 ra.opd, der m2 rb.opd with
    | some (.ins c1 _), some (.int _) => if c1 = c then (callR cal f [false, false] [ra.opd, rb.opd] m2).calm else .no
    | _, _ => .no
  | .ropi c f a b, m => (evE a m).bind fun ra m1 => (evE b m1).bind fun rb m2 => match der m2 ra.opd, der m2 rb.opd with
    | some (.int _), some (.ins c1 _) => if c1 = c then (callR cal f [false, false] [rb.opd, ra.opd] m2).calm else .no
    | _, _ => .no
  | .ccm f, m => match cal f [.no] with
    | .ok (.fz t) _ => .ok (.fz t) m
    | .ok (.ow o) _ => .ok (.ow o) m
    | _ => .no
  | .lr s, m => (evSrc s m).bind fun xs m1 => if xs.length ≤ sizeLine then .ok (.ow (.lst xs)) m1 else .no
  | .lend is e, m => match evE e (lendM is 0 m) with
    | .ok (.fz t) _ => if flatT t = true then .ok (.fz t) m else .no
    | .ok (.ow o) _ => if thinO o = true then .ok (.ow o) m else .no
    | _ => .no
  | .lenb is e, m => if lstS is m = true then (match evE e (lendM is 0 m) with
    | .ok (.fz t) _ => if noL t = true then .ok (.fz t) m else .no
    | .ok (.ow o) _ => if noLO o = true then .ok (.ow o) m else .no
    | _ => .no) else .no
  | .mki c f io es, m => (evDs es m).bind fun ds m1 => match pass m1 io ds with
    | some (args, m2) => (match cal f (.ow (.ins c []) :: args) with
      | .ok (.fz .non) (.ow o :: outs) => (match back m2 io ds outs with
        | some m3 => .ok (.ow o) m3
        | none => .no)
      | _ => .no)
    | none => .no
  | .call f io es, m => (evDs es m).bind fun ds m1 => callR cal f io ds m1
  | .comp own p s cs e, m => (evSrc s m).bind fun xs m1 => if noOw m1 own = true then
      (compGo own p (fun m => evAll cs m) (fun m => evE e m) xs [] (wipeM m1 own)).calm.bind fun acc m2 => .ok (.ow (.lst acc)) (restM m1 m2 own)
    else .no
noncomputable def evDs : Es → List Slot → Res (List Opd)
  | .nil, m => .ok [] m
  | .cons e r, m => (evE e m).bind fun x m1 => (evDs r m1).bind fun xs m2 => .ok (x.opd :: xs) m2
noncomputable def evDx : Es → List Bool → List Slot → Res (List Opd)
  | .nil, _, m => .ok [] m
  | .cons e r, bs, m => (evE e m).bind fun x m1 => if bs.headD false = true then (match der m1 x.opd with
      | some (.lst xs) => (evDx r bs.tail m1).bind fun ds m2 => .ok (xs.map Opd.t ++ ds) m2
      | _ => .no) else (evDx r bs.tail m1).bind fun ds m2 => .ok (x.opd :: ds) m2
noncomputable def evJs : Es → Str → List Slot → Res Str
  | .nil, acc, m => .ok acc m
  | .cons e r, acc, m => (evE e m).bind fun x m1 => match x with
    | .fz (.str y) => if (acc ++ y).length ≤ sizeLine then evJs r (acc ++ y) m1 else .no
    | .fz (.int i) => if (acc ++ toString i).length ≤ sizeLine ∧ i.natAbs.log2 < 1920 then evJs r (acc ++ toString i) m1 else .no
    | _ => .no
noncomputable def evAll : Es → List Slot → Res R
  | .nil, m => .ok (.fz (.bl true)) m
  | .cons e r, m => (evE e m).bind fun x m1 => match x with
    | .fz (.bl true) => evAll r m1
    | .fz (.bl false) => .ok (.fz (.bl false)) m1
    | _ => .no
noncomputable def evSrc : Src → List Slot → Res (List T)
  | .it e, m => (evE e m).bind fun r m1 => match esc m1 r.opd with
    | some (t, m2) => (match itemsT t with
      | some xs => .ok xs m2
      | none => .no)
    | none => .no
  | .rng1 e, m => (evE e m).bind fun r m1 => match der m1 r.opd with
    | some (.int j) => if wideI j = true then .ok (rangeT 0 j) m1 else .no
    | _ => .no
  | .rng2 a b, m => (evE a m).bind fun ra m1 => (evE b m1).bind fun rb m2 => match der m2 ra.opd, der m2 rb.opd with
    | some (.int i), some (.int j) => if wideI i = true ∧ wideI j = true then .ok (rangeT i j) m2 else .no
    | _, _ => .no
  | .enum e, m => (evE e m).bind fun r m1 => match esc m1 r.opd with
    | some (t, m2) => (match loE t with
      | some xs => .ok (enumT 0 xs) m2
      | none => .no)
    | none => .no
  | .zip a b, m => (evE a m).bind fun ra m1 => (evE b m1).bind fun rb m2 => match escs m2 [ra.opd, rb.opd] with
    | some ([t, u], m3) => (match zipO t u with
      | some xs => .ok xs m3
      | none => .no)
    | _ => .no
end
noncomputable def excT (c : Nat) (code : Str) (at_ : Option Str) (ts : List T) : Option T := match at_, ts with
  | some a, [t] => some (.ins c [(a, t), ("code", .str code)])
  | none, [] => some (.ins c [("code", .str code)])
  | _, _ => none
noncomputable def augF (f : Op) (x y : T) : Option T := match f, x, y with
  | .add, .int i, .int j => some (.int (i + j))
  | .sub, .int i, .int j => some (.int (i - j))
  | _, _, _ => none
noncomputable def outR (r : R) (m : List Slot) : Option (R × List Slot) := match r with
  | .bo i => (match m[i]? with
    | some (.ow o) => some (.ow o, m.set i .no)
    | some (.fz t) => some (.fz t, m)
    | _ => none)
  | r => some (r, m)
noncomputable def putR (i : Nat) (r : R) (m : List Slot) : Fl := if i < m.length then (match r with
    | .fz t => .nx (m.set i (.fz t))
    | .ow o => .nx (m.set i (.ow o))
    | .bo j => (match esc m (.b j) with
      | some (t, m1) => .nx (m1.set i (.fz t))
      | none => .no)) else .no
noncomputable def putS (f : Str) (v : T) : List (Str × T) → List (Str × T)
  | [] => [(f, v)]
  | (g, x) :: r => if g = f then (g, v) :: r else (g, x) :: putS f v r
noncomputable def putSs (l : List (Str × T)) (gs : List (Str × T)) : List (Str × T) := l.foldl (fun g p => putS p.1 p.2 g) gs
noncomputable def ofR {α : Type} (r : Res α) (k : α → List Slot → Fl) : Fl := match r with
  | .ok r m => k r m
  | .ex x m => .ex x m
  | .no => .no
variable (L : Nat)
mutual
noncomputable def evS : S → List Slot → Fl
  | .set i e, m => ofR (evE cal e m) fun r m1 => putR i r m1
  | .unp p e, m => ofR (evE cal e m) fun r m1 => match esc m1 r.opd with
    | some (t, m2) => (match bindP m2 p t with
      | some m3 => .nx m3
      | none => .no)
    | none => .no
  | .par i j a b, m => ofR (evE cal a m) fun ra m1 => ofR (evE cal b m1) fun rb m2 => match escs m2 [ra.opd, rb.opd] with
    | some ([t, u], m3) => if i < m3.length ∧ j < m3.length then .nx ((m3.set i (.fz t)).set j (.fz u)) else .no
    | _ => .no
  | .aug i f e, m => match m[i]? with
    | some (.fz x) => ofR (evE cal e m) fun r m1 => (match m1[i]?, der m1 r.opd with
      | some (.fz _), some y => (match augF f x y with
        | some z => .nx (m1.set i (.fz z))
        | none => .no)
      | _, _ => .no)
    | _ => .no
  | .ex e, m => ofR (evE cal e m) fun _ m1 => .nx m1
  | .ret e, m => ofR (evE cal e m) fun r m1 => match outR r m1 with
    | some (r, m2) => .rt r m2
    | none => .no
  | .retn, m => .rt (.fz .non) m
  | .ife c a b, m => ofR (evE cal c m) fun r m1 => match r with
    | .fz (.bl true) => evSs a m1
    | .fz (.bl false) => evSs b m1
    | _ => .no
  | .wh c b, m => whGo (fun m => evE cal c m) (fun m => evSs b m) L m
  | .fr p s b, m => match evSrc cal s m with
    | .ok xs m1 => forGo p (fun m => evSs b m) xs m1
    | .ex x m1 => .ex x m1
    | .no => .no
  | .app i e, m => match m[i]? with
    | some (.ow (.lst _)) => ofR (evE cal e m) fun r m1 => (match esc m1 r.opd with
      | some (t, m2) => (match m2[i]? with
        | some (.ow (.lst xs)) => if xs.length < sizeLine then .nx (m2.set i (.ow (.lst (xs ++ [t])))) else .no
        | _ => .no)
      | none => .no)
    | _ => .no
  | .insr i k e, m => match m[i]? with
    | some (.ow (.lst _)) => ofR (evE cal k m) fun rk m1 => (match rk with
      | .fz (.int j) => ofR (evE cal e m1) fun r m2 => (match esc m2 r.opd with
        | some (t, m3) => (match m3[i]? with
          | some (.ow (.lst xs)) => if 0 ≤ j ∧ j < 2 ^ 63 ∧ xs.length < sizeLine then .nx (m3.set i (.ow (.lst (xs.take j.toNat ++ [t] ++ xs.drop j.toNat)))) else .no
          | _ => .no)
        | none => .no)
      | _ => .no)
    | _ => .no
  | .sto i k v, m => ofR (evE cal v m) fun rv m1 => match m1[i]? with
    | some (.ow _) => ofR (evE cal k m1) fun rk m2 => (match esc m2 rv.opd with
      | some (t, m3) => (match der m3 rk.opd, m3[i]? with
        | some (.int j), some (.ow (.lst xs)) => (match ixN xs.length j with
          | some n => .nx (m3.set i (.ow (.lst (xs.set n t))))
          | none => .no)
        | some kt, some (.ow (.dic kvs)) => (match keyT kt with
          | some k => if kvs.length < sizeLine then .nx (m3.set i (.ow (.dic (putT kvs k t)))) else .no
          | none => .no)
        | _, _ => .no)
      | none => .no)
    | _ => .no
  | .stf i c f e, m => ofR (evE cal e m) fun r m1 => match esc m1 r.opd with
    | some (t, m2) => (match m2[i]? with
      | some (.ow (.ins c' fs)) => if c' = c ∧ fs.length < 1000 then .nx (m2.set i (.ow (.ins c (putS f t fs)))) else .no
      | _ => .no)
    | none => .no
  | .stp i c fs e, m => ofR (evE cal e m) fun r m1 => match esc m1 r.opd with
    | some (.tup ts, m2) => (match m2[i]? with
      | some (.ow (.ins c' gs)) => if c' = c ∧ gs.length + fs.length < 1000 ∧ ts.length = fs.length then .nx (m2.set i (.ow (.ins c (putSs (fs.zip ts) gs)))) else .no
      | _ => .no)
    | _ => .no
  | .paro i j a b, m => ofR (evE cal a m) fun ra m1 => match ra with
    | .ow o1 => ofR (evE cal b m1) fun rb m2 => (match rb with
      | .ow o2 => if i < m2.length ∧ j < m2.length ∧ i ≠ j then .nx ((m2.set i (.ow o1)).set j (.ow o2)) else .no
      | .fz t => if i < m2.length ∧ j < m2.length ∧ i ≠ j then .nx ((m2.set i (.ow o1)).set j (.fz t)) else .no
      | _ => .no)
    | _ => .no
  | .parf i j a b, m => ofR (evE cal a m) fun ra m1 => match ra with
    | .fz t => ofR (evE cal b m1) fun rb m2 => (match rb with
      | .ow o => if i < m2.length ∧ j < m2.length ∧ i ≠ j then .nx ((m2.set i (.fz t)).set j (.ow o)) else .no
      | _ => .no)
    | _ => .no
  | .par3 i j l a b t, m => ofR (evE cal a m) fun ra m1 => match ra with
    | .fz u => ofR (evE cal b m1) fun rb m2 => (match rb with
      | .ow o => if (i < m2.length ∧ j < m2.length ∧ l < m2.length) ∧ (i ≠ j ∧ i ≠ l ∧ j ≠ l) ∧ flatT t = true then .nx (((m2.set i (.fz u)).set j (.ow o)).set l (.fz t)) else .no
      | _ => .no)
    | _ => .no
  | .scp is A b, m => match evSs b (lendM is 0 m) with
    | .nx m1 => if m1.length = m.length then .nx (wipeM m A) else .no
    | _ => .no
  | .nev, _ => .no
  | .rse c code at_ es, m => ofR (evDs cal es m) fun ds m1 => match escs m1 ds with
    | some (ts, m2) => (match excT c code at_ ts with
      | some x => .ex x m2
      | none => .no)
    | none => .no
  | .brk, m => .bk m
  | .cnt, m => .ct m
  | .pas, m => .nx m
noncomputable def evSs : Ss → List Slot → Fl
  | .nil, m => .nx m
  | .cons s r, m => match evS s m with
    | .nx m1 => evSs r m1
    | f => f
end
end
noncomputable def outsM : List Bool → List Slot → List Slot
  | [], _ => []
  | _ :: io, [] => .no :: outsM io []
  | true :: io, s :: m => s :: outsM io m
  | false :: io, _ :: m => .no :: outsM io m
noncomputable def runD (cal : Nat → List Slot → CRes) (L : Nat) (d : Def) (args : List Slot) : CRes := if args.length = d.np then (match evSs cal L d.body (args ++ List.replicate (d.ns - d.np) .no) with
    | .nx m => .ok (.fz .non) (outsM d.io m)
    | .rt (.bo _) _ => .no
    | .rt r m => .ok r (outsM d.io m)
    | .ex x m => .ex x (outsM d.io m)
    | _ => .no) else .no
noncomputable def callF (Γ : Nat → Option Def) (L : Nat) : Nat → Nat → List Slot → CRes
  | 0, _, _ => .no
  | k + 1, f, args => match Γ f with
    | some d => runD (callF Γ L k) L d args
    | none => .no
end Mi
set_option maxHeartbeats 1000000
/-! calls with two stars: what the keywords' dict is made of -/
namespace PySem
open Sem (wp)
section
variable {prog : Program} {w : World} {K : Type} [DecidableEq K] {knd : KeyKind prog w K} {A : Around} {E : Value → Shared → Prop} {s : Shared}
theorem kw_put {d : Addr} {kvs : List (K × Value)} {k : K} {key v : Value} {Q : Unit → Shared → Prop} (hkey : knd.is k key = true) (hm : s.heap.DictOf knd d kvs) (hf : k ∉ kvs.map (·.1))
    (hQ : ∀ h', h'.DictOf knd d (kvs ++ [(k, v)]) → Heap.SameBut d s.heap h' → Q () { s with heap := h' })
    (hsz : kvs.length ≤ sizeLine) :
    wpAny (model prog w) A (dictPut d (knd.hash k) key v) Q E s := by
  obtain ⟨o, es, ep, ho, hc, hd, hk, hp, hn⟩ := hm
  have hes : es.size ≤ sizeLine := by have e1 := hp.length; have e2 : es.toList.length = es.size := by simp
                                      omega
  unfold dictPut
  refine wpAny_bind (wpAny_dictFind_of hkey ho hd hk ?_)
  have hidx : (es.findIdx? fun e => knd.is k e.key) = kvs.findIdx? fun kv => decide (kv.1 = k) := by
    rw [← hp.findIdx k]; obtain ⟨l⟩ := es; simp
  have hnone : (es.findIdx? fun e => knd.is k e.key) = none := by
    rw [hidx, List.findIdx?_eq_none_iff]
    intro x hx
    exact decide_eq_false fun e => hf (e ▸ List.mem_map.mpr ⟨x, hx, rfl⟩)
  rw [hnone]
  refine wpAny_updateDictKeys (hz := hes) ho hd (hQ _ ⟨_, _, ep + 1, Heap.get?_update_self _ ho (Obj.isFreed_of_dict (Obj.data_mapDictKeys hd _)),
      hc.mapDictKeys _, Obj.data_mapDictKeys hd _, hk.push hkey _, ?_, ?_⟩ (Heap.SameBut.update ..))
  · have := hp.append hkey (knd.hash k) v
    obtain ⟨l⟩ := es
    simpa using this
  · rw [List.map_append, List.nodup_append]
    refine ⟨hn, by simp, ?_⟩
    intro a ha b hb
    simp only [List.map_cons, List.map_nil, List.mem_singleton] at hb
    subst hb
    exact fun e => hf (e ▸ ha)
theorem kw_find {d : Addr} {kvs : List (K × Value)} {k : K} {key : Value} {Q : Option _ → Shared → Prop} (hkey : knd.is k key = true) (hm : s.heap.DictOf knd d kvs) (hf : k ∉ kvs.map (·.1))
    (hQ : Q none s) : wpAny (model prog w) A (dictFind d key (knd.hash k)) Q E s := by
  obtain ⟨o, es, ep, ho, hc, hd, hk, hp, hn⟩ := hm
  have hidx : (es.findIdx? fun e => knd.is k e.key) = kvs.findIdx? fun kv => decide (kv.1 = k) := by
    rw [← hp.findIdx k]; obtain ⟨l⟩ := es; simp
  have hnone : (es.findIdx? fun e => knd.is k e.key) = none := by
    rw [hidx, List.findIdx?_eq_none_iff]
    intro x hx
    exact decide_eq_false fun e => hf (e ▸ List.mem_map.mpr ⟨x, hx, rfl⟩)
  refine wpAny_dictFind_of hkey ho hd hk ?_
  rw [hnone]; exact hQ
theorem kw_merge {d a : Addr} {more : List (K × Value)} {Q : Unit → Shared → Prop} (hda : d ≠ a) (haS : (a == sysModules) = false) (hnr : ∀ k v, knd.is k v = true → ∀ b, v ≠ .ref b)
    (hd : s.heap.DictOf knd d []) (ha : s.heap.DictOf knd a more) (hz : more.length ≤ sizeLine)
    (hQ : ∀ h', h'.DictOf knd d more → Heap.SameBut d s.heap h' → Q () { s with heap := h' }) : wpAny (model prog w) A (mergeMapping d (.ref a) true) Q E s := by
  obtain ⟨od, esd, epd, hod, hcd, hdd, hkd, hpd, hnd⟩ := id hd
  obtain ⟨oo, eso, epo, hoo, hco, hdo', hko, hpo, hno⟩ := id ha
  have hT : s.TypeIs (.ref a) "dict" := ⟨oo, hoo, hco.1⟩
  unfold mergeMapping
  refine wpAny_bind ?_
  refine wpAny_isInstance (b := true) hT rfl ?_
  rw [if_pos rfl]
  refine wpAny_bind ?_
  refine wpAny_specialOf hT PySem.F.slot_dict_iter.lookup ?_
  refine wpAny_bind (wpAny_pure ?_)
  rw [beq_self_eq_true]
  show wpAny _ _ (if (a == sysModules) = true then _ else _) _ _ _
  rw [if_neg (by rw [haS]; exact Bool.false_ne_true)]
  have hlen : more.length = eso.size := by rw [← hpo.length]; simp
  have h0 : esd = #[] := by
    have := hpd.length; simp only [List.length_nil] at this
    exact Array.eq_empty_of_size_eq_zero (by simpa using this)
  refine wpAny_bind (wpAny_dictEntries hod hdd ?_)
  rw [h0]
  dsimp only
  rw [if_pos (show (#[] : Array DictEntry).isEmpty = true from rfl)]
  refine wpAny_bind (wpAny_dictEntries hoo hdo' ?_)
  refine wpAny_bind ?_
  rw [← Array.forIn_toList]
  refine wpAny_forIn_list _ (fun rest _ s' => s' = s ∧ ∀ e ∈ rest, ∀ b, e.key ≠ .ref b) _ ?_ ?_ _ _ ⟨rfl, fun e he b => ?_⟩
  · rintro x rest b s' ⟨rfl, hh⟩
    split
    · rename_i hx; exact absurd hx (hh x List.mem_cons_self _)
    · exact wpAny_pure ⟨rfl, fun e he => hh e (List.mem_cons_of_mem _ he)⟩
  · rintro b s' ⟨rfl, -⟩
    refine wpAny_bind (wpAny_dictEntries hoo hdo' ?_)
    refine wpAny_bind (wpAny_dictEpoch hoo hdo' ?_)
    refine wpAny_bind ?_
    rw [List.range_eq_range']
    refine wpAny_forIn_list _
      (fun rest _ s'' => ∃ h' i, s'' = { s' with heap := h' } ∧ rest = List.range' i (eso.size - i) ∧ i ≤ eso.size ∧ h'.DictOf knd d (more.take i) ∧ h'.get? a = some oo ∧ Heap.SameBut d s'.heap h')
      _ ?_ ?_ _ _ ⟨s'.heap, 0, rfl, by simp, Nat.zero_le _, by simpa using hd, hoo, Heap.SameBut.refl _ _⟩
    · rintro x rest b s'' ⟨h', i, rfl, hr, hi, hd', hoo', hs'⟩
      have hlt : i < eso.size := by
        rcases Nat.lt_or_ge i eso.size with h | h
        · exact h
        · rw [Nat.sub_eq_zero_of_le h] at hr; simp at hr
      obtain ⟨rfl, hrest⟩ : x = i ∧ rest = List.range' (i + 1) (eso.size - (i + 1)) := by
        have e : eso.size - i = (eso.size - (i + 1)) + 1 := by omega
        rw [e, List.range'_succ] at hr
        injection hr with h1 h2
        exact ⟨h1, h2⟩
      refine wpAny_bind (wpAny_dictEntries hoo' hdo' ?_)
      rw [Array.getElem?_eq_getElem hlt]
      have hxl : x < more.length := by rw [hlen]; exact hlt
      obtain ⟨kv, hkv⟩ : ∃ kv, more[x]? = some kv := ⟨more[x]'hxl, List.getElem?_eq_getElem _⟩
      obtain ⟨k, v⟩ := kv
      obtain ⟨hkey, hval⟩ := hpo.get? (e := eso[x]) (by simp [hlt]) hkv
      obtain ⟨k', hkey', hhash⟩ := hko eso[x] (Array.getElem_mem hlt)
      obtain rfl : k' = k := knd.inj _ _ _ hkey' hkey
      have htk : more.take (x + 1) = more.take x ++ [(k', v)] := by rw [List.take_add_one, hkv]; rfl
      have hfr : k' ∉ (more.take x).map (·.1) := by
        have h1 : ((more.take (x + 1)).map (·.1)).Nodup := by
          rw [List.map_take]; exact hno.sublist (List.take_sublist _ _)
        rw [htk, List.map_append, List.nodup_append] at h1
        intro hc
        exact h1.2.2 k' hc k' (by simp) rfl
      have hzx : (more.take x).length ≤ sizeLine := by rw [List.length_take]; omega
      dsimp only
      rw [if_pos rfl, hhash, hval]
      refine wpAny_bind (wpAny_holding (wpAny_bind (kw_find hkey hd' hfr ?_)))
      rw [if_neg (by exact Bool.false_ne_true)]
      refine kw_put hkey hd' hfr (fun h'' hd'' hs'' => ?_) hzx
      have hoo'' : h''.get? a = some oo := (hs''.2 a (Ne.symm hda)).trans hoo'
      refine wpAny_bind (wpAny_dictEpoch hoo'' hdo' ?_)
      rw [if_neg (by simp)]
      exact wpAny_pure ⟨h'', x + 1, rfl, hrest, hlt, htk ▸ hd'', hoo'', hs'.trans hs''⟩
    · rintro b s'' ⟨h', i, rfl, hr, hi, hd', hoo', hs'⟩
      have hin : i = eso.size := by
        rcases Nat.lt_or_ge i eso.size with h | h
        · have e : eso.size - i = (eso.size - (i + 1)) + 1 := by omega
          rw [e, List.range'_succ] at hr; exact nomatch hr
        · exact Nat.le_antisymm hi h
      refine wpAny_pure (hQ h' ?_ hs')
      rw [hin, ← hlen, List.take_length] at hd'; exact hd'
  · obtain ⟨k, hk, -⟩ := hko e (by simpa using he)
    exact hnr k _ hk b

theorem kw_merged {f : Value} {x : Sem Value} {Q : Addr → Shared → Prop} (hnr : ∀ k v, knd.is k v = true → ∀ b, v ≠ .ref b)
    (hx : wpAny (model prog w) A x (fun v s2 => ∃ a more, v = .ref a ∧ s.heap.objs.size ≠ a ∧ (a == sysModules) = false ∧ s2.heap.DictOf knd s.heap.objs.size [] ∧ s2.heap.DictOf knd a more ∧ more.length ≤ sizeLine ∧
      ∀ h', h'.DictOf knd s.heap.objs.size more → Heap.SameBut s.heap.objs.size s2.heap h' → Q s.heap.objs.size { s2 with heap := h' }) E { s with heap := s.heap.push { cls := .type "dict", data := .dict #[] } }) :
    wpAny (model prog w) A (mergedKeywords f [(none, x)]) Q E s := by
  unfold mergedKeywords
  refine wpAny_bind (wpAny_alloc ?_)
  refine wpAny_bind (wpAny_holding ?_)
  dsimp only
  rw [List.forIn_cons]
  refine wpAny_bind (wpAny_bind ?_)
  rw [if_pos (by rfl)]
  refine wpAny_bind (wpAny_pure ?_)
  refine wpAny_bind (wpAny_mono hx (fun v s2 ⟨a, more, ev, hne, haS, hd, ha, hz, hQ⟩ => ?_) fun _ _ q => q)
  subst ev
  refine wpAny_bind (wpAny_onRaise (wpAny_holding (wpAny_tryCatch (wpAny_onRaise (kw_merge hne haS hnr hd ha hz fun h' dd hs => ?_)))))
  refine wpAny_pure ?_
  dsimp only
  rw [List.forIn_nil]
  refine wpAny_pure ?_
  rw [if_pos (by rfl)]
  exact wpAny_pure (wpAny_pure (hQ h' dd hs))
theorem kw_in {f : Value} {d : Addr} {o : Obj} {es : Array DictEntry} {ep : Nat} {ks : List (Str × Value)} {M : Model} {Q : List (Str × Value) → Shared → Prop} (ho : s.heap.get? d = some o) (hd : o.data = .dict es ep)
    (hes : Paired (fun (e : DictEntry) (k : Str × Value) => (∃ t, e.key = .str k.1 t) ∧ e.val = k.2) es.toList ks) (hQ : Q ks s) : wpAny M A (keywordsIn f d) Q E s := by
  unfold keywordsIn
  refine wpAny_bind (wpAny_dictEntries ho hd ?_)
  dsimp only
  rw [← Array.forIn_toList]
  refine wpAny_bind ?_
  have key : ∀ (es : List DictEntry) (ks acc : List (Str × Value)) (Q : List (Str × Value) → Shared → Prop) (body : DictEntry → List (Str × Value) → Sem (ForInStep (List (Str × Value)))),
      (∀ e acc k t, e.key = .str k t → body e acc = pure (ForInStep.yield (acc ++ [(k, e.val)]))) → Paired (fun (e : DictEntry) (k : Str × Value) => (∃ t, e.key = .str k.1 t) ∧ e.val = k.2) es ks → Q (acc ++ ks) s → wpAny M A (forIn es acc body) Q E s := by
    intro es
    induction es with
    | nil =>
      intro ks acc Q body hb h q
      cases h
      rw [List.append_nil] at q
      rw [List.forIn_nil]
      exact wpAny_pure q
    | cons e es ih =>
      intro ks acc Q body hb h q
      cases h with
      | @cons _ k _ ks a b =>
        obtain ⟨⟨t, ha⟩, hv⟩ := a
        rw [List.forIn_cons, hb e acc _ t ha]
        refine wpAny_bind (wpAny_pure ?_)
        refine ih ks _ Q body hb b ?_
        rw [hv, List.append_assoc]
        exact q
  refine key es.toList ks [] _ _ (fun e acc k t ek => ?_) hes (wpAny_pure hQ)
  show (match e.key with | .str s _ => _ | _ => _) = _
  rw [ek]
theorem kw_args {f : Value} {M : Model} {x : Sem Value} {args : List (Bool × Sem Value)} {t : Sem Value} {rest : List (Bool × Sem Value)} {Q : Args → Shared → Prop} (he : args = (false, t) :: rest)
    (h : wpAny M A (spliced args) (fun vs s1 => wpAny M A (mergedKeywords f [(none, x)]) (fun d s2 => wpAny M A (keywordsIn f d) (fun kw s3 => Q ⟨vs, kw⟩ s3) E s2) E s1) E s) : wpAny M A (evalArgs f true args [(none, x)]) Q E s := by
  subst he
  unfold evalArgs
  dsimp only
  generalize spliced ((false, t) :: rest) = sp at h ⊢
  refine wpAny_bind (wpAny_mono h (fun vs s1 h1 => ?_) fun _ _ q => q)
  refine wpAny_bind (wpAny_pure ?_)
  refine wpAny_holding ?_
  dsimp only
  have hf : ¬ ([((none : Option Str), x)].all fun x => x.fst.isSome) = true := by
    intro z
    cases z
  rw [if_neg hf]
  refine wpAny_bind (wpAny_mono h1 (fun d s2 h2 => ?_) fun _ _ q => q)
  refine wpAny_bind (wpAny_pure ?_)
  exact wpAny_bind (wpAny_holding (wpAny_mono h2 (fun kw s3 h3 => wpAny_pure h3) fun _ _ q => q))
theorem kw_call {f : Value} {first : List Value} {M : Model} {pos : Pos} {Q : Value → Shared → Prop} {P : Heap → Prop} {args : List (Bool × Sem Value)} {kws : List (Option Str × Sem Value)} (hst : kws.any (·.1.isNone) = true)
    (hk : ∀ h, P h → ∃ k, (k = Keeper.frame ∨ k = Keeper.machine ∨ k = Keeper.boundFrame) ∧ PySem.W.Looks M h (keeperOf f) k)
    (h : wpAny M A (evalArgs f true args kws) (fun a s₁ => P s₁.heap ∧ wpAny M A (call f (first ++ a.pos) a.kw) Q E s₁) E s) : wpAny M A (callWith pos f first args kws) Q E s := by
  unfold callWith
  refine wpAny_bind (wpAny_holding (wpAny_mono h (fun a s₁ h₁ => wpAny_bind (wpAny_standAt ?_)) fun _ _ x => x))
  obtain ⟨k, hk', L⟩ := hk _ h₁.1
  simp only [hst, Bool.or_true]
  refine wpAny_bind (L.here ?_)
  have tail : ∀ {t : Sem Value}, wpAny M A t Q E s₁ → wpAny M A (t >>= fun r => holding [r] point >>= fun _ => pure r) Q E s₁ :=
    fun ht => wpAny_bind (wpAny_mono ht (fun r s₂ hr => wpAny_bind (wpAny_holding (wpAny_point (wpAny_pure hr)))) fun _ _ x => x)
  have marked (mk : Value) : wpAny M A (callMarked mk f (first ++ a.pos) a.kw) Q E s₁ := by unfold callMarked; exact Calls.wpAny_keep h₁.2
  rcases hk' with rfl | rfl | rfl <;> dsimp only <;> first | exact tail (marked _) | exact tail (wpAny_operating h₁.2)
end
end PySem
set_option maxHeartbeats 4000000
namespace Mi
open PySem PySem.Spec PyProof.Rows L2

/-! ### results, read as wishes -/
noncomputable def Res.sat {α : Type} (r : Res α) (A : α → List Slot → Prop) (B : T → List Slot → Prop) : Prop := match r with
  | .ok a m => A a m
  | .ex x m => B x m
  | .no => False
theorem Res.sat_bind {α β : Type} {r : Res α} {f : α → List Slot → Res β} {A : β → List Slot → Prop} {B : T → List Slot → Prop} : (r.bind f).sat A B ↔ r.sat (fun a m => (f a m).sat A B) B := by
  cases r <;> exact Iff.rfl
theorem Res.sat_mono {α : Type} {r : Res α} {A A' : α → List Slot → Prop} {B : T → List Slot → Prop} (h : r.sat A B) (k : ∀ a m, A a m → A' a m) : r.sat A' B := by
  cases r with
  | ok a m => exact k a m h
  | ex x m => exact h
  | no => exact h

structure Ct where
  G : Gm
  w0 : Wd
  s0 : St
  fx : Nat → Bool
  EM : T → List Slot → Prop
noncomputable def RR (G : Gm) (w : Wd) (m : List Slot) (σ : St) : R → V → Prop
  | .fz t, v => RF G w t v
  | .ow o, v => ∃ p, v = .ref p ∧ RO G w p o ∧ w.L p ∧ ∀ (i : Nat) (o' : O), m[i]? = some (.ow o') → σ[i]? ≠ some (some (.ref p))
  | .bo i, v => σ[i]? = some (some v)
noncomputable def RD (G : Gm) (w : Wd) (σ : St) : Opd → V → Prop
  | .t t, v => RF G w t v
  | .b i, v => σ[i]? = some (some v)
inductive RDs (G : Gm) (w : Wd) (σ : St) : List Opd → List V → Prop
  | nil : RDs G w σ [] []
  | cons {d : Opd} {v : V} {ds : List Opd} {vs : List V} : RD G w σ d v → RDs G w σ ds vs → RDs G w σ (d :: ds) (v :: vs)
inductive RA (G : Gm) (w : Wd) : T → V → Prop
  | fz {t : T} {v : V} : RF G w t v → RA G w t v
  | ow {o : O} {p : Addr} : RO G w p o → RA G w o.frz (.ref p)
inductive RAs (G : Gm) (w : Wd) : List T → List V → Prop
  | nil : RAs G w [] []
  | cons {t : T} {v : V} {ts : List T} {vs : List V} : RA G w t v → RAs G w ts vs → RAs G w (t :: ts) (v :: vs)
section
variable {G : Gm} {w w' : Wd} {m m' : List Slot} {σ : St}
theorem RD.mono {d : Opd} {v : V} (r : RD G w σ d v) (mo : Mo w w') : RD G w' σ d v := by
  cases d with
  | t t => exact RF.mono mo r
  | b i => exact r
theorem RDs.mono {ds : List Opd} {vs : List V} (r : RDs G w σ ds vs) (mo : Mo w w') : RDs G w' σ ds vs := by
  induction r with
  | nil => exact .nil
  | cons a _ ih => exact .cons (a.mono mo) ih
theorem RAs.length {ts : List T} {vs : List V} (r : RAs G w ts vs) : ts.length = vs.length := by
  induction r with
  | nil => rfl
  | cons _ _ ih => exact congrArg Nat.succ ih
theorem SR.der (S : SR G w m σ) {d : Opd} {v : V} {t : T} (r : RD G w σ d v) (h : der m d = some t) : RA G w t v := by
  cases d with
  | t t' =>
    cases h
    exact .fz r
  | b i =>
    have r' : σ[i]? = some (some v) := r
    cases e : m[i]? with
    | none => simp [Mi.der, e] at h
    | some s =>
      have q := S.sl i s e
      cases s with
      | no => simp [Mi.der, e] at h
      | fz t' =>
        simp only [Mi.der, e, Option.some.injEq] at h
        subst h
        obtain ⟨x, e1, e2⟩ := q
        rw [r'] at e1
        cases e1
        exact .fz e2
      | ow o =>
        simp only [Mi.der, e, Option.some.injEq] at h
        subst h
        obtain ⟨a, e1, e2, _⟩ := q
        rw [r'] at e1
        cases e1
        exact .ow e2
theorem SR.esc (S : SR G w m σ) {d : Opd} {v : V} {t : T} (r : RD G w σ d v) (h : esc m d = some (t, m')) : ∃ w', w'.H = w.H ∧ SR G w' m' σ ∧ Ex w w' ∧ RF G w' t v := by
  cases d with
  | t t' =>
    cases h
    exact ⟨w, rfl, S, .refl w, r⟩
  | b i =>
    have r' : σ[i]? = some (some v) := r
    cases e : m[i]? with
    | none => simp [Mi.esc, e] at h
    | some s =>
      have q := S.sl i s e
      cases s with
      | no => simp [Mi.esc, e] at h
      | fz t' =>
        simp only [Mi.esc, e, Option.some.injEq, Prod.mk.injEq] at h
        obtain ⟨rfl, rfl⟩ := h
        obtain ⟨x, e1, e2⟩ := q
        rw [r'] at e1
        cases e1
        exact ⟨w, rfl, S, .refl w, e2⟩
      | ow o =>
        simp only [Mi.esc, e, Option.some.injEq, Prod.mk.injEq] at h
        obtain ⟨rfl, rfl⟩ := h
        obtain ⟨a, e1, _, _⟩ := q
        rw [r'] at e1
        cases e1
        obtain ⟨h1, h2, h3⟩ := S.frSlot e r'
        exact ⟨w.fr a, rfl, h1, h3, h2⟩
theorem SR.escs : ∀ {ds : List Opd} {vs : List V} {ts : List T} {w : Wd} {m m' : List Slot}, SR G w m σ → RDs G w σ ds vs → escs m ds = some (ts, m') → ∃ w', w'.H = w.H ∧ SR G w' m' σ ∧ Ex w w' ∧ RFs G w' ts vs
  | _, _, _, w, _, _, S, .nil, h => by cases h; exact ⟨w, rfl, S, .refl w, .nil⟩
  | _, _, _, w, m, _, S, .cons (d := d) (ds := ds) a b, h => by
    unfold Mi.escs at h
    cases h1 : Mi.esc m d with
    | none => rw [h1] at h; cases h
    | some p =>
      obtain ⟨t, m1⟩ := p
      rw [h1] at h
      obtain ⟨w1, e1, S1, x1, r1⟩ := S.esc a h1
      simp only at h
      cases h2 : Mi.escs m1 ds with
      | none => rw [h2] at h; cases h
      | some p2 =>
        obtain ⟨us, m2⟩ := p2
        rw [h2] at h
        cases h
        obtain ⟨w2, e2, S2, x2, r2⟩ := SR.escs S1 (b.mono x1.mo) h2
        exact ⟨w2, e2.trans e1, S2, x1.trans x2, .cons (r1.mono x2.mo) r2⟩
theorem SR.opd (S : SR G w m σ) {r : R} {v : V} (q : RR G w m σ r v) : ∃ w', w'.H = w.H ∧ SR G w' m σ ∧ Ex w w' ∧ RD G w' σ r.opd v := by
  cases r with
  | fz t => exact ⟨w, rfl, S, .refl w, q⟩
  | bo i => exact ⟨w, rfl, S, .refl w, q⟩
  | ow o =>
    obtain ⟨p, rfl, r, l, n⟩ := q
    exact ⟨w.fr p, rfl, S.fr l r.trk n, .fr l, r.rf (.inr rfl) .fr rfl⟩
end

/-! ### readings -/
structure Pre (C : Ct) (w : Wd) (m : List Slot) (σ : St) : Prop where
  sr : SR C.G w m σ
  ex : Ex C.w0 w
  fix : ∀ j, C.fx j = true → σ[j]? = C.s0[j]?
theorem Pre.step {C : Ct} {w w' : Wd} {m m' : List Slot} {σ : St} (p : Pre C w m σ) (s : SR C.G w' m' σ) (x : Ex w w') : Pre C w' m' σ := ⟨s, p.ex.trans x, p.fix⟩
section
variable (C : Ct)
noncomputable def rdE (f : List Slot → Res R) : TE := fun σ H Q => ∃ w m, w.H = H ∧ Pre C w m σ ∧ (f m).sat (fun r m' => ∀ w' v, SR C.G w' m' σ → Ex w w' → RR C.G w' m' σ r v → Q v w'.H) C.EM
noncomputable def rdD (f : List Slot → Res Opd) : TE := fun σ H Q => ∃ w m, w.H = H ∧ Pre C w m σ ∧ (f m).sat (fun d m' => ∀ w' v, SR C.G w' m' σ → Ex w w' → RD C.G w' σ d v → Q v w'.H) C.EM
noncomputable def rdDs (f : List Slot → Res (List Opd)) : TA := fun σ H Q => ∃ w m, w.H = H ∧ Pre C w m σ ∧ (f m).sat (fun ds m' => ∀ w' vs, SR C.G w' m' σ → Ex w w' → RDs C.G w' σ ds vs → Q vs w'.H) C.EM
noncomputable def rdB (f : List Slot → Res R) : TT := fun σ H Q => ∃ w m, w.H = H ∧ Pre C w m σ ∧ (f m).sat (fun r m' => ∃ k, r = .fz (.bl k) ∧ ∀ w', SR C.G w' m' σ → Ex w w' → Q k w'.H) C.EM
end
theorem PE.imp {X : Cx} {e : Expr} {t t' : TE} (h : PE X e t) (i : ∀ σ H Q, t' σ H Q → t σ H Q) : PE X e t' := ⟨fun pins s σ H Q I q => h.run pins s σ H Q I (i σ H Q q)⟩
theorem PT.imp {X : Cx} {e : Expr} {t t' : TT} (h : PT X e t) (i : ∀ σ H Q, t' σ H Q → t σ H Q) : PT X e t' := ⟨fun pins s σ H Q I q => h.run pins s σ H Q I (i σ H Q q)⟩
theorem PW.imp {X : Cx} {e : Expr} {t t' : TT} (h : PW X e t) (i : ∀ σ H Q, t' σ H Q → t σ H Q) : PW X e t' := ⟨fun wh pins s σ H Q I q => h.run wh pins s σ H Q I (i σ H Q q)⟩
theorem PA.imp {X : Cx} {es : List Expr} {t t' : TA} (h : PA X es t) (i : ∀ σ H Q, t' σ H Q → t σ H Q) : PA X es t' := ⟨fun p pins s σ H Q I q => h.run p pins s σ H Q I (i σ H Q q)⟩
theorem PS.imp {X : Cx} {e : Stmt} {t t' : TS} (h : PS X e t) (i : ∀ D σ H, t' D σ H → t D σ H) : PS X e t' := ⟨fun pins s σ H D I q => h.run pins s σ H D I (i D σ H q)⟩
theorem PSs.imp {X : Cx} {e : List Stmt} {t t' : TS} (h : PSs X e t) (i : ∀ D σ H, t' D σ H → t D σ H) : PSs X e t' := ⟨fun pins s σ H D I q => h.run pins s σ H D I (i D σ H q)⟩

section
variable {C : Ct} {X : Cx}
noncomputable def opdF (f : List Slot → Res R) : List Slot → Res Opd := fun m => (f m).bind fun r m' => .ok r.opd m'
theorem rd_opd {f : List Slot → Res R} {σ : St} {H : Hp} {Q : VK} (h : rdD C (opdF f) σ H Q) : rdE C f σ H Q := by
  obtain ⟨w, m, e, P, q⟩ := h
  refine ⟨w, m, e, P, ?_⟩
  rw [opdF, Res.sat_bind] at q
  refine Res.sat_mono q fun r m' k w' v S' x' rr => ?_
  obtain ⟨w2, e2, S2, x2, d2⟩ := S'.opd rr
  have := k w2 v S2 (x'.trans x2) d2
  rwa [e2] at this
theorem pe_opd {e : Expr} {f : List Slot → Res R} (h : PE X e (rdE C f)) : PE X e (rdD C (opdF f)) := PE.imp h fun _ _ _ q => rd_opd q
theorem pa_nilM : PA X [] (rdDs C fun m => .ok [] m) := PA.imp pa_nil fun σ H Q ⟨w, m, e, P, q⟩ => by
  have := q w [] P.sr (.refl w) .nil
  rwa [e] at this
noncomputable def consD (f : List Slot → Res R) (g : List Slot → Res (List Opd)) : List Slot → Res (List Opd) := fun m => (f m).bind fun x m1 => (g m1).bind fun xs m2 => .ok (x.opd :: xs) m2
theorem rd_cons {f : List Slot → Res R} {g : List Slot → Res (List Opd)} {σ : St} {H : Hp} {Q : List V → Hp → Prop} (h : rdDs C (consD f g) σ H Q) : tCons (rdD C (opdF f)) (rdDs C g) σ H Q := by
  obtain ⟨w, m, e, P, q⟩ := h
  refine ⟨w, m, e, P, ?_⟩
  rw [consD, Res.sat_bind] at q
  rw [opdF, Res.sat_bind]
  refine Res.sat_mono q fun r m1 q1 w1 v1 S1 x1 r1 => ?_
  rw [Res.sat_bind] at q1
  refine ⟨w1, m1, rfl, P.step S1 x1, Res.sat_mono q1 fun ds m2 q2 w2 vs S2 x2 r2 => ?_⟩
  exact q2 w2 (v1 :: vs) S2 (x1.trans x2) (.cons (r1.mono x2.mo) r2)
theorem pa_consM {e : Expr} {es : List Expr} {f : List Slot → Res R} {g : List Slot → Res (List Opd)} (h : PE X e (rdE C f)) (hr : PA X es (rdDs C g)) (hs : starEach (e :: es) X.env = (false, eval e X.env) :: starEach es X.env) : PA X (e :: es) (rdDs C (consD f g)) :=
  PA.imp (pa_cons (pe_opd h) hr hs) fun _ _ _ q => rd_cons q
end
end Mi
set_option maxHeartbeats 4000000
namespace Mi
open PySem PySem.Spec PyProof.Rows L2

section
variable {G : Gm} {w : Wd} {m : List Slot} {σ : St} {v : V}
theorem RA.cases' {t : T} (h : RA G w t v) : RF G w t v ∨ ∃ o p, t = O.frz o ∧ v = .ref p ∧ RO G w p o := by
  cases h with
  | fz r => exact .inl r
  | ow r => exact .inr ⟨_, _, rfl, rfl, r⟩
theorem RA.int {i : Int} (h : RA G w (.int i) v) : v = .int i := by
  rcases h.cases' with r | ⟨o, p, e, _, _⟩
  · cases r; rfl
  · cases o <;> cases e
theorem RA.str {i : Str} (h : RA G w (.str i) v) : v = .str i := by
  rcases h.cases' with r | ⟨o, p, e, _, _⟩
  · cases r; rfl
  · cases o <;> cases e
theorem RA.bl {i : Bool} (h : RA G w (.bl i) v) : v = .bl i := by
  rcases h.cases' with r | ⟨o, p, e, _, _⟩
  · cases r; rfl
  · cases o <;> cases e
theorem RA.non (h : RA G w .non v) : v = .non := by
  rcases h.cases' with r | ⟨o, p, e, _, _⟩
  · cases r; rfl
  · cases o <;> cases e
theorem RF.lst_inv {xs : List T} : RF G w (.lst xs) v → ∃ a vs, v = .ref a ∧ w.F a ∧ w.H a = some (.lst vs) ∧ RFs G w xs vs
  | .lst f h r => ⟨_, _, rfl, f, h, r⟩
theorem RF.tup_inv {xs : List T} : RF G w (.tup xs) v → ∃ a vs, v = .ref a ∧ ((w.F a ∧ w.H a = some (.tup vs)) ∨ KT G.K a vs) ∧ RFs G w xs vs
  | .tup h r => ⟨_, _, rfl, h, r⟩
theorem RF.scr_inv {ns : List Int} : RF G w (.scr ns) v → ∃ a, v = .ref a ∧ ((w.F a ∧ ∃ o, w.H a = some (.frz o (.lst (ns.map V.int)))) ∨ KL G.K a (ns.map V.int))
  | .scr h => ⟨_, rfl, h⟩
theorem RF.dic_inv {kvs : List (Key × T)} : RF G w (.dic kvs) v → ∃ a ks, v = .ref a ∧ w.F a ∧ Rdo (w.H a) (.dK ks) ∧ RFk G w kvs ks
  | .dic f h r => ⟨_, _, rfl, f, h, r⟩
theorem RF.ins_inv {c : Nat} {fs : List (Str × T)} : RF G w (.ins c fs) v → ∃ a dx gs, v = .ref a ∧ w.F a ∧ w.H a = some (.ins (G.cls c) dx gs) ∧ RFf G w fs gs
  | .ins f h r => ⟨_, _, _, rfl, f, h, r⟩
theorem RO.lst_inv {p : Addr} {xs : List T} : RO G w p (.lst xs) → ∃ vs, w.H p = some (.lst vs) ∧ RFs G w xs vs
  | .lst h r => ⟨_, h, r⟩
theorem RO.dic_inv {p : Addr} {kvs : List (Key × T)} : RO G w p (.dic kvs) → ∃ ks, w.H p = some (.dK ks) ∧ RFk G w kvs ks
  | .dic h r => ⟨_, h, r⟩
theorem RO.ins_inv {p : Addr} {c : Nat} {fs : List (Str × T)} : RO G w p (.ins c fs) → ∃ dx gs, w.H p = some (.ins (G.cls c) dx gs) ∧ RFf G w fs gs
  | .ins h r => ⟨_, _, h, r⟩
theorem RA.lst {xs : List T} (h : RA G w (.lst xs) v) : ∃ a vs, v = .ref a ∧ w.H a = some (.lst vs) ∧ RFs G w xs vs := by
  rcases h.cases' with r | ⟨o, p, e, rfl, r⟩
  · obtain ⟨a, vs, e, _, h1, r1⟩ := r.lst_inv
    exact ⟨a, vs, e, h1, r1⟩
  · cases o <;> cases e
    obtain ⟨vs, h1, r1⟩ := r.lst_inv
    exact ⟨_, vs, rfl, h1, r1⟩
theorem RA.tup {xs : List T} (h : RA G w (.tup xs) v) : ∃ a vs, v = .ref a ∧ SqT G.K w.H a vs ∧ RFs G w xs vs := by
  rcases h.cases' with r | ⟨o, p, e, _, _⟩
  · obtain ⟨a, vs, e, h1, r1⟩ := r.tup_inv
    refine ⟨a, vs, e, ?_, r1⟩
    rcases h1 with ⟨_, h1⟩ | h1
    · exact .inl (.inl h1)
    · exact .inr h1
  · cases o <;> cases e
theorem RA.scr {ns : List Int} (h : RA G w (.scr ns) v) : ∃ a, v = .ref a ∧ SqL G.K w.H a (ns.map V.int) := by
  rcases h.cases' with r | ⟨o, p, e, _, _⟩
  · obtain ⟨a, e, h1⟩ := r.scr_inv
    refine ⟨a, e, ?_⟩
    rcases h1 with ⟨_, o, h1⟩ | h1
    · exact .inl (.inr ⟨o, h1⟩)
    · exact .inr h1
  · cases o <;> cases e
theorem RA.dic {kvs : List (Key × T)} (h : RA G w (.dic kvs) v) : ∃ a ks, v = .ref a ∧ Rdo (w.H a) (.dK ks) ∧ RFk G w kvs ks := by
  rcases h.cases' with r | ⟨o, p, e, rfl, r⟩
  · obtain ⟨a, vs, e, _, h1, r1⟩ := r.dic_inv
    exact ⟨a, vs, e, h1, r1⟩
  · cases o <;> cases e
    obtain ⟨vs, h1, r1⟩ := r.dic_inv
    exact ⟨_, vs, rfl, .inl h1, r1⟩
theorem RA.ins {c : Nat} {fs : List (Str × T)} (h : RA G w (.ins c fs) v) : ∃ a dx gs, v = .ref a ∧ w.H a = some (.ins (G.cls c) dx gs) ∧ RFf G w fs gs := by
  rcases h.cases' with r | ⟨o, p, e, rfl, r⟩
  · obtain ⟨a, dx, vs, e, _, h1, r1⟩ := r.ins_inv
    exact ⟨a, dx, vs, e, h1, r1⟩
  · cases o <;> cases e
    obtain ⟨dx, vs, h1, r1⟩ := r.ins_inv
    exact ⟨_, dx, vs, rfl, h1, r1⟩
theorem RFs.of_ints : ∀ (ns : List Int), RFs G w (ns.map T.int) (ns.map V.int)
  | [] => .nil
  | n :: ns => .cons (.int n) (RFs.of_ints ns)
theorem RFs.bools : ∀ {ts : List T} {vs : List V} {bs : List Bool}, RFs G w ts vs → bools ts = some bs → vs = bs.map V.bl
  | _, _, _, .nil, h => by cases h; rfl
  | _, _, _, .cons (t := t) (ts := ts) a b, h => by
    cases t with
    | bl k =>
      cases a
      cases h1 : Mi.bools ts with
      | none => simp [Mi.bools, h1] at h
      | some bs =>
        simp only [Mi.bools, h1, Option.map_some, Option.some.injEq] at h
        subst h
        rw [RFs.bools b h1]
        rfl
    | _ => simp [Mi.bools] at h
theorem RFs.strs' : ∀ {ts : List T} {vs : List V} {bs : List Str}, RFs G w ts vs → strsT ts = some bs → vs = bs.map V.str
  | _, _, _, .nil, h => by cases h; rfl
  | _, _, _, .cons (t := t) (ts := ts) a b, h => by
    cases t with
    | str k =>
      cases a
      cases h1 : Mi.strsT ts with
      | none => simp [Mi.strsT, h1] at h
      | some bs =>
        simp only [Mi.strsT, h1, Option.map_some, Option.some.injEq] at h
        subst h
        rw [RFs.strs' b h1]
        rfl
    | _ => simp [Mi.strsT] at h
/-! flat values -/
noncomputable def vT : T → V
  | .non => .non
  | .bl b => .bl b
  | .int i => .int i
  | .str s => .str s
  | _ => .non
theorem RF.flat {t : T} (h : flatT t = true) (r : RF G w t v) : v = vT t := by
  cases r <;> first | rfl | cases h
theorem RA.flat {t : T} (h : flatT t = true) (r : RA G w t v) : v = vT t := by
  rcases r.cases' with r | ⟨o, p, e, _, _⟩
  · exact r.flat h
  · subst e; cases o <;> cases h
theorem RF.of_flat {t : T} (h : flatT t = true) : RF G w t (vT t) := by
  cases t <;> first | constructor | cases h
theorem flat_vT {t : T} (h : flatT t = true) : flatV (vT t) = true := by
  cases t <;> first | rfl | cases h
theorem eqT_vT {t u : T} (h : flatT t = true) (h' : flatT u = true) : eqV (vT t) (vT u) = eqT t u := by
  cases t <;> (try cases h) <;> cases u <;> first | rfl | cases h'
theorem RFs.flat : ∀ {ts : List T} {vs : List V}, RFs G w ts vs → ts.all flatT = true → vs = ts.map vT
  | _, _, .nil, _ => rfl
  | _, _, .cons a b, h => by
    rw [List.all_cons, Bool.and_eq_true] at h
    rw [a.flat h.1, RFs.flat b h.2]
    rfl
theorem all_flatV {ts : List T} (h : ts.all flatT = true) : (ts.map vT).all flatV = true := by
  rw [List.all_map]
  rw [List.all_eq_true] at h ⊢
  exact fun x hx => flat_vT (h x hx)
theorem any_eqT {ts : List T} {x : T} (hx : flatT x = true) (h : ts.all flatT = true) : inV (vT x) (ts.map vT) = ts.any fun y => eqT y x := by
  unfold inV
  induction ts with
  | nil => rfl
  | cons t r ih =>
    rw [List.all_cons, Bool.and_eq_true] at h
    rw [List.map_cons, List.any_cons, List.any_cons, ih h.2, eqT_vT h.1 hx]

noncomputable def After (G : Gm) (w : Wd) (m : List Slot) (σ : St) (res : R) (Q : VK) : Prop := ∀ w' v, SR G w' m σ → Ex w w' → RR G w' m σ res v → Q v w'.H
theorem After.fz {t : T} {Q : VK} (k : After G w m σ (.fz t) Q) (S : SR G w m σ) (r : RF G w t v) : Q v w.H := k w v S (.refl w) r
theorem After.new {o : O} {Q : VK} (k : After G w m σ (.ow o) Q) (S : SR G w m σ) {p : Addr} {u : HO} (hp : w.H p = none) (r : RO G (w.new p u) p o) : Q (.ref p) (upd w.H p u) := by
  refine k (w.new p u) (.ref p) (S.new hp) (Ex.new S.trk hp) ⟨p, rfl, r, .inr rfl, fun i o' h e => ?_⟩
  obtain ⟨a, e1, r1, _⟩ := S.sl i _ h
  rw [e] at e1
  cases e1
  obtain ⟨u', hu⟩ := r1.trk
  rw [hp] at hu
  cases hu
theorem RFs.new {xs : List T} {vs : List V} (r : RFs G w xs vs) (S : SR G w m σ) {p : Addr} {u : HO} (hp : w.H p = none) : RFs G (w.new p u) xs vs := RFs.mono (Mo.new S.trk hp) r
theorem After.lst {xs : List T} {vs : List V} {Q : VK} (k : After G w m σ (.ow (.lst xs)) Q) (S : SR G w m σ) (r : RFs G w xs vs) : ∀ p, w.H p = none → Q (.ref p) (upd w.H p (.lst vs)) :=
  fun p hp => k.new S hp (.lst upd_same (r.new S hp))
theorem After.tup {xs : List T} {vs : List V} {Q : VK} (k : After G w m σ (.fz (.tup xs)) Q) (S : SR G w m σ) (r : RFs G w xs vs) : ∀ p, w.H p = none → Q (.ref p) (upd w.H p (.tup vs)) := fun p hp => by
  have S1 := S.new (u := .tup vs) hp
  have r1 := r.new (u := .tup vs) S hp
  have hH : (w.new p (.tup vs)).H p = some (.tup vs) := upd_same
  refine k ((w.new p (.tup vs)).fr p) (.ref p) (S1.fr (.inr rfl) ⟨_, hH⟩ fun i o h e => ?_) ((Ex.new S.trk hp).trans (.fr (.inr rfl))) (.tup (.inl ⟨.inr rfl, hH⟩) (RFs.mono .fr r1))
  obtain ⟨a, e1, r1', _⟩ := S.sl i _ h
  rw [e] at e1
  cases e1
  obtain ⟨u', hu⟩ := r1'.trk
  rw [hp] at hu
  cases hu
end

end Mi
set_option maxHeartbeats 400000
namespace Mi
open PySem PySem.Spec PyProof.Rows L2
noncomputable def OpOk2 (G : Gm) (f : Op) (r : R2) : Prop := ∀ (w : Wd) (m : List Slot) (σ : St) (t1 t2 : T) (v1 v2 : V) (res : R) (Q : VK), SR G w m σ → RA G w t1 v1 → RA G w t2 v2 → opF f [t1, t2] = some res → After G w m σ res Q → r v1 v2 w.H Q
noncomputable def OpOk1 (G : Gm) (f : Op) (r : V → Hp → VK → Prop) : Prop := ∀ (w : Wd) (m : List Slot) (σ : St) (t1 : T) (v1 : V) (res : R) (Q : VK), SR G w m σ → RA G w t1 v1 → opF f [t1] = some res → After G w m σ res Q → r v1 w.H Q
section
variable {G : Gm}
/-! ### arithmetic -/
noncomputable def rAddM : R2 := fun x y H Q => ((∃ i j, x = .int i ∧ y = .int j ∧ Q (.int (i + j)) H) ∨ (∃ i j, x = .str i ∧ y = .str j ∧ i.length + j.length ≤ sizeLine ∧ Q (.str (i ++ j)) H)) ∨ rCat x y H Q
theorem okAdd : OpOk2 G .add rAddM := fun w m σ t1 t2 v1 v2 res Q S a b h k => by
  replace h : addF t1 t2 = some res := h
  cases t1 <;> try (cases h; done)
  case int i =>
    cases t2 <;> try (cases h; done)
    case int j =>
      cases a.int; cases b.int
      cases h
      exact .inl (.inl ⟨i, j, rfl, rfl, k.fz S (.int _)⟩)
  case str i =>
    cases t2 <;> try (cases h; done)
    case str j =>
      cases a.str; cases b.str
      simp only [addF] at h
      split at h
      · rename_i hl
        cases h
        exact .inl (.inr ⟨i, j, rfl, rfl, hl, k.fz S (.str _)⟩)
      · cases h
  case lst xs =>
    cases t2 <;> try (cases h; done)
    case lst ys =>
      obtain ⟨p, vs, rfl, h1, r1⟩ := a.lst
      obtain ⟨q, us, rfl, h2, r2⟩ := b.lst
      simp only [addF] at h
      split at h
      · rename_i hl
        cases h
        refine .inr ⟨p, q, vs, us, rfl, rfl, h1, h2, by rw [← r1.length, ← r2.length]; exact hl, k.lst S (r1.append r2)⟩
      · cases h
theorem okSub : OpOk2 G .sub (rI0 fun i j => .int (i - j)) := fun w m σ t1 t2 v1 v2 res Q S a b h k => by
  replace h : subF t1 t2 = some res := h
  cases t1 <;> try (cases h; done)
  case int i =>
    cases t2 <;> try (cases h; done)
    case int j =>
      cases a.int; cases b.int
      cases h
      exact ⟨i, j, rfl, rfl, k.fz S (.int _)⟩
noncomputable def rMulS : R2 := fun x y H Q => ∃ z n, x = .str z ∧ y = .int n ∧ 0 ≤ n ∧ n ≤ 1000 ∧ z.length ≤ 1000 ∧ Q (.str (Txt.mul z n)) H
noncomputable def rMulM : R2 := fun x y H Q => rI CMulW (fun i j => .int (i * j)) x y H Q ∨ rMulS x y H Q
theorem okMul : OpOk2 G .mul rMulM := fun w m σ t1 t2 v1 v2 res Q S a b h k => by
  replace h : mulF t1 t2 = some res := h
  cases t1 <;> try (cases h; done)
  case int i =>
    cases t2 <;> try (cases h; done)
    case int j =>
      cases a.int; cases b.int
      simp only [mulF] at h
      split at h
      · rename_i hl
        cases h
        exact .inl ⟨i, j, rfl, rfl, hl, k.fz S (.int _)⟩
      · cases h
  case str z =>
    cases t2 <;> try (cases h; done)
    case int j =>
      cases a.str; cases b.int
      simp only [mulF] at h
      split at h
      · rename_i hl
        cases h
        exact .inr ⟨z, j, rfl, rfl, hl.1, hl.2.1, hl.2.2, k.fz S (.str _)⟩
      · cases h
theorem okFdiv : OpOk2 G .fdiv (rI CDivW fun i j => .int (i / j)) := fun w m σ t1 t2 v1 v2 res Q S a b h k => by
  replace h : fdivF t1 t2 = some res := h
  cases t1 <;> try (cases h; done)
  case int i =>
    cases t2 <;> try (cases h; done)
    case int j =>
      cases a.int; cases b.int
      simp only [fdivF] at h
      split at h
      · rename_i hl
        cases h
        exact ⟨i, j, rfl, rfl, hl, k.fz S (.int _)⟩
      · cases h
theorem okMod : OpOk2 G .mod (rI (fun _ j => 0 < j) fun i j => .int (i % j)) := fun w m σ t1 t2 v1 v2 res Q S a b h k => by
  replace h : modF t1 t2 = some res := h
  cases t1 <;> try (cases h; done)
  case int i =>
    cases t2 <;> try (cases h; done)
    case int j =>
      cases a.int; cases b.int
      simp only [modF] at h
      split at h
      · rename_i hl
        cases h
        exact ⟨i, j, rfl, rfl, hl, k.fz S (.int _)⟩
      · cases h
theorem okPow : OpOk2 G .pow (rI CPow fun i j => .int (i ^ j.toNat)) := fun w m σ t1 t2 v1 v2 res Q S a b h k => by
  replace h : powF t1 t2 = some res := h
  cases t1 <;> try (cases h; done)
  case int i =>
    cases t2 <;> try (cases h; done)
    case int j =>
      cases a.int; cases b.int
      simp only [powF] at h
      split at h
      · rename_i hl
        cases h
        exact ⟨i, j, rfl, rfl, hl, k.fz S (.int _)⟩
      · cases h
theorem okNeg : OpOk1 G .neg (rU fun i => .int (-i)) := fun w m σ t1 v1 res Q S a h k => by
  replace h : negF t1 = some res := h
  cases t1 <;> try (cases h; done)
  case int i =>
    cases a.int
    cases h
    exact ⟨i, rfl, k.fz S (.int _)⟩
theorem okCmp {f : Op} {p : Int → Int → Bool} (hf : ∀ x y, opF f [x, y] = cmpF p x y) : OpOk2 G f (rI0 fun i j => .bl (p i j)) := fun w m σ t1 t2 v1 v2 res Q S a b h k => by
  rw [hf] at h
  cases t1 <;> try (cases h; done)
  case int i =>
    cases t2 <;> try (cases h; done)
    case int j =>
      cases a.int; cases b.int
      cases h
      exact ⟨i, j, rfl, rfl, k.fz S (.bl _)⟩
/-! ### equality -/
theorem scal_flat {x y : T} (h : scalT x y = true) : flatT x = true ∧ flatT y = true ∧ scal (vT x) (vT y) = true ∧ decide (vT x = vT y) = eqT x y := by
  cases x with
  | non => cases y <;> first | cases h; done | exact ⟨rfl, rfl, rfl, rfl⟩
  | bl a => cases y <;> first | cases h; done | exact ⟨rfl, rfl, rfl, dec_bl⟩ | exact ⟨rfl, rfl, rfl, rfl⟩
  | int a => cases y <;> first | cases h; done | exact ⟨rfl, rfl, rfl, dec_int⟩ | exact ⟨rfl, rfl, rfl, rfl⟩
  | str a => cases y <;> first | cases h; done | exact ⟨rfl, rfl, rfl, dec_str⟩ | exact ⟨rfl, rfl, rfl, rfl⟩
  | _ => cases h
mutual
theorem RF.dp {G : Gm} {w : Wd} : ∀ (t : T) (v : V) (d : PyData), RF G w t v → pyT t = some d → Dp G.K w.H v d
  | .non, _, _, r, h => by cases r; cases h; exact .non
  | .bl b, _, _, r, h => by cases r; cases h; exact .bl b
  | .int i, _, _, r, h => by cases r; cases h; exact .int i
  | .str s, _, _, r, h => by cases r; cases h; exact .str s
  | .lst xs, v, d, r, h => by
    obtain ⟨a, vs, rfl, f, e, r⟩ := r.lst_inv
    cases h1 : pyTs xs with
    | none => rw [pyT, h1] at h; cases h
    | some ds =>
      rw [pyT, h1] at h
      cases h
      exact .lst (.inl (.inl e)) (RFs.dp xs vs ds r h1)
  | .tup xs, v, d, r, h => by
    obtain ⟨a, vs, rfl, e, r⟩ := r.tup_inv
    cases h1 : pyTs xs with
    | none => rw [pyT, h1] at h; cases h
    | some ds =>
      rw [pyT, h1] at h
      cases h
      refine .tup ?_ (RFs.dp xs vs ds r h1)
      rcases e with ⟨_, e⟩ | e
      · exact .inl (.inl e)
      · exact .inr e
  | .dic _, _, _, _, h => by cases h
  | .ins _ _, _, _, _, h => by cases h
  | .scr _, _, _, _, h => by cases h
theorem RFs.dp {G : Gm} {w : Wd} : ∀ (t : List T) (v : List V) (d : List PyData), RFs G w t v → pyTs t = some d → DpAll G.K w.H v d
  | [], _, _, r, h => by cases r; rw [pyTs] at h; cases h; exact .nil
  | t :: ts, _, _, r, h => by
    cases r with
    | cons a b =>
      cases h1 : pyT t with
      | none => rw [pyTs, h1] at h; cases h
      | some d =>
        cases h2 : pyTs ts with
        | none => rw [pyTs, h1, h2] at h; cases h
        | some ds =>
          rw [pyTs, h1, h2] at h
          cases h
          exact .cons (RF.dp t _ d a h1) (RFs.dp ts _ ds b h2)
end
theorem RA.dp {w : Wd} {t : T} {v : V} {d : PyData} (r : RA G w t v) (h : pyT t = some d) : Dp G.K w.H v d := by
  rcases r.cases' with r | ⟨o, p, rfl, rfl, r2⟩
  · exact RF.dp _ _ _ r h
  · cases o with
    | lst xs =>
      obtain ⟨vs, e, r⟩ := r2.lst_inv
      cases h1 : pyTs xs with
      | none => simp [O.frz, pyT, h1] at h
      | some ds =>
        simp only [O.frz, pyT, h1, Option.map_some, Option.some.injEq] at h
        subst h
        exact .lst (.inl (.inl e)) (RFs.dp _ _ _ r h1)
    | dic _ => cases h
    | ins _ _ => cases h
noncomputable def sameV : V → V → Bool
  | .bl _, .bl _ => true
  | .int _, .int _ => true
  | .str _, .str _ => true
  | _, _ => false
inductive Hv (ls : List (Key × V)) : List (Key × V) → Bool → Prop
  | nil : Hv ls [] true
  | miss {k : Key} {v : V} {r : List (Key × V)} : valV ls k = none → Hv ls ((k, v) :: r) false
  | hit {k : Key} {v y : V} {r : List (Key × V)} {b : Bool} : valV ls k = some y → sameV v y = true → Hv ls r b → Hv ls ((k, v) :: r) (decide (v = y) && b)
noncomputable def rDic (k' : Bool → Bool) : R2 := fun x y H Q => ∃ a b ks ls r, x = .ref a ∧ y = .ref b ∧ Rd H a (.dK ks) ∧ Rd H b (.dK ls) ∧ (ks.length = ls.length → Hv ls ks r) ∧ Q (.bl (k' (ks.length == ls.length && r))) H
theorem eqAt_sameV {A : Around} {s : Shared} {v y : V} {u u' : Value} (h : sameV v y = true) (r : RelV v u) (r' : RelV y u') : SeqAt.EqAt A s u u' (decide (v = y)) := by
  cases v <;> cases y <;> try (cases h; done)
  case bl.bl a b =>
    cases r; cases r'
    rw [show decide (V.bl a = V.bl b) = (a == b) from by cases a <;> cases b <;> rfl]
    exact SeqAt.EqAt.bool_bool a b
  case int.int a b =>
    obtain ⟨t, rfl⟩ := r
    obtain ⟨t', rfl⟩ := r'
    rw [show decide (V.int a = V.int b) = (a == b) from dec_int]
    exact SeqAt.EqAt.int_int a t b t'
  case str.str a b =>
    obtain ⟨t, rfl⟩ := r
    obtain ⟨t', rfl⟩ := r'
    rw [show decide (V.str a = V.str b) = (a == b) from dec_str]
    exact SeqAt.EqAt.str_str a t b t'
theorem hv_hits {A : Around} {s : Shared} {ls : List (Key × V)} {vb : List (Key × Value)} (rb : KV ls vb) {ks : List (Key × V)} {va : List (Key × Value)} {b : Bool} (h : Hv ls ks b) : KV ks va → PySem.W.KeqHits A s vb va b := by
  intro ra
  unfold KV at ra
  induction h generalizing va with
  | nil => cases ra; exact .nil
  | @miss k v r e =>
    cases ra with
    | @cons _ q _ qs h t =>
      obtain ⟨k2, v2⟩ := q
      obtain ⟨h1, _⟩ := h
      have h1 : k = k2 := h1
      have rr : RelO (valV ls k) (valueAt vb k) := rb.val k
      rw [e] at rr
      subst h1
      refine .miss ?_
      cases hv : valueAt vb k with
      | none => rfl
      | some z => rw [hv] at rr; exact rr.elim
  | @hit k v y r b e sv _ ih =>
    cases ra with
    | @cons _ q _ qs h t =>
      obtain ⟨k2, v2⟩ := q
      obtain ⟨h1, h2⟩ := h
      have h1 : k = k2 := h1
      subst h1
      have rr : RelO (some y) (valueAt vb k) := by rw [← e]; exact rb.val k
      obtain ⟨z, hz, rz⟩ := rr.some_of
      exact .hit hz (eqAt_sameV sv h2 rz) (ih t)
theorem op_eqDic {X : Cx} (hu : X.A.units < cLine) : OpR X (compareOp .Eq) (rDic id) := by
  intro pins s σ H x y v u Q I rx ry h
  obtain ⟨a, b, ks, ls, r, rfl, rfl, ea, eb, hp, q⟩ := h
  obtain rfl : v = Value.ref a := rx
  obtain rfl : u = Value.ref b := ry
  obtain ⟨_, ya, va, ra, da⟩ := (show ObjOk X.prog X.w H s.heap a (.dK ks) from ea.ok I.hok)
  obtain ⟨_, yb, vb, rb, db⟩ := (show ObjOk X.prog X.w H s.heap b (.dK ls) from eb.ok I.hok)
  exact PySem.W.keq_eq (knd := mixKind X.prog X.w) (r := r) ya yb da db hu (fun hl => hv_hits rb (hp (by rw [ra.length, rb.length]; exact hl)) ra) (fin_bl I q (by simp [ra.length, rb.length]))
theorem op_neDic {X : Cx} (hu : X.A.units < cLine) : OpR X (compareOp .NotEq) (rDic not) := by
  intro pins s σ H x y v u Q I rx ry h
  obtain ⟨a, b, ks, ls, r, rfl, rfl, ea, eb, hp, q⟩ := h
  obtain rfl : v = Value.ref a := rx
  obtain rfl : u = Value.ref b := ry
  obtain ⟨_, ya, va, ra, da⟩ := (show ObjOk X.prog X.w H s.heap a (.dK ks) from ea.ok I.hok)
  obtain ⟨_, yb, vb, rb, db⟩ := (show ObjOk X.prog X.w H s.heap b (.dK ls) from eb.ok I.hok)
  exact PySem.W.keq_ne (knd := mixKind X.prog X.w) (r := r) ya yb da db hu (fun hl => hv_hits rb (hp (by rw [ra.length, rb.length]; exact hl)) ra) (fin_bl I q (by simp [ra.length, rb.length]))
theorem RFk.valV {G : Gm} {w : Wd} {kvs : List (Key × T)} {ks : List (Key × V)} (r : RFk G w kvs ks) (k : Key) : (valT kvs k = none ∧ L2.valV ks k = none) ∨ ∃ t v, valT kvs k = some t ∧ L2.valV ks k = some v ∧ RF G w t v := by
  match kvs, ks, r with
  | [], [], .nil => exact .inl ⟨rfl, rfl⟩
  | (j, t) :: kvs, (_, v) :: ks, .cons a b =>
    by_cases e : j = k
    · exact .inr ⟨t, v, by simp [valT, e], by simp [L2.valV, e], a⟩
    · have := RFk.valV b k
      simpa [valT, L2.valV, e] using this
theorem sameK_v {x y : T} {G : Gm} {w : Wd} {u v : V} (h : sameK x y = true) (a : RF G w x u) (b : RF G w y v) : sameV u v = true ∧ decide (u = v) = eqT x y := by
  cases x <;> cases y <;> try (cases h; done)
  case bl.bl p q => cases a; cases b; exact ⟨rfl, dec_bl⟩
  case int.int p q => cases a; cases b; exact ⟨rfl, dec_int⟩
  case str.str p q => cases a; cases b; exact ⟨rfl, dec_str⟩
theorem hitsT_v {G : Gm} {w : Wd} {ls : List (Key × T)} {ls' : List (Key × V)} (rl : RFk G w ls ls') : ∀ {ks : List (Key × T)} {ks' : List (Key × V)} {b : Bool}, RFk G w ks ks' → hitsT ls ks = some b → Hv ls' ks' b
  | [], _, b, .nil, h => by cases h; exact .nil
  | (k, v) :: r, _, b, .cons (v := v') a rr, h => by
    rw [hitsT] at h
    rcases rl.valV k with ⟨e1, e2⟩ | ⟨t, u, e1, e2, ru⟩
    · rw [e1] at h
      cases h
      exact .miss e2
    · rw [e1] at h
      simp only at h
      split at h
      · rename_i hs
        cases hr : hitsT ls r with
        | none => rw [hr] at h; cases h
        | some b' =>
          rw [hr] at h
          cases h
          obtain ⟨s1, s2⟩ := sameK_v hs a ru
          rw [← s2]
          exact .hit e2 s1 (hitsT_v rl rr hr)
      · cases h
noncomputable def rEqM (K : PySem.W.Frag) : R2 := fun x y H Q => (rEq x y H Q ∨ rEqD K x y H Q) ∨ rDic id x y H Q
noncomputable def rNeM (K : PySem.W.Frag) : R2 := fun x y H Q => (rNe x y H Q ∨ rNeD K x y H Q) ∨ rDic not x y H Q
theorem okEqG {f : Op} {k' : Bool → Bool} {r1 r2 : R2} (hf : ∀ x y, opF f [x, y] = eqF x y k') (h1 : ∀ x y H Q, scal x y = true → Q (.bl (k' (decide (x = y)))) H → r1 x y H Q)
    (h2 : ∀ x y H Q d e, Dp G.K H x d → Dp G.K H y e → SeqAt.shaped d = true → SeqAt.shaped e = true → Q (.bl (k' (PyData.eqv d e))) H → r2 x y H Q) : OpOk2 G f (fun x y H Q => (r1 x y H Q ∨ r2 x y H Q) ∨ rDic k' x y H Q) := fun w m σ t1 t2 v1 v2 res Q S a b h k => by
  rw [hf] at h
  unfold eqF at h
  split at h
  · rename_i hs
    obtain ⟨f1, f2, sc, de⟩ := scal_flat hs
    cases h
    rw [a.flat f1, b.flat f2]
    refine .inl (.inl (h1 _ _ _ _ sc ?_))
    rw [de]
    exact k.fz S (.bl _)
  · split at h
    · rename_i d e hd he
      split at h
      · rename_i hsh
        cases h
        exact .inl (.inr (h2 _ _ _ _ d e (a.dp hd) (b.dp he) hsh.1 hsh.2 (k.fz S (.bl _))))
      · cases h
    · split at h
      · rename_i ks ls _ _
        obtain ⟨p, us, e1, hp, r1⟩ := a.dic
        obtain ⟨q, vs, e2, hq, r2⟩ := b.dic
        unfold eqD at h
        split at h
        · rename_i hl
          cases hh : hitsT ls ks with
          | none => rw [hh] at h; cases h
          | some c =>
            rw [hh] at h
            cases h
            refine .inr ⟨p, q, us, vs, c, e1, e2, hp, hq, fun _ => hitsT_v r2 r1 hh, ?_⟩
            rw [← r1.length, ← r2.length, hl, beq_self_eq_true, Bool.true_and]
            exact k.fz S (.bl _)
        · rename_i hl
          cases h
          refine .inr ⟨p, q, us, vs, true, e1, e2, hp, hq, fun z => absurd (by rw [r1.length, r2.length]; exact z) hl, ?_⟩
          rw [← r1.length, ← r2.length, show (ks.length == ls.length) = false from by simpa using hl, Bool.false_and]
          exact k.fz S (.bl _)
      · cases h
theorem okEq : OpOk2 G .eq (rEqM G.K) := okEqG (k' := id) (fun _ _ => rfl) (fun x y H Q s q => ⟨s, q⟩) fun x y H Q d e a b c c' q => ⟨d, e, a, b, c, c', q⟩
theorem okNe : OpOk2 G .ne (rNeM G.K) := okEqG (k' := not) (fun _ _ => rfl) (fun x y H Q s q => ⟨s, q⟩) fun x y H Q d e a b c c' q => ⟨d, e, a, b, c, c', q⟩
/-! ### in, is -/
noncomputable def rInM0 (K : PySem.W.Frag) (neg : Bool) : R2 := fun x y H Q => (∃ (c : Nat) (z : Str), x = .str ⟨#[c]⟩ ∧ y = .str z ∧ Q (.bl (if neg then !decide (c ∈ z.cps.toList) else decide (c ∈ z.cps.toList))) H) ∨ rIn K neg x y H Q
noncomputable def rInK (neg : Bool) : R2 := fun x y H Q => ∃ (a : Addr) (kvs : List (Key × V)) (k : Key), x = kV k ∧ y = .ref a ∧ Rd H a (.dK kvs) ∧ Q (.bl (if neg then !(valV kvs k).isSome else (valV kvs k).isSome)) H
noncomputable def rInM (K : PySem.W.Frag) (neg : Bool) : R2 := fun x y H Q => rInM0 K neg x y H Q ∨ rInK neg x y H Q
theorem any_kv (k : Key) : ∀ {kvs : List (Key × T)} {ks : List (Key × V)} {w : Wd}, RFk G w kvs ks → (kvs.any fun kv => decide (kv.1 = k)) = (valV ks k).isSome
  | _, _, _, .nil => rfl
  | _, _, _, .cons (k := j) _ r => by
    have z := any_kv k r
    unfold valV at z ⊢
    rw [List.any_cons, z, List.find?_cons]
    cases h : decide (j = k) with
    | true => simp only [h]; rfl
    | false => simp only [h]; rfl
theorem key_v {w : Wd} {t : T} {k : Key} {v : V} (h : keyT t = some k) (r : RA G w t v) : v = kV k := by
  cases t <;> try (cases h; done)
  case int i => cases h; exact r.int
  case str s => cases h; exact r.str
theorem okInG {f : Op} {neg : Bool} (hf : ∀ x y, opF f [x, y] = inF (fun b => if neg then !b else b) x y) : OpOk2 G f (rInM G.K neg) := fun w m σ t1 t2 v1 v2 res Q S a b h k => by
  rw [hf] at h
  have seq : ∀ xs, (∃ p us, v2 = .ref p ∧ (SqL G.K w.H p us ∨ SqT G.K w.H p us) ∧ RFs G w xs us) → (if flatT t1 = true ∧ xs.all flatT = true then fB ((fun b => if neg then !b else b) (xs.any fun y => eqT y t1)) else none) = some res → rIn G.K neg v1 v2 w.H Q := fun xs ⟨p, us, e, hq, r⟩ h => by
    split at h
    · rename_i hs
      cases h
      refine ⟨p, us, e, hq, ?_, ?_, ?_⟩
      · rw [a.flat hs.1]; exact flat_vT hs.1
      · rw [r.flat hs.2]; exact all_flatV hs.2
      · rw [a.flat hs.1, r.flat hs.2, any_eqT hs.1 hs.2]
        exact k.fz S (.bl _)
    · cases h
  cases t2 with
  | lst xs =>
    obtain ⟨p, us, e, h1, r⟩ := b.lst
    refine .inl (.inr (seq xs ⟨p, us, e, .inl (.inl (.inl h1)), r⟩ ?_))
    cases t1 <;> exact h
  | tup xs =>
    obtain ⟨p, us, e, h1, r⟩ := b.tup
    refine .inl (.inr (seq xs ⟨p, us, e, .inr h1, r⟩ ?_))
    cases t1 <;> exact h
  | str z =>
    cases t1 <;> try (cases h; done)
    case str x =>
      cases a.str; cases b.str
      simp only [inF] at h
      split at h
      · rename_i c hc
        cases h
        refine .inl (.inl ⟨c, z, ?_, rfl, k.fz S (.bl _)⟩)
        obtain ⟨⟨l⟩⟩ := x
        simp only at hc
        rw [hc]
      · cases h
  | dic kvs =>
    obtain ⟨p, ks, rfl, h1, r⟩ := b.dic
    have h' : ((keyT t1).bind fun q => fB ((fun b => if neg then !b else b) (kvs.any fun kv => decide (kv.1 = q)))) = some res := by cases t1 <;> exact h
    cases e : keyT t1 with
    | none => rw [e] at h'; cases h'
    | some q =>
      rw [e] at h'
      cases h'
      refine .inr ⟨p, ks, q, key_v e a, rfl, h1, ?_⟩
      rw [any_kv q r] at k
      exact k.fz S (.bl _)
  | _ => cases t1 <;> cases h
theorem okIn : OpOk2 G .isin (rInM G.K false) := okInG fun _ _ => rfl
theorem okNotin : OpOk2 G .notin (rInM G.K true) := okInG fun _ _ => rfl
theorem isNon_v {w : Wd} {t : T} {v : V} (r : RA G w t v) : decide (v = .non) = isNon t := by
  rcases r.cases' with r | ⟨o, p, rfl, rfl, r⟩
  · cases r <;> simp [isNon]
  · cases o <;> simp [isNon, O.frz]
theorem okIsn : OpOk2 G .isn (fun x y H Q => y = .non ∧ Q (.bl (decide (x = .non))) H) := fun w m σ t1 t2 v1 v2 res Q S a b h k => by
  replace h : isnF id t1 t2 = some res := h
  unfold isnF at h
  split at h
  · rename_i hn
    cases h
    have e2 : v2 = .non := by
      have z := isNon_v b
      rw [hn] at z
      exact of_decide_eq_true z
    refine ⟨e2, ?_⟩
    rw [isNon_v a]
    exact k.fz S (.bl _)
  · cases h
/-! ### items -/
theorem atI_get {α : Type} {xs : List α} {i : Int} {x : α} (h : atI xs i = some x) : ∃ j, ixN xs.length i = some j ∧ xs[j]? = some x := by
  unfold atI at h
  cases e : ixN xs.length i with
  | none => rw [e] at h; cases h
  | some j => rw [e] at h; exact ⟨j, rfl, h⟩
theorem atI_of {α : Type} {xs : List α} {i : Int} {x : α} {j : Nat} (e : ixN xs.length i = some j) (h : xs[j]? = some x) : atI xs i = some x := by
  unfold atI
  rw [e]
  exact h
noncomputable def rIxD : R2 := fun x y H Q => ∃ a v, x = .ref a ∧ DGet H a y (some v) ∧ Q v H
theorem ix_dict {X : Cx} (hu : X.A.units + 1 < cLine) : IxR X rIxD := by
  intro value slice pins s σ H x y v u Q I rx ry h hs
  obtain ⟨a, z, rfl, g, q⟩ := h
  cases rx
  exact tail_any (dict_typeIs I g) PySem.F.slot_dict_getitem.lookup (d_getItem hu I g ry fun w' s3 I3 rw' => ⟨z, H, I3, rw', q⟩) hs
noncomputable def rIxM (K : PySem.W.Frag) : R2 := fun x y H Q => rIx K x y H Q ∨ rIxD x y H Q
theorem ix_any {X : Cx} (hu : X.A.units + 1 < cLine) : IxR X (rIxM X.K) := ix_seq.or (ix_dict hu)
theorem okIdx0 : ∀ (w : Wd) (m : List Slot) (σ : St) (t1 t2 : T) (v1 v2 : V) (res : R) (Q : VK), (∀ kvs, t1 ≠ .dic kvs) → SR G w m σ → RA G w t1 v1 → RA G w t2 v2 → opF .idx [t1, t2] = some res → After G w m σ res Q → rIx G.K v1 v2 w.H Q := fun w m σ t1 t2 v1 v2 res Q nd S a b h k => by
  replace h : idxF t1 t2 = some res := h
  cases t2 <;> try (cases t1 <;> first | exact absurd rfl (nd _) | cases h; done)
  case int i =>
    cases b.int
    cases t1 <;> try (first | exact absurd rfl (nd _) | cases h; done)
    case lst xs =>
      obtain ⟨p, vs, rfl, h1, r⟩ := a.lst
      simp only [idxF, Option.map_eq_some_iff] at h
      obtain ⟨t, h2, rfl⟩ := h
      obtain ⟨j, e1, e2⟩ := atI_get h2
      obtain ⟨v, e3, r3⟩ := r.get e2
      rw [r.length] at e1
      exact .inl ⟨p, vs, i, v, rfl, rfl, .inl (.inl h1), atI_of e1 e3, k.fz S r3⟩
    case tup xs =>
      obtain ⟨p, vs, rfl, h1, r⟩ := a.tup
      simp only [idxF, Option.map_eq_some_iff] at h
      obtain ⟨t, h2, rfl⟩ := h
      obtain ⟨j, e1, e2⟩ := atI_get h2
      obtain ⟨v, e3, r3⟩ := r.get e2
      rw [r.length] at e1
      exact .inr (.inl ⟨p, vs, i, v, rfl, rfl, h1, atI_of e1 e3, k.fz S r3⟩)
    case scr ns =>
      obtain ⟨p, rfl, h1⟩ := a.scr
      simp only [idxF, Option.map_eq_some_iff] at h
      obtain ⟨n, h2, rfl⟩ := h
      obtain ⟨j, e1, e2⟩ := atI_get h2
      exact .inl ⟨p, _, i, .int n, rfl, rfl, h1, atI_of (by rw [List.length_map]; exact e1) (by rw [List.getElem?_map, e2]; rfl), k.fz S (.int n)⟩
    case str z =>
      cases a.str
      simp only [idxF] at h
      split at h
      · rename_i hl
        simp only [Option.map_eq_some_iff] at h
        obtain ⟨c, h2, rfl⟩ := h
        exact .inr (.inr ⟨z, i, c, rfl, rfl, hl, h2, k.fz S (.str _)⟩)
      · cases h
theorem okIdx : OpOk2 G .idx (rIxM G.K) := fun w m σ t1 t2 v1 v2 res Q S a b h k => by
  by_cases hd : ∃ kvs, t1 = .dic kvs
  · obtain ⟨kvs, rfl⟩ := hd
    replace h : (keyT t2).bind (fun q => (valT kvs q).map R.fz) = some res := h
    obtain ⟨p, ks, rfl, h1, r⟩ := a.dic
    cases e : keyT t2 with
    | none => rw [e] at h; cases h
    | some q =>
      rw [e] at h
      have h : (valT kvs q).map R.fz = some res := h
      rcases r.valV q with ⟨z, _⟩ | ⟨t, v, z1, z2, r'⟩
      · rw [z] at h; cases h
      · rw [z1] at h
        cases h
        refine .inr ⟨p, v, rfl, .inl ⟨ks, q, h1, key_v e b, z2.symm⟩, k.fz S r'⟩
  · exact .inl (okIdx0 w m σ t1 t2 v1 v2 res Q (fun kvs z => hd ⟨kvs, z⟩) S a b h k)
/-! ### slices -/
noncomputable def rSlM (K : PySem.W.Frag) : V → Option Int → Option Int → Hp → VK → Prop := fun x lo hi H Q => rSlL K x lo hi H Q ∨ rSlS x lo hi H Q
theorem RFs.cut {w : Wd} {xs : List T} {vs : List V} {lo hi : Option Int} (r : RFs G w xs vs) : RFs G w (cutT xs lo hi) (cutV vs lo hi) := by
  unfold cutT cutV
  rw [r.length]
  exact (r.drop _).take _
theorem cut_ints {ns : List Int} {lo hi : Option Int} : cutV (ns.map V.int) lo hi = (cutI ns lo hi).map V.int := by
  unfold cutI cutV
  rw [List.length_map, ← List.map_drop, ← List.map_take]
theorem okSl {w : Wd} {m : List Slot} {σ : St} {t : T} {v : V} {lo hi : Option Int} {res : R} {Q : VK} (S : SR G w m σ) (a : RA G w t v) (h : slF t lo hi = some res) (k : After G w m σ res Q) : rSlM G.K v lo hi w.H Q := by
  cases t <;> try (cases h; done)
  case lst xs =>
    obtain ⟨p, vs, rfl, h1, r⟩ := a.lst
    cases h
    exact .inl ⟨p, vs, rfl, .inl (.inl h1), k.lst S r.cut⟩
  case scr ns =>
    obtain ⟨p, rfl, h1⟩ := a.scr
    cases h
    refine .inl ⟨p, _, rfl, h1, ?_⟩
    rw [cut_ints]
    exact k.lst S (RFs.of_ints _)
  case str z =>
    cases a.str
    simp only [slF] at h
    split at h
    · rename_i hl
      cases h
      exact .inr ⟨z, rfl, hl, k.fz S (.str _)⟩
    · cases h
/-! ### built-in calls -/
noncomputable def rLenM (K : PySem.W.Frag) : List V → Hp → VK → Prop := fun xs H Q => (∃ x n, xs = [x] ∧ LenV K x H n ∧ Q (.int n) H) ∨ ∃ a kvs, xs = [V.ref a] ∧ Rdo (H a) (.dK kvs) ∧ Q (.int kvs.length) H
theorem okLen : OpOk1 G .len (fun x H Q => rLenM G.K [x] H Q) := fun w m σ t1 v1 res Q S a h k => by
  replace h : lenF t1 = some res := h
  cases t1 <;> try (cases h; done)
  case str z =>
    cases a.str
    simp only [lenF] at h
    split at h
    · rename_i hl
      cases h
      exact .inl ⟨.str z, z.length, rfl, ⟨hl, rfl⟩, k.fz S (.int _)⟩
    · cases h
  case lst xs =>
    obtain ⟨p, vs, rfl, h1, r⟩ := a.lst
    cases h
    rw [r.length] at k
    exact .inl ⟨.ref p, vs.length, rfl, .inl ⟨vs, .inl (.inl h1), rfl⟩, k.fz S (.int _)⟩
  case tup xs =>
    obtain ⟨p, vs, rfl, h1, r⟩ := a.tup
    cases h
    rw [r.length] at k
    exact .inl ⟨.ref p, vs.length, rfl, .inr ⟨vs, h1, rfl⟩, k.fz S (.int _)⟩
  case scr ns =>
    obtain ⟨p, rfl, h1⟩ := a.scr
    cases h
    exact .inl ⟨.ref p, ns.length, rfl, .inl ⟨_, h1, by rw [List.length_map]⟩, k.fz S (.int _)⟩
  case dic kvs =>
    obtain ⟨p, ks, rfl, h1, r⟩ := a.dic
    cases h
    rw [r.length] at k
    exact .inr ⟨p, ks, rfl, h1, k.fz S (.int _)⟩
noncomputable def rStrM : List V → Hp → VK → Prop := fun xs H Q => (∃ i, xs = [.int i] ∧ i.natAbs.log2 < 1920 ∧ Q (.str (toString i)) H) ∨ ∃ a, xs = [.str a] ∧ Q (.str a) H
theorem okStr : OpOk1 G .str (fun x H Q => rStrM [x] H Q) := fun w m σ t1 v1 res Q S a h k => by
  replace h : strF t1 = some res := h
  cases t1 <;> try (cases h; done)
  case int i =>
    cases a.int
    simp only [strF] at h
    split at h
    · rename_i hl
      cases h
      exact .inl ⟨i, rfl, hl, k.fz S (.str _)⟩
    · cases h
  case str z =>
    cases a.str
    cases h
    exact .inr ⟨z, rfl, k.fz S (.str _)⟩
noncomputable def rIntM : List V → Hp → VK → Prop := fun xs H Q => ((∃ i, xs = [.int i] ∧ Q (.int i) H) ∨ ∃ k, xs = [.bl k] ∧ Q (.int (if k then 1 else 0)) H) ∨ ∃ a n, xs = [.str a] ∧ PySem.intText? a = some n ∧ a.length ≤ 640 ∧ Q (.int n) H
theorem okInt : OpOk1 G .int (fun x H Q => rIntM [x] H Q) := fun w m σ t1 v1 res Q S a h k => by
  replace h : intF t1 = some res := h
  cases t1 <;> try (cases h; done)
  case int i =>
    cases a.int
    cases h
    exact .inl (.inl ⟨i, rfl, k.fz S (.int _)⟩)
  case bl i =>
    cases a.bl
    cases h
    exact .inl (.inr ⟨i, rfl, k.fz S (.int _)⟩)
  case str z =>
    cases a.str
    simp only [intF] at h
    split at h
    · rename_i n hn
      split at h
      · rename_i hl
        cases h
        exact .inr ⟨z, n, rfl, hn, hl, k.fz S (.int _)⟩
      · cases h
    · cases h
theorem okAbs : OpOk1 G .abs (fun x H Q => ∃ i, [x] = [V.int i] ∧ Q (.int (if i < 0 then -i else i)) H) := fun w m σ t1 v1 res Q S a h k => by
  replace h : absF t1 = some res := h
  cases t1 <;> try (cases h; done)
  case int i =>
    cases a.int
    cases h
    exact ⟨i, rfl, k.fz S (.int _)⟩
noncomputable def rListM (K : PySem.W.Frag) : List V → Hp → VK → Prop := fun xs H Q => (∃ p ys, xs = [.ref p] ∧ (SqL K H p ys ∨ SqT K H p ys) ∧ ∀ l, H l = none → Q (.ref l) (upd H l (.lst ys))) ∨
  ∃ (a : Addr) (kvs : List (Key × V)), xs = [.ref a] ∧ Rd H a (.dK kvs) ∧ ∀ p, H p = none → Q (.ref p) (upd H p (.lst (kvs.map fun kv => kV kv.1)))
theorem unkey_vs {w : Wd} : ∀ {kvs : List (Key × T)} {ks : List (Key × V)}, RFk G w kvs ks → RFs G w (kvs.map fun kv => unkey kv.1) (ks.map fun kv => kV kv.1)
  | _, _, .nil => .nil
  | _, _, .cons (k := .inl i) _ r => .cons (.int i) (unkey_vs r)
  | _, _, .cons (k := .inr s) _ r => .cons (.str s) (unkey_vs r)
theorem okList : OpOk1 G .list (fun x H Q => rListM G.K [x] H Q) := fun w m σ t1 v1 res Q S a h k => by
  replace h : listF t1 = some res := h
  cases t1 <;> try (cases h; done)
  case lst xs =>
    obtain ⟨p, vs, rfl, h1, r⟩ := a.lst
    cases h
    exact .inl ⟨p, vs, rfl, .inl (.inl (.inl h1)), k.lst S r⟩
  case tup xs =>
    obtain ⟨p, vs, rfl, h1, r⟩ := a.tup
    cases h
    exact .inl ⟨p, vs, rfl, .inr h1, k.lst S r⟩
  case scr ns =>
    obtain ⟨p, rfl, h1⟩ := a.scr
    cases h
    exact .inl ⟨p, _, rfl, .inl h1, k.lst S (RFs.of_ints _)⟩
  case dic kvs =>
    obtain ⟨p, ks, rfl, h1, r⟩ := a.dic
    cases h
    exact .inr ⟨p, ks, rfl, h1, k.lst S (unkey_vs r)⟩
theorem okAll : OpOk1 G .all (fun x H Q => rAll G.K [x] H Q) := fun w m σ t1 v1 res Q S a h k => by
  replace h : allF t1 = some res := h
  cases t1 <;> try (cases h; done)
  case lst xs =>
    obtain ⟨p, vs, rfl, h1, r⟩ := a.lst
    simp only [allF] at h
    cases e : bools xs with
    | none => rw [e] at h; cases h
    | some bs =>
      rw [e] at h
      cases h
      have := r.bools e
      subst this
      exact ⟨p, bs, rfl, .inl (.inl h1), k.fz S (.bl _)⟩
noncomputable def rJoinM (K : PySem.W.Frag) : V → List V → Hp → VK → Prop := fun x xs H Q => ∃ a p, ∃ ys : List Str, x = .str a ∧ xs = [.ref p] ∧ (SqL K H p (ys.map V.str) ∨ SqT K H p (ys.map V.str)) ∧ (ys.map (·.length)).sum + ys.length * a.length ≤ 16777216 ∧ Q (.str (Txt.join a ys)) H
theorem okJoin : OpOk2 G .join (fun x y H Q => (∃ a, x = .str a) ∧ rJoinM G.K x [y] H Q) := fun w m σ t1 t2 v1 v2 res Q S a b h k => by
  replace h : joinF t1 t2 = some res := h
  cases t1 <;> try (cases h; done)
  case str z =>
    cases t2 <;> try (cases h; done)
    case lst xs =>
      cases a.str
      obtain ⟨p, vs, rfl, h1, r⟩ := b.lst
      simp only [joinF] at h
      cases e : strsT xs with
      | none => rw [e] at h; cases h
      | some ys =>
        rw [e] at h
        simp only [Option.bind_some] at h
        split at h
        · rename_i hl
          cases h
          have := r.strs' e
          subst this
          exact ⟨⟨z, rfl⟩, z, p, ys, rfl, rfl, .inl (.inl (.inl h1)), hl, k.fz S (.str _)⟩
        · cases h
/-! ### isinstance -/
noncomputable def Ty.nm : Ty → String
  | .int => "int" | .bool => "bool" | .str => "str" | .list => "list" | .tuple => "tuple" | .dict => "dict"
noncomputable def tyT : T → String
  | .non => "NoneType" | .bl _ => "bool" | .int _ => "int" | .str _ => "str" | .lst _ => "list" | .tup _ => "tuple" | .dic _ => "dict" | .scr _ => "list" | .ins _ _ => "object"
end
end Mi
set_option maxHeartbeats 1000000
namespace Mi
open PySem PySem.Spec PyProof.Rows L2

section
variable {C : Ct} {X : Cx} {cal : Nat → List Slot → CRes}
theorem n_cst {e : Expr} {v : V} {t : T} (h : PE X e (tC v)) (r : ∀ w, RF C.G w t v) : PE X e (rdE C (evE cal (.c t))) := PE.imp h fun σ H Q ⟨w, m, e, P, q⟩ => by
  rw [evE] at q
  have := q w v P.sr (.refl w) (r w)
  rwa [e] at this
theorem n_var {e : Expr} {i : Nat} (h : PE X e (tVar i)) : PE X e (rdE C (evE cal (.var i))) := PE.imp h fun σ H Q ⟨w, m, e, P, q⟩ => by
  rw [evE] at q
  cases h1 : m[i]? with
  | none => rw [h1] at q; exact q.elim
  | some s =>
    rw [h1] at q
    have sl := P.sr.sl i s h1
    cases s with
    | no => exact q.elim
    | fz t =>
      obtain ⟨v, e1, r⟩ := sl
      have := q w v P.sr (.refl w) r
      rw [e] at this
      exact ⟨v, e1, this⟩
    | ow o =>
      obtain ⟨a, e1, r, l⟩ := sl
      have := q w (.ref a) P.sr (.refl w) e1
      rw [e] at this
      exact ⟨_, e1, this⟩
theorem n_lst {e : Expr} {es : Es} {exs : List Expr} (hp : ∀ t, PA X exs t → PE X e (tLst t)) (h : PA X exs (rdDs C (evDs cal es))) : PE X e (rdE C (evE cal (.lst es))) := PE.imp (hp _ h) fun σ H Q ⟨w, m, e, P, q⟩ => by
  rw [evE, Res.sat_bind] at q
  refine ⟨w, m, e, P, Res.sat_mono q fun ds m1 q1 w1 vs S1 x1 r1 => ?_⟩
  cases h1 : escs m1 ds with
  | none => rw [h1] at q1; exact q1.elim
  | some p =>
    obtain ⟨ts, m2⟩ := p
    rw [h1] at q1
    simp only at q1
    obtain ⟨w2, e2, S2, x2, r2⟩ := SR.escs S1 r1 h1
    split at q1
    · rename_i hl
      refine ⟨by rw [← r2.length]; exact hl, ?_⟩
      rw [← e2]
      exact After.lst (fun w' v S' x' r' => q1 w' v S' (x1.trans (x2.trans x')) r') S2 r2
    · exact q1.elim
theorem n_tup {e : Expr} {es : Es} {exs : List Expr} (hp : ∀ t, PA X exs t → PE X e (tTup t)) (h : PA X exs (rdDs C (evDs cal es))) : PE X e (rdE C (evE cal (.tup es))) := PE.imp (hp _ h) fun σ H Q ⟨w, m, e, P, q⟩ => by
  rw [evE, Res.sat_bind] at q
  refine ⟨w, m, e, P, Res.sat_mono q fun ds m1 q1 w1 vs S1 x1 r1 => ?_⟩
  cases h1 : escs m1 ds with
  | none => rw [h1] at q1; exact q1.elim
  | some p =>
    obtain ⟨ts, m2⟩ := p
    rw [h1] at q1
    simp only at q1
    obtain ⟨w2, e2, S2, x2, r2⟩ := SR.escs S1 r1 h1
    split at q1
    · rename_i hl
      refine ⟨by rw [← r2.length]; exact hl, ?_⟩
      rw [← e2]
      exact After.tup (fun w' v S' x' r' => q1 w' v S' (x1.trans (x2.trans x')) r') S2 r2
    · exact q1.elim
/-! operations -/
theorem opR_sat {f : Op} {ds : List Opd} {m : List Slot} {A : R → List Slot → Prop} {B : T → List Slot → Prop} (h : (opR f ds m).sat A B) : ∃ ts r, ders m ds = some ts ∧ opF f ts = some r ∧ A r m := by
  unfold opR at h
  cases h1 : ders m ds with
  | none => rw [h1] at h; exact h.elim
  | some ts =>
    rw [h1] at h
    simp only at h
    cases h2 : opF f ts with
    | none => rw [h2] at h; exact h.elim
    | some r =>
      rw [h2] at h
      exact ⟨ts, r, rfl, h2, h⟩
theorem ders2 {m : List Slot} {d1 d2 : Opd} {ts : List T} (h : ders m [d1, d2] = some ts) : ∃ t1 t2, ts = [t1, t2] ∧ der m d1 = some t1 ∧ der m d2 = some t2 := by
  unfold ders ders ders at h
  cases h1 : der m d1 with
  | none => rw [h1] at h; cases h
  | some t1 =>
    cases h2 : der m d2 with
    | none => rw [h1, h2] at h; cases h
    | some t2 =>
      rw [h1, h2] at h
      cases h
      exact ⟨t1, t2, rfl, rfl, rfl⟩
theorem ders1 {m : List Slot} {d1 : Opd} {ts : List T} (h : ders m [d1] = some ts) : ∃ t1, ts = [t1] ∧ der m d1 = some t1 := by
  unfold ders ders at h
  cases h1 : der m d1 with
  | none => rw [h1] at h; cases h
  | some t1 =>
    rw [h1] at h
    cases h
    exact ⟨t1, rfl, rfl⟩
theorem rd_op2 {f : Op} {a b : E} {r : R2} (ok : OpOk2 C.G f r) {σ : St} {H : Hp} {Q : VK} (h : rdE C (evE cal (.op f (.cons a (.cons b .nil)))) σ H Q) : tOp r (rdD C (opdF (evE cal a))) (rdD C (opdF (evE cal b))) σ H Q := by
  obtain ⟨w, m, e, P, q⟩ := h
  rw [evE, Res.sat_bind, evDs, Res.sat_bind] at q
  refine ⟨w, m, e, P, ?_⟩
  rw [opdF, Res.sat_bind]
  refine Res.sat_mono q fun ra m1 q1 w1 v1 S1 x1 r1 => ?_
  rw [evDs, Res.sat_bind, Res.sat_bind] at q1
  refine ⟨w1, m1, rfl, P.step S1 x1, ?_⟩
  rw [opdF, Res.sat_bind]
  refine Res.sat_mono q1 fun rb m2 q2 w2 v2 S2 x2 r2 => ?_
  obtain ⟨ts, res, h1, h2, h3⟩ := opR_sat q2
  obtain ⟨t1, t2, rfl, g1, g2⟩ := ders2 h1
  exact ok w2 m2 σ t1 t2 v1 v2 res Q S2 (S2.der (r1.mono x2.mo) g1) (S2.der r2 g2) h2 fun w' v S' x' r' => h3 w' v S' (x1.trans (x2.trans x')) r'
theorem n_op2 {ex ea eb : Expr} {f : Op} {a b : E} {r : R2} (hp : ∀ ta tb, PE X ea ta → PE X eb tb → PE X ex (tOp r ta tb)) (ok : OpOk2 C.G f r) (ha : PE X ea (rdE C (evE cal a))) (hb : PE X eb (rdE C (evE cal b))) :
    PE X ex (rdE C (evE cal (.op f (.cons a (.cons b .nil))))) := PE.imp (hp _ _ (pe_opd ha) (pe_opd hb)) fun σ H Q q => rd_op2 ok q
theorem n_op1 {ex ea : Expr} {f : Op} {a : E} {r : V → Hp → VK → Prop} (hp : ∀ ta, PE X ea ta → PE X ex (tUn r ta)) (ok : OpOk1 C.G f r) (ha : PE X ea (rdE C (evE cal a))) :
    PE X ex (rdE C (evE cal (.op f (.cons a .nil)))) := PE.imp (hp _ (pe_opd ha)) fun σ H Q ⟨w, m, e, P, q⟩ => by
  rw [evE, Res.sat_bind, evDs, Res.sat_bind] at q
  refine ⟨w, m, e, P, ?_⟩
  rw [opdF, Res.sat_bind]
  refine Res.sat_mono q fun ra m1 q1 w1 v1 S1 x1 r1 => ?_
  obtain ⟨ts, res, h1, h2, h3⟩ := opR_sat q1
  obtain ⟨t1, rfl, g1⟩ := ders1 h1
  exact ok w1 m1 σ t1 v1 res Q S1 (S1.der r1 g1) h2 fun w' v S' x' r' => h3 w' v S' (x1.trans x') r'
/-! booleans -/
theorem n_and {ex ea eb : Expr} {a b : E} (hp : ∀ ta tb, PE X ea ta → PE X eb tb → PE X ex (tAndV ta tb)) (ha : PE X ea (rdE C (evE cal a))) (hb : PE X eb (rdE C (evE cal b))) : PE X ex (rdE C (evE cal (.an a b))) :=
  PE.imp (hp _ _ ha hb) fun σ H Q ⟨w, m, e, P, q⟩ => by
  rw [evE, Res.sat_bind] at q
  refine ⟨w, m, e, P, Res.sat_mono q fun r m1 q1 w1 v1 S1 x1 r1 => ?_⟩
  split at q1
  · cases r1
    refine ⟨true, rfl, ?_⟩
    rw [if_pos rfl]
    exact ⟨w1, m1, rfl, P.step S1 x1, Res.sat_mono q1 fun r m2 q2 w2 v2 S2 x2 r2 => q2 w2 v2 S2 (x1.trans x2) r2⟩
  · cases r1
    refine ⟨false, rfl, ?_⟩
    rw [if_neg (by decide)]
    exact q1 w1 (.bl false) S1 x1 (.bl false)
  · exact q1.elim
theorem n_not {ex ea : Expr} {a : E} (hp : ∀ ta, PE X ea ta → PE X ex (tNotV ta)) (ha : PE X ea (rdE C (evE cal a))) : PE X ex (rdE C (evE cal (.nt a))) :=
  PE.imp (hp _ ha) fun σ H Q ⟨w, m, e, P, q⟩ => by
  rw [evE, Res.sat_bind] at q
  refine ⟨w, m, e, P, Res.sat_mono q fun r m1 q1 w1 v1 S1 x1 r1 => ?_⟩
  split at q1
  · rename_i k
    cases r1
    exact ⟨k, rfl, q1 w1 _ S1 x1 (.bl _)⟩
  · exact q1.elim
theorem n_ite {ex ec ea eb : Expr} {c a b : E} (hp : ∀ tc ta tb, PT X ec tc → PE X ea ta → PE X eb tb → PE X ex (tIf tc ta tb)) (hc : PT X ec (rdB C (evE cal c))) (ha : PE X ea (rdE C (evE cal a))) (hb : PE X eb (rdE C (evE cal b))) : PE X ex (rdE C (evE cal (.ite c a b))) :=
  PE.imp (hp _ _ _ hc ha hb) fun σ H Q ⟨w, m, e, P, q⟩ => by
  rw [evE, Res.sat_bind] at q
  refine ⟨w, m, e, P, Res.sat_mono q fun r m1 q1 => ?_⟩
  split at q1
  · refine ⟨true, rfl, fun w1 S1 x1 => ?_⟩
    dsimp only
    rw [if_pos rfl]
    exact ⟨w1, m1, rfl, P.step S1 x1, Res.sat_mono q1 fun r m2 q2 w2 v2 S2 x2 r2 => q2 w2 v2 S2 (x1.trans x2) r2⟩
  · refine ⟨false, rfl, fun w1 S1 x1 => ?_⟩
    dsimp only
    rw [if_neg (by decide)]
    exact ⟨w1, m1, rfl, P.step S1 x1, Res.sat_mono q1 fun r m2 q2 w2 v2 S2 x2 r2 => q2 w2 v2 S2 (x1.trans x2) r2⟩
  · exact q1.elim
theorem rd_chain {f g : Op} {a b c : E} {r r' : R2} (ok : OpOk2 C.G f r) (ok' : OpOk2 C.G g r') {σ : St} {H : Hp} {Q : VK} (h : rdE C (evE cal (.ch f g a b c)) σ H Q) : tChain r r' (rdD C (opdF (evE cal a))) (rdD C (opdF (evE cal b))) (rdD C (opdF (evE cal c))) σ H Q := by
  obtain ⟨w, m, e, P, q⟩ := h
  rw [evE, Res.sat_bind] at q
  refine ⟨w, m, e, P, ?_⟩
  rw [opdF, Res.sat_bind]
  refine Res.sat_mono q fun ra m1 q1 w1 v1 S1 x1 r1 => ?_
  rw [Res.sat_bind] at q1
  refine ⟨w1, m1, rfl, P.step S1 x1, ?_⟩
  rw [opdF, Res.sat_bind]
  refine Res.sat_mono q1 fun rb m2 q2 w2 v2 S2 x2 r2 => ?_
  rw [Res.sat_bind] at q2
  obtain ⟨ts, res, h1, h2, h3⟩ := opR_sat q2
  obtain ⟨t1, t2, rfl, g1, g2⟩ := ders2 h1
  have r1' := r1.mono x2.mo
  refine ok w2 m2 σ t1 t2 v1 v2 res _ S2 (S2.der r1' g1) (S2.der r2 g2) h2 fun w3 v3 S3 x3 r3 => ?_
  split at h3
  · cases r3
    refine ⟨true, rfl, ?_⟩
    rw [if_pos rfl]
    rw [Res.sat_bind] at h3
    refine ⟨w3, m2, rfl, (P.step S1 x1).step S3 (x2.trans x3), ?_⟩
    rw [opdF, Res.sat_bind]
    refine Res.sat_mono h3 fun rc m4 q4 w4 v4 S4 x4 r4 => ?_
    obtain ⟨us, res', h1', h2', h3'⟩ := opR_sat q4
    obtain ⟨u1, u2, rfl, g1', g2'⟩ := ders2 h1'
    exact ok' w4 m4 σ u1 u2 v2 v4 res' Q S4 (S4.der ((r2.mono x3.mo).mono x4.mo) g1') (S4.der r4 g2') h2' fun w' v S' x' r' => h3' w' v S' (x1.trans (x2.trans (x3.trans (x4.trans x')))) r'
  · cases r3
    refine ⟨false, rfl, ?_⟩
    rw [if_neg (by decide)]
    exact h3 w3 (.bl false) S3 (x1.trans (x2.trans x3)) (.bl false)
  · exact h3.elim
theorem n_chain {ex ea eb ec : Expr} {f g : Op} {a b c : E} {r r' : R2} (hp : ∀ ta tb tc, PE X ea ta → PE X eb tb → PE X ec tc → PE X ex (tChain r r' ta tb tc)) (ok : OpOk2 C.G f r) (ok' : OpOk2 C.G g r')
    (ha : PE X ea (rdE C (evE cal a))) (hb : PE X eb (rdE C (evE cal b))) (hc : PE X ec (rdE C (evE cal c))) : PE X ex (rdE C (evE cal (.ch f g a b c))) := PE.imp (hp _ _ _ (pe_opd ha) (pe_opd hb) (pe_opd hc)) fun σ H Q q => rd_chain ok ok' q
/-! tests -/
theorem rd_bool {a : E} {σ : St} {H : Hp} {Q : Bool → Hp → Prop} (h : rdB C (evE cal a) σ H Q) : rdE C (evE cal a) σ H fun x H1 => ∃ c, x = .bl c ∧ Q c H1 := by
  obtain ⟨w, m, e, P, q⟩ := h
  refine ⟨w, m, e, P, Res.sat_mono q fun r m1 ⟨k, hk, q1⟩ w1 v1 S1 x1 r1 => ?_⟩
  subst hk
  cases r1
  exact ⟨k, rfl, q1 w1 S1 x1⟩
theorem t_val {ex : Expr} {a : E} (hp : ∀ t, PE X ex t → PT X ex (tB t)) (h : PE X ex (rdE C (evE cal a))) : PT X ex (rdB C (evE cal a)) := PT.imp (hp _ h) fun σ H Q q => rd_bool q
theorem t_op2 {ex ea eb : Expr} {f : Op} {a b : E} {r : R2} (hp : ∀ ta tb, PE X ea ta → PE X eb tb → PT X ex (tTest (tOp r ta tb))) (ok : OpOk2 C.G f r) (ha : PE X ea (rdE C (evE cal a))) (hb : PE X eb (rdE C (evE cal b))) :
    PT X ex (rdB C (evE cal (.op f (.cons a (.cons b .nil))))) := PT.imp (hp _ _ (pe_opd ha) (pe_opd hb)) fun σ H Q q => rd_op2 ok (rd_bool q)
theorem t_chain {ex ea eb ec : Expr} {f g : Op} {a b c : E} {r r' : R2} (hp : ∀ ta tb tc, PE X ea ta → PE X eb tb → PE X ec tc → PT X ex (tTest (tChain r r' ta tb tc))) (ok : OpOk2 C.G f r) (ok' : OpOk2 C.G g r')
    (ha : PE X ea (rdE C (evE cal a))) (hb : PE X eb (rdE C (evE cal b))) (hc : PE X ec (rdE C (evE cal c))) : PT X ex (rdB C (evE cal (.ch f g a b c))) := PT.imp (hp _ _ _ (pe_opd ha) (pe_opd hb) (pe_opd hc)) fun σ H Q q => rd_chain ok ok' (rd_bool q)
theorem t_not {ex ea : Expr} {a : E} (hp : ∀ ta, PT X ea ta → PT X ex (tNot ta)) (h : PT X ea (rdB C (evE cal a))) : PT X ex (rdB C (evE cal (.nt a))) := PT.imp (hp _ h) fun σ H Q ⟨w, m, e, P, q⟩ => by
  rw [evE, Res.sat_bind] at q
  refine ⟨w, m, e, P, Res.sat_mono q fun r m1 q1 => ?_⟩
  split at q1
  · rename_i k
    obtain ⟨k', hk, q1⟩ := q1
    cases hk
    exact ⟨k, rfl, q1⟩
  · exact q1.elim
end
end Mi
set_option maxHeartbeats 1000000
namespace Mi
open PySem PySem.Spec PyProof.Rows L2

noncomputable def Off (m : List Slot) (σ : St) (p : Addr) : Prop := ∀ (j : Nat) (o : O), m[j]? = some (.ow o) → σ[j]? ≠ some (some (.ref p))
noncomputable def Sub (m m1 : List Slot) : Prop := ∀ (j : Nat) (o : O), m1[j]? = some (.ow o) → m[j]? = some (.ow o)
noncomputable def Kept (w : Wd) (m : List Slot) (σ : St) (w1 : Wd) : Prop := ∀ p, w.L p → Off m σ p → w1.L p
theorem Off.sub {m m1 : List Slot} {σ : St} {p : Addr} (h : Off m σ p) (s : Sub m m1) : Off m1 σ p := fun j o e => h j o (s j o e)
theorem Sub.refl (m : List Slot) : Sub m m := fun _ _ h => h
theorem Sub.trans {a b c : List Slot} (x : Sub a b) (y : Sub b c) : Sub a c := fun j o h => x j o (y j o h)
theorem Sub.setNo {m : List Slot} {i : Nat} : Sub m (m.set i .no) := fun j o h => by
  by_cases e : j = i
  · subst e
    by_cases lt : j < m.length
    · rw [List.getElem?_set_self lt] at h; cases h
    · rw [List.getElem?_eq_none (by rw [List.length_set]; omega)] at h; cases h
  · rwa [List.getElem?_set_ne (Ne.symm e)] at h
theorem Sub.setFz {m : List Slot} {i : Nat} {t : T} : Sub m (m.set i (.fz t)) := fun j o h => by
  by_cases e : j = i
  · subst e
    by_cases lt : j < m.length
    · rw [List.getElem?_set_self lt] at h; cases h
    · rw [List.getElem?_eq_none (by rw [List.length_set]; omega)] at h; cases h
  · rwa [List.getElem?_set_ne (Ne.symm e)] at h
section
variable {G : Gm} {w w' : Wd} {m m' : List Slot} {σ : St}
theorem esc_sub {d : Opd} {t : T} (h : esc m d = some (t, m')) : Sub m m' := by
  cases d with
  | t t' => cases h; exact .refl _
  | b i =>
    cases e : m[i]? with
    | none => simp [esc, e] at h
    | some s =>
      cases s with
      | no => simp [esc, e] at h
      | fz t' =>
        simp only [esc, e, Option.some.injEq, Prod.mk.injEq] at h
        obtain ⟨_, rfl⟩ := h
        exact .refl _
      | ow o =>
        simp only [esc, e, Option.some.injEq, Prod.mk.injEq] at h
        obtain ⟨_, rfl⟩ := h
        exact .setFz
theorem SR.escK (S : SR G w m σ) {d : Opd} {v : V} {t : T} (r : RD G w σ d v) (h : Mi.esc m d = some (t, m')) : ∃ w', w'.H = w.H ∧ SR G w' m' σ ∧ Ex w w' ∧ RF G w' t v ∧ Kept w m σ w' := by
  cases d with
  | t t' =>
    cases h
    exact ⟨w, rfl, S, .refl w, r, fun _ l _ => l⟩
  | b i =>
    have r' : σ[i]? = some (some v) := r
    cases e : m[i]? with
    | none => simp [Mi.esc, e] at h
    | some s =>
      have q := S.sl i s e
      cases s with
      | no => simp [Mi.esc, e] at h
      | fz t' =>
        simp only [Mi.esc, e, Option.some.injEq, Prod.mk.injEq] at h
        obtain ⟨rfl, rfl⟩ := h
        obtain ⟨x, e1, e2⟩ := q
        rw [r'] at e1
        cases e1
        exact ⟨w, rfl, S, .refl w, e2, fun _ l _ => l⟩
      | ow o =>
        simp only [Mi.esc, e, Option.some.injEq, Prod.mk.injEq] at h
        obtain ⟨rfl, rfl⟩ := h
        obtain ⟨a, e1, _, _⟩ := q
        rw [r'] at e1
        cases e1
        obtain ⟨h1, h2, h3⟩ := S.frSlot e r'
        exact ⟨w.fr a, rfl, h1, h3, h2, fun p l f => ⟨l, fun z => f i o e (z ▸ r')⟩⟩
end
structure PR (G : Gm) (w : Wd) (m m1 : List Slot) (σ : St) (args : List Slot) (vs : List V) : Prop where
  len : args.length = vs.length
  sl : ∀ (k : Nat) (s : Slot), args[k]? = some s → SlR G w s (vs[k]?.map some)
  src : ∀ (k : Nat) (o : O) (b : Addr), args[k]? = some (.ow o) → vs[k]? = some (.ref b) → ∃ j : Nat, m[j]? = some (.ow o) ∧ σ[j]? = some (some (.ref b))
  inj : ∀ (k l : Nat) (o o' : O) (a : Addr), args[k]? = some (.ow o) → args[l]? = some (.ow o') → vs[k]? = some (.ref a) → vs[l]? = some (.ref a) → k = l
  off : ∀ (k : Nat) (o : O) (a : Addr), args[k]? = some (.ow o) → vs[k]? = some (.ref a) → Off m1 σ a
section
variable {G : Gm} {σ : St}
theorem SlR.mono {w w' : Wd} {s : Slot} {v : Option (Option V)} (h : SlR G w s v) (mo : Mo w w') (k : ∀ o a, s = .ow o → v = some (some (.ref a)) → w'.H a = w.H a ∧ w'.L a) : SlR G w' s v := by
  cases s with
  | no => trivial
  | fz t => obtain ⟨x, e, r⟩ := h; exact ⟨x, e, RF.mono mo r⟩
  | ow o =>
    obtain ⟨a, e, r, l⟩ := h
    obtain ⟨k1, k2⟩ := k o a rfl e
    exact ⟨a, e, r.mono mo k1, k2⟩
theorem SR.pass : ∀ {io : List Bool} {ds : List Opd} {vs : List V} {w : Wd} {m m1 args : List Slot}, SR G w m σ → RDs G w σ ds vs → Mi.pass m io ds = some (args, m1) →
    ∃ w1, w1.H = w.H ∧ Ex w w1 ∧ SR G w1 m1 σ ∧ PR G w1 m m1 σ args vs ∧ Kept w m σ w1 ∧ Sub m m1
  | [], _, _, w, m, _, _, S, .nil, h => by
    cases h
    exact ⟨w, rfl, .refl w, S, ⟨rfl, fun k s e => by simp at e, fun k o b e => by simp at e, fun k l o o' a e => by simp at e, fun k o a e => by simp at e⟩, fun _ l _ => l, .refl _⟩
  | [], _, _, _, _, _, _, _, .cons _ _, h => by cases h
  | true :: _, _, _, _, _, _, _, _, .nil, h => by cases h
  | false :: _, _, _, _, _, _, _, _, .nil, h => by cases h
  | false :: io, _, _, w, m, m1, args, S, .cons (d := d) (v := v) (ds := ds) (vs := vs) a b, h => by
    unfold Mi.pass at h
    cases h1 : Mi.esc m d with
    | none => rw [h1] at h; cases h
    | some p =>
      obtain ⟨t, m2⟩ := p
      rw [h1] at h
      simp only at h
      cases h2 : Mi.pass m2 io ds with
      | none => rw [h2] at h; cases h
      | some p2 =>
        obtain ⟨ss, m3⟩ := p2
        rw [h2] at h
        cases h
        obtain ⟨w1, e1, S1, x1, r1, k1⟩ := S.escK a h1
        obtain ⟨w2, e2, x2, S2, pr, k2, sb⟩ := SR.pass S1 (b.mono x1.mo) h2
        have sb1 := esc_sub h1
        refine ⟨w2, e2.trans e1, x1.trans x2, S2, ⟨congrArg Nat.succ pr.len, fun k s e => ?_, fun k o c e q => ?_, fun k l o o' c e1 e2 q1 q2 => ?_, fun k o c e q => ?_⟩, fun p l f => k2 p (k1 p l f) (f.sub sb1), sb1.trans sb⟩
        · cases k with
          | zero =>
            have e' : Slot.fz t = s := by simpa using e
            subst e'
            exact ⟨v, rfl, RF.mono x2.mo r1⟩
          | succ k => exact pr.sl k s (by simpa using e)
        · cases k with
          | zero => simp at e
          | succ k =>
            obtain ⟨j, q1, q2⟩ := pr.src k o c (by simpa using e) (by simpa using q)
            exact ⟨j, sb1 j o q1, q2⟩
        · cases k with
          | zero => simp at e1
          | succ k =>
            cases l with
            | zero => simp at e2
            | succ l => exact congrArg Nat.succ (pr.inj k l o o' c (by simpa using e1) (by simpa using e2) (by simpa using q1) (by simpa using q2))
        · cases k with
          | zero => simp at e
          | succ k => exact pr.off k o c (by simpa using e) (by simpa using q)
  | true :: io, _, _, w, m, m1, args, S, .cons (d := d) (v := v) (ds := ds) (vs := vs) a b, h => by
    cases d with
    | t t => cases h
    | b i =>
      have a' : σ[i]? = some (some v) := a
      unfold Mi.pass at h
      cases e0 : m[i]? with
      | none => rw [e0] at h; cases h
      | some s =>
        cases s with
        | no => rw [e0] at h; cases h
        | fz t => rw [e0] at h; cases h
        | ow o0 =>
          rw [e0] at h
          simp only at h
          cases h2 : Mi.pass (m.set i .no) io ds with
          | none => rw [h2] at h; cases h
          | some p2 =>
            obtain ⟨ss, m3⟩ := p2
            rw [h2] at h
            cases h
            have S1 : SR G w (m.set i .no) σ := S.setNo
            obtain ⟨w2, e2, x2, S2, pr, k2, sb⟩ := SR.pass S1 b h2
            have sb1 : Sub m (m.set i .no) := .setNo
            obtain ⟨c0, ec0, r0, l0⟩ := S.sl i _ e0
            rw [a'] at ec0
            cases ec0
            have lt := (List.getElem?_eq_some_iff.mp e0).1
            have off0 : Off (m.set i .no) σ c0 := fun j o hj z => by
              have hm := sb1 j o hj
              have e := S.inj j i o o0 c0 hm e0 z a'
              subst e
              rw [List.getElem?_set_self lt] at hj
              cases hj
            refine ⟨w2, e2, x2, S2, ⟨congrArg Nat.succ pr.len, fun k s e => ?_, fun k o c e q => ?_, fun k l o o' c e1 e2 q1 q2 => ?_, fun k o c e q => ?_⟩, fun p l f => k2 p l (f.sub sb1), sb1.trans sb⟩
            · cases k with
              | zero =>
                have e' : Slot.ow o0 = s := by simpa using e
                subst e'
                exact ⟨c0, rfl, r0.mono x2.mo (by rw [e2]), k2 c0 l0 off0⟩
              | succ k => exact pr.sl k s (by simpa using e)
            · cases k with
              | zero =>
                have e' : Slot.ow o0 = Slot.ow o := by simpa using e
                cases e'
                have q' : (V.ref c0) = .ref c := by simpa using q
                cases q'
                exact ⟨i, e0, a'⟩
              | succ k =>
                obtain ⟨j, q1, q2⟩ := pr.src k o c (by simpa using e) (by simpa using q)
                exact ⟨j, sb1 j o q1, q2⟩
            · cases k with
              | zero =>
                cases l with
                | zero => rfl
                | succ l =>
                  have q' : (V.ref c0) = .ref c := by simpa using q1
                  cases q'
                  obtain ⟨j, z1, z2⟩ := pr.src l o' c0 (by simpa using e2) (by simpa using q2)
                  exact absurd z2 (off0 j o' z1)
              | succ k =>
                cases l with
                | zero =>
                  have q' : (V.ref c0) = .ref c := by simpa using q2
                  cases q'
                  obtain ⟨j, z1, z2⟩ := pr.src k o c0 (by simpa using e1) (by simpa using q1)
                  exact absurd z2 (off0 j o z1)
                | succ l => exact congrArg Nat.succ (pr.inj k l o o' c (by simpa using e1) (by simpa using e2) (by simpa using q1) (by simpa using q2))
            · cases k with
              | zero =>
                have q' : (V.ref c0) = .ref c := by simpa using q
                cases q'
                exact off0.sub sb
              | succ k => exact pr.off k o c (by simpa using e) (by simpa using q)
theorem SR.put {w : Wd} {m : List Slot} {i : Nat} {s : Slot} (S : SR G w m σ) (h : SlR G w s σ[i]?) (off : ∀ o a, s = .ow o → σ[i]? = some (some (.ref a)) → Off m σ a) : SR G w (m.set i s) σ := by
  have get : ∀ {j s'}, (m.set i s)[j]? = some s' → (j = i ∧ s' = s) ∨ (j ≠ i ∧ m[j]? = some s') := fun {j s'} hj => by
    by_cases e : j = i
    · subst e
      have lt := (List.getElem?_eq_some_iff.mp hj).1
      rw [List.length_set] at lt
      rw [List.getElem?_set_self lt] at hj
      cases hj
      exact .inl ⟨rfl, rfl⟩
    · rw [List.getElem?_set_ne (Ne.symm e)] at hj
      exact .inr ⟨e, hj⟩
  refine ⟨by rw [List.length_set]; exact S.len, fun j s' hj => ?_, fun j k o o' a h1 h2 e1 e2 => ?_, S.sep, S.trk⟩
  · rcases get hj with ⟨rfl, rfl⟩ | ⟨_, q⟩
    · exact h
    · exact S.sl j s' q
  · rcases get h1 with ⟨n1, q1⟩ | ⟨n1, q1⟩ <;> rcases get h2 with ⟨n2, q2⟩ | ⟨n2, q2⟩
    · rw [n1, n2]
    · subst n1
      exact absurd e2 (off o a q1.symm e1 k o' q2)
    · subst n2
      exact absurd e1 (off o' a q2.symm e2 j o q1)
    · exact S.inj j k o o' a q1 q2 e1 e2
theorem SR.back {w : Wd} : ∀ {io : List Bool} {ds : List Opd} {vs : List V} {outs m m2 : List Slot}, SR G w m σ → RDs G w σ ds vs →
    (∀ (k : Nat) (s : Slot), outs[k]? = some s → SlR G w s (vs[k]?.map some)) → (∀ (k l : Nat) (o o' : O) (a : Addr), outs[k]? = some (.ow o) → outs[l]? = some (.ow o') → vs[k]? = some (.ref a) → vs[l]? = some (.ref a) → k = l) →
    (∀ (k : Nat) (o : O) (a : Addr), outs[k]? = some (.ow o) → vs[k]? = some (.ref a) → Off m σ a) → Mi.back m io ds outs = some m2 →
    SR G w m2 σ ∧ ∀ p, Off m σ p → (∀ (k : Nat) (o : O), outs[k]? = some (.ow o) → vs[k]? ≠ some (.ref p)) → Off m2 σ p
  | [], _, _, outs, m, _, S, .nil, _, _, _, h => by
    simp only [Mi.back, Option.some.injEq] at h
    subst h
    exact ⟨S, fun p h _ => h⟩
  | [], _, _, _, _, _, _, .cons _ _, _, _, _, h => by simp [Mi.back] at h
  | true :: _, _, _, _, _, _, _, .nil, _, _, _, h => by simp [Mi.back] at h
  | false :: _, _, _, _, _, _, _, .nil, _, _, _, h => by simp [Mi.back] at h
  | io0 :: io, _, _, [], _, _, _, .cons (d := d) _ _, _, _, _, h => by
    cases io0 <;> cases d <;> cases h
  | false :: io, _, _, s :: outs, m, m2, S, .cons (d := d) (v := v) (ds := ds) (vs := vs) a b, sl, inj, off, h => by
    have h' : Mi.back m io ds outs = some m2 := by cases d <;> exact h
    obtain ⟨q1, q2⟩ := SR.back S b (fun k s e => sl (k + 1) s (by simpa using e)) (fun k l o o' a e1 e2 z1 z2 => Nat.succ.inj (inj (k + 1) (l + 1) o o' a (by simpa using e1) (by simpa using e2) (by simpa using z1) (by simpa using z2)))
      (fun k o a e z => off (k + 1) o a (by simpa using e) (by simpa using z)) h'
    exact ⟨q1, fun p f n => q2 p f fun k o e => n (k + 1) o (by simpa using e)⟩
  | true :: io, _, _, s :: outs, m, m2, S, .cons (d := d) (v := v) (ds := ds) (vs := vs) a b, sl, inj, off, h => by
    cases d with
    | t t => cases h
    | b i =>
      have a' : σ[i]? = some (some v) := a
      have h' : Mi.back (m.set i s) io ds outs = some m2 := h
      have S1 : SR G w (m.set i s) σ := S.put (by have := sl 0 s rfl; rw [a']; exact this) fun o p e z => by
        subst e
        rw [a'] at z
        cases z
        exact off 0 o p rfl rfl
      have offs : ∀ p, Off m σ p → (∀ o, s = .ow o → v ≠ .ref p) → Off (m.set i s) σ p := fun p f n j o hj z => by
        by_cases e : j = i
        · subst e
          have lt := (List.getElem?_eq_some_iff.mp hj).1
          rw [List.length_set] at lt
          rw [List.getElem?_set_self lt] at hj
          have hs : s = .ow o := Option.some.inj hj
          rw [a'] at z
          exact n o hs (Option.some.inj (Option.some.inj z))
        · rw [List.getElem?_set_ne (Ne.symm e)] at hj
          exact f j o hj z
      obtain ⟨q1, q2⟩ := SR.back S1 b (fun k s e => sl (k + 1) s (by simpa using e)) (fun k l o o' a e1 e2 z1 z2 => Nat.succ.inj (inj (k + 1) (l + 1) o o' a (by simpa using e1) (by simpa using e2) (by simpa using z1) (by simpa using z2)))
        (fun k o c e z => offs c (off (k + 1) o c (by simpa using e) (by simpa using z)) fun o' hs hv => by
          subst hs
          have := inj 0 (k + 1) o' o c rfl (by simpa using e) (by simpa using hv) (by simpa using z)
          cases this) h'
      refine ⟨q1, fun p f n => q2 p (offs p f fun o hs hv => n 0 o (by simpa using hs) (by simpa using hv)) fun k o e => n (k + 1) o (by simpa using e)⟩
end
end Mi
set_option maxHeartbeats 1000000
namespace Mi
open PySem PySem.Spec PyProof.Rows L2

noncomputable def RX (G : Gm) (w : Wd) (x : T) (cls : Value) (d : Option Addr) : Prop := ∃ c fs dx gs, x = .ins c fs ∧ cls = .ref (G.cls c) ∧ d = some dx ∧ w.H dx = some (.xd gs) ∧ RFf G w fs gs
theorem RX.mono {G : Gm} {w w' : Wd} {x : T} {cls : Value} {d : Option Addr} (h : RX G w x cls d) (mo : Mo w w') (e : w'.H = w.H) : RX G w' x cls d := by
  obtain ⟨c, fs, dx, gs, h1, h2, h3, h4, h5⟩ := h
  exact ⟨c, fs, dx, gs, h1, h2, h3, by rw [e]; exact h4, RFf.mono mo h5⟩
noncomputable def WM (C : Ct) : WX := fun cls d σ H => ∃ w m x, w.H = H ∧ Pre C w m σ ∧ RX C.G w x cls d ∧ C.EM x m
noncomputable def spM (G : Gm) (cal : Nat → List Slot → CRes) (f : Nat) : Sp := fun vs H Q E => ∃ w args, w.H = H ∧ SR G w args (vs.map some) ∧ match cal f args with
  | .ok r outs => ∀ w' v, SR G w' outs (vs.map some) → Ex w w' → RR G w' outs (vs.map some) r v → Q v w'.H
  | .ex x outs => ∀ w' cls d, SR G w' outs (vs.map some) → Ex w w' → RX G w' x cls d → E cls d w'.H
  | .no => False
theorem mo_same {w w' : Wd} (f : w'.F = w.F) (h : w'.H = w.H) : Mo w w' := ⟨fun a x => by rw [f]; exact x, fun a _ => by rw [h]; exact .refl _⟩
theorem getM {vs : List V} {k : Nat} {a : V} : (vs.map some)[k]? = some (some a) ↔ vs[k]? = some a := by
  rw [List.getElem?_map]
  cases vs[k]? <;> simp
structure PQ (G : Gm) (w : Wd) (m1 : List Slot) (σ : St) (args : List Slot) (vs : List V) : Prop where
  len : args.length = vs.length
  sl : ∀ (k : Nat) (s : Slot), args[k]? = some s → SlR G w s (vs[k]?.map some)
  inj : ∀ (k l : Nat) (o o' : O) (a : Addr), args[k]? = some (.ow o) → args[l]? = some (.ow o') → vs[k]? = some (.ref a) → vs[l]? = some (.ref a) → k = l
  off : ∀ (k : Nat) (o : O) (a : Addr), args[k]? = some (.ow o) → vs[k]? = some (.ref a) → Off m1 σ a
theorem PR.q {G : Gm} {w : Wd} {m m1 : List Slot} {σ : St} {args : List Slot} {vs : List V} (p : PR G w m m1 σ args vs) : PQ G w m1 σ args vs := ⟨p.len, p.sl, p.inj, p.off⟩
noncomputable def callW (w : Wd) (args : List Slot) (vs : List V) : Wd := ⟨w.F, fun a => ∃ (k : Nat) (o : O), args[k]? = some (.ow o) ∧ vs[k]? = some (.ref a), w.H⟩
noncomputable def backW (w w' : Wd) (args : List Slot) (vs : List V) : Wd := ⟨w'.F, fun a => (w.L a ∧ ¬ (callW w args vs).L a ∧ ∃ u, w.H a = some u) ∨ w'.L a, w'.H⟩
section
variable {G : Gm} {σ : St} {w w' : Wd} {m m1 args outs : List Slot} {vs : List V}
theorem PQ.call (pr : PQ G w m1 σ args vs) (S : SR G w m1 σ) : SR G (callW w args vs) args (vs.map some) := by
  have mo : Mo w (callW w args vs) := mo_same rfl rfl
  have inL : ∀ a, (callW w args vs).L a → w.L a := fun a ⟨k, o, e, q⟩ => by
    obtain ⟨b, e1, _, l⟩ := pr.sl k _ e
    rw [q] at e1
    cases e1
    exact l
  refine ⟨by rw [List.length_map]; exact pr.len, fun k s e => ?_, fun k l o o' a e1 e2 q1 q2 => pr.inj k l o o' a e1 e2 (getM.mp q1) (getM.mp q2), fun a l => S.sep a (inL a l), S.trk⟩
  rw [List.getElem?_map]
  refine (pr.sl k s e).mono mo fun o a hs hv => ⟨rfl, k, o, by rw [← hs]; exact e, ?_⟩
  cases hv' : vs[k]? with
  | none => rw [hv'] at hv; cases hv
  | some v => rw [hv'] at hv; cases hv; rfl
theorem call_inL (pr : PQ G w m1 σ args vs) : ∀ a, (callW w args vs).L a → w.L a := fun a ⟨k, o, e, q⟩ => by
  obtain ⟨b, e1, _, l⟩ := pr.sl k _ e
  rw [q] at e1
  cases e1
  exact l
theorem call_ex (pr : PQ G w m1 σ args vs) (x : Ex (callW w args vs) w') : Ex w (backW w w' args vs) :=
  ⟨x.fz, x.kp, fun a u h1 h2 h3 => by
    obtain ⟨q1, q2, q3⟩ := x.ot a u h1 h2 fun z => h3 (call_inL pr a z)
    exact ⟨q1, q2, fun z => z.elim (fun z => h3 z.1) q3⟩⟩
theorem call_slot (pr : PQ G w m1 σ args vs) (S : SR G w m1 σ) (x : Ex (callW w args vs) w') {j : Nat} {o : O} {a : Addr} (h : m1[j]? = some (.ow o)) (e : σ[j]? = some (some (.ref a))) :
    w.L a ∧ ¬ (callW w args vs).L a ∧ (∃ u, w.H a = some u) ∧ w'.H a = w.H a ∧ ¬ w'.L a ∧ RO G w a o := by
  obtain ⟨b, e1, r, l⟩ := S.sl j _ h
  rw [e] at e1
  cases e1
  obtain ⟨u, hu⟩ := r.trk
  have np : ¬ (callW w args vs).L a := fun ⟨k, o', e', q⟩ => pr.off k o' a e' q j o h e
  obtain ⟨q1, q2, q3⟩ := x.ot a u hu (S.sep a l) np
  exact ⟨l, np, ⟨u, hu⟩, by rw [q1]; exact hu.symm, q3, r⟩
theorem call_back (pr : PQ G w m1 σ args vs) (S : SR G w m1 σ) (x : Ex (callW w args vs) w') (S' : SR G w' outs (vs.map some)) : SR G (backW w w' args vs) m1 σ := by
  have mo : Mo w (backW w w' args vs) := ⟨x.fz, x.kp⟩
  refine ⟨S.len, fun j s h => ?_, S.inj, fun a l f => ?_, S'.trk⟩
  · refine (S.sl j s h).mono mo fun o a hs hv => ?_
    subst hs
    obtain ⟨q1, q2, q3, q4, _, _⟩ := call_slot pr S x h hv
    exact ⟨q4, .inl ⟨q1, q2, q3⟩⟩
  · rcases l with ⟨l, np, u, hu⟩ | l
    · exact (x.ot a u hu (S.sep a l) np).2.1 f
    · exact S'.sep a l f
theorem call_off (pr : PQ G w m1 σ args vs) (S : SR G w m1 σ) (x : Ex (callW w args vs) w') {p : Addr} (l : w'.L p) : Off m1 σ p := fun j o h e => (call_slot pr S x h e).2.2.2.2.1 l
end

section
variable {C : Ct} {X : Cx} {cal : Nat → List Slot → CRes}
theorem callR_sat {f : Nat} {io : List Bool} {ds : List Opd} {m : List Slot} {A : R → List Slot → Prop} {B : T → List Slot → Prop} (h : (callR cal f io ds m).sat A B) :
    ∃ args m1, pass m io ds = some (args, m1) ∧ ((∃ r outs m2, cal f args = .ok r outs ∧ (∀ i, r ≠ .bo i) ∧ back m1 io ds outs = some m2 ∧ A r m2) ∨ ∃ x outs m2, cal f args = .ex x outs ∧ back m1 io ds outs = some m2 ∧ B x m2) := by
  unfold callR at h
  cases h1 : pass m io ds with
  | none => rw [h1] at h; exact h.elim
  | some p =>
    obtain ⟨args, m1⟩ := p
    rw [h1] at h
    simp only at h
    refine ⟨args, m1, rfl, ?_⟩
    cases h2 : cal f args with
    | no => rw [h2] at h; exact h.elim
    | ok r outs =>
      rw [h2] at h
      cases r with
      | bo i => exact h.elim
      | fz t =>
        simp only at h
        cases h3 : back m1 io ds outs with
        | none => rw [h3] at h; exact h.elim
        | some m2 => rw [h3] at h; exact .inl ⟨_, outs, m2, rfl, (fun _ z => nomatch z), h3, h⟩
      | ow o =>
        simp only at h
        cases h3 : back m1 io ds outs with
        | none => rw [h3] at h; exact h.elim
        | some m2 => rw [h3] at h; exact .inl ⟨_, outs, m2, rfl, (fun _ z => nomatch z), h3, h⟩
    | ex x outs =>
      rw [h2] at h
      simp only at h
      cases h3 : back m1 io ds outs with
      | none => rw [h3] at h; exact h.elim
      | some m2 => rw [h3] at h; exact .inr ⟨x, outs, m2, rfl, h3, h⟩
theorem call_core {f : Nat} {io : List Bool} {ds : List Opd} {vs : List V} {w : Wd} {m : List Slot} {σ : St} {Q : VK} (P : Pre C w m σ) (r : RDs C.G w σ ds vs)
    (h : (callR cal f io ds m).sat (fun r m' => ∀ w' v, SR C.G w' m' σ → Ex w w' → RR C.G w' m' σ r v → Q v w'.H) C.EM) : spM C.G cal f vs w.H Q (fun cls d H => WM C cls d σ H) := by
  obtain ⟨args, m1, hp, h⟩ := callR_sat h
  obtain ⟨w1, e1, x1, S1, pr, _, sb⟩ := SR.pass P.sr r hp
  replace pr := pr.q
  refine ⟨callW w1 args vs, args, e1, pr.call S1, ?_⟩
  rcases h with ⟨r0, outs, m2, hc, nb, hb, k⟩ | ⟨x0, outs, m2, hc, hb, k⟩
  · rw [hc]
    intro w' v S' x' rr
    have S3 := call_back pr S1 x' S'
    have x3 := call_ex pr x'
    have same : Mo w' (backW w1 w' args vs) := mo_same rfl rfl
    obtain ⟨S4, off4⟩ := SR.back S3 (r.mono (x1.trans x3).mo) (fun k s e => by
        have := S'.sl k s e
        rw [List.getElem?_map] at this
        exact this.mono same fun o a hs hv => ⟨rfl, .inr (by
          subst hs
          obtain ⟨b, e1, _, l⟩ := S'.sl k _ e
          rw [List.getElem?_map, hv] at e1
          cases e1
          exact l)⟩)
      (fun k l o o' a e1 e2 z1 z2 => S'.inj k l o o' a e1 e2 (getM.mpr z1) (getM.mpr z2))
      (fun k o a e z => by
        obtain ⟨b, e1, _, l⟩ := S'.sl k _ e
        rw [getM.mpr z] at e1
        cases e1
        exact call_off pr S1 x' l) hb
    refine k (backW w1 w' args vs) v S4 (x1.trans x3) ?_
    cases r0 with
    | fz t => exact RF.mono same rr
    | bo i => exact absurd rfl (nb i)
    | ow o =>
      obtain ⟨p, rfl, ro, l, n⟩ := rr
      refine ⟨p, rfl, ro.mono same rfl, .inr l, off4 p (call_off pr S1 x' l) fun k o' e z => n k o' e (getM.mpr z)⟩
  · rw [hc]
    intro w' cls d S' x' rx
    have S3 := call_back pr S1 x' S'
    have x3 := call_ex pr x'
    have same : Mo w' (backW w1 w' args vs) := mo_same rfl rfl
    obtain ⟨S4, off4⟩ := SR.back S3 (r.mono (x1.trans x3).mo) (fun k s e => by
        have := S'.sl k s e
        rw [List.getElem?_map] at this
        exact this.mono same fun o a hs hv => ⟨rfl, .inr (by
          subst hs
          obtain ⟨b, e1, _, l⟩ := S'.sl k _ e
          rw [List.getElem?_map, hv] at e1
          cases e1
          exact l)⟩)
      (fun k l o o' a e1 e2 z1 z2 => S'.inj k l o o' a e1 e2 (getM.mpr z1) (getM.mpr z2))
      (fun k o a e z => by
        obtain ⟨b, e1, _, l⟩ := S'.sl k _ e
        rw [getM.mpr z] at e1
        cases e1
        exact call_off pr S1 x' l) hb
    exact ⟨backW w1 w' args vs, m2, x0, rfl, P.step S4 (x1.trans x3), rx.mono same rfl, k⟩
noncomputable def tCallM (C : Ct) (cal : Nat → List Slot → CRes) (f : Nat) (t : TA) : TE := fun σ H Q => t σ H fun vs H1 => spM C.G cal f vs H1 Q (fun cls d H => WM C cls d σ H)
theorem n_call {ex : Expr} {exs : List Expr} {f : Nat} {io : List Bool} {es : Es} (hp : ∀ t, PA X exs t → PE X ex (tCallM C cal f t)) (h : PA X exs (rdDs C (evDs cal es))) : PE X ex (rdE C (evE cal (.call f io es))) :=
  PE.imp (hp _ h) fun σ H Q ⟨w, m, e, P, q⟩ => by
  rw [evE, Res.sat_bind] at q
  refine ⟨w, m, e, P, Res.sat_mono q fun ds m1 q1 w1 vs S1 x1 r1 => ?_⟩
  exact call_core (P.step S1 x1) r1 (Res.sat_mono q1 fun r m2 k w' v S' x' rr => k w' v S' (x1.trans x') rr)
end
end Mi
set_option maxHeartbeats 2000000
namespace MiP
open PySem PySem.Spec PyProof.Rows
theorem meets_enum1 {v : Value} {o : Obj} {H : Heap → Prop} (B : Begins v o H) :
    Meets (Builtin.«enumerate.__new__» ⟨[.type "enumerate", v], []⟩) (fun _ R s => H s.heap ∧
      R (.ok (.ret (.ref (s.heap.push o).objs.size))) { s with heap := (s.heap.push o).push { cls := .type "enumerate", data := .fields #[.none, .bool false, .ref s.heap.objs.size, rawInt 0, .none, .none] } }) :=
  .of_wp fun prog w A R s h => by
    obtain ⟨hp, g, d, tk, os⟩ := s; obtain ⟨h1, h⟩ := h
    have hsub := sub_enumerate
    have q1 : ∀ {A' : Around} {E : Value → Shared → Prop} {Q : Value → Shared → Prop}, Q (.ref hp.objs.size) ⟨hp.push o, g, d, tk, os⟩ → wpAny (model prog w) A' (pyIter v) Q E ⟨hp, g, d, tk, os⟩ :=
      fun q => B.iter prog w _ _ ⟨hp, g, d, tk, os⟩ _ h1 q
    wp_walk using q1
    refine wpAny_stack_any fun st => wpAny_pure ?_
    split
    · rename_i c _ _ _ _ _
      cases (c == Value.type "enumerate")
      · wp_walk using q1
        exact ⟨_, rfl, h⟩
      · wp_walk using q1
        exact ⟨_, rfl, h⟩
    · wp_walk using q1
      exact ⟨_, rfl, h⟩
section
variable {prog : Program} {w : World} {A : Around} {E : Value → Shared → Prop} {s : Shared}
theorem enum_begins1 {v : Value} {o : Obj} {H : Heap → Prop} {Q : Value → Shared → Prop} (B : Begins v o H) (h1 : H s.heap)
    (h : ∀ h', IsEnum h' (s.heap.objs.size + 1) s.heap.objs.size 0 .none → h'.get? s.heap.objs.size = some o → h'.objs.size = s.heap.objs.size + 2 →
      (∀ b o, s.heap.get? b = some o → h'.get? b = some o) → Q (.ref (s.heap.objs.size + 1)) { s with heap := h' }) :
    wpAny (model prog w) A (call (.type "enumerate") [v]) Q E s := by
  refine callType_new F.called_enumerate (by decide) (F.typeCall_enumerate_1 _) (F.newCall_enumerate_1 _) (fun obj => F.args_object_init_2 obj _) F.entry_enumerate_new (meets_enum1 B) ⟨h1, ?_⟩
  have hz : (s.heap.push o).objs.size = s.heap.objs.size + 1 := Heap.size_push ..
  show _ ∧ _
  rw [hz]
  have he : IsEnum ((s.heap.push o).push { cls := .type "enumerate", data := .fields #[.none, .bool false, .ref s.heap.objs.size, rawInt 0, .none, .none] }) (s.heap.objs.size + 1) s.heap.objs.size 0 .none := by
    have := Heap.get?_push_size (s.heap.push o) (o := { cls := .type "enumerate", data := .fields #[.none, .bool false, .ref s.heap.objs.size, rawInt 0, .none, .none] }) rfl
    rw [hz] at this; exact this
  refine ⟨⟨_, he, rfl⟩, h _ he (Heap.get?_push_of_some _ (Heap.get?_push_size _ B.free)) (by rw [Heap.size_push, hz]) fun b o x => Heap.get?_push_of_some _ (Heap.get?_push_of_some _ x)⟩
theorem next_enum_tup_end {e it t : Addr} {j : Nat} {items : Array Value} {i : Int} {old : Value} {Q : Option Value → Shared → Prop} (hh : A.handled = none)
    (he : IsEnum s.heap e it i old) (hit : s.heap.IsTupleIter it t j) (hl : s.heap.IsTuple t items) (hx : items[j]? = none)
    (hQ : ∀ h', Heap.ExtBut it s.heap h' → Q none { s with heap := h' }) : wpAny (model prog w) A (pyNext (.ref e)) Q E s := by
  have hT : s.TypeIs (.ref e) "enumerate" := ⟨_, he, rfl⟩
  unfold pyNext
  refine wpAny_bind (wpAny_attempt (wpAny_callSpecial?_slot (name := Str.ofString "__next__") hT F.slot_enumerate_next
    (wpAny_call_entry F.slot_enumerate_next hT F.entry_enumerate_next ?_ (F.args_enumerate_next_1 _))))
  show wpAny _ _ (field (.ref e) 2 >>= _) _ _ _
  refine wpAny_bind (wpAny_field he rfl (x := .ref it) rfl ?_)
  refine wpAny_bind (wpAny_nextOf_tuple_end hh hit hl hx fun h' x he' hx' => ?_)
  obtain ⟨o, ho, hc⟩ := hx'
  refine wpAny_bind (wpAny_isInstance (T := "StopIteration") (b := true) ⟨o, ho, hc⟩ isSubtype_stop ?_)
  exact wpAny_pure (hQ _ he')
end
end MiP
namespace Mi
open PySem PySem.Spec PyProof.Rows L2
noncomputable def IteT (K : PySem.W.Frag) (a : Addr) : It :=
  ⟨fun i H => ∃ (xs : List V) (x : V), SqT K H a xs ∧ xs[i]? = some x, fun i H v H' => ∃ T x, v = .ref T ∧ H T = none ∧ H' = upd H T (.tup [.int (i : Nat), x]) ∧ ∀ xs, SqT K H a xs → xs[i]? = some x, fun i H => ∃ xs : List V, SqT K H a xs ∧ xs.length ≤ i⟩
theorem turn_enumT {P : Program} {w : World} {K : PySem.W.Frag} {elts : List Expr} {kk : Nat} {tpos : Pos} (a e it : Addr) :
    Turn P w K (.Tuple elts kk tpos) (IteT K a) [e, it] e (fun i h => (∃ old, IsEnum h e it ((i : Nat) : Int) old) ∧ h.IsTupleIter it a i ∧ e ≠ it ∧ a ≠ it ∧ e ≠ a) where
  mem := by simp
  obj := fun i h st b hb => by
    obtain ⟨⟨old, he⟩, ⟨o, ho, hc, hd⟩, _⟩ := st
    have e' : b = e ∨ b = it := by simpa using hb
    rcases e' with z | z
    · rw [z]; exact ⟨_, he, fun v q => nomatch q⟩
    · rw [z]; exact ⟨o, ho, fun v q => by rw [hd] at q; cases q⟩
  keep := fun i h h' st k => let ⟨⟨old, he⟩, hi, hne⟩ := st; ⟨⟨old, k e (by simp) _ he⟩, hi.at fun o q => k it (by simp) o q, hne⟩
  item := by
    intro X hP hw hK hc i pins s σ H E I hf st hg
    subst hP hw hK
    obtain ⟨⟨old, he⟩, hit, hne, hna, hea⟩ := st
    obtain ⟨xs, x, hq, hx⟩ := hg
    obtain ⟨its, rv, p, hz⟩ := I.tuple hq
    obtain ⟨u, hu, ru⟩ := rv.get hx
    have hel : e < s.heap.objs.size := Heap.lt_size he
    have hil : it < s.heap.objs.size := by obtain ⟨_, q, _⟩ := hit; exact Heap.lt_size q
    have hlt : i < its.toArray.size := by have := (List.getElem?_eq_some_iff.mp hu).1; simpa using this
    refine wpAny_pyNext_enum_itemD (Draws.tuple (A := X.A.in1) (show X.A.in1.handled = none from I.ok.hd hc) it a hna its.toArray) he ⟨hit, p⟩ hlt hne (by simp [hne, hea]) fun x1 h' tk hx1 ho hst' hT hsz hk => ?_
    have ex : x1 = u := by
      have : its[i]? = some x1 := by simpa using hx1
      rw [hu] at this
      exact (Option.some.inj this).symm
    subst ex
    have e1 : ((i + 1 : Nat) : Int) = (i : Int) + 1 := by omega
    refine ⟨_, rfl, wpAny_letOwnedTupleGo_enum (s := { s with heap := h', toks := tk + 1 }) ho fun h'' he' sb => ?_⟩
    have hT2 : h''.get? s.heap.objs.size = some { cls := .type "tuple", data := .seq #[.int i tk, x1] } := (sb.2 _ (Nat.ne_of_gt hel)).trans hT
    have new : ObjOk X.prog X.w (upd H s.heap.objs.size (.tup [.int (i : Nat), x])) h'' s.heap.objs.size (.tup [.int (i : Nat), x]) :=
      ⟨by show 2 ≤ sizeLine; decide, [.int i tk, x1], .cons ⟨_, rfl⟩ (.cons ru .nil), ⟨_, hT2, rfl, _, rfl⟩⟩
    have I1 : Inv X pins σ (upd H s.heap.objs.size (.tup [.int (i : Nat), x])) { s with heap := h'', toks := tk + 1 } :=
      I.turnedNew (ch := [e, it]) (fun b ob hb q => (sb.2 b (fun z => hb (by simp [z]))).trans (hk b ob (fun z => hb (by simp [z])) (fun z => hb (by simp [z])) q)) hf (Nat.le_refl _) new
    refine ⟨.ref s.heap.objs.size, _, I1, rfl, ⟨_, x, rfl, I.hok.fresh (Nat.le_refl _), rfl, fun ys hy => by rw [I.tuple_inj hy hq]; exact hx⟩, ⟨⟨x1, ?_⟩, hst'.1.at fun o q => (sb.2 it (Ne.symm hne)).trans q, hne, hna, hea⟩, fun b hb => ?_⟩
    · rw [e1]; exact he'
    · have hb' : b < s.heap.objs.size := by
        have e' : b = e ∨ b = it := by simpa using hb
        rcases e' with z | z
        · rw [z]; exact hel
        · rw [z]; exact hil
      rw [upd_ne (Nat.ne_of_lt hb')]
      exact (hf b hb).1
  done := by
    intro X hP hw hK hc i pins s σ H E I hf st hg
    subst hP hw hK
    obtain ⟨⟨old, he⟩, hit, hne, hna, hea⟩ := st
    obtain ⟨xs, hq, hx⟩ := hg
    obtain ⟨its, rv, p, hz⟩ := I.tuple hq
    obtain ⟨f0, f1, f2, f3, f4, f5⟩ := hf it (by simp)
    have hl := rv.length
    exact MiP.next_enum_tup_end (A := X.A) (I.ok.hd hc) he hit p (by simp; omega) fun h' eb => ⟨rfl, I.turned (t' := s.toks) (fun b o hb q => eb b o hb q) f0 f1 f3 f4 f5⟩
  self := fun A i s Q E st h => let ⟨⟨_, he⟩, _⟩ := st; wpAny_pyIter_enum he h
noncomputable def iEnumT (K : PySem.W.Frag) (ta : TA) : TI := fun σ H R => ta σ H fun vs H1 => ∃ a xs, vs = [.ref a] ∧ ((SqL K H1 a xs ∧ R (Ite K a) H1) ∨ (SqT K H1 a xs ∧ R (IteT K a) H1))
theorem pi_enumT {X : Cx} {e : Expr} {ta : TA} {p pos tpos : Pos} {elts : List Expr} {kk : Nat} (hg : Gl X "enumerate") (hm : X.mg "enumerate" = none) (ha : PA X [e] ta) (hs : starEach [e] X.env = [(false, eval e X.env)] := by rfl) :
    PI X (.Tuple elts kk tpos) (.Call (.Name "enumerate" p) [e] [] pos) (iEnumT X.K ta) := by
  refine ⟨fun pins s σ H R I h => ?_⟩
  refine Call_ (ld_blt I hg hm boot_enumerate (PyProof.Rows.callWith_type1 (thn (ha.run pos pins s σ H _ I h) fun us s1 ⟨vs, H1, I1, r1, q1⟩ => ?_) hs rfl))
  obtain ⟨a, xs, ex, hq⟩ := q1
  subst ex
  cases r1 with
  | cons r rr =>
    cases rr
    cases r
    have hfp : ∀ b ∈ [s1.heap.objs.size + 1, s1.heap.objs.size], s1.heap.objs.size ≤ b := fun b hb => by
      have e' : b = s1.heap.objs.size + 1 ∨ b = s1.heap.objs.size := by simpa using hb
      rcases e' with z | z
      · rw [z]; exact Nat.le_add_right _ _
      · rw [z]; exact Nat.le_refl _
    rcases hq with ⟨hq, q⟩ | ⟨hq, q⟩
    · obtain ⟨its, rv, p', hz⟩ := I1.list hq
      refine call_enumerate_list p'.isList fun h' he hit hsz hk => wpAny_pyIter_enum he ?_
      have I2 : Inv X pins σ H1 { s1 with heap := h' } := I1.kept (t' := s1.toks) hk
      exact ⟨s1.heap.objs.size + 1, [s1.heap.objs.size + 1, s1.heap.objs.size], _, _, H1, rfl, I2, turn_enum a (s1.heap.objs.size + 1) s1.heap.objs.size, ⟨⟨.none, he⟩, hit, Nat.succ_ne_self _⟩, fun b hb => I1.fpOk (hfp b hb) (I1.hok.fresh (hfp b hb)), q⟩
    · obtain ⟨its, rv, p', hz⟩ := I1.tuple hq
      have pt : s1.heap.IsTuple a its.toArray := p'
      have hal : a < s1.heap.objs.size := by
        obtain ⟨o, ho, _⟩ := pt
        exact Heap.lt_size ho
      refine MiP.enum_begins1 (begins_tuple a its.toArray) pt fun h' he hit hsz hk => wpAny_pyIter_enum he ?_
      have I2 : Inv X pins σ H1 { s1 with heap := h' } := I1.kept (t' := s1.toks) hk
      exact ⟨s1.heap.objs.size + 1, [s1.heap.objs.size + 1, s1.heap.objs.size], _, _, H1, rfl, I2, turn_enumT a (s1.heap.objs.size + 1) s1.heap.objs.size, ⟨⟨.none, he⟩, ⟨_, hit, rfl, rfl⟩, Nat.succ_ne_self _, Nat.ne_of_lt hal, Nat.ne_of_gt (Nat.lt_succ_of_lt hal)⟩, fun b hb => I1.fpOk (hfp b hb) (I1.hok.fresh (hfp b hb)), q⟩
end Mi
set_option maxHeartbeats 1000000
namespace Mi
open PySem PySem.Spec PyProof.Rows L2

/-! ### patterns -/
mutual
noncomputable def Pt.sl : Pt → List Nat
  | .nm i => [i]
  | .tup ps => ps.sl
noncomputable def Pts.sl : Pts → List Nat
  | .nil => []
  | .cons p r => p.sl ++ r.sl
end
noncomputable def GP (G : Gm) (p : Pt) (g : TG) : Prop := ∀ (w : Wd) (m m' : List Slot) (σ : St) (x : T) (v : V) (Q : St → Hp → Prop), SR G w m σ → RF G w x v → bindP m p x = some m' → (∀ σ', SR G w m' σ' → (∀ j, j ∉ p.sl → σ'[j]? = σ[j]?) → σ'.length = σ.length → Q σ' w.H) → g v σ w.H Q
noncomputable def GPs (G : Gm) (p : Pts) (g : TGs) : Prop := ∀ (w : Wd) (m m' : List Slot) (σ : St) (xs : List T) (vs : List V) (Q : St → Hp → Prop), SR G w m σ → RFs G w xs vs → bindPs m p xs = some m' → (∀ σ', SR G w m' σ' → (∀ j, j ∉ p.sl → σ'[j]? = σ[j]?) → σ'.length = σ.length → Q σ' w.H) → g vs σ w.H Q
section
variable {G : Gm}
theorem gp_name {i : Nat} : GP G (.nm i) (gName i) := fun w m m' σ x v Q S r h k => by
  rw [bindP] at h
  split at h
  · cases h
    refine k _ (S.setFz r) (fun j hj => ?_) (List.length_set ..)
    rw [List.getElem?_set_ne]
    intro e
    subst e
    exact hj (by simp [Pt.sl])
  · cases h
theorem gps_nil : GPs G .nil gNil := fun w m m' σ xs vs Q S r h k => by
  cases r with
  | nil =>
    rw [bindPs] at h
    cases h
    exact ⟨rfl, k σ S (fun _ _ => rfl) rfl⟩
  | cons a b => simp [bindPs] at h
theorem gps_cons {p : Pt} {r : Pts} {g : TG} {u : TGs} (h1 : GP G p g) (h2 : GPs G r u) : GPs G (.cons p r) (gCons g u) := fun w m m' σ xs vs Q S rf h k => by
  cases rf with
  | nil => simp [bindPs] at h
  | @cons x v xs vs a b =>
    rw [bindPs] at h
    cases e : bindP m p x with
    | none => rw [e] at h; cases h
    | some m1 =>
      rw [e] at h
      refine ⟨v, vs, rfl, h1 w m m1 σ x v _ S a e fun σ1 S1 f1 l1 => ?_⟩
      refine h2 w m1 m' σ1 xs vs Q S1 b h fun σ2 S2 f2 l2 => ?_
      refine k σ2 S2 (fun j hj => ?_) (l2.trans l1)
      rw [f2 j (fun z => hj (by simp [Pts.sl, z])), f1 j (fun z => hj (by simp [Pts.sl, z]))]
theorem gp_tup {ps : Pts} {t : TGs} {n : Nat} (hn : ps.len = n) (h : GPs G ps t) : GP G (.tup ps) (gTup G.K n t) := fun w m m' σ x v Q S r hb k => by
  cases x <;> try (simp [bindP] at hb; done)
  case tup xs =>
    obtain ⟨a, vs, rfl, h1, r1⟩ := r.tup_inv
    rw [bindP] at hb
    have sq : SqT G.K w.H a vs := by
      rcases h1 with ⟨_, h1⟩ | h1
      · exact .inl (.inl h1)
      · exact .inr h1
    have len : ∀ (ps : Pts) (xs : List T) (m m' : List Slot), bindPs m ps xs = some m' → xs.length = ps.len := by
      intro ps
      induction ps using Pts.rec (motive_1 := fun _ => True) with
      | nm => trivial
      | tup => trivial
      | nil => intro xs m m' h; cases xs <;> simp [bindPs] at h; rfl
      | cons p r _ ih =>
        intro xs m m' h
        cases xs with
        | nil => simp [bindPs] at h
        | cons x xs =>
          rw [bindPs] at h
          cases e : bindP m p x with
          | none => rw [e] at h; cases h
          | some m1 => rw [e] at h; exact congrArg Nat.succ (ih xs m1 m' h)
    exact ⟨a, vs, rfl, sq, by rw [← r1.length, len _ _ _ _ hb, hn], h w m m' σ xs vs Q S r1 hb fun σ' S' f l => k σ' S' (fun j hj => f j (by simpa [Pt.sl] using hj)) l⟩
end

/-! ### sources -/
structure ItOk (G : Gm) (J : It) (xs : List T) (w0 : Wd) : Prop where
  stop : ∀ (w : Wd), Mo w0 w → J.stop xs.length w.H
  go : ∀ (i : Nat) (x : T) (w : Wd), Mo w0 w → xs[i]? = some x → J.go i w.H ∧ ∀ (v : V) (H' : Hp) (m : List Slot) (σ : St), SR G w m σ → J.yld i w.H v H' → ∃ w', w'.H = H' ∧ SR G w' m σ ∧ Ex w w' ∧ RF G w' x v ∧ (∀ p, ¬ w.L p → ¬ w.F p → (∃ u, w.H p = some u) → w'.H p = w.H p ∧ ¬ w'.L p ∧ ¬ w'.F p)
noncomputable def rdS (C : Ct) (f : List Slot → Res (List T)) : TI := fun σ H Rr => ∃ w m, w.H = H ∧ Pre C w m σ ∧ (f m).sat (fun xs m' => ∀ w' J, SR C.G w' m' σ → Ex w w' → ItOk C.G J xs w' → Rr J w'.H) C.EM
theorem PI.imp {X : Cx} {tg e : Expr} {t t' : TI} (h : PI X tg e t) (i : ∀ σ H Q, t' σ H Q → t σ H Q) : PI X tg e t' := ⟨fun pins s σ H Q I q => h.run pins s σ H Q I (i σ H Q q)⟩
theorem PI.or {X : Cx} {tg e : Expr} {t t' : TI} (h : PI X tg e t) (h' : PI X tg e t') : PI X tg e (fun σ H Q => t σ H Q ∨ t' σ H Q) := ⟨fun pins s σ H Q I q => q.elim (h.run pins s σ H Q I) (h'.run pins s σ H Q I)⟩
section
variable {G : Gm} {w : Wd} {m m' : List Slot} {σ : St}
theorem ex_out {w w' : Wd} (x : Ex w w') : ∀ p, ¬ w.L p → ¬ w.F p → (∃ u, w.H p = some u) → w'.H p = w.H p ∧ ¬ w'.L p ∧ ¬ w'.F p := fun p l f ⟨u, h⟩ => by
  obtain ⟨q1, q2, q3⟩ := x.ot p u h f l
  exact ⟨q1.trans h.symm, q3, q2⟩
theorem SR.keep {r : R} {v : V} {t : T} (S : SR G w m σ) (q : RR G w m σ r v) (h : Mi.esc m r.opd = some (t, m')) : ∃ w', w'.H = w.H ∧ SR G w' m' σ ∧ Ex w w' ∧ RF G w' t v := by
  obtain ⟨w1, e1, S1, x1, r1⟩ := S.opd q
  obtain ⟨w2, e2, S2, x2, r2⟩ := S1.esc r1 h
  exact ⟨w2, e2.trans e1, S2, x1.trans x2, r2⟩
theorem it_list {xs : List T} {vs : List V} {a : Addr} (f : w.F a) (h : w.H a = some (.lst vs)) (r : RFs G w xs vs) : ItOk G (Itl G.K a) xs w := by
  have at' : ∀ w', Mo w w' → w'.H a = some (.lst vs) := fun w' mo => (mo.kp a f).eq h (fun k q => by rcases q with q | ⟨o, q⟩ <;> cases q)
  refine ⟨fun w' mo => ⟨vs, .inl (.inl (at' w' mo)), Nat.le_of_eq r.length.symm⟩, fun i x w' mo hx => ?_⟩
  obtain ⟨v, hv, rv⟩ := r.get hx
  have sq : SqL G.K w'.H a vs := .inl (.inl (at' w' mo))
  refine ⟨⟨vs, v, sq, hv⟩, fun v' H' m σ S y => ?_⟩
  obtain ⟨rfl, y⟩ := y
  have := y vs sq
  rw [hv] at this
  cases this
  exact ⟨w', rfl, S, .refl w', RF.mono mo rv, ex_out (.refl w')⟩
theorem RFk.keyAt : ∀ {kvs : List (Key × T)} {ks : List (Key × V)} {i : Nat} {k : Key} {t : T}, RFk G w kvs ks → kvs[i]? = some (k, t) → ∃ v, ks[i]? = some (k, v)
  | _, _, _, _, _, .nil, e => by simp at e
  | _, _, 0, _, _, .cons _ _, e => by simp at e; obtain ⟨rfl, rfl⟩ := e; exact ⟨_, rfl⟩
  | _, _, i + 1, _, _, .cons _ b, e => by
    obtain ⟨v, h⟩ := RFk.keyAt (i := i) b (by simpa using e)
    exact ⟨v, by simpa using h⟩
theorem rf_key (k : Key) : RF G w (unkey k) (kV k) := by
  cases k with
  | inl i => exact .int i
  | inr s => exact .str s
theorem it_keys {kvs : List (Key × T)} {ks : List (Key × V)} {a : Addr} {o : Obj} (f : w.F a) (h : w.H a = some (.frz o (.dK ks))) (r : RFk G w kvs ks) : ItOk G (Itk a o ks) (kvs.map fun kv => unkey kv.1) w := by
  refine ⟨fun w' mo => ⟨(mo.kp a f).locked h, by rw [List.length_map, r.length]; exact Nat.le_refl _⟩, fun i x w' mo hx => ?_⟩
  rw [List.getElem?_map] at hx
  cases e : kvs[i]? with
  | none => rw [e] at hx; cases hx
  | some kt =>
    obtain ⟨k, t⟩ := kt
    rw [e] at hx
    cases hx
    obtain ⟨v, hv⟩ := r.keyAt e
    refine ⟨⟨(mo.kp a f).locked h, (List.getElem?_eq_some_iff.mp hv).1⟩, fun v' H' m σ S y => ?_⟩
    obtain ⟨rfl, k', v2, h2, rfl⟩ := y
    rw [hv] at h2
    cases h2
    exact ⟨w', rfl, S, .refl w', rf_key k, ex_out (.refl w')⟩
noncomputable def Wd.lock (w : Wd) (a : Addr) (o : Obj) (ks : List (Key × V)) : Wd := ⟨w.F, w.L, upd w.H a (.frz o (.dK ks))⟩
theorem SR.lock {a : Addr} {o : Obj} {ks : List (Key × V)} (S : SR G w m σ) (f : w.F a) (h : w.H a = some (.dK ks)) : SR G (w.lock a o ks) m σ ∧ Ex w (w.lock a o ks) := by
  have mo : Mo w (w.lock a o ks) := ⟨fun _ h => h, fun b _ => by
    by_cases e : b = a
    · subst e; exact .inr ⟨ks, o, h, upd_same⟩
    · exact .inl (upd_ne e).symm⟩
  refine ⟨S.grow mo (fun b l => ⟨l, fun _ => upd_ne (show b ≠ a from fun e => S.sep b l (by rw [e]; exact f))⟩) S.sep fun b fb => ?_, mo.fz, mo.kp, fun b u h1 h2 h3 => ⟨?_, h2, h3⟩⟩
  · obtain ⟨u, hu⟩ := S.trk b fb
    by_cases e : b = a
    · subst e; exact ⟨_, upd_same⟩
    · exact ⟨u, (upd_ne e).trans hu⟩
  · exact (upd_ne (show b ≠ a from fun e => h2 (by rw [e]; exact f))).trans h1
theorem it_scr {ns : List Int} {a : Addr} (h : (w.F a ∧ ∃ o, w.H a = some (.frz o (.lst (ns.map V.int)))) ∨ KL G.K a (ns.map V.int)) : ItOk G (Itl G.K a) (ns.map T.int) w := by
  have at' : ∀ w', Mo w w' → SqL G.K w'.H a (ns.map V.int) := fun w' mo => by
    rcases h with ⟨f, o, h⟩ | h
    · exact .inl (.inr ⟨o, (mo.kp a f).eq h (fun k q => by rcases q with q | ⟨o, q⟩ <;> cases q)⟩)
    · exact .inr h
  refine ⟨fun w' mo => ⟨_, at' w' mo, by rw [List.length_map, List.length_map]; exact Nat.le_refl _⟩, fun i x w' mo hx => ?_⟩
  rw [List.getElem?_map] at hx
  cases hn : ns[i]? with
  | none => rw [hn] at hx; cases hx
  | some n =>
    rw [hn] at hx
    cases hx
    have hv : (ns.map V.int)[i]? = some (.int n) := by rw [List.getElem?_map, hn]; rfl
    refine ⟨⟨_, _, at' w' mo, hv⟩, fun v' H' m σ S y => ?_⟩
    obtain ⟨rfl, y⟩ := y
    have := y _ (at' w' mo)
    rw [hv] at this
    cases this
    exact ⟨w', rfl, S, .refl w', .int n, ex_out (.refl w')⟩
theorem it_tup {xs : List T} {vs : List V} {a : Addr} (h : (w.F a ∧ w.H a = some (.tup vs)) ∨ KT G.K a vs) (r : RFs G w xs vs) : ItOk G (Itt G.K a) xs w := by
  have at' : ∀ w', Mo w w' → SqT G.K w'.H a vs := fun w' mo => by
    rcases h with ⟨f, h⟩ | h
    · exact .inl (.inl ((mo.kp a f).eq h (fun k q => by rcases q with q | ⟨o, q⟩ <;> cases q)))
    · exact .inr h
  refine ⟨fun w' mo => ⟨vs, at' w' mo, Nat.le_of_eq r.length.symm⟩, fun i x w' mo hx => ?_⟩
  obtain ⟨v, hv, rv⟩ := r.get hx
  refine ⟨⟨vs, v, at' w' mo, hv⟩, fun v' H' m σ S y => ?_⟩
  obtain ⟨rfl, y⟩ := y
  have := y vs (at' w' mo)
  rw [hv] at this
  cases this
  exact ⟨w', rfl, S, .refl w', RF.mono mo rv, ex_out (.refl w')⟩
theorem it_str {z : Str} : ItOk G (Its z) (z.cps.toList.map fun c => T.str ⟨#[c]⟩) w := by
  refine ⟨fun w' _ => by show z.cps.size ≤ _; simp, fun i x w' mo hx => ?_⟩
  rw [List.getElem?_map] at hx
  cases hc : z.cps.toList[i]? with
  | none => rw [hc] at hx; cases hx
  | some c =>
    rw [hc] at hx
    cases hx
    have hc' : z.cps[i]? = some c := by rw [← Array.getElem?_toList]; exact hc
    refine ⟨(Array.getElem?_eq_some_iff.mp hc').1, fun v' H' m σ S y => ?_⟩
    obtain ⟨rfl, c', h1, rfl⟩ := y
    rw [hc'] at h1
    cases h1
    exact ⟨w', rfl, S, .refl w', .str _, ex_out (.refl w')⟩
theorem it_range {lo hi : Int} : ItOk G (Itr lo (hi - lo).toNat) (rangeT lo hi) w := by
  have len : (rangeT lo hi).length = (hi - lo).toNat := by simp [rangeT]
  refine ⟨fun w' _ => by show (hi - lo).toNat ≤ _; rw [len]; exact Nat.le_refl _, fun i x w' mo hx => ?_⟩
  have lt : i < (hi - lo).toNat := by rw [← len]; exact (List.getElem?_eq_some_iff.mp hx).1
  have ex : x = .int (lo + (i : Int)) := by
    rw [rangeT, List.getElem?_map, List.getElem?_range lt] at hx
    cases hx
    rfl
  subst ex
  refine ⟨lt, fun v' H' m σ S y => ?_⟩
  obtain ⟨rfl, rfl⟩ := y
  exact ⟨w', rfl, S, .refl w', .int _, ex_out (.refl w')⟩
theorem yld_tup {w : Wd} {p : Addr} {ts : List T} {vs : List V} (S : SR G w m σ) (hp : w.H p = none) (r : RFs G w ts vs) :
    ∃ w', w'.H = upd w.H p (.tup vs) ∧ SR G w' m σ ∧ Ex w w' ∧ RF G w' (.tup ts) (.ref p) := by
  have S1 := S.new (u := .tup vs) hp
  have hH : (w.new p (.tup vs)).H p = some (.tup vs) := upd_same
  refine ⟨(w.new p (.tup vs)).fr p, rfl, S1.fr (.inr rfl) ⟨_, hH⟩ fun i o h e => ?_, (Ex.new S.trk hp).trans (.fr (.inr rfl)), .tup (.inl ⟨.inr rfl, hH⟩) (RFs.mono .fr (r.new S hp))⟩
  obtain ⟨a, e1, r1', _⟩ := S.sl i _ h
  rw [e] at e1
  cases e1
  obtain ⟨u', hu⟩ := r1'.trk
  rw [hp] at hu
  cases hu
theorem enum_len : ∀ (k : Nat) (xs : List T), (enumT k xs).length = xs.length
  | _, [] => rfl
  | k, x :: r => congrArg Nat.succ (enum_len (k + 1) r)
theorem enum_get : ∀ (k : Nat) (xs : List T) (i : Nat), (enumT k xs)[i]? = xs[i]?.map fun x => .tup [.int ((k + i : Nat) : Int), x]
  | _, [], i => by simp [enumT]
  | k, x :: r, 0 => by simp [enumT]
  | k, x :: r, i + 1 => by
    have := enum_get (k + 1) r i
    simp only [enumT, List.getElem?_cons_succ, this]
    rw [show k + 1 + i = k + (i + 1) by omega]
theorem it_enum {xs : List T} {vs : List V} {a : Addr} (f : w.F a) (h : w.H a = some (.lst vs)) (r : RFs G w xs vs) : ItOk G (Ite G.K a) (enumT 0 xs) w := by
  have at' : ∀ w', Mo w w' → w'.H a = some (.lst vs) := fun w' mo => (mo.kp a f).eq h (fun k q => by rcases q with q | ⟨o, q⟩ <;> cases q)
  refine ⟨fun w' mo => ⟨vs, .inl (.inl (at' w' mo)), by rw [enum_len]; exact Nat.le_of_eq r.length.symm⟩, fun i x w' mo hx => ?_⟩
  rw [enum_get] at hx
  cases hn : xs[i]? with
  | none => rw [hn] at hx; cases hx
  | some t =>
    rw [hn] at hx
    cases hx
    obtain ⟨v, hv, rv⟩ := r.get hn
    have sq : SqL G.K w'.H a vs := .inl (.inl (at' w' mo))
    refine ⟨⟨vs, v, sq, hv⟩, fun v' H' m σ S y => ?_⟩
    obtain ⟨p, x', rfl, hp, rfl, y⟩ := y
    have := y vs sq
    rw [hv] at this
    cases this
    obtain ⟨w2, e2, S2, x2, r2⟩ := yld_tup (ts := [.int ((0 + i : Nat) : Int), t]) (vs := [.int (i : Nat), v]) S hp (.cons (by rw [Nat.zero_add]; exact .int _) (.cons (RF.mono mo rv) .nil))
    exact ⟨w2, e2, S2, x2, r2, ex_out x2⟩
theorem zip_get : ∀ (xs ys : List T) (i : Nat), (zipT xs ys)[i]? = match xs[i]?, ys[i]? with
    | some x, some y => some (.tup [x, y])
    | _, _ => none
  | [], ys, i => by simp [zipT]
  | x :: xs, [], i => by
    cases h : (x :: xs)[i]? <;> simp [zipT]
  | x :: xs, y :: ys, 0 => by simp [zipT]
  | x :: xs, y :: ys, i + 1 => by
    have := zip_get xs ys i
    simpa [zipT] using this
theorem zip_len : ∀ (xs ys : List T), (zipT xs ys).length = min xs.length ys.length
  | [], ys => by simp [zipT]
  | x :: xs, [] => by simp [zipT]
  | x :: xs, y :: ys => by
    have := zip_len xs ys
    simp [zipT, this]
    try omega
theorem it_zip {xs ys : List T} {vs us : List V} {a b : Addr} (f : w.F a) (h : w.H a = some (.lst vs)) (r : RFs G w xs vs) (f' : w.F b) (h' : w.H b = some (.lst us)) (r' : RFs G w ys us) : ItOk G (Itz G.K a b) (zipT xs ys) w := by
  have at1 : ∀ w', Mo w w' → w'.H a = some (.lst vs) := fun w' mo => (mo.kp a f).eq h (fun k q => by rcases q with q | ⟨o, q⟩ <;> cases q)
  have at2 : ∀ w', Mo w w' → w'.H b = some (.lst us) := fun w' mo => (mo.kp b f').eq h' (fun k q => by rcases q with q | ⟨o, q⟩ <;> cases q)
  refine ⟨fun w' mo => ⟨vs, us, .inl (.inl (at1 w' mo)), .inl (.inl (at2 w' mo)), ?_⟩, fun i x w' mo hx => ?_⟩
  · rw [zip_len, ← r.length, ← r'.length]
    omega
  · rw [zip_get] at hx
    cases hn : xs[i]? with
    | none => rw [hn] at hx; cases hx
    | some t =>
      cases hk : ys[i]? with
      | none => rw [hn, hk] at hx; cases hx
      | some u =>
        rw [hn, hk] at hx
        cases hx
        obtain ⟨v, hv, rv⟩ := r.get hn
        obtain ⟨v2, hv2, rv2⟩ := r'.get hk
        have sq : SqL G.K w'.H a vs := .inl (.inl (at1 w' mo))
        have sq2 : SqL G.K w'.H b us := .inl (.inl (at2 w' mo))
        refine ⟨⟨vs, us, v, v2, sq, sq2, hv, hv2⟩, fun v' H' m σ S y => ?_⟩
        obtain ⟨p, x', y', rfl, hp, rfl, y1, y2⟩ := y
        have z1 := y1 vs sq
        have z2 := y2 us sq2
        rw [hv] at z1
        rw [hv2] at z2
        cases z1
        cases z2
        obtain ⟨w2, e2, S2, x2, r2⟩ := yld_tup (ts := [t, u]) (vs := [v, v2]) S hp (.cons (RF.mono mo rv) (.cons (RF.mono mo rv2) .nil))
        exact ⟨w2, e2, S2, x2, r2, ex_out x2⟩
theorem it_zipT {xs ys : List T} {vs us : List V} {a b : Addr} (h : (w.F a ∧ w.H a = some (.tup vs)) ∨ KT G.K a vs) (r : RFs G w xs vs) (h' : (w.F b ∧ w.H b = some (.tup us)) ∨ KT G.K b us) (r' : RFs G w ys us) : ItOk G (RZ.ItzT G.K a b) (zipT xs ys) w := by
  have at0 : ∀ {c : Addr} {ws : List V}, (w.F c ∧ w.H c = some (.tup ws)) ∨ KT G.K c ws → ∀ w', Mo w w' → SqT G.K w'.H c ws := fun h w' mo => by
    rcases h with ⟨f, h⟩ | h
    · exact .inl (.inl ((mo.kp _ f).eq h (fun k q => by rcases q with q | ⟨o, q⟩ <;> cases q)))
    · exact .inr h
  have at1 := at0 h
  have at2 := at0 h'
  refine ⟨fun w' mo => ⟨vs, us, at1 w' mo, at2 w' mo, ?_⟩, fun i x w' mo hx => ?_⟩
  · rw [zip_len, ← r.length, ← r'.length]
    omega
  · rw [zip_get] at hx
    cases hn : xs[i]? with
    | none => rw [hn] at hx; cases hx
    | some t =>
      cases hk : ys[i]? with
      | none => rw [hn, hk] at hx; cases hx
      | some u =>
        rw [hn, hk] at hx
        cases hx
        obtain ⟨v, hv, rv⟩ := r.get hn
        obtain ⟨v2, hv2, rv2⟩ := r'.get hk
        refine ⟨⟨vs, us, v, v2, at1 w' mo, at2 w' mo, hv, hv2⟩, fun v' H' m σ S y => ?_⟩
        obtain ⟨p, x', y', rfl, hp, rfl, y1, y2⟩ := y
        have z1 := y1 vs (at1 w' mo)
        have z2 := y2 us (at2 w' mo)
        rw [hv] at z1
        rw [hv2] at z2
        cases z1
        cases z2
        obtain ⟨w2, e2, S2, x2, r2⟩ := yld_tup (ts := [t, u]) (vs := [v, v2]) S hp (.cons (RF.mono mo rv) (.cons (RF.mono mo rv2) .nil))
        exact ⟨w2, e2, S2, x2, r2, ex_out x2⟩
end
section
variable {C : Ct} {X : Cx} {cal : Nat → List Slot → CRes}
noncomputable def iKeysL (td : TE) : TI := fun σ H R => td σ H fun x H1 => ∃ d kvs, x = .ref d ∧ ((∃ o, H1 d = some (.frz o (.dK kvs)) ∧ R (Itk d o kvs) H1) ∨ (H1 d = some (.dK kvs) ∧ ∀ o, R (Itk d o kvs) (upd H1 d (.frz o (.dK kvs)))))
theorem pi_keysL {tg e : Expr} {td : TE} (he : PE X e td) : PI X tg e (iKeysL td) := by
  refine ⟨fun pins s σ H R I h => ?_⟩
  refine thn (he.run pins s σ H _ I h) fun u s1 ⟨x, H1, I1, rx, d, kvs, ex, q⟩ => ?_
  subst ex
  obtain rfl : u = Value.ref d := rx
  rcases q with ⟨o, hd, q⟩ | ⟨hd, q⟩
  · obtain ⟨hs, hgd, hx, es, ep, vs, hdt, hsz, kv, hm⟩ := I1.frzK hd
    refine iter_keys hs hgd hx hdt (pi_one (tk := s1.toks) I1 _ (turn_keys _ hdt) ⟨_, Heap.get?_push_size _ rfl, rfl, ?_⟩ q)
    rw [hsz] <;> rfl
  · obtain ⟨o, I2⟩ := I1.lock hd trivial
    obtain ⟨hs, hgd, hx, es, ep, vs, hdt, hsz, kv, hm⟩ := I2.frzK upd_same
    refine iter_keys hs hgd hx hdt (pi_one (tk := s1.toks) I2 _ (turn_keys _ hdt) ⟨_, Heap.get?_push_size _ rfl, rfl, ?_⟩ (q o))
    rw [hsz] <;> rfl
noncomputable def iAnyM (K : PySem.W.Frag) (te : TE) : TI := fun σ H R => ((iList K te σ H R ∨ iTup K te σ H R) ∨ iStr te σ H R) ∨ iKeysL te σ H R
theorem s_it {tg e : Expr} {a : E} (hp : ∀ t, PE X e t → PI X tg e (iAnyM C.G.K t)) (h : PE X e (rdE C (evE cal a))) : PI X tg e (rdS C (evSrc cal (.it a))) := PI.imp (hp _ h) fun σ H Q ⟨w, m, e, P, q⟩ => by
  rw [evSrc, Res.sat_bind] at q
  cases h0 : evE cal a m with
  | no => rw [h0] at q; exact q.elim
  | ex x m1 =>
    rw [h0] at q
    exact .inl (.inl (.inl ⟨w, m, e, P, by rw [h0]; exact q⟩))
  | ok r m1 =>
    rw [h0] at q
    have q : Res.sat (match esc m1 r.opd with
      | some (t, m2) => (match itemsT t with
        | some xs => Res.ok xs m2
        | none => .no)
      | none => .no) (fun xs m' => ∀ w' J, SR C.G w' m' σ → Ex w w' → ItOk C.G J xs w' → Q J w'.H) C.EM := q
    cases h1 : esc m1 r.opd with
    | none => rw [h1] at q; exact q.elim
    | some p =>
      obtain ⟨t, m2⟩ := p
      rw [h1] at q
      simp only at q
      cases h2 : itemsT t with
      | none => rw [h2] at q; exact q.elim
      | some xs =>
        rw [h2] at q
        have q : ∀ w' J, SR C.G w' m2 σ → Ex w w' → ItOk C.G J xs w' → Q J w'.H := q
        cases t <;> try (cases h2; done)
        case lst ys =>
          cases h2
          refine .inl (.inl (.inl ⟨w, m, e, P, ?_⟩))
          rw [h0]
          intro w1 v S1 x1 r1
          obtain ⟨w2, e2, S2, x2, r2⟩ := S1.keep r1 h1
          obtain ⟨a, vs, rfl, f, h3, r3⟩ := r2.lst_inv
          refine ⟨a, rfl, ⟨vs, .inl (.inl (by rw [← e2]; exact h3))⟩, ?_⟩
          rw [← e2]
          exact q w2 _ S2 (x1.trans x2) (it_list f h3 r3)
        case tup ys =>
          cases h2
          refine .inl (.inl (.inr ⟨w, m, e, P, ?_⟩))
          rw [h0]
          intro w1 v S1 x1 r1
          obtain ⟨w2, e2, S2, x2, r2⟩ := S1.keep r1 h1
          obtain ⟨a, vs, rfl, h3, r3⟩ := r2.tup_inv
          refine ⟨a, rfl, ⟨vs, ?_⟩, ?_⟩
          · rcases h3 with ⟨_, h3⟩ | h3
            · exact .inl (.inl (by rw [← e2]; exact h3))
            · exact .inr h3
          · rw [← e2]
            exact q w2 _ S2 (x1.trans x2) (it_tup h3 r3)
        case scr ns =>
          cases h2
          refine .inl (.inl (.inl ⟨w, m, e, P, ?_⟩))
          rw [h0]
          intro w1 v S1 x1 r1
          obtain ⟨w2, e2, S2, x2, r2⟩ := S1.keep r1 h1
          obtain ⟨a, rfl, h3⟩ := r2.scr_inv
          refine ⟨a, rfl, ⟨ns.map V.int, ?_⟩, ?_⟩
          · rcases h3 with ⟨_, o, h3⟩ | h3
            · exact .inl (.inr ⟨o, by rw [← e2]; exact h3⟩)
            · exact .inr h3
          · rw [← e2]
            exact q w2 _ S2 (x1.trans x2) (it_scr h3)
        case dic kvs =>
          cases h2
          refine .inr ⟨w, m, e, P, ?_⟩
          rw [h0]
          intro w1 v S1 x1 r1
          obtain ⟨w2, e2, S2, x2, r2⟩ := S1.keep r1 h1
          obtain ⟨a, ks, rfl, f, h3, r3⟩ := r2.dic_inv
          refine ⟨a, ks, rfl, ?_⟩
          rw [← e2]
          rcases h3 with h3 | ⟨o, h3⟩
          · refine .inr ⟨h3, fun o => ?_⟩
            obtain ⟨S3, x3⟩ := S2.lock (o := o) f h3
            exact q (w2.lock a o ks) _ S3 (x1.trans (x2.trans x3)) (it_keys (w := w2.lock a o ks) f upd_same (RFk.mono x3.mo r3))
          · exact .inl ⟨o, h3, q w2 _ S2 (x1.trans x2) (it_keys f h3 r3)⟩
        case str z =>
          simp only [itemsT] at h2
          split at h2
          · rename_i hl
            cases h2
            refine .inl (.inr ⟨w, m, e, P, ?_⟩)
            rw [h0]
            intro w1 v S1 x1 r1
            obtain ⟨w2, e2, S2, x2, r2⟩ := S1.keep r1 h1
            have rz : v = .str z := by cases r2; rfl
            subst rz
            refine ⟨z, rfl, ?_⟩
            rw [← e2]
            exact q w2 _ S2 (x1.trans x2) it_str
          · cases h2
theorem s_rng1 {tg e ea : Expr} {a : E} (hp : ∀ t, PE X ea t → PI X tg e (iRng1 (tCons t tNil))) (h : PE X ea (rdE C (evE cal a))) : PI X tg e (rdS C (evSrc cal (.rng1 a))) := PI.imp (hp _ (pe_opd h)) fun σ H Q ⟨w, m, e, P, q⟩ => by
  rw [evSrc, Res.sat_bind] at q
  refine ⟨w, m, e, P, ?_⟩
  rw [opdF, Res.sat_bind]
  refine Res.sat_mono q fun r m1 q1 w1 v S1 x1 r1 => ?_
  split at q1
  · rename_i j hj
    split at q1
    · rename_i hw
      have e1 : v = .int j := (S1.der r1 hj).int
      subst e1
      have hw' := of_decide_eq_true (show decide (-(2 ^ 62) ≤ j ∧ j < 2 ^ 62) = true from hw)
      refine ⟨j, rfl, hw'.1, hw'.2, ?_⟩
      have it := it_range (G := C.G) (w := w1) (lo := 0) (hi := j)
      rw [Int.sub_zero] at it
      exact q1 w1 _ S1 x1 it
    · exact q1.elim
  · exact q1.elim
theorem it_enumT {G : Gm} {w : Wd} {xs : List T} {vs : List V} {a : Addr} (h : (w.F a ∧ w.H a = some (.tup vs)) ∨ KT G.K a vs) (r : RFs G w xs vs) : ItOk G (IteT G.K a) (enumT 0 xs) w := by
  have h : ∀ w', Mo w w' → SqT G.K w'.H a vs := fun w' mo => by
    rcases h with ⟨f, h⟩ | h
    · exact .inl (.inl ((mo.kp a f).eq h (fun k q => by rcases q with q | ⟨o, q⟩ <;> cases q)))
    · exact .inr h
  refine ⟨fun w' mo => ⟨vs, h w' mo, by rw [enum_len]; exact Nat.le_of_eq r.length.symm⟩, fun i x w' mo hx => ?_⟩
  rw [enum_get] at hx
  cases hn : xs[i]? with
  | none => rw [hn] at hx; cases hx
  | some t =>
    rw [hn] at hx
    cases hx
    obtain ⟨v, hv, rv⟩ := r.get hn
    refine ⟨⟨vs, v, h w' mo, hv⟩, fun v' H' m σ S y => ?_⟩
    obtain ⟨p, x', rfl, hp, rfl, y⟩ := y
    have := y vs (h w' mo)
    rw [hv] at this
    cases this
    obtain ⟨w2, e2, S2, x2, r2⟩ := yld_tup (ts := [.int ((0 + i : Nat) : Int), t]) (vs := [.int (i : Nat), v]) S hp (.cons (by rw [Nat.zero_add]; exact .int _) (.cons (RF.mono mo rv) .nil))
    exact ⟨w2, e2, S2, x2, r2, ex_out x2⟩
theorem s_enum {tg e ea : Expr} {a : E} (hp : ∀ t, PE X ea t → PI X tg e (iEnumT C.G.K (tCons t tNil))) (h : PE X ea (rdE C (evE cal a))) : PI X tg e (rdS C (evSrc cal (.enum a))) := PI.imp (hp _ h) fun σ H Q ⟨w, m, e, P, q⟩ => by
  rw [evSrc, Res.sat_bind] at q
  refine ⟨w, m, e, P, Res.sat_mono q fun r m1 q1 w1 v S1 x1 r1 => ?_⟩
  cases h1 : esc m1 r.opd with
  | none => rw [h1] at q1; exact q1.elim
  | some p =>
    obtain ⟨t, m2⟩ := p
    rw [h1] at q1
    simp only at q1
    cases t <;> try (exact q1.elim)
    case lst ys =>
      have q1 : ∀ w' J, SR C.G w' m2 σ → Ex w w' → ItOk C.G J (enumT 0 ys) w' → Q J w'.H := q1
      obtain ⟨w2, e2, S2, x2, r2⟩ := S1.keep r1 h1
      obtain ⟨a, vs, rfl, f, h3, r3⟩ := r2.lst_inv
      refine ⟨a, vs, rfl, .inl ⟨.inl (.inl (by rw [← e2]; exact h3)), ?_⟩⟩
      rw [← e2]
      exact q1 w2 _ S2 (x1.trans x2) (it_enum f h3 r3)
    case tup ys =>
      have q1 : ∀ w' J, SR C.G w' m2 σ → Ex w w' → ItOk C.G J (enumT 0 ys) w' → Q J w'.H := q1
      obtain ⟨w2, e2, S2, x2, r2⟩ := S1.keep r1 h1
      obtain ⟨a, vs, rfl, h3, r3⟩ := r2.tup_inv
      refine ⟨a, vs, rfl, .inr ⟨?_, ?_⟩⟩
      · rw [← e2]
        rcases h3 with ⟨f, h⟩ | h
        · exact .inl (.inl h)
        · exact .inr h
      · rw [← e2]
        exact q1 w2 _ S2 (x1.trans x2) (it_enumT h3 r3)
theorem s_zip {tg e ea eb : Expr} {a b : E} (hp : ∀ t u, PE X ea t → PE X eb u → PI X tg e (RZ.iZipA C.G.K (tCons t (tCons u tNil)))) (h : PE X ea (rdE C (evE cal a))) (h' : PE X eb (rdE C (evE cal b))) : PI X tg e (rdS C (evSrc cal (.zip a b))) :=
  PI.imp (hp _ _ (pe_opd h) (pe_opd h')) fun σ H Q ⟨w, m, e, P, q⟩ => by
  rw [evSrc, Res.sat_bind] at q
  refine ⟨w, m, e, P, ?_⟩
  rw [opdF, Res.sat_bind]
  refine Res.sat_mono q fun ra m1 q1 w1 v S1 x1 r1 => ?_
  rw [Res.sat_bind] at q1
  refine ⟨w1, m1, rfl, P.step S1 x1, ?_⟩
  rw [opdF, Res.sat_bind]
  refine Res.sat_mono q1 fun rb m2 q2 w2 u S2 x2 r2 => ?_
  cases h1 : escs m2 [ra.opd, rb.opd] with
  | none => rw [h1] at q2; exact q2.elim
  | some p =>
    obtain ⟨ts, m3⟩ := p
    rw [h1] at q2
    obtain ⟨w3, e3, S3, x3, r3⟩ := SR.escs S2 (.cons (r1.mono x2.mo) (.cons r2 .nil)) h1
    cases r3 with
    | @cons t _ ts1 _ a1 b1 =>
      cases b1 with
      | @cons t' _ ts2 _ a2 b2 =>
        cases b2
        simp only at q2
        cases t <;> try (exact q2.elim)
        case lst xs =>
          cases t' <;> try (exact q2.elim)
          case lst ys =>
            have q2 : ∀ w' J, SR C.G w' m3 σ → Ex w w' → ItOk C.G J (zipT xs ys) w' → Q J w'.H := q2
            obtain ⟨a, vs, rfl, f, h3, r3⟩ := a1.lst_inv
            obtain ⟨b, us, rfl, f', h4, r4⟩ := a2.lst_inv
            refine ⟨a, b, vs, us, rfl, .inl ⟨.inl (.inl (by rw [← e3]; exact h3)), .inl (.inl (by rw [← e3]; exact h4)), ?_⟩⟩
            rw [← e3]
            exact q2 w3 _ S3 (x1.trans (x2.trans x3)) (it_zip f h3 r3 f' h4 r4)
        case tup xs =>
          cases t' <;> try (exact q2.elim)
          case tup ys =>
            have q2 : ∀ w' J, SR C.G w' m3 σ → Ex w w' → ItOk C.G J (zipT xs ys) w' → Q J w'.H := q2
            obtain ⟨a, vs, rfl, h3, r3⟩ := a1.tup_inv
            obtain ⟨b, us, rfl, h4, r4⟩ := a2.tup_inv
            have sq : ∀ {c : Addr} {ws : List V}, (w3.F c ∧ w3.H c = some (.tup ws)) ∨ KT C.G.K c ws → SqT C.G.K w3.H c ws := fun h => by
              rcases h with ⟨f, h⟩ | h
              · exact .inl (.inl h)
              · exact .inr h
            refine ⟨a, b, vs, us, rfl, .inr ⟨?_, ?_, ?_⟩⟩
            · rw [← e3]; exact sq h3
            · rw [← e3]; exact sq h4
            · rw [← e3]
              exact q2 w3 _ S3 (x1.trans (x2.trans x3)) (it_zipT h3 r3 h4 r4)
end
end Mi
set_option maxHeartbeats 1000000
namespace Mi
open PySem PySem.Spec PyProof.Rows L2

theorem wipe_in {σ : St} : ∀ {vs : List Nat} {j : Nat}, j ∈ vs → (wipe σ vs)[j]? = if j < σ.length then some none else none
  | [], j, h => by cases h
  | v :: vs, j, h => by
    unfold wipe
    by_cases e : v = j
    · subst e
      split
      · rename_i lt
        rw [List.getElem?_set_self (by rw [wipe_length]; exact lt)]
      · rename_i lt
        rw [List.getElem?_eq_none (by rw [List.length_set, wipe_length]; omega)]
    · rw [List.getElem?_set_ne e]
      exact wipe_in ((List.mem_cons.mp h).resolve_left fun z => e z.symm)
theorem wipe_eq {σ τ : St} {vs : List Nat} (l : τ.length = σ.length) (h : ∀ j, j ∉ vs → τ[j]? = σ[j]?) : wipe τ vs = wipe σ vs := by
  apply List.ext_getElem?
  intro j
  by_cases e : j ∈ vs
  · rw [wipe_in e, wipe_in e, l]
  · rw [wipe_out e, wipe_out e, h j e]
section
variable {G : Gm} {w w' w1 : Wd} {m m1 m2 : List Slot} {σ τ : St} {D : Addr} {u : HO}
theorem SR.setNone {i : Nat} (S : SR G w m σ) : SR G w (m.set i .no) (σ.set i none) := by
  have sub : ∀ {k : Nat} {o1 : O}, (m.set i Slot.no)[k]? = some (.ow o1) → k ≠ i ∧ m[k]? = some (.ow o1) := fun {k o1} hk => by
    by_cases hj : k = i
    · subst hj
      by_cases lt : k < m.length
      · rw [List.getElem?_set_self lt] at hk; cases hk
      · rw [List.getElem?_eq_none (by rw [List.length_set]; omega)] at hk; cases hk
    · exact ⟨hj, by rwa [List.getElem?_set_ne (Ne.symm hj)] at hk⟩
  refine ⟨by rw [List.length_set, List.length_set]; exact S.len, fun j s h => ?_, fun j k o1 o2 b h1 h2 e1 e2 => ?_, S.sep, S.trk⟩
  · by_cases hj : j = i
    · subst hj
      have lt : j < m.length := by have := (List.getElem?_eq_some_iff.mp h).1; rwa [List.length_set] at this
      rw [List.getElem?_set_self lt] at h
      cases h
      trivial
    · rw [List.getElem?_set_ne (Ne.symm hj)] at h
      rw [List.getElem?_set_ne (Ne.symm hj)]
      exact S.sl j s h
  · obtain ⟨n1, q1⟩ := sub h1
    obtain ⟨n2, q2⟩ := sub h2
    rw [List.getElem?_set_ne (Ne.symm n1)] at e1
    rw [List.getElem?_set_ne (Ne.symm n2)] at e2
    exact S.inj j k o1 o2 b q1 q2 e1 e2
theorem SR.wipe (S : SR G w m σ) : ∀ vs : List Nat, SR G w (wipeM m vs) (L2.wipe σ vs)
  | [] => S
  | v :: vs => (SR.wipe S vs).setNone
theorem SR.wipeM (S : SR G w m σ) : ∀ vs : List Nat, SR G w (Mi.wipeM m vs) σ
  | [] => S
  | v :: vs => (SR.wipeM S vs).setNo
theorem restM_length {m0 m : List Slot} : ∀ vs : List Nat, (restM m0 m vs).length = m.length
  | [] => rfl
  | v :: vs => by unfold restM; rw [List.length_set, restM_length vs]
theorem restM_in {m0 m : List Slot} : ∀ {vs : List Nat} {j : Nat}, j ∈ vs → (restM m0 m vs)[j]? = if j < m.length then some (m0[j]?.getD .no) else none
  | [], j, h => by cases h
  | v :: vs, j, h => by
    unfold restM
    by_cases e : v = j
    · subst e
      split
      · rename_i lt
        rw [List.getElem?_set_self (by rw [restM_length]; exact lt)]
      · rename_i lt
        rw [List.getElem?_eq_none (by rw [List.length_set, restM_length]; omega)]
    · rw [List.getElem?_set_ne e]
      exact restM_in ((List.mem_cons.mp h).resolve_left fun z => e z.symm)
theorem restM_out {m0 m : List Slot} : ∀ {vs : List Nat} {j : Nat}, j ∉ vs → (restM m0 m vs)[j]? = m[j]?
  | [], j, h => rfl
  | v :: vs, j, h => by
    simp only [List.mem_cons, not_or] at h
    unfold restM
    rw [List.getElem?_set_ne (fun z => h.1 z.symm)]
    exact restM_out h.2
theorem SR.rest {vs : List Nat} (S1 : SR G w1 m1 σ) (mo : Mo w1 w) (S : SR G w m τ) (l : τ.length = σ.length) (hτ : ∀ j, j ∉ vs → τ[j]? = σ[j]?) (no : noOw m1 vs = true) : SR G w (restM m1 m vs) σ := by
  have no' : ∀ j ∈ vs, ∀ o, m1[j]?.getD .no ≠ .ow o := fun j hj o e => by
    have := List.all_eq_true.mp no j hj
    cases h : m1[j]? with
    | none => rw [h] at e; cases e
    | some s =>
      rw [h] at e this
      have e : s = .ow o := e
      subst e
      cases this
  have sub : ∀ {k : Nat} {o1 : O}, (restM m1 m vs)[k]? = some (.ow o1) → k ∉ vs ∧ m[k]? = some (.ow o1) := fun {k o1} hk => by
    by_cases hj : k ∈ vs
    · rw [restM_in hj] at hk
      split at hk
      · exact absurd (Option.some.inj hk) (no' k hj o1)
      · cases hk
    · exact ⟨hj, by rwa [restM_out hj] at hk⟩
  refine ⟨by rw [restM_length, S.len, l], fun j s h => ?_, fun j k o1 o2 b h1 h2 e1 e2 => ?_, S.sep, S.trk⟩
  · by_cases hj : j ∈ vs
    · rw [restM_in hj] at h
      split at h
      · rename_i lt
        have lt1 : j < m1.length := by rw [S1.len, ← l, ← S.len]; exact lt
        have e1 : m1[j]? = some m1[j] := List.getElem?_eq_getElem lt1
        rw [e1] at h
        have h : m1[j] = s := Option.some.inj h
        rw [h] at e1
        have q := S1.sl j s e1
        cases s with
        | no => trivial
        | fz t => obtain ⟨x, a, b⟩ := q; exact ⟨x, a, RF.mono mo b⟩
        | ow o => exact absurd (by rw [e1]; rfl) (no' j hj o)
      · cases h
    · rw [restM_out hj] at h
      have q := S.sl j s h
      rwa [hτ j hj] at q
  · obtain ⟨n1, q1⟩ := sub h1
    obtain ⟨n2, q2⟩ := sub h2
    exact S.inj j k o1 o2 b q1 q2 (by rw [hτ j n1]; exact e1) (by rw [hτ k n2]; exact e2)
theorem Mo.poke (nf : ¬ w.F D) : Mo w (w.wr D u) := ⟨fun _ h => h, fun a f => .inl (upd_ne (show a ≠ D from fun z => nf (z ▸ f))).symm⟩
theorem SR.poke (S : SR G w m σ) (nf : ¬ w.F D) (nl : ¬ w.L D) : SR G (w.wr D u) m σ :=
  S.grow (Mo.poke nf) (fun a l => ⟨l, fun _ => upd_ne (show a ≠ D from fun z => nl (z ▸ l))⟩) S.sep fun a f => by
    obtain ⟨v, h⟩ := S.trk a f
    exact ⟨v, (upd_ne (show a ≠ D from fun z => nf (z ▸ f))).trans h⟩
theorem Ex.poke (x : Ex w1 w) (h : w1.H D = none) (nf : ¬ w.F D) : Ex w1 (w.wr D u) :=
  ⟨x.fz, fun a f => (x.kp a f).trans (.inl (upd_ne (show a ≠ D from fun z => nf (z ▸ x.fz a f))).symm), fun a v h1 h2 h3 => by
    obtain ⟨q1, q2, q3⟩ := x.ot a v h1 h2 h3
    exact ⟨(upd_ne (ne_of_none h1 h)).trans q1, q2, q3⟩⟩
noncomputable def Wd.ad (w : Wd) (D : Addr) : Wd := ⟨w.F, fun a => w.L a ∨ a = D, w.H⟩
theorem SR.adopt (S : SR G w m σ) (nf : ¬ w.F D) : SR G (w.ad D) m σ :=
  S.grow ⟨fun _ h => h, fun _ _ => .refl _⟩ (fun a l => ⟨.inl l, fun _ => rfl⟩) (fun a l f => l.elim (fun l => S.sep a l f) fun e => nf (e ▸ f)) S.trk
theorem Ex.adopt (x : Ex w1 w) (h : w1.H D = none) : Ex w1 (w.ad D) := ⟨x.fz, x.kp, fun a v h1 h2 h3 => by
  obtain ⟨q1, q2, q3⟩ := x.ot a v h1 h2 h3
  exact ⟨q1, q2, fun z => z.elim q3 (ne_of_none h1 h)⟩⟩
end
section
variable {C : Ct} {X : Cx} {cal : Nat → List Slot → CRes}
noncomputable def Ct.inn (C : Ct) : Ct := ⟨C.G, C.w0, C.s0, fun _ => false, fun _ _ => False⟩
theorem Res.sat_calm {α : Type} {r : Res α} {A : α → List Slot → Prop} {B : T → List Slot → Prop} (h : r.calm.sat A B) : r.sat A fun _ _ => False := by
  cases r with
  | ok a m => exact h
  | ex x m => exact h
  | no => exact h
theorem rd_comp {own : List Nat} {p : Pt} {s : Src} {cs : Es} {e : E} {g : TG} (hg : GP C.G p g) (hsub : ∀ j ∈ p.sl, j ∈ own) {σ : St} {H : Hp} {Q : VK} (h : rdE C (evE cal (.comp own p s cs e)) σ H Q) :
    tLc (rdS C (evSrc cal s)) g (rdB C.inn (evAll cal cs)) (rdE C.inn (evE cal e)) own σ H Q := by
  obtain ⟨w, m, eH, P, q⟩ := h
  rw [evE, Res.sat_bind] at q
  refine ⟨w, m, eH, P, Res.sat_mono q fun xs m1 q1 w1 J S1 x1 it => ?_⟩
  split at q1
  · rename_i no
    intro D hD
    rw [Res.sat_bind] at q1
    have q1 := Res.sat_calm q1
    have nf1 : ¬ w1.F D := fun f => by
      obtain ⟨u, z⟩ := S1.trk D f
      rw [hD] at z; cases z
    refine ⟨fun i n H => i + n = xs.length ∧ ∃ wq mc acc vs, wq.H = H ∧ SR C.G wq mc (wipe σ own) ∧ Ex w1 wq ∧ ¬ wq.F D ∧ ¬ wq.L D ∧ wq.H D = some (.lst vs) ∧ RFs C.G wq acc vs ∧
      (compGo own p (fun m => evAll cal cs m) (fun m => evE cal e m) (xs.drop i) acc mc).sat (fun acc m2 => (Res.ok (R.ow (.lst acc)) (restM m1 m2 own)).sat (fun r m' => ∀ w' v, SR C.G w' m' σ → Ex w w' → RR C.G w' m' σ r v → Q v w'.H) C.EM) fun _ _ => False, ?_, ?_⟩
    · refine ⟨xs.length, by omega, ?_⟩
      -- the owner of D, in no slot: forget
      have S0 := S1.wipe own
      have nlD : ∃ w1' : Wd, w1'.H = w1.H ∧ SR C.G w1' (wipeM m1 own) (wipe σ own) ∧ Ex w1 w1' ∧ ¬ w1'.F D ∧ ¬ w1'.L D := by
        refine ⟨⟨w1.F, fun a => w1.L a ∧ a ≠ D, w1.H⟩, rfl, ?_, ⟨fun _ h => h, fun _ _ => .refl _, fun a u h1 h2 h3 => ⟨h1, h2, fun z => h3 z.1⟩⟩, nf1, fun z => z.2 rfl⟩
        refine ⟨S0.len, fun j s h => ?_, S0.inj, fun a l f => S0.sep a l.1 f, S0.trk⟩
        have q := S0.sl j s h
        cases s with
        | no => trivial
        | fz t => obtain ⟨x, a, b⟩ := q; exact ⟨x, a, RF.mono (w := w1) (w' := ⟨w1.F, fun a => w1.L a ∧ a ≠ D, w1.H⟩) (mo_same rfl rfl) b⟩
        | ow o =>
          obtain ⟨a, e1, r, l⟩ := q
          refine ⟨a, e1, r.mono (mo_same rfl rfl) rfl, l, fun z => ?_⟩
          obtain ⟨u, hu⟩ := r.trk
          rw [z, hD] at hu; cases hu
      obtain ⟨w1', e1', S1', x1', nf', nl'⟩ := nlD
      refine ⟨w1'.wr D (.lst []), wipeM m1 own, [], [], by show upd w1'.H D _ = _; rw [e1'], S1'.poke nf' nl', x1'.poke hD nf', nf', nl', upd_same, .nil, ?_⟩
      rw [List.drop_zero]
      exact q1
    · rintro i n H ⟨hin, wc, mc, acc, vs, rfl, S, xc, nf, nl, hDv, rs, q2⟩
      cases hdr : xs.drop i with
      | nil =>
        have hi : i = xs.length := by
          have := congrArg List.length hdr
          rw [List.length_drop] at this
          simp at this
          omega
        subst hi
        rw [hdr] at q2
        have q2 : ∀ w' v, SR C.G w' (restM m1 mc own) σ → Ex w w' → RR C.G w' (restM m1 mc own) σ (.ow (.lst acc)) v → Q v w'.H := q2
        refine .inl ⟨it.stop wc xc.mo, ?_⟩
        have S2 : SR C.G wc (restM m1 mc own) σ := SR.rest S1 xc.mo S (wipe_length ..) (fun j hj => wipe_out hj) no
        refine q2 (wc.ad D) (.ref D) (S2.adopt nf) (x1.trans (xc.adopt hD)) ⟨D, rfl, .lst hDv (RFs.mono (w := wc) (w' := wc.ad D) (mo_same rfl rfl) rs), .inr rfl, fun j o' hj z => ?_⟩
        obtain ⟨a, e1, _, l⟩ := S2.sl j _ hj
        rw [z] at e1
        cases e1
        exact nl l
      | cons x rest =>
        have hx : xs[i]? = some x := by
          have := congrArg (fun l => l[0]?) hdr
          simpa using this
        have hlt : i < xs.length := (List.getElem?_eq_some_iff.mp hx).1
        have hrest : xs.drop (i + 1) = rest := by
          have := congrArg List.tail hdr
          simpa using this
        rw [hdr] at q2
        unfold compGo at q2
        obtain ⟨hgo, hyl⟩ := it.go i x wc xc.mo hx
        refine .inr ⟨hgo, fun H' => ∃ wq mc acc vs, wq.H = H' ∧ SR C.G wq mc (wipe σ own) ∧ Ex w1 wq ∧ ¬ wq.F D ∧ ¬ wq.L D ∧ wq.H D = some (.lst vs) ∧ RFs C.G wq acc vs ∧
          (compGo own p (fun m => evAll cal cs m) (fun m => evE cal e m) rest acc mc).sat (fun acc m2 => (Res.ok (R.ow (.lst acc)) (restM m1 m2 own)).sat (fun r m' => ∀ w' v, SR C.G w' m' σ → Ex w w' → RR C.G w' m' σ r v → Q v w'.H) C.EM) fun _ _ => False,
          fun H' nx => ⟨n - 1, by omega, by omega, by rw [hrest]; exact nx⟩, fun v H' y => ?_⟩
        obtain ⟨w2, e2, S2, x2, r2, _⟩ := hyl v H' (wipeM mc own) (wipe σ own) (S.wipeM own) y
        cases hb : bindP (wipeM mc own) p x with
        | none => rw [hb] at q2; exact q2.elim
        | some m3 =>
          rw [hb] at q2
          simp only at q2
          rw [Res.sat_bind] at q2
          rw [← e2]
          refine hg w2 (wipeM mc own) m3 (wipe σ own) x v _ S2 r2 hb fun σ3 S3 f3 l3 => ⟨wipe_eq (by rw [l3, wipe_length]) fun j hj => by rw [f3 j fun z => hj (hsub j z), wipe_out hj], ?_⟩
          have w3eq : wipe σ3 own = wipe σ own := wipe_eq (by rw [l3, wipe_length]) fun j hj => by rw [f3 j fun z => hj (hsub j z), wipe_out hj]
          obtain ⟨d1, d2, d3⟩ := x2.ot D _ hDv nf nl
          refine ⟨w2, m3, rfl, ⟨S3, (P.ex.trans x1).trans (xc.trans x2), fun j z => nomatch z⟩, Res.sat_mono q2 fun r m4 q4 => ?_⟩
          cases r with
          | ow o => exact q4.elim
          | bo k => exact q4.elim
          | fz t =>
            cases t <;> try (exact q4.elim)
            case bl b =>
              refine ⟨b, rfl, fun w4 S4 x4 => ?_⟩
              obtain ⟨g1, g2, g3⟩ := x4.ot D _ d1 d2 d3
              cases b with
              | false =>
                refine ⟨w4, wipeM m4 own, acc, vs, rfl, ?_, xc.trans (x2.trans x4), g2, g3, g1, RFs.mono (x2.trans x4).mo rs, q4⟩
                have := S4.wipe own
                rwa [w3eq] at this
              | true =>
                simp only at q4
                rw [Res.sat_bind] at q4
                refine ⟨w4, m4, rfl, ⟨S4, (P.ex.trans x1).trans (xc.trans (x2.trans x4)), fun j z => nomatch z⟩, Res.sat_mono q4 fun r5 m5 q5 w5 v5 S5 x5 rr5 => ?_⟩
                obtain ⟨k1, k2, k3⟩ := x5.ot D _ g1 g2 g3
                refine ⟨vs, k1, ?_⟩
                cases hes : esc m5 r5.opd with
                | none => rw [hes] at q5; exact q5.elim
                | some pr =>
                  obtain ⟨t6, m6⟩ := pr
                  rw [hes] at q5
                  simp only at q5
                  split at q5
                  · rename_i hlen
                    obtain ⟨w6, e6, S6, x6, r6⟩ := S5.keep rr5 hes
                    obtain ⟨y1, y2, y3⟩ := x6.ot D _ k1 k2 k3
                    refine ⟨by rw [← rs.length]; exact hlen, w6.wr D (.lst (vs ++ [v5])), wipeM m6 own, acc ++ [t6], vs ++ [v5], by show upd w6.H D _ = _; rw [e6], ?_, (xc.trans (x2.trans (x4.trans (x5.trans x6)))).poke hD y2, y2, y3, upd_same, ?_, q5⟩
                    · have := (S6.wipe own).poke (u := .lst (vs ++ [v5])) y2 y3
                      rwa [w3eq] at this
                    · exact RFs.mono (Mo.poke y2) ((RFs.mono (x2.trans (x4.trans (x5.trans x6))).mo rs).append (.cons r6 .nil))
                  · exact q5.elim
  · exact q1.elim
theorem n_comp {ex : Expr} {own : List Nat} {p : Pt} {s : Src} {cs : Es} {e : E} {g : TG} (hg : GP C.G p g) (hsub : ∀ j ∈ p.sl, j ∈ own) (hp : PE X ex (tLc (rdS C (evSrc cal s)) g (rdB C.inn (evAll cal cs)) (rdE C.inn (evE cal e)) own)) :
    PE X ex (rdE C (evE cal (.comp own p s cs e))) := PE.imp hp fun _ _ _ q => rd_comp hg hsub q
end
end Mi
set_option maxHeartbeats 1000000
namespace Mi
open PySem PySem.Spec PyProof.Rows L2

noncomputable def FSat (C : Ct) (w : Wd) (D : Ends) : Fl → Prop
  | .nx m => ∀ w' σ', Pre C w' m σ' → Ex w w' → D.nx σ' w'.H
  | .bk m => ∀ w' σ', Pre C w' m σ' → Ex w w' → D.bk σ' w'.H
  | .ct m => ∀ w' σ', Pre C w' m σ' → Ex w w' → D.ct σ' w'.H
  | .rt r m => ∀ w' σ' v, Pre C w' m σ' → Ex w w' → RR C.G w' m σ' r v → D.rt v w'.H
  | .ex x m => C.EM x m
  | .no => False
noncomputable def rdSt (C : Ct) (f : List Slot → Fl) : TS := fun D σ H => ∃ w m, w.H = H ∧ Pre C w m σ ∧ FSat C w D (f m)
section
variable {C : Ct} {X : Cx} {cal : Nat → List Slot → CRes} {L : Nat}
theorem FSat.weak {w w' : Wd} {D : Ends} {fl : Fl} (h : FSat C w D fl) (x : Ex w w') : FSat C w' D fl := by
  cases fl with
  | nx m => exact fun w2 σ2 p y => h w2 σ2 p (x.trans y)
  | bk m => exact fun w2 σ2 p y => h w2 σ2 p (x.trans y)
  | ct m => exact fun w2 σ2 p y => h w2 σ2 p (x.trans y)
  | rt r m => exact fun w2 σ2 v p y => h w2 σ2 v p (x.trans y)
  | ex x m => exact h
  | no => exact h
theorem FSat_ofR {α : Type} {w : Wd} {D : Ends} {r : Res α} {k : α → List Slot → Fl} : FSat C w D (ofR r k) ↔ r.sat (fun a m => FSat C w D (k a m)) C.EM := by
  cases r <;> exact Iff.rfl
theorem Pre.fixSet {w : Wd} {m m' : List Slot} {σ : St} {i : Nat} {v : Option V} (P : Pre C w m σ) (nfx : C.fx i = false) : ∀ j, C.fx j = true → (σ.set i v)[j]? = C.s0[j]? := fun j hj => by
  rw [List.getElem?_set_ne, P.fix j hj]
  intro e
  rw [e, hj] at nfx
  cases nfx
theorem st_nil : PSs X [] (rdSt C (evSs cal L .nil)) := PSs.imp pss_nil fun D σ H ⟨w, m, e, P, q⟩ => by
  rw [evSs] at q
  have := q w σ P (.refl w)
  rwa [e] at this
theorem st_cons {st : Stmt} {rest : List Stmt} {s : S} {r : Ss} (h : PS X st (rdSt C (evS cal L s))) (hr : PSs X rest (rdSt C (evSs cal L r))) : PSs X (st :: rest) (rdSt C (evSs cal L (.cons s r))) :=
  PSs.imp (pss_cons h hr) fun D σ H ⟨w, m, e, P, q⟩ => by
  rw [evSs] at q
  refine ⟨w, m, e, P, ?_⟩
  cases h1 : evS cal L s m with
  | nx m1 => rw [h1] at q; exact fun w1 σ1 P1 x1 => ⟨w1, m1, rfl, P1, FSat.weak q x1⟩
  | rt r m1 => rw [h1] at q; exact q
  | bk m1 => rw [h1] at q; exact q
  | ct m1 => rw [h1] at q; exact q
  | ex x m1 => rw [h1] at q; exact q
  | no => rw [h1] at q; exact q
theorem st_set {st : Stmt} {i : Nat} {e : E} (nfx : C.fx i = false) (h : PS X st (tAsg (rdE C (evE cal e)) (gName i))) : PS X st (rdSt C (evS cal L (.set i e))) := PS.imp h fun D σ H ⟨w, m, eH, P, q⟩ => by
  rw [evS, FSat_ofR] at q
  refine ⟨w, m, eH, P, Res.sat_mono q fun r m1 q1 w1 v S1 x1 r1 => ?_⟩
  show D.nx (σ.set i (some v)) w1.H
  unfold putR at q1
  split at q1
  · cases r with
    | fz t => exact q1 w1 _ ⟨S1.setFz r1, P.ex.trans x1, P.fixSet (m' := m1) nfx⟩ x1
    | ow o =>
      obtain ⟨p, rfl, ro, l, n⟩ := r1
      exact q1 w1 _ ⟨S1.setOw ro l n, P.ex.trans x1, P.fixSet (m' := m1) nfx⟩ x1
    | bo j =>
      simp only at q1
      cases h1 : esc m1 (.b j) with
      | none => rw [h1] at q1; exact q1.elim
      | some p =>
        obtain ⟨t, m2⟩ := p
        rw [h1] at q1
        obtain ⟨w2, e2, S2, x2, rf⟩ := S1.esc (d := .b j) r1 h1
        have := q1 w2 _ ⟨S2.setFz rf, P.ex.trans (x1.trans x2), P.fixSet (m' := m1) nfx⟩ (x1.trans x2)
        rwa [e2] at this
  · exact q1.elim
theorem st_unp {st : Stmt} {p : Pt} {e : E} {g : TG} (hg : GP C.G p g) (nfx : ∀ j ∈ p.sl, C.fx j = false) (h : PS X st (tAsg (rdE C (evE cal e)) g)) : PS X st (rdSt C (evS cal L (.unp p e))) := PS.imp h fun D σ H ⟨w, m, eH, P, q⟩ => by
  rw [evS, FSat_ofR] at q
  refine ⟨w, m, eH, P, Res.sat_mono q fun r m1 q1 w1 v S1 x1 r1 => ?_⟩
  cases h1 : esc m1 r.opd with
  | none => rw [h1] at q1; exact q1.elim
  | some pr =>
    obtain ⟨t, m2⟩ := pr
    rw [h1] at q1
    simp only at q1
    obtain ⟨w2, e2, S2, x2, r2⟩ := S1.keep r1 h1
    cases h2 : bindP m2 p t with
    | none => rw [h2] at q1; exact q1.elim
    | some m3 =>
      rw [h2] at q1
      rw [← e2]
      refine hg w2 m2 m3 σ t v _ S2 r2 h2 fun σ3 S3 f3 l3 => q1 w2 σ3 ⟨S3, P.ex.trans (x1.trans x2), fun j hj => ?_⟩ (x1.trans x2)
      rw [f3 j (fun z => by rw [nfx j z] at hj; cases hj), P.fix j hj]
theorem st_aug {st : Stmt} {i : Nat} {f : Op} {e : E} {ti : TIp} (nfx : C.fx i = false) (ht : ∀ (x y z : T) (Q : VK) (H : Hp), augF f x y = some z → Q (vT z) H → flatT z = true → flatT x = true → flatT y = true → ti (vT x) (vT y) H Q) (hf : ∀ x y z, augF f x y = some z → flatT x = true ∧ flatT y = true ∧ flatT z = true)
    (h : PS X st (tAug i (rdD C (opdF (evE cal e))) ti)) : PS X st (rdSt C (evS cal L (.aug i f e))) := PS.imp h fun D σ H ⟨w, m, eH, P, q⟩ => by
  rw [evS] at q
  cases h0 : m[i]? with
  | none => rw [h0] at q; exact q.elim
  | some s =>
    rw [h0] at q
    have sl := P.sr.sl i s h0
    cases s with
    | no => exact q.elim
    | ow o => exact q.elim
    | fz x =>
      obtain ⟨xv, e1, rx⟩ := sl
      simp only at q
      rw [FSat_ofR] at q
      refine ⟨xv, e1, w, m, eH, P, ?_⟩
      rw [opdF, Res.sat_bind]
      refine Res.sat_mono q fun r m1 q1 w1 v S1 x1 r1 => ?_
      split at q1
      · rename_i y hy hd
        split at q1
        · rename_i z hz
          obtain ⟨f1, f2, f3⟩ := hf _ _ _ hz
          rw [RF.flat f1 rx, RA.flat f2 (S1.der r1 hd)]
          exact ht x y z _ _ hz (q1 w1 _ ⟨S1.setFz (RF.of_flat f3), P.ex.trans x1, P.fixSet (m' := m1) nfx⟩ x1) f3 f1 f2
        · exact q1.elim
      · exact q1.elim
theorem st_ret {st : Stmt} {e : E} (h : PS X st (tRet (rdE C (evE cal e)))) : PS X st (rdSt C (evS cal L (.ret e))) := PS.imp h fun D σ H ⟨w, m, eH, P, q⟩ => by
  rw [evS, FSat_ofR] at q
  refine ⟨w, m, eH, P, Res.sat_mono q fun r m1 q1 w1 v S1 x1 r1 => ?_⟩
  cases r with
  | fz t => exact q1 w1 σ v (P.step S1 x1) x1 r1
  | ow o => exact q1 w1 σ v (P.step S1 x1) x1 r1
  | bo i =>
    dsimp only [outR] at q1
    have r1 : σ[i]? = some (some v) := r1
    cases h1 : m1[i]? with
    | none => rw [h1] at q1; exact q1.elim
    | some s =>
      rw [h1] at q1
      have sl := S1.sl i s h1
      cases s with
      | no => exact q1.elim
      | fz t =>
        obtain ⟨x, e1, r2⟩ := sl
        rw [r1] at e1
        cases e1
        exact q1 w1 σ v (P.step S1 x1) x1 r2
      | ow o =>
        obtain ⟨a, e1, ro, l⟩ := sl
        rw [r1] at e1
        cases e1
        refine q1 w1 σ (.ref a) (P.step S1.setNo x1) x1 ⟨a, rfl, ro, l, fun k o' hk z => ?_⟩
        by_cases hj : k = i
        · subst hj
          rw [List.getElem?_set_self (List.getElem?_eq_some_iff.mp h1).1] at hk
          cases hk
        · rw [List.getElem?_set_ne (Ne.symm hj)] at hk
          exact hj (S1.inj k i o' o a hk h1 z r1)
theorem rd_test {f : List Slot → Res R} {σ : St} {w : Wd} {m : List Slot} {Q : Bool → Hp → Prop} (P : Pre C w m σ) (h : (f m).sat (fun r m1 => ∃ k, r = .fz (.bl k) ∧ ∀ w', SR C.G w' m1 σ → Ex w w' → Q k w'.H) C.EM) : rdB C f σ w.H Q := ⟨w, m, rfl, P, h⟩
theorem st_ife {st : Stmt} {c : E} {a b : Ss} (h : PS X st (tIfS (rdB C (evE cal c)) (rdSt C (evSs cal L a)) (rdSt C (evSs cal L b)))) : PS X st (rdSt C (evS cal L (.ife c a b))) := PS.imp h fun D σ H ⟨w, m, eH, P, q⟩ => by
  rw [evS, FSat_ofR] at q
  subst eH
  refine rd_test P (Res.sat_mono q fun r m1 q1 => ?_)
  cases r with
  | ow o => exact q1.elim
  | bo k => exact q1.elim
  | fz t =>
    cases t <;> try (exact q1.elim)
    case bl k =>
      refine ⟨k, rfl, fun w1 S1 x1 => ?_⟩
      cases k with
      | true => exact ⟨w1, m1, rfl, P.step S1 x1, FSat.weak q1 x1⟩
      | false => exact ⟨w1, m1, rfl, P.step S1 x1, FSat.weak q1 x1⟩
theorem st_fr {st : Stmt} {p : Pt} {s : Src} {b : Ss} {g : TG} (hg : GP C.G p g) (nfx : ∀ j ∈ p.sl, C.fx j = false) (h : PS X st (tFor (rdS C (evSrc cal s)) g (rdSt C (evSs cal L b)))) : PS X st (rdSt C (evS cal L (.fr p s b))) := PS.imp h fun D σ H ⟨w, m, eH, P, q⟩ => by
  rw [evS] at q
  refine ⟨w, m, eH, P, ?_⟩
  cases h0 : evSrc cal s m with
  | no => rw [h0] at q; exact q.elim
  | ex x m1 => rw [h0] at q; exact q
  | ok xs m1 =>
    rw [h0] at q
    have q : FSat C w D (forGo p (fun m => evSs cal L b m) xs m1) := q
    intro w1 J S1 x1 it
    refine ⟨fun i n σ H => i + n = xs.length ∧ ∃ wc m, wc.H = H ∧ Pre C wc m σ ∧ Ex w1 wc ∧ FSat C w1 D (forGo p (fun m => evSs cal L b m) (xs.drop i) m), ⟨xs.length, by omega, w1, m1, rfl, P.step S1 x1, .refl w1, by rw [List.drop_zero]; exact FSat.weak q x1⟩, ?_⟩
    rintro i n σ2 H2 ⟨hin, wc, mc, rfl, Pc, xc, qc⟩
    cases hdr : xs.drop i with
    | nil =>
      have hi : i = xs.length := by
        have := congrArg List.length hdr
        rw [List.length_drop] at this
        simp at this
        omega
      subst hi
      rw [hdr] at qc
      exact .inl ⟨it.stop wc xc.mo, qc wc σ2 Pc xc⟩
    | cons x rest =>
      have hx : xs[i]? = some x := by
        have := congrArg (fun l => l[0]?) hdr
        simpa using this
      have hlt : i < xs.length := (List.getElem?_eq_some_iff.mp hx).1
      have hrest : xs.drop (i + 1) = rest := by
        have := congrArg List.tail hdr
        simpa using this
      rw [hdr] at qc
      unfold forGo at qc
      obtain ⟨hgo, hyl⟩ := it.go i x wc xc.mo hx
      refine .inr ⟨hgo, fun σ H => ∃ wc m, wc.H = H ∧ Pre C wc m σ ∧ Ex w1 wc ∧ FSat C w1 D (forGo p (fun m => evSs cal L b m) rest m), fun σ' H' z => ⟨n - 1, by omega, by omega, by rw [hrest]; exact z⟩, fun v H' y => ?_⟩
      obtain ⟨w2, e2, S2, x2, r2, _⟩ := hyl v H' mc σ2 Pc.sr y
      cases hb : bindP mc p x with
      | none => rw [hb] at qc; exact qc.elim
      | some m3 =>
        rw [hb] at qc
        simp only at qc
        rw [← e2]
        refine hg w2 mc m3 σ2 x v _ S2 r2 hb fun σ3 S3 f3 l3 => ?_
        have P3 : Pre C w2 m3 σ3 := ⟨S3, Pc.ex.trans x2, fun j hj => by rw [f3 j (fun z => by rw [nfx j z] at hj; cases hj), Pc.fix j hj]⟩
        refine ⟨w2, m3, rfl, P3, ?_⟩
        cases h2 : evSs cal L b m3 with
        | nx m4 => rw [h2] at qc; exact fun w4 σ4 P4 x4 => ⟨w4, m4, rfl, P4, xc.trans (x2.trans x4), qc⟩
        | ct m4 => rw [h2] at qc; exact fun w4 σ4 P4 x4 => ⟨w4, m4, rfl, P4, xc.trans (x2.trans x4), qc⟩
        | bk m4 => rw [h2] at qc; exact fun w4 σ4 P4 x4 => qc w4 σ4 P4 (xc.trans (x2.trans x4))
        | rt r m4 => rw [h2] at qc; exact fun w4 σ4 v P4 x4 => qc w4 σ4 v P4 (xc.trans (x2.trans x4))
        | ex x m4 => rw [h2] at qc; exact qc
        | no => rw [h2] at qc; exact qc.elim
theorem st_app {st : Stmt} {i : Nat} {e : E} (h : PS X st (tDrop (tBM C.G.K "list" rAppend (tVar i) (tCons (rdD C (opdF (evE cal e))) tNil)))) : PS X st (rdSt C (evS cal L (.app i e))) := PS.imp h fun D σ H ⟨w, m, eH, P, q⟩ => by
  rw [evS] at q
  cases h0 : m[i]? with
  | none => rw [h0] at q; exact q.elim
  | some s =>
    rw [h0] at q
    have sl := P.sr.sl i s h0
    cases s with
    | no => exact q.elim
    | fz t => exact q.elim
    | ow o =>
      cases o with
      | dic k => exact q.elim
      | ins c k => exact q.elim
      | lst xs0 =>
        simp only at q
        rw [FSat_ofR] at q
        obtain ⟨a, e1, ro, l⟩ := sl
        obtain ⟨vs0, hv0, _⟩ := ro.lst_inv
        refine ⟨_, e1, .inl ⟨rfl, vs0, .inl (.inl (by rw [← eH]; exact hv0))⟩, w, m, eH, P, ?_⟩
        rw [opdF, Res.sat_bind]
        refine Res.sat_mono q fun r m1 q1 w1 v S1 x1 r1 => ?_
        cases h1 : esc m1 r.opd with
        | none => rw [h1] at q1; exact q1.elim
        | some pr =>
          obtain ⟨t, m2⟩ := pr
          rw [h1] at q1
          obtain ⟨w2, e2, S2, x2, r2⟩ := S1.esc r1 h1
          simp only at q1
          cases h2 : m2[i]? with
          | none => rw [h2] at q1; exact q1.elim
          | some s2 =>
            rw [h2] at q1
            have sl2 := S2.sl i s2 h2
            cases s2 with
            | no => exact q1.elim
            | fz t => exact q1.elim
            | ow o2 =>
              cases o2 with
              | dic k => exact q1.elim
              | ins c k => exact q1.elim
              | lst xs =>
                obtain ⟨a2, e3, ro2, l2⟩ := sl2
                rw [e1] at e3
                cases e3
                obtain ⟨vs, hv, rs⟩ := ro2.lst_inv
                simp only at q1
                split at q1
                · rename_i hlt
                  have nf := S2.sep a l2
                  obtain ⟨S3, x3⟩ := S2.write (u := .lst (vs ++ [v])) (o' := .lst (xs ++ [t])) h2 e1 (.lst upd_same (RFs.mono (Mo.poke nf) (rs.append (.cons r2 .nil))))
                  refine ⟨a, vs, v, rfl, rfl, by rw [← e2]; exact hv, by rw [← rs.length]; exact hlt, ?_⟩
                  rw [← e2]
                  exact q1 (w2.wr a (.lst (vs ++ [v]))) σ (P.step S3 (x1.trans (x2.trans x3))) (x1.trans (x2.trans x3))
                · exact q1.elim
/-! name[key] = value -/
noncomputable def rSetM : TSet := fun o i v H Q => rSetL o i v H Q ∨ rSetD o i v H Q
theorem RFk.any {G : Gm} {w : Wd} (k : Key) : ∀ {kvs : List (Key × T)} {ks : List (Key × V)}, RFk G w kvs ks → (kvs.any fun kv => decide (kv.1 = k)) = ks.any fun kv => decide (kv.1 = k)
  | _, _, .nil => rfl
  | _, _, .cons a b => by simp only [List.any_cons, RFk.any k b]
theorem RFk.app {G : Gm} {w : Wd} : ∀ {kvs kvs' : List (Key × T)} {ks ks' : List (Key × V)}, RFk G w kvs ks → RFk G w kvs' ks' → RFk G w (kvs ++ kvs') (ks ++ ks')
  | _, _, _, _, .nil, s => s
  | _, _, _, _, .cons a b, s => .cons a (RFk.app b s)
theorem RFk.map {G : Gm} {w : Wd} {k : Key} {t : T} {v : V} (q : RF G w t v) : ∀ {kvs : List (Key × T)} {ks : List (Key × V)}, RFk G w kvs ks → RFk G w (kvs.map fun kv => if decide (kv.1 = k) = true then (kv.1, t) else kv) (ks.map fun kv => if kv.1 = k then (kv.1, v) else kv)
  | _, _, .nil => .nil
  | _, _, .cons (k := k') a b => by
    simp only [List.map_cons]
    by_cases e : k' = k
    · simp only [e, decide_true, if_true]
      exact .cons q (RFk.map q b)
    · simp only [e, decide_false, if_false, Bool.false_eq_true]
      exact .cons a (RFk.map q b)
theorem RFk.put {G : Gm} {w : Wd} {kvs : List (Key × T)} {ks : List (Key × V)} {k : Key} {t : T} {v : V} (r : RFk G w kvs ks) (q : RF G w t v) : RFk G w (putT kvs k t) (putK ks k v) := by
  unfold putT putK
  rw [r.any k]
  split
  · exact r.map q
  · exact r.app (.cons q .nil)
theorem keyT_v {w : Wd} {t : T} {k : Key} {v : V} (h : keyT t = some k) (r : RA C.G w t v) : v = kV k := by
  cases t <;> try (cases h; done)
  case int i => cases h; exact r.int
  case str s => cases h; exact r.str
theorem st_sto {st : Stmt} {i : Nat} {k v : E} (h : PS X st (tAsg (rdE C (evE cal v)) (gSub (tVar i) (rdE C (evE cal k)) rSetM))) : PS X st (rdSt C (evS cal L (.sto i k v))) := PS.imp h fun D σ H ⟨w, m, eH, P, q⟩ => by
  rw [evS, FSat_ofR] at q
  apply rd_opd
  refine ⟨w, m, eH, P, ?_⟩
  rw [opdF, Res.sat_bind]
  refine Res.sat_mono q fun rv m1 q1 w1 vv S1 x1 r1 => ?_
  cases h0 : m1[i]? with
  | none => rw [h0] at q1; exact q1.elim
  | some s0 =>
    rw [h0] at q1
    have sl0 := S1.sl i s0 h0
    cases s0 with
    | no => exact q1.elim
    | fz t => exact q1.elim
    | ow o0 =>
      obtain ⟨a, ea, _, _⟩ := sl0
      simp only at q1
      rw [FSat_ofR] at q1
      refine ⟨_, ea, ?_⟩
      apply rd_opd
      refine ⟨w1, m1, rfl, P.step S1 x1, ?_⟩
      rw [opdF, Res.sat_bind]
      refine Res.sat_mono q1 fun rk m2 q2 w2 kv S2 x2 r2 => ?_
      cases h1 : esc m2 rv.opd with
      | none => rw [h1] at q2; exact q2.elim
      | some pr =>
        obtain ⟨t, m3⟩ := pr
        rw [h1] at q2
        simp only at q2
        obtain ⟨w3, e3, S3, x3, r3⟩ := S2.esc (r1.mono x2.mo) h1
        cases h2 : der m3 rk.opd with
        | none => rw [h2] at q2; exact q2.elim
        | some kt =>
          rw [h2] at q2
          have rk' := S3.der (r2.mono x3.mo) h2
          cases h3 : m3[i]? with
          | none => rw [h3] at q2; cases kt <;> exact q2.elim
          | some s3 =>
            rw [h3] at q2
            have sl3 := S3.sl i s3 h3
            cases s3 with
            | no => cases kt <;> exact q2.elim
            | fz t => cases kt <;> exact q2.elim
            | ow o3 =>
              obtain ⟨a3, e4, ro, l3⟩ := sl3
              rw [ea] at e4
              cases e4
              have nf := S3.sep a l3
              cases o3 with
              | ins c fs => cases kt <;> exact q2.elim
              | lst xs =>
                cases kt <;> try (exact q2.elim)
                case int j =>
                  obtain ⟨vs, hv, rs⟩ := ro.lst_inv
                  simp only at q2
                  cases h4 : ixN xs.length j with
                  | none => rw [h4] at q2; exact q2.elim
                  | some n =>
                    rw [h4] at q2
                    obtain ⟨S5, x5⟩ := S3.write (u := .lst (vs.set n vv)) (o' := .lst (xs.set n t)) h3 ea (.lst upd_same (RFs.mono (Mo.poke nf) (RFs.set r3 n rs)))
                    refine .inl ⟨a, vs, j, n, rfl, rk'.int, by rw [← e3]; exact hv, by rw [← rs.length]; exact h4, ?_⟩
                    rw [← e3]
                    exact q2 (w3.wr a (.lst (vs.set n vv))) σ (P.step S5 (x1.trans (x2.trans (x3.trans x5)))) (x1.trans (x2.trans (x3.trans x5)))
              | dic kvs =>
                obtain ⟨ks, hv, rs⟩ := ro.dic_inv
                have q2 : FSat C w D (match keyT kt with
                  | some k => if kvs.length < sizeLine then .nx (m3.set i (.ow (.dic (putT kvs k t)))) else .no
                  | none => .no) := by cases kt <;> exact q2
                cases h4 : keyT kt with
                | none => rw [h4] at q2; exact q2.elim
                | some ky =>
                  rw [h4] at q2
                  simp only at q2
                  split at q2
                  · rename_i hlt
                    obtain ⟨S5, x5⟩ := S3.write (u := .dK (putK ks ky vv)) (o' := .dic (putT kvs ky t)) h3 ea (.dic upd_same (RFk.mono (Mo.poke nf) (rs.put r3)))
                    refine .inr ⟨a, upd w2.H a (.dK (putK ks ky vv)), rfl, .inl ⟨ks, ky, by rw [← e3]; exact hv, keyT_v h4 rk', by rw [← rs.length]; exact hlt, rfl⟩, ?_⟩
                    rw [← e3]
                    exact q2 (w3.wr a (.dK (putK ks ky vv))) σ (P.step S5 (x1.trans (x2.trans (x3.trans x5)))) (x1.trans (x2.trans (x3.trans x5)))
                  · exact q2.elim
end
end Mi
set_option maxHeartbeats 1000000
namespace Mi
open PySem PySem.Spec PyProof.Rows L2

section
variable {X : Cx}
theorem or_add : OpR X (binaryOp .Add) rAddM := OpR.or (OpR.or op_add op_add_str) op_cat
theorem or_muls : OpR X (binaryOp .Mult) rMulS := fun pins s σ H x y v u Q I rx ry h => by
  obtain ⟨z, n, rfl, rfl, h0, h1, hz, q⟩ := h
  obtain ⟨t, rfl⟩ := rx
  obtain ⟨t', rfl⟩ := ry
  refine PySem.SB.mul ⟨?_, fun h2 _ => ?_, fun h2 _ => ?_⟩ fun t2 k => ⟨.str (Txt.mul z n), H, I.tok k, ⟨t2, rfl⟩, q⟩
  · simp only [Bool.or_eq_false_iff, decide_eq_false_iff_not]
    omega
  · intro h3
    have h4 : (2 ^ 63 - 1 : Int) / 1000 ≤ (2 ^ 63 - 1) / n := by
      have : (0 : Int) < n := by omega
      apply Int.le_ediv_of_mul_le this
      calc (2 ^ 63 - 1 : Int) / 1000 * n ≤ (2 ^ 63 - 1 : Int) / 1000 * 1000 := Int.mul_le_mul_of_nonneg_left h1 (by decide)
        _ ≤ 2 ^ 63 - 1 := by decide
    have h5 : (z.length : Int) ≤ 1000 := by exact_mod_cast hz
    have : (1000 : Int) < (2 ^ 63 - 1 : Int) / 1000 := by decide
    omega
  · have : z.length * n.toNat ≤ 1000 * 1000 := Nat.mul_le_mul hz (by omega)
    have l : (1000 * 1000 : Nat) ≤ sizeLine := by decide
    show decide (_ > sizeLine) = false
    exact decide_eq_false (by omega)
theorem or_mul : OpR X (binaryOp .Mult) rMulM := OpR.or op_mulW or_muls
theorem or_eq (hu : X.A.units + 64 < cLine) : OpR X (compareOp .Eq) (rEqM X.K) := OpR.or (OpR.or op_eq (op_eqD hu)) (op_eqDic (by omega))
theorem or_ne (hu : X.A.units + 64 < cLine) : OpR X (compareOp .NotEq) (rNeM X.K) := OpR.or (OpR.or op_ne (op_neD hu)) (op_neDic (by omega))
theorem OpR.imp {f : Value → Value → Sem Value} {r r' : R2} (h : OpR X f r) (i : ∀ x y H Q, r' x y H Q → r x y H Q) : OpR X f r' := fun pins s σ H x y v u Q I rx ry q => h pins s σ H x y v u Q I rx ry (i _ _ _ _ q)
theorem CallR.imp {f : Value} {r r' : List V → Hp → VK → Prop} (h : CallR X f r) (i : ∀ x H Q, r' x H Q → r x H Q) : CallR X f r' := fun pins s σ H x u Q I rx q => h pins s σ H x u Q I rx (i _ _ _ q)
theorem op_inK (hu : X.A.units + 64 < cLine) : OpR X (compareOp .In) (rInK false) := fun pins s σ H x y v u Q I rx ry h => by
  obtain ⟨a, kvs, k, rfl, rfl, e, q⟩ := h
  cases ry
  exact d_in (by omega) I (.inl ⟨kvs, k, e, rfl, rfl⟩) rx fun s' I' => ⟨.bl _, H, I', rfl, q⟩
theorem op_notInK (hu : X.A.units + 64 < cLine) : OpR X (compareOp .NotIn) (rInK true) := fun pins s σ H x y v u Q I rx ry h => by
  obtain ⟨a, kvs, k, rfl, rfl, e, q⟩ := h
  cases ry
  exact d_notIn (by omega) I (.inl ⟨kvs, k, e, rfl, rfl⟩) rx fun s' I' => ⟨.bl _, H, I', rfl, q⟩
theorem or_in (hu : X.A.units + 64 < cLine) : OpR X (compareOp .In) (rInM X.K false) := OpR.or (OpR.or op_in_sign op_in_seq) (op_inK hu)
theorem or_notin (hu : X.A.units + 64 < cLine) : OpR X (compareOp .NotIn) (rInM X.K true) := OpR.or (OpR.or op_notIn_sign op_notIn_seq) (op_notInK hu)
theorem cr_listM (hc : X.calm = true) : CallR X (.type "list") (rListM X.K) := CallR.or call_list_of (call_listD hc)
theorem cr_lenM : CallR X (.builtin "len") (rLenM X.K) := CallR.or call_len fun pins s σ H xs us Q I r h => by
  obtain ⟨a, kvs, rfl, ha, q⟩ := h
  obtain ⟨u, rfl, ru⟩ := vals1 r
  cases ru
  exact d_len I ha fun t s' I' => ⟨.int kvs.length, H, I', ⟨t, rfl⟩, q⟩
theorem cr_strM : CallR X (.type "str") rStrM := CallR.or call_str_int SkE.call_str_str
theorem cr_intM : CallR X (.type "int") rIntM := CallR.or call_int1 call_int_str
theorem sl_M : L2.SlR X (rSlM X.K) := L2.SlR.or sl_list sl_str
end

/-! ### isinstance -/
section
variable {G : Gm}
theorem RA.ty {w : Wd} {t : T} {v : V} (r : RA G w t v) (h : ∀ c fs, t ≠ .ins c fs) : TyX G.K w.H v (.type (tyT t)) := by
  cases t with
  | ins c fs => exact absurd rfl (h c fs)
  | non => cases r.non; exact .base .non
  | bl b => cases r.bl; exact .base (.bl b)
  | int i => cases r.int; exact .base (.int i)
  | str s => cases r.str; exact .base (.str s)
  | lst xs => obtain ⟨a, vs, rfl, h1, _⟩ := r.lst; exact .base (.lst h1)
  | tup xs =>
    obtain ⟨a, vs, rfl, h1, _⟩ := r.tup
    rcases h1 with (h1 | ⟨o, h1⟩) | ⟨o, its, n, h1, h2, h3⟩
    · exact .base (.tup h1)
    · exact .fTuple h1
    · exact .kTuple h1 h2
  | dic kvs =>
    obtain ⟨a, ks, rfl, h1, _⟩ := r.dic
    rcases h1 with h1 | ⟨o, h1⟩
    · exact .base (.dK h1)
    · exact .fDict h1
  | scr ns =>
    obtain ⟨a, rfl, h1⟩ := r.scr
    rcases h1 with (h1 | ⟨o, h1⟩) | ⟨o, its, n, h1, h2, h3⟩
    · exact .base (.lst h1)
    · exact .base (.frz h1)
    · exact .kList h1 h2
theorem kit_has {t : T} {l : Ty} (h : ∀ c fs, t ≠ .ins c fs) : kitB (tyT t) l.nm = some (Ty.has t l) := by
  cases t with
  | ins c fs => exact absurd rfl (h c fs)
  | non => cases l <;> (show kitB "NoneType" _ = some false; decide +kernel)
  | bl b => cases l <;> first | (show kitB "bool" _ = some false; decide +kernel) | (show kitB "bool" _ = some true; decide +kernel)
  | int i => cases l <;> first | (show kitB "int" _ = some false; decide +kernel) | (show kitB "int" _ = some true; decide +kernel)
  | str s => cases l <;> first | (show kitB "str" _ = some false; decide +kernel) | (show kitB "str" _ = some true; decide +kernel)
  | lst xs => cases l <;> first | (show kitB "list" _ = some false; decide +kernel) | (show kitB "list" _ = some true; decide +kernel)
  | tup xs => cases l <;> first | (show kitB "tuple" _ = some false; decide +kernel) | (show kitB "tuple" _ = some true; decide +kernel)
  | dic xs => cases l <;> first | (show kitB "dict" _ = some false; decide +kernel) | (show kitB "dict" _ = some true; decide +kernel)
  | scr xs => cases l <;> first | (show kitB "list" _ = some false; decide +kernel) | (show kitB "list" _ = some true; decide +kernel)
theorem kit_any {K : PySem.W.Frag} {t : T} (h : ∀ c fs, t ≠ .ins c fs) : ∀ l : List Ty, PySem.W.kitAny K (.type (tyT t)) (l.map fun y => .type y.nm) = some (l.any (Ty.has t))
  | [] => rfl
  | y :: l => by
    refine kitAny_cons (kit_ty (kit_has (l := y) h)) (fun e => ?_) (fun e => ?_)
    · rw [kit_any h l, List.any_cons, e]; rfl
    · rw [List.any_cons, e]; rfl
theorem okIsi1 {l : Ty} : OpOk1 G (.isi1 l) (fun x H Q => rIsi G.K [x, .ty l.nm] H Q) := fun w m σ t1 v1 res Q S a h k => by
  have h : isi1F l t1 = some res := h
  have nt : ∀ c fs, t1 ≠ .ins c fs := fun c fs e => by subst e; cases h
  have h' : fB (Ty.has t1 l) = some res := by cases t1 <;> first | exact h | exact absurd rfl (nt _ _)
  cases h'
  exact ⟨v1, .ty l.nm, _, _, _, rfl, .ty _, a.ty nt, kit_ty (kit_has nt), k.fz S (.bl _)⟩
noncomputable def rIsiL (K : PySem.W.Frag) (l : List Ty) : V → Hp → VK → Prop := fun x H Q => (l.map fun y => V.ty y.nm).length ≤ sizeLine ∧ ∀ p, H p = none → rIsiT K [x, .ref p] (upd H p (.tup (l.map fun y => V.ty y.nm))) Q
theorem paired_ty : ∀ l : List Ty, Paired ClsV (l.map fun y => V.ty y.nm) (l.map fun y => .type y.nm)
  | [] => .nil
  | y :: l => .cons (.ty _) (paired_ty l)
theorem okIsi {l : List Ty} (hl : l.length ≤ 30) : OpOk1 G (.isi l) (rIsiL G.K l) := fun w m σ t1 v1 res Q S a h k => by
  have h : isiF l t1 = some res := h
  have nt : ∀ c fs, t1 ≠ .ins c fs := fun c fs e => by subst e; cases h
  have h' : fB (l.any (Ty.has t1)) = some res := by cases t1 <;> first | exact h | exact absurd rfl (nt _ _)
  cases h'
  have l30 : 30 ≤ sizeLine := by decide
  refine ⟨by rw [List.length_map]; omega, fun p hp => ?_⟩
  have a' : RA G (w.new p (.tup (l.map fun y => V.ty y.nm))) t1 v1 := by
    rcases a.cases' with a | ⟨o, q, rfl, rfl, ro⟩
    · exact .fz (RF.mono (Mo.new S.trk hp) a)
    · refine .ow (ro.mono (Mo.new S.trk hp) ?_)
      obtain ⟨u, hu⟩ := ro.trk
      exact (upd_trk hp hu).trans hu.symm
  have e := k (w.new p (.tup (l.map fun y => V.ty y.nm))) (.bl (l.any (Ty.has t1))) (S.new hp) (Ex.new S.trk hp) (.bl _)
  exact ⟨v1, p, _, _, _, _, rfl, upd_same, paired_ty l, a'.ty nt, kit_any nt l, e⟩
end
end Mi
set_option maxHeartbeats 1000000
namespace Mi
open PySem PySem.Spec PyProof.Rows L2

structure XC (C : Ct) (X : Cx) (k : Nat) : Prop where
  K : C.G.K = X.K
  nd : X.N.Nodup
  calm : X.calm = true
  room : Room (2 * k + 1) X.A
  tk : Takes X (WM C)
section
variable {C : Ct} {X : Cx} {k : Nat} {cal : Nat → List Slot → CRes} {L : Nat}
theorem XC.hu (c : XC C X k) : X.A.units + 64 < cLine := by have := c.room.un; omega
theorem XC.blk (c : XC C X k) {s : Shared} {H : Hp} {scope : Scope} {env : Env} {fp : List Addr} : XC C.inn (X.blk s H scope env fp) k :=
  ⟨c.K, c.nd, c.calm, c.room, fun u s' ⟨a, B, sI, pins, σ, H, cls, d, e, I, nb, up, sky, na, os, ag, w⟩ => by
    obtain ⟨_, _, _, _, _, _, z⟩ := w
    exact z.elim⟩
/-! ### constants, names -/
variable {pos p1 p2 p3 : Pos} {j : Option Str}
theorem x_int {i : Int} {j} : PE X (.Constant (.int i) j pos) (rdE C (evE cal (.c (.int i)))) := n_cst pe_int fun _ => .int i
theorem x_str {i : Str} {j} : PE X (.Constant (.str i) j pos) (rdE C (evE cal (.c (.str i)))) := n_cst pe_str fun _ => .str i
theorem x_bl {i : Bool} {j} : PE X (.Constant (.bool i) j pos) (rdE C (evE cal (.c (.bl i)))) := n_cst pe_bl fun _ => .bl i
theorem x_non {j} : PE X (.Constant .none j pos) (rdE C (evE cal (.c .non))) := n_cst pe_non fun _ => .non
theorem x_var {i : Nat} {x : Str} (hN : X.N[i]? = some x := by rfl) (hv : Vis X.env.scope x := by first | exact Or.inl rfl | exact Or.inr (Or.inl rfl) | exact Or.inr (Or.inr rfl)) (hd : (x == ("__debug__" : Str)) = false := by decide)
    (hcd : (x == ("__classdict__" : Str)) = false := by decide) : PE X (.Name x pos) (rdE C (evE cal (.var i))) := n_var (pv i hN hv hd hcd)
noncomputable def GlobAt (X : Cx) (G : Gm) (x : Str) (t : T) : Prop := ∃ u v, X.mg x = some u ∧ RelV v u ∧ ∀ w, RF G w t v
theorem x_glob {x : Str} {t : T} (h : GlobAt X C.G x t) (hg : Gl X x := by rfl) (hdb : (x == ("__debug__" : Str)) = false := by decide) : PE X (.Name x pos) (rdE C (evE cal (.c t))) := by
  obtain ⟨u, v, h1, h2, h3⟩ := h
  exact n_cst (pe_glob hg h1 h2 hdb) h3
/-! ### displays -/
theorem evDs_nil : evDs cal .nil = fun m => .ok [] m := by funext m; rw [evDs]
theorem evDs_cons {e : E} {r : Es} : evDs cal (.cons e r) = consD (evE cal e) (evDs cal r) := by funext m; rw [evDs]; rfl
theorem a_nil : PA X [] (rdDs C (evDs cal .nil)) := by rw [evDs_nil]; exact pa_nilM
theorem a_cons {e : Expr} {es : List Expr} {a : E} {r : Es} (h : PE X e (rdE C (evE cal a))) (hr : PA X es (rdDs C (evDs cal r))) (hs : starEach (e :: es) X.env = (false, eval e X.env) :: starEach es X.env := by rfl) :
    PA X (e :: es) (rdDs C (evDs cal (.cons a r))) := by rw [evDs_cons]; exact pa_consM h hr hs
theorem x_lst {exs : List Expr} {es : Es} (h : PA X exs (rdDs C (evDs cal es))) : PE X (.List exs pos) (rdE C (evE cal (.lst es))) := n_lst (fun _ => pe_lst) h
theorem x_tup {exs : List Expr} {es : Es} {n} (h : PA X exs (rdDs C (evDs cal es))) : PE X (.Tuple exs n pos) (rdE C (evE cal (.tup es))) := n_tup (fun _ => pe_tup) h
/-! ### operators -/
noncomputable def BP (C : Ct) (X : Cx) (op : Operator) (f : Op) : Prop := ∃ r, OpR X (binaryOp op) r ∧ OpOk2 C.G f r
theorem b_add : BP C X .Add .add := ⟨_, or_add, okAdd⟩
theorem b_sub : BP C X .Sub .sub := ⟨_, op_sub, okSub⟩
theorem b_mul : BP C X .Mult .mul := ⟨_, or_mul, okMul⟩
theorem b_fdiv : BP C X .FloorDiv .fdiv := ⟨_, op_fdivW, okFdiv⟩
theorem b_mod : BP C X .Mod .mod := ⟨_, op_mod, okMod⟩
theorem b_pow : BP C X .Pow .pow := ⟨_, op_pow, okPow⟩
theorem x_bin {op : Operator} {f : Op} {a b : Expr} {ea eb : E} (h : BP C X op f) (ha : PE X a (rdE C (evE cal ea))) (hb : PE X b (rdE C (evE cal eb))) : PE X (.BinOp a op b pos) (rdE C (evE cal (.op f (.cons ea (.cons eb .nil))))) := by
  obtain ⟨r, h1, h2⟩ := h
  exact n_op2 (fun _ _ => pe_op h1) h2 ha hb
theorem x_neg {a : Expr} {ea : E} (ha : PE X a (rdE C (evE cal ea))) : PE X (.UnaryOp .USub a pos) (rdE C (evE cal (.op .neg (.cons ea .nil)))) := n_op1 (fun _ => pe_un un_neg) okNeg ha
noncomputable def CP (C : Ct) (X : Cx) (op : CmpOp) (f : Op) : Prop := ∃ r, OpR X (compareOp op) r ∧ OpOk2 C.G f r
theorem c_eq (c : XC C X k) : CP C X .Eq .eq := ⟨_, by rw [c.K]; exact or_eq c.hu, okEq⟩
theorem c_ne (c : XC C X k) : CP C X .NotEq .ne := ⟨_, by rw [c.K]; exact or_ne c.hu, okNe⟩
theorem c_lt (c : XC C X k) : CP C X .Lt .lt := ⟨_, op_lt, okCmp fun _ _ => rfl⟩
theorem c_le (c : XC C X k) : CP C X .LtE .le := ⟨_, op_le, okCmp fun _ _ => rfl⟩
theorem c_gt (c : XC C X k) : CP C X .Gt .gt := ⟨_, op_gt, okCmp fun _ _ => rfl⟩
theorem c_ge (c : XC C X k) : CP C X .GtE .ge := ⟨_, op_ge, okCmp fun _ _ => rfl⟩
theorem c_in (c : XC C X k) : CP C X .In .isin := ⟨_, by rw [c.K]; exact or_in c.hu, okIn⟩
theorem c_notin (c : XC C X k) : CP C X .NotIn .notin := ⟨_, by rw [c.K]; exact or_notin c.hu, okNotin⟩
theorem c_is (c : XC C X k) : CP C X .Is .isn := ⟨_, op_isN, okIsn⟩
theorem x_cmp {op : CmpOp} {f : Op} {a b : Expr} {ea eb : E} (h : CP C X op f) (ha : PE X a (rdE C (evE cal ea))) (hb : PE X b (rdE C (evE cal eb))) (hm : behindInMarks op b = false := by first | exact nomark _ | rfl) :
    PE X (.Compare a [op] [b] pos) (rdE C (evE cal (.op f (.cons ea (.cons eb .nil))))) := by
  obtain ⟨r, h1, h2⟩ := h
  exact n_op2 (fun _ _ a b => pe_cmpR h1 a b hm) h2 ha hb
theorem y_cmp {op : CmpOp} {f : Op} {a b : Expr} {ea eb : E} (h : CP C X op f) (ha : PE X a (rdE C (evE cal ea))) (hb : PE X b (rdE C (evE cal eb))) (hm : behindInMarks op b = false := by first | exact nomark _ | rfl) :
    PT X (.Compare a [op] [b] pos) (rdB C (evE cal (.op f (.cons ea (.cons eb .nil))))) := by
  obtain ⟨r, h1, h2⟩ := h
  exact t_op2 (fun _ _ a b => pt_cmpR h1 a b hm) h2 ha hb
theorem x_chain {op op' : CmpOp} {f f' : Op} {a b d : Expr} {ea eb ed : E} (h : CP C X op f) (h' : CP C X op' f') (ha : PE X a (rdE C (evE cal ea))) (hb : PE X b (rdE C (evE cal eb))) (hd : PE X d (rdE C (evE cal ed)))
    (hm : lastMarks [op, op'] [b, d] = false := by with_unfolding_all rfl) : PE X (.Compare a [op, op'] [b, d] pos) (rdE C (evE cal (.ch f f' ea eb ed))) := by
  obtain ⟨r, h1, h2⟩ := h
  obtain ⟨r', h1', h2'⟩ := h'
  exact n_chain (fun _ _ _ a b d => pe_chain h1 h1' a b d hm) h2 h2' ha hb hd
theorem y_chain {op op' : CmpOp} {f f' : Op} {a b d : Expr} {ea eb ed : E} (h : CP C X op f) (h' : CP C X op' f') (ha : PE X a (rdE C (evE cal ea))) (hb : PE X b (rdE C (evE cal eb))) (hd : PE X d (rdE C (evE cal ed)))
    (hm : lastMarks [op, op'] [b, d] = false := by with_unfolding_all rfl) : PT X (.Compare a [op, op'] [b, d] pos) (rdB C (evE cal (.ch f f' ea eb ed))) := by
  obtain ⟨r, h1, h2⟩ := h
  obtain ⟨r', h1', h2'⟩ := h'
  exact t_chain (fun _ _ _ a b d => pt_chain h1 h1' a b d hm) h2 h2' ha hb hd
/-! ### and, or, not, if -/
theorem x_one {op} {a : Expr} {ea : E} (h : PE X a (rdE C (evE cal ea))) : PE X (.BoolOp op [a] pos) (rdE C (evE cal ea)) := pe_one h
theorem x_and {a b : Expr} {rest : List Expr} {ea eb : E} (ha : PE X a (rdE C (evE cal ea))) (hb : PE X (.BoolOp .And (b :: rest) pos) (rdE C (evE cal eb))) : PE X (.BoolOp .And (a :: b :: rest) pos) (rdE C (evE cal (.an ea eb))) := n_and (fun _ _ => pe_and) ha hb
theorem x_not {a : Expr} {ea : E} (ha : PE X a (rdE C (evE cal ea))) : PE X (.UnaryOp .Not a pos) (rdE C (evE cal (.nt ea))) := n_not (fun _ => pe_not) ha
theorem x_ite {c a b : Expr} {ec ea eb : E} (hc : PT X c (rdB C (evE cal ec))) (ha : PE X a (rdE C (evE cal ea))) (hb : PE X b (rdE C (evE cal eb))) : PE X (.IfExp c a b pos) (rdE C (evE cal (.ite ec ea eb))) := n_ite (fun _ _ _ => pe_ifExp) hc ha hb
theorem y_val {e : Expr} {ea : E} (h : PE X e (rdE C (evE cal ea))) (he : ∀ whole, isTrue e X.env whole = (do let v ← whole; standAt e.pos; holding [v] (truthy v)) := by intro _; rfl) : PT X e (rdB C (evE cal ea)) := t_val (fun _ h => pt_val h he) h
theorem y_not {a : Expr} {ea : E} (h : PT X a (rdB C (evE cal ea))) : PT X (.UnaryOp .Not a pos) (rdB C (evE cal (.nt ea))) := t_not (fun _ => pt_not) h
theorem z_and1 {a : Expr} {ea : E} (h : PT X a (rdB C (evE cal ea))) : PW X (.BoolOp .And [a] pos) (rdB C (evE cal ea)) := pw_and1 h
theorem z_or1 {a : Expr} {ea : E} (h : PT X a (rdB C (evE cal ea))) : PW X (.BoolOp .Or [a] pos) (rdB C (evE cal ea)) := pw_or1 h
theorem rd_and {a b : E} {σ : St} {H : Hp} {Q : Bool → Hp → Prop} (h : rdB C (evE cal (.an a b)) σ H Q) : tAnd (rdB C (evE cal a)) (rdB C (evE cal b)) σ H Q := by
  obtain ⟨w, m, e, P, q⟩ := h
  rw [evE, Res.sat_bind] at q
  refine ⟨w, m, e, P, Res.sat_mono q fun r m1 q1 => ?_⟩
  split at q1
  · refine ⟨true, rfl, fun w1 S1 x1 => ?_⟩
    refine iteT ?_
    exact ⟨w1, m1, rfl, P.step S1 x1, Res.sat_mono q1 fun r m2 ⟨k, e, q2⟩ => ⟨k, e, fun w2 S2 x2 => q2 w2 S2 (x1.trans x2)⟩⟩
  · refine ⟨false, rfl, fun w1 S1 x1 => ?_⟩
    refine iteF ?_
    obtain ⟨k, e, q2⟩ := q1
    cases e
    exact q2 w1 S1 x1
  · exact q1.elim
theorem rd_or {a b : E} {σ : St} {H : Hp} {Q : Bool → Hp → Prop} (h : rdB C (evE cal (.or a b)) σ H Q) : tOr (rdB C (evE cal a)) (rdB C (evE cal b)) σ H Q := by
  obtain ⟨w, m, e, P, q⟩ := h
  rw [evE, Res.sat_bind] at q
  refine ⟨w, m, e, P, Res.sat_mono q fun r m1 q1 => ?_⟩
  split at q1
  · refine ⟨true, rfl, fun w1 S1 x1 => ?_⟩
    refine iteT ?_
    obtain ⟨k, e, q2⟩ := q1
    cases e
    exact q2 w1 S1 x1
  · refine ⟨false, rfl, fun w1 S1 x1 => ?_⟩
    refine iteF ?_
    exact ⟨w1, m1, rfl, P.step S1 x1, Res.sat_mono q1 fun r m2 ⟨k, e, q2⟩ => ⟨k, e, fun w2 S2 x2 => q2 w2 S2 (x1.trans x2)⟩⟩
  · exact q1.elim
theorem z_and {a b : Expr} {rest : List Expr} {ea eb : E} (ha : PT X a (rdB C (evE cal ea))) (hb : PW X (.BoolOp .And (b :: rest) pos) (rdB C (evE cal eb))) : PW X (.BoolOp .And (a :: b :: rest) pos) (rdB C (evE cal (.an ea eb))) := PW.imp (pw_and ha hb) fun _ _ _ => rd_and
theorem z_or {a b : Expr} {rest : List Expr} {ea eb : E} (ha : PT X a (rdB C (evE cal ea))) (hb : PW X (.BoolOp .Or (b :: rest) pos) (rdB C (evE cal eb))) : PW X (.BoolOp .Or (a :: b :: rest) pos) (rdB C (evE cal (.or ea eb))) := PW.imp (pw_or ha hb) fun _ _ _ => rd_or
/-! ### subscripts -/
theorem x_idx (c : XC C X k) {a b : Expr} {ea eb : E} (ha : PE X a (rdE C (evE cal ea))) (hb : PE X b (rdE C (evE cal eb))) (hs : PlainIx b := by intro _ _; rfl) : PE X (.Subscript a b pos) (rdE C (evE cal (.op .idx (.cons ea (.cons eb .nil))))) :=
  n_op2 (r := rIxM C.G.K) (fun _ _ a b => pe_ix (by rw [c.K]; exact ix_any (by have := c.hu; omega)) a b hs) okIdx ha hb
theorem intO_some {t : T} {i : Int} (h : intO t = some i) : t = .int i := by
  cases t <;> first | (cases h; rfl) | cases h
theorem sl_MK (c : XC C X k) : L2.SlR X (rSlM C.G.K) := by rw [c.K]; exact sl_M
theorem x_slHi (c : XC C X k) {a b : Expr} {ea eb : E} (ha : PE X a (rdE C (evE cal ea))) (hb : PE X b (rdE C (evE cal eb))) : PE X (.Subscript a (.Slice none (some b) none p1) pos) (rdE C (evE cal (.op (.sl false true) (.cons ea (.cons eb .nil))))) :=
  n_op2 (r := fun x y H Q => ∃ i, y = .int i ∧ rSlM C.G.K x none (some i) H Q) (fun ta tb a b => PE.imp (pe_slice (sl_MK c) a po_none (po_some b)) fun σ H Q q => q) (fun w m σ t1 t2 v1 v2 res Q S a b h q => by
    have h : (intO t2).bind (fun i => slF t1 none (some i)) = some res := h
    cases e : intO t2 with
    | none => rw [e] at h; cases h
    | some i =>
      rw [e] at h
      cases intO_some e
      exact ⟨i, b.int, okSl S a h q⟩) ha hb
theorem x_slLo (c : XC C X k) {a b : Expr} {ea eb : E} (ha : PE X a (rdE C (evE cal ea))) (hb : PE X b (rdE C (evE cal eb))) : PE X (.Subscript a (.Slice (some b) none none p1) pos) (rdE C (evE cal (.op (.sl true false) (.cons ea (.cons eb .nil))))) :=
  n_op2 (r := fun x y H Q => ∃ i, y = .int i ∧ rSlM C.G.K x (some i) none H Q) (fun ta tb a b => PE.imp (pe_slice (sl_MK c) a (po_some b) po_none) fun σ H Q q => q) (fun w m σ t1 t2 v1 v2 res Q S a b h q => by
    have h : (intO t2).bind (fun i => slF t1 (some i) none) = some res := h
    cases e : intO t2 with
    | none => rw [e] at h; cases h
    | some i =>
      rw [e] at h
      cases intO_some e
      exact ⟨i, b.int, okSl S a h q⟩) ha hb
end
end Mi
set_option maxHeartbeats 1000000
/-! a def with a dict of the left keywords: its binding -/
namespace PySem
open Sem (wp)
section
variable {A : Around} {E : Value → Shared → Prop} {s : Shared} {M : Model}
theorem kw_loop {α β : Type} {body : α → β → Sem (ForInStep β)} {f : β → α → β} {Q : β → Shared → Prop} : ∀ (l : List α) (b : β), (∀ x ∈ l, ∀ b, body x b = pure (.yield (f b x))) → Q (l.foldl f b) s → wpAny M A (forIn l b body) Q E s
  | [], b, _, q => by rw [List.forIn_nil]; exact wpAny_pure q
  | x :: l, b, h, q => by
    rw [List.forIn_cons, h x List.mem_cons_self]
    exact wpAny_bind (wpAny_pure (kw_loop l _ (fun y hy => h y (List.mem_cons_of_mem _ hy)) q))
theorem kw_loop0 {α β : Type} {body : α → β → Sem (ForInStep β)} {b : β} {Q : β → Shared → Prop} : ∀ (l : List α), (∀ x ∈ l, body x b = pure (.yield b)) → Q b s → wpAny M A (forIn l b body) Q E s
  | [], _, q => by rw [List.forIn_nil]; exact wpAny_pure q
  | x :: l, h, q => by
    rw [List.forIn_cons, h x List.mem_cons_self]
    exact wpAny_bind (wpAny_pure (kw_loop0 l (fun y hy => h y (List.mem_cons_of_mem _ hy)) q))
theorem kw_look {α : Type} : ∀ {N : List Str} {us : List α}, us.length = N.length → ∀ n ∈ N, ((N.zip us).lookup n).isNone = false
  | n0 :: N, u :: us, hl, n, hn => by
    rw [List.zip_cons_cons, List.lookup_cons]
    by_cases e : n = n0
    · subst e; rw [beq_self_eq_true]; rfl
    · rw [beq_eq_false_iff_ne.mpr e]
      exact kw_look (by simpa using hl) n ((List.mem_cons.mp hn).resolve_left e)
  | [], _, _, n, hn => by cases hn
  | _ :: _, [], hl, _, _ => by cases hl
theorem kw_fm {α : Type} : ∀ {N : List Str} {us : List α}, us.length = N.length → N.Nodup → (N.filterMap fun n => ((N.zip us).lookup n).map fun x => (n, x)) = N.zip us := by
  have key : ∀ (N : List Str) (us : List α) (Z : List (Str × α)), us.length = N.length → N.Nodup → (∀ n ∈ N, Z.lookup n = (N.zip us).lookup n) → (N.filterMap fun n => (Z.lookup n).map fun x => (n, x)) = N.zip us := by
    intro N
    induction N with
    | nil => intro us Z hl _ _; cases us <;> rfl
    | cons n N ih =>
      intro us Z hl hN hZ
      cases us with
      | nil => cases hl
      | cons u us =>
        obtain ⟨h1, h2⟩ := List.nodup_cons.mp hN
        have e := hZ n List.mem_cons_self
        rw [List.zip_cons_cons, List.lookup_cons, beq_self_eq_true] at e
        rw [List.filterMap_cons, e]
        show (n, u) :: _ = _
        rw [List.zip_cons_cons, ih us Z (by simpa using hl) h2 fun m hm => by
          rw [hZ m (List.mem_cons_of_mem _ hm), List.zip_cons_cons, List.lookup_cons, show (m == n) = false from beq_eq_false_iff_ne.mpr fun q => by subst q; exact h1 hm]]
  exact fun {N us} hl hN => key N us _ hl hN fun _ _ => rfl
theorem kw_fold {α β γ : Type} (z : γ) : ∀ (l acc : List (α × β)), l.foldl (fun (b : γ × List (α × β)) x => (b.1, b.2 ++ [(x.1, x.2)])) (z, acc) = (z, acc ++ l)
  | [], acc => by rw [List.append_nil]; rfl
  | x :: l, acc => by rw [List.foldl_cons, kw_fold z l, List.append_assoc]; rfl
theorem kw_bind {fd : FuncData} {us : List Value} {kw : List (Str × Value)} {N : List Str} {a : Arg} {its : Option (Array Value)} {Q : List (Str × Value) → Shared → Prop} (hpo : fd.params.posonlyargs = []) (hn : fd.params.args.map (·.arg) = N) (hko : fd.params.kwonlyargs = []) (hva : fd.params.vararg = none) (hkw : fd.params.kwarg = some a)
    (hN : N.Nodup) (hl : us.length = N.length) (hkk : ∀ p ∈ kw, N.contains p.1 = false) (hd : PySem.W.Looks M s.heap (seqItems? fd.defaults) its)
    (h : wpAny M A (do
      let d ← alloc { cls := .type "dict", data := .dict #[] }
      for (k, v) in kw do nsSet d k v
      return N.zip us ++ [(a.arg, Value.ref d)]) Q E s) (hz : kw.length ≤ sizeLine + 1) : wpAny M A (bindArgs fd ⟨us, kw⟩) Q E s := by
  unfold bindArgs
  simp only [hpo, hko, hva, hkw, hn, List.map_nil, List.nil_append, List.append_nil]
  refine wpAny_bind (kw_loop (f := fun b x => (b.1, b.2 ++ [(x.1, x.2)])) kw _ (fun x hx b => ?_) ?_)
  · rw [if_neg (by rw [hkk x hx]; exact Bool.false_ne_true), if_pos (show (some a).isSome = true from rfl)]
  rw [kw_fold, List.nil_append]
  refine wpAny_bind (hd.here ?_)
  rw [if_neg (by simp [hl])]
  have hfil : ∀ l : List Str, (∀ n ∈ l, n ∈ N) → l.filter (fun n => ((N.zip us).lookup n).isNone) = [] := fun l hh => List.filter_eq_nil_iff.mpr fun n hn => by rw [kw_look hl n (hh n hn)]; exact Bool.false_ne_true
  rw [hfil _ fun n hn => List.mem_of_mem_take hn]
  rw [if_neg (by exact Bool.false_ne_true)]
  refine wpAny_bind (kw_loop0 _ (fun x hx => ?_) ?_)
  · rw [if_neg (by rw [kw_look hl x.1 (List.mem_of_mem_drop (List.of_mem_zip hx).1)]; exact Bool.false_ne_true)]
  rw [List.forIn_nil]
  refine wpAny_bind (wpAny_pure ?_)
  rw [if_neg (by exact Bool.false_ne_true)]
  dsimp only
  rw [if_neg (by omega)]
  rw [kw_fm hl hN]
  exact h
open L2 in
theorem kw_nsSet {P : Program} {w : World} {d : Addr} {kvs : List (L2.Key × Value)} {name : Str} {v : Value} {Q : Unit → Shared → Prop} (hm : s.heap.DictOf (L2.mixKind P w) d kvs) (hs : ∀ k ∈ kvs, ∃ x, k.1 = Sum.inr x) (hf : (Sum.inr name : L2.Key) ∉ kvs.map (·.1))
    (hQ : ∀ h' t', h'.DictOf (L2.mixKind P w) d (kvs ++ [(Sum.inr name, v)]) → Heap.SameBut d s.heap h' → Q () { s with heap := h', toks := t' }) : wpAny (model P w) A (nsSet d name v) Q E s := fun Γ p _ => by
  obtain ⟨o, es, ep, ho, hc, hd, hk, hp, hn⟩ := hm
  simp only [nsSet, strHash, Sem.wp_bind', Sem.wp_cmd_ask, Sem.wp_pure', Sem.wp_cmd_mkText]
  rw [Sem.wp_loadPart_of (model P w) Γ _ p { s with toks := s.toks + 1 } (o := o) _ ho]
  have hstr : ∀ e ∈ es, ∃ n t, e.key = .str n t := by
    have key : ∀ (l : List DictEntry) (kvs : List (L2.Key × Value)), Pairs (L2.mixKind P w) l kvs → (∀ k ∈ kvs, ∃ x, k.1 = Sum.inr x) → ∀ e ∈ l, ∃ n t, e.key = .str n t := by
      intro l kvs hp
      induction hp with
      | nil => intro _ e he; cases he
      | @cons e kv es kvs h1 h2 _ ih =>
        intro hh e' he
        rcases List.mem_cons.mp he with rfl | he
        · obtain ⟨x, hx⟩ := hh kv List.mem_cons_self
          rcases L2.keyIs_shape h1 with ⟨i, t, a, b⟩ | ⟨z, t, a, b⟩
          · rw [hx] at a; cases a
          · exact ⟨_, _, b⟩
        · exact ih (fun k hk => hh k (List.mem_cons_of_mem _ hk)) e' he
    exact fun e he => key es.toList kvs hp hs e (by simpa using he)
  have hany : es.any (·.refKey) = false := by
    rw [Array.any_eq_false']; intro e he; obtain ⟨n, t, h⟩ := hstr e he; simp [DictEntry.refKey, h]
  simp only [hd, aRefKeyMayBeTheName_eq, aRefKeyMayBeTheNameByArray, hany, Bool.and_false, Bool.false_eq_true, if_false, Sem.wp_cmd_updatePart]
  have hnone : es.findIdx? (·.key.isStr name) = none := by
    have key : ∀ (l : List DictEntry) (kvs : List (L2.Key × Value)), Pairs (L2.mixKind P w) l kvs → ∀ e ∈ l, e.key.isStr name = true → (Sum.inr name : L2.Key) ∈ kvs.map (·.1) := by
      intro l kvs hp
      induction hp with
      | nil => intro e he; cases he
      | @cons e kv es kvs h1 h2 _ ih =>
        intro e' he hi
        rcases List.mem_cons.mp he with rfl | he
        · rcases L2.keyIs_shape h1 with ⟨i, t, a, b⟩ | ⟨z, t, a, b⟩
          · rw [b] at hi; cases hi
          · rw [b] at hi
            have e1 : z = name := by simpa [Value.isStr] using hi
            subst e1
            exact List.mem_map.mpr ⟨kv, List.mem_cons_self, a⟩
        · exact List.mem_map.mpr (by obtain ⟨q, h1, h2⟩ := List.mem_map.mp (ih e' he hi); exact ⟨q, List.mem_cons_of_mem _ h1, h2⟩)
    rw [Array.findIdx?_eq_none_iff]
    intro e he
    rw [Bool.eq_false_iff]
    exact fun z => hf (key es.toList kvs hp e (by simpa using he) z)
  refine ⟨by rw [ho]; rfl, hQ _ _ ?_ (Heap.SameBut.update ..)⟩
  obtain ⟨c, dd, dt, sl⟩ := o
  subst hd
  refine ⟨_, _, ep + 1, Heap.get?_update_self _ ho (by simp only [Obj.putName_eq, Obj.putNameByArray, hnone]; rfl), ?_, by simp only [Obj.putName_eq, Obj.putNameByArray, hnone]; rfl, hk.push (k := Sum.inr name) (L2.mixKind_str P w name _) _, ?_, ?_⟩
  · simp only [Obj.putName_eq, Obj.putNameByArray, hnone]
    exact hc
  · have := hp.append (k := Sum.inr name) (key := .str name s.toks) (L2.mixKind_str P w name _) ((L2.mixKind P w).hash (Sum.inr name)) v
    obtain ⟨l⟩ := es
    simpa using this
  · rw [List.map_append, List.nodup_append]
    refine ⟨hn, by simp, ?_⟩
    intro a ha b hb
    simp only [List.map_cons, List.map_nil, List.mem_singleton] at hb
    subst hb
    exact fun e => hf (e ▸ ha)
theorem kw_nsSets {P : Program} {w : World} {d : Addr} {Q : PUnit → Shared → Prop} : ∀ {s : Shared} (kw : List (Str × Value)) (acc : List (Str × Value)), ((acc ++ kw).map (·.1)).Nodup → s.heap.DictOf (L2.mixKind P w) d (acc.map fun p => (Sum.inr p.1, p.2)) →
    (∀ h' t', h'.DictOf (L2.mixKind P w) d ((acc ++ kw).map fun p => (Sum.inr p.1, p.2)) → Heap.SameBut d s.heap h' → Q ⟨⟩ { s with heap := h', toks := t' }) →
    wpAny (model P w) A (forIn kw PUnit.unit fun (x : Str × Value) (_ : PUnit) => (match x with
      | (k, v) => do
        nsSet d k v
        pure (ForInStep.yield PUnit.unit) : Sem (ForInStep PUnit))) Q E s
  | s, [], acc, hn, hd, hQ => by
    rw [List.forIn_nil]
    refine wpAny_pure ?_
    have := hQ s.heap s.toks (by rw [List.append_nil]; exact hd) (Heap.SameBut.refl _ _)
    exact this
  | s, (k, v) :: kw, acc, hn, hd, hQ => by
    rw [List.forIn_cons]
    refine wpAny_bind (wpAny_bind (kw_nsSet hd (fun p hp => ?_) ?_ fun h' t' hd' hs => ?_))
    · obtain ⟨q, _, rfl⟩ := List.mem_map.mp hp
      exact ⟨_, rfl⟩
    · intro hm
      rw [List.map_map] at hm
      obtain ⟨q, h1, h2⟩ := List.mem_map.mp hm
      rw [List.map_append, List.nodup_append] at hn
      exact hn.2.2 q.1 (List.mem_map.mpr ⟨q, h1, rfl⟩) k (by simp) (Sum.inr.inj h2)
    refine wpAny_pure ?_
    refine kw_nsSets kw (acc ++ [(k, v)]) (by rw [List.append_assoc]; exact hn) (by rw [List.map_append]; exact hd') fun h2 t2 d2 s2 => ?_
    rw [List.append_assoc] at d2
    exact hQ h2 t2 d2 (hs.trans s2)
end
end PySem

namespace L2
open PySem PySem.Spec PyProof.Rows
section
variable {P : Program} {w : World} {K : PySem.W.Frag} {mg : Str → Option Value} {base : Heap} {CX : CXT} {k : Nat} {f : Addr} {fd : FuncData} {ps N : List Str} {sp : Sp}
structure FnB (P : Program) (w : World) (K : PySem.W.Frag) (mg : Str → Option Value) (base : Heap) (CX : CXT) (k : Nat) (f : Addr) (fd : FuncData) (ps : List Str) (sp : Sp) : Prop where
  ok : FnOk P w K mg base CX k f fd ps sp
  runB : ∀ (A : Around) (outer : List Env) (s : Shared) (H : Hp) (args : Args) (Q : VK) (E : XK) (Gr : List V → Hp → Prop), Room k A → Env0 P w K mg base A outer s H → StX.Bnd CX P w K mg base fd args ps A outer s H E Gr →
    (∃ vs H2, sp vs H2 Q E) → (∀ vs H2, Gr vs H2 → sp vs H2 Q E) → codeAny (model P w) A (.call (.ref f) args) (CR CX outer P w H s Q E) s
theorem FnB.imp {sp' : Sp} (F : FnB P w K mg base CX k f fd ps sp) (h : ∀ vs H Q E, sp' vs H Q E → sp vs H Q E) : FnB P w K mg base CX k f fd ps sp' :=
  ⟨F.ok.imp h, fun A outer s H args Q E Gr hr e0 hb ⟨v0, h0, q0⟩ hg => F.runB A outer s H args Q E Gr hr e0 hb ⟨v0, h0, h _ _ _ _ q0⟩ fun vs H2 g => h _ _ _ _ (hg vs H2 g)⟩
theorem fnB_of {x qual : Str} {params : Arguments} {body : List Stmt} {scope : Scope} {dvs : List V} {kws : List (Str × V)} (F : FunD K x qual params body scope dvs kws f fd) (S : FnScope N ps scope) (len : ∀ vs H Q E, sp vs H Q E → vs.length = ps.length)
    (hbody : ∀ (cdv : Value) (A : Around) (outer : List Env) (s : Shared) (H : Hp) (vs : List V) (Q : VK) (E : XK), Room k (A.deeper (envOfC qual scope s.heap.objs.size f cdv)) → sp vs H Q E →
      ∃ t, PSs (cxOf CX P w K mg base N qual scope f cdv A outer s H E) body t ∧ t { nx := fun _ H' => Q .non H', rt := Q } (start N vs) H) : FnB P w K mg base CX (k + 1) f fd ps sp := by
  refine ⟨F.ok S len hbody, fun A outer s H args Q E Gr hr e0 hb _ hg => ?_⟩
  obtain ⟨oc, od, dV, kV, doc, pm, an, cdv, ct, osl, rfl, lk, hcd, _, _⟩ := F.ex
  exact StX.run_bnd lk hcd S hr e0 hb fun s2 H2 vs g hr' => hbody cdv A outer s2 H2 vs Q E hr' (hg vs H2 g)
structure KwD (K : PySem.W.Frag) (fd : FuncData) (N : List Str) (a : Arg) : Prop where
  po : fd.params.posonlyargs = []
  n : fd.params.args.map (·.arg) = N
  ko : fd.params.kwonlyargs = []
  va : fd.params.vararg = none
  kw : fd.params.kwarg = some a
  nd : N.Nodup
  dfl : ∃ its, ∀ (M : Model) (h : Heap), K.In h → PySem.W.Looks M h (seqItems? fd.defaults) its
theorem env0_of {A : Around} {outer : List Env} {s : Shared} {H : Hp} {d : Addr} {u : HO} {h' : Heap} {t' : Nat} (e0 : Env0 P w K mg base A outer s H) (kp : ∀ b x, s.heap.get? b = some x → h'.get? b = some x) (hz : s.heap.objs.size ≤ h'.objs.size) (hd : s.heap.objs.size ≤ d) (new : ObjOk P w (upd H d u) h' d u) :
    Env0 P w K mg base A outer { s with heap := h', toks := t' } (upd H d u) := by
  refine ⟨e0.frames, e0.mod, fun b x e => ⟨kp b x (e0.bs b x e).1, ?_⟩, Nat.le_trans e0.bsz hz, Heap.FunFrames.of_keeps (fun b x e _ => ⟨x, kp b x e, rfl⟩) e0.funs, fun b hb => ?_, e0.hok.laid kp hd new, e0.bare⟩
  · rw [upd_ne (Nat.ne_of_lt (Nat.lt_of_lt_of_le (Heap.lt_size (e0.bs b x e).1) hd))]
    exact (e0.bs b x e).2
  · obtain ⟨_, x, hx, _⟩ := e0.funs.mem hb
    rw [upd_ne (Nat.ne_of_lt (Nat.lt_of_lt_of_le (Heap.lt_size hx) hd))]
    exact e0.frf b hb
noncomputable abbrev dkS (ks : List (Str × V)) : List (Key × V) := ks.map fun p => (Sum.inr p.1, p.2)
theorem kv_up : ∀ {ks : List (Str × V)} {kw : List (Str × Value)}, KV ks kw → KV (dkS ks) (kw.map fun p => ((Sum.inr p.1 : Key), p.2))
  | _, _, .nil => .nil
  | _, _, .cons ⟨a, b⟩ r => .cons ⟨congrArg Sum.inr a, b⟩ (kv_up r)
theorem kv_keys : ∀ {ks : List (Str × V)} {kw : List (Str × Value)}, KV ks kw → ks.map (·.1) = kw.map (·.1)
  | _, _, .nil => rfl
  | _, _, .cons ⟨a, _⟩ r => by rw [List.map_cons, List.map_cons, a, kv_keys r]
theorem kw_bnd {A : Around} {outer : List Env} {s : Shared} {H : Hp} {E : XK} {a : Arg} {vs : List V} {us : List Value} {ks : List (Str × V)} {kw : List (Str × Value)} (D : KwD K fd N a) (hU : StX.CXUp CX) (e0 : Env0 P w K mg base A outer s H) (r : Vals vs us) (l1 : vs.length = N.length)
    (rk : KV ks kw) (hnd : (ks.map (·.1)).Nodup) (hkk : ∀ p ∈ ks, N.contains p.1 = false) (hz : ks.length ≤ sizeLine) :
    StX.Bnd CX P w K mg base fd ⟨us, kw⟩ (N ++ [a.arg]) A outer s H E (fun xs H2 => ∃ d, H d = none ∧ xs = vs ++ [.ref d] ∧ H2 = upd H d (.dK (dkS ks))) := by
  intro A' Ex Q' hQ
  have hl : us.length = N.length := by rw [← r.length]; exact l1
  have hkl : kw.length = ks.length := (Paired.length rk).symm
  obtain ⟨its, hits⟩ := D.dfl
  have hkin : K.In s.heap := e0.mod.kin.keeps fun b x e => (e0.bs b x e).1
  have hfr : H s.heap.objs.size = none := e0.hok.fresh (Nat.le_refl _)
  have hbig : sysModules < s.heap.objs.size := StX.env0_big e0
  refine kw_bind (M := model P w) D.po D.n D.ko D.va D.kw D.nd hl (fun p hp => ?_) (hits _ _ hkin) (wpAny_bind (wpAny_alloc ?_)) (by omega)
  · have hm : p.1 ∈ ks.map (·.1) := by rw [kv_keys rk]; exact List.mem_map.mpr ⟨p, hp, rfl⟩
    obtain ⟨q, h1, h2⟩ := List.mem_map.mp hm
    rw [← h2]
    exact hkk q h1
  refine wpAny_bind (kw_nsSets (P := P) (w := w) kw [] (by rw [List.nil_append, ← kv_keys rk]; exact hnd) (Heap.DictOf.new s.heap) fun h' t' hd hs => ?_)
  refine wpAny_pure ?_
  have kp : ∀ b x, s.heap.get? b = some x → h'.get? b = some x := fun b x e => (hs.2 b (Nat.ne_of_lt (Heap.lt_size e))).trans (Heap.get?_push_of_some _ e)
  rw [List.nil_append] at hd
  have new : ObjOk P w (upd H s.heap.objs.size (.dK (dkS ks))) h' s.heap.objs.size (.dK (dkS ks)) := ⟨by rw [List.length_map]; exact hz, beq_eq_false_iff_ne.mpr (Ne.symm (Nat.ne_of_lt hbig)), _, kv_up rk, hd⟩
  have hsz : s.heap.objs.size ≤ h'.objs.size := by
    have := hs.1
    rw [Heap.size_push] at this
    omega
  have un : Un (frs outer) [] H (upd H s.heap.objs.size (.dK (dkS ks))) s.heap h' := Un.laid kp (Nat.le_refl _) hfr
  have z := hQ { s with heap := h', toks := t' } (upd H s.heap.objs.size (.dK (dkS ks))) (vs ++ [.ref s.heap.objs.size]) (us ++ [.ref s.heap.objs.size]) (env0_of e0 kp hsz (Nat.le_refl _) new) un rfl (fun e s' => hU outer s H _ _ E e s' un kp rfl) (r.append (.cons (show RelV (.ref s.heap.objs.size) (.ref s.heap.objs.size) from rfl) .nil)) (by rw [List.length_append, List.length_append, l1]; rfl) ⟨_, hfr, rfl, rfl⟩
  rw [List.zip_append hl.symm] at z
  exact z
end
section
variable {X : Cx} {CX : CXT} {k : Nat} {f C : Addr} {fd : FuncData} {N : List Str} {a : Arg} {sp : Sp} {E : XK}
theorem run_makeD {pins : List (Addr × Obj)} {σ : St} {H : Hp} {s : Shared} {Q : VK} {us : List Value} {vs : List V} {ks : List (Str × V)} {kw : List (Str × Value)} (M : Mk X.K C f) (F : FnB X.prog X.w X.K X.mg X.base CX k f fd (N ++ [a.arg]) sp) (hr : Room (k + 1) X.A) (D : KwD X.K fd N a)
    (hx : Passes CX X E) (hU : StX.CXUp CX) (I : Inv X pins σ H s) (r : Vals vs us) (l1 : vs.length + 1 = N.length) (rk : KV ks kw) (hnd : (ks.map (·.1)).Nodup) (hkk : ∀ p ∈ ks, N.contains p.1 = false) (hz : ks.length ≤ sizeLine)
    (h : ∀ x dx d, H x = none → H dx = none → H d = none → dx ≠ x → d ≠ x → d ≠ dx → sp (.ref x :: (vs ++ [.ref d])) (upd (upd (upd H dx (.own x)) x (.ins C dx [])) d (.dK (dkS ks))) (fun v H2 => v = .non ∧ Q (.ref x) H2) E) :
    wpAny (model X.prog X.w) X.A (call (.ref C) us kw) (EP X pins σ Q) X.xe s := by
  have hq := h (s.heap.objs.size + 1) s.heap.objs.size
  have I2 := Inv.made (C := C) I
  have r1 : Vals (V.ref (s.heap.objs.size + 1) :: vs) (Value.ref (s.heap.objs.size + 1) :: us) := .cons rfl r
  have h2 := hq (s.heap.objs.size + 2) (I.hok.fresh (Nat.le_succ _)) (I.hok.fresh (Nat.le_refl _)) (I.hok.fresh (Nat.le_add_right _ 2)) (Nat.ne_of_lt (Nat.lt_succ_self _)) (Nat.succ_ne_self _) (Nat.ne_of_gt (Nat.lt_add_of_pos_right (by decide)))
  refine wpAny_call (make_map (f := f) I.kIn M.makes M.init (beq_iff_eq.mp M.fn) (codeAny_mono (F.runB _ X.stack _ _ ⟨Value.ref (s.heap.objs.size + 1) :: us, kw⟩ (fun v H2 => v = .non ∧ Q (.ref (s.heap.objs.size + 1)) H2) E _ (hr.make C us kw)
    (I2.env0.make C us kw) (kw_bnd D hU (I2.env0.make C us kw) r1 (by simpa using l1) rk hnd hkk hz) ⟨_, _, h2⟩ fun xs H2 ⟨d, hd, ex, eH⟩ => ?_) fun r s' hq' => ?_))
  · subst ex eH
    have e1 : d ≠ s.heap.objs.size + 1 := fun e => by rw [e, upd_same] at hd; cases hd
    have e2 : d ≠ s.heap.objs.size := fun e => by rw [upd_ne e1, e, upd_same] at hd; cases hd
    rw [upd_ne e1, upd_ne e2] at hd
    exact hq d (I.hok.fresh (Nat.le_succ _)) (I.hok.fresh (Nat.le_refl _)) hd (Nat.ne_of_lt (Nat.lt_succ_self _)) e1 e2
  cases r with
  | error e => exact hx pins σ _ _ e s' I2 hq'
  | ok fl =>
    cases fl with
    | ret u =>
      obtain ⟨v, H', I3, rv, ev, q3⟩ := I2.after hq'
      subst ev
      exact ⟨rv, ⟨V.ref (s.heap.objs.size + 1), H', I3, rfl, q3⟩⟩
    | next => exact False.elim hq'
    | brk => exact False.elim hq'
    | cont => exact False.elim hq'
noncomputable def tMakeD (C : Addr) (N : List Str) (sp : Sp) (E : XK) (i : Nat) (t : TA) : TE := fun σ H Q => t σ H fun vs H1 => vs.length + 1 = N.length ∧ ∃ b ks, σ[i]? = some (some (.ref b)) ∧ Rd H1 b (.dK (dkS ks)) ∧ (∀ p ∈ ks, N.contains p.1 = false) ∧
  ∀ m x dx d, H1 m = none → H1 x = none → H1 dx = none → H1 d = none → x ≠ m → dx ≠ m → d ≠ m → dx ≠ x → d ≠ x → d ≠ dx →
    sp (.ref x :: (vs ++ [.ref d])) (upd (upd (upd (upd H1 m (.dK (dkS ks))) dx (.own x)) x (.ins C dx [])) d (.dK (dkS ks))) (fun v H2 => v = .non ∧ Q (.ref x) H2) E
theorem kv_down : ∀ {ks : List (Str × V)} {ws : List (Key × Value)}, KV (dkS ks) ws → ∃ kw : List (Str × Value), KV ks kw ∧ ws = kw.map fun p => ((Sum.inr p.1 : Key), p.2)
  | [], _, .nil => ⟨[], .nil, rfl⟩
  | (x, v) :: ks, _, .cons (b := b) ⟨a, c⟩ r => by
    obtain ⟨kw, h1, h2⟩ := kv_down r
    refine ⟨(x, b.2) :: kw, .cons ⟨rfl, c⟩ h1, ?_⟩
    rw [List.map_cons, ← h2]
    show b :: _ = _
    rw [show b = ((Sum.inr x : Key), b.2) from Prod.ext a.symm rfl]
theorem kw_pairs {P : Program} {w : World} : ∀ {es : List DictEntry} {kw : List (Str × Value)}, Pairs (mixKind P w) es (kw.map fun p => ((Sum.inr p.1 : Key), p.2)) → Paired (fun (e : DictEntry) (k : Str × Value) => (∃ t, e.key = .str k.1 t) ∧ e.val = k.2) es kw
  | [], [], .nil => .nil
  | e :: _, kv :: _, .cons h1 h2 r => .cons ⟨by
      have h1 : keyIs (Sum.inr kv.1) e.key = true := h1
      rcases keyIs_shape h1 with ⟨i, t, a, b⟩ | ⟨z, t, a, b⟩
      · cases a
      · cases a; exact ⟨t, b⟩, h2⟩ (kw_pairs r)
theorem pe_makeD {i : Nat} {x y : Str} {p py pos kp : Pos} {e : Expr} {es : List Expr} {t : TA} (M : Mk X.K C f) (F : FnB X.prog X.w X.K X.mg X.base CX k f fd (N ++ [a.arg]) sp) (hr : Room (k + 1) X.A) (hg : Gl X x) (hm : X.mg x = some (.ref C)) (D : KwD X.K fd N a)
    (hx : Passes CX X E) (hU : StX.CXUp CX) (ha : PA X (e :: es) t) (hy : PE X (.Name y py) (tVar i)) (hdb : (x == ("__debug__" : Str)) = false := by decide)
    (hkw : backToKw pos (keywordEach [⟨none, .Name y py, kp⟩] X.env) = [(none, (do let v ← eval (.Name y py) X.env; standAt pos; pure v : Sem Value))] := by rfl)
    (he : starEach (e :: es) X.env = (false, eval e X.env) :: starEach es X.env := by rfl) : PE X (.Call (.Name x p) (e :: es) [⟨none, .Name y py, kp⟩] pos) (tMakeD C N sp E i t) := by
  refine ⟨fun pins s σ H Q I h => ?_⟩
  refine wpAny_Call_Name_kw (ld_glob I hg hm ?_ hdb)
  refine kw_call (P := fun h => X.K.In h) (by rw [hkw]; rfl) (fun h X' => PySem.W.keeps_K M.kp h X') ?_
  rw [hkw]
  refine kw_args (t := eval e X.env) (rest := backTo pos (starEach es X.env)) (by rw [he]; rfl) (thn (ha.run pos pins s σ H _ I h) fun us s1 ⟨vs, H1, I1, r, l1, b, ks, hσ, hb, hN, q⟩ => ?_)
  have hfr := I1.hok.fresh (Nat.le_refl s1.heap.objs.size)
  have Im := I1.laid (a := s1.heap.objs.size) (o := .dK []) (h' := s1.heap.push { cls := .type "dict", data := .dict #[] }) (t' := s1.toks) (fun _ _ q => Heap.get?_push_of_some _ q) (Nat.le_refl _) (dk_empty s1.heap I1.big)
  have hbig := I1.big
  generalize hm0 : s1.heap.objs.size = m at hfr Im hbig
  have hne : b ≠ m := fun e0 => by
    subst e0
    rcases hb with hb | ⟨_, hb⟩ <;> (rw [hfr] at hb; cases hb)
  have hb' : Rd (upd H1 m (.dK [])) b (.dK (dkS ks)) := by
    rcases hb with hb | ⟨o, hb⟩
    · exact .inl (by rw [upd_ne hne]; exact hb)
    · exact .inr ⟨o, by rw [upd_ne hne]; exact hb⟩
  refine kw_merged (knd := mixKind X.prog X.w) (fun k v hv b ev => ?_) ?_
  · rcases keyIs_shape hv with ⟨i, t, a, c⟩ | ⟨z, t, a, c⟩ <;> (rw [c] at ev; cases ev)
  rw [hm0]
  refine wpAny_bind (thn (hy.run pins _ σ _ (fun v H2 => v = .ref b ∧ H2 = upd H1 m (.dK [])) Im ⟨_, hσ, rfl, rfl⟩) fun v s2 ⟨y2, H2, I2, ry, ey, eH⟩ => wpAny_bind (wpAny_standAt (wpAny_pure ?_)))
  subst ey eH
  obtain rfl : v = Value.ref b := ry
  obtain ⟨_, hmS, vs0, r0, d0⟩ := dk_of I2.hok (upd_same (H := H1) (a := m) (o := .dK []))
  cases r0
  obtain ⟨hz, hbS, ws, rel, dd⟩ := dk_rd I2.hok hb'
  obtain ⟨kw, rk, rfl⟩ := kv_down rel
  refine ⟨b, _, rfl, fun z => hne z.symm, hbS, d0, dd, by rw [← rel.length]; exact hz, fun h' dm hs => ?_⟩
  obtain ⟨o, es', ep, ho, hc, hd, hk, hp, hn⟩ := id dm
  have I3 := I2.write (x := m) (e := m) (o := .dK (dkS ks)) (t' := s2.toks) (by rw [upd_same]; trivial) (.inl rfl) (fun b' u hb' hu => (hs.2 b' hb').trans hu) ⟨_, ho⟩ (show ObjOk X.prog X.w _ _ _ (.dK (dkS ks)) from ⟨hz, hmS, _, rel, dm⟩)
  rw [upd_upd] at I3
  refine kw_in ho hd (kw_pairs hp) ⟨I3.kIn, ?_⟩
  have hnd : (ks.map (·.1)).Nodup := by
    rw [kv_keys rk]
    rw [List.map_map] at hn
    have e1 : ((fun x : Key × Value => x.1) ∘ fun p : Str × Value => ((Sum.inr p.1 : Key), p.2)) = (Sum.inr : Str → Key) ∘ (fun p : Str × Value => p.1) := rfl
    rw [e1, ← List.map_map] at hn
    exact List.Pairwise.imp (fun h e => h (congrArg _ e)) (List.pairwise_map.mp hn)
  have hl : ks.length ≤ sizeLine := by rw [List.length_map] at hz; exact hz
  refine run_makeD M F hr D hx hU I3 r l1 rk hnd hN hl fun x dx d h1 h2 h3 n1 n2 n3 => ?_
  have g : ∀ {z}, upd H1 m (.dK (dkS ks)) z = none → z ≠ m ∧ H1 z = none := fun {z} hz => by
    have e1 : z ≠ m := fun e0 => by rw [e0, upd_same] at hz; cases hz
    exact ⟨e1, by rw [upd_ne e1] at hz; exact hz⟩
  exact q m x dx d hfr (g h1).2 (g h2).2 (g h3).2 (g h1).1 (g h2).1 (g h3).1 n1 n2 n3
end
end L2
set_option maxHeartbeats 1000000
namespace Mi
open PySem PySem.Spec PyProof.Rows L2

noncomputable def Fr (X : Cx) (x : Str) : Prop := X.mg x = none
section
variable {C : Ct} {X : Cx} {k : Nat} {cal : Nat → List Slot → CRes} {L : Nat} {pos p1 p2 p3 p4 : Pos}
/-! ### built-in calls of one value -/
theorem x_bi {x : Str} {id : String} {f : Op} {a : Expr} {ea : E} {r : List V → Hp → VK → Prop} (hc : CallR X (.builtin id) r) (hv : bootBuiltins x = some (.builtin id)) (ok : OpOk1 C.G f fun x H Q => r [x] H Q) (hm : Fr X x) (hg : Gl X x) (hn : x ≠ "__name__") (hdb : (x == ("__debug__" : Str)) = false)
    (hs : starEach [a] X.env = (false, eval a X.env) :: starEach [] X.env) (ha : PE X a (rdE C (evE cal ea))) : PE X (.Call (.Name x p1) [a] [] pos) (rdE C (evE cal (.op f (.cons ea .nil)))) :=
  n_op1 (fun ta h => PE.imp (pe_callB hc hg hm hv (pa_cons h pa_nil hs) hn hdb hs (by rfl)) fun _ _ _ q => q) ok ha
theorem x_ty {x : Str} {id : String} {f : Op} {a : Expr} {ea : E} {r : List V → Hp → VK → Prop} (hc : CallR X (.type id) r) (hv : bootBuiltins x = some (.type id)) (ok : OpOk1 C.G f fun x H Q => r [x] H Q) (hm : Fr X x) (hg : Gl X x) (hn : x ≠ "__name__") (hdb : (x == ("__debug__" : Str)) = false)
    (hs : starEach [a] X.env = (false, eval a X.env) :: starEach [] X.env) (ha : PE X a (rdE C (evE cal ea))) : PE X (.Call (.Name x p1) [a] [] pos) (rdE C (evE cal (.op f (.cons ea .nil)))) :=
  n_op1 (fun ta h => PE.imp (pe_callTy hc hg hm hv (pa_cons h pa_nil hs) hn hdb hs (by rfl)) fun _ _ _ q => q) ok ha
theorem x_len (c : XC C X k) {a : Expr} {ea : E} (hm : Fr X "len") (ha : PE X a (rdE C (evE cal ea))) (hg : Gl X "len" := by rfl) (hs : starEach [a] X.env = (false, eval a X.env) :: starEach [] X.env := by rfl) : PE X (.Call (.Name "len" p1) [a] [] pos) (rdE C (evE cal (.op .len (.cons ea .nil)))) :=
  x_bi (r := rLenM C.G.K) (by rw [c.K]; exact cr_lenM) boot_len okLen hm hg (by decide) (by decide) hs ha
theorem x_abs (c : XC C X k) {a : Expr} {ea : E} (hm : Fr X "abs") (ha : PE X a (rdE C (evE cal ea))) (hg : Gl X "abs" := by rfl) (hs : starEach [a] X.env = (false, eval a X.env) :: starEach [] X.env := by rfl) : PE X (.Call (.Name "abs" p1) [a] [] pos) (rdE C (evE cal (.op .abs (.cons ea .nil)))) :=
  x_bi call_abs (by rfl) okAbs hm hg (by decide) (by decide) hs ha
theorem x_all (c : XC C X k) {a : Expr} {ea : E} (hm : Fr X "all") (ha : PE X a (rdE C (evE cal ea))) (hg : Gl X "all" := by rfl) (hs : starEach [a] X.env = (false, eval a X.env) :: starEach [] X.env := by rfl) : PE X (.Call (.Name "all" p1) [a] [] pos) (rdE C (evE cal (.op .all (.cons ea .nil)))) :=
  x_bi (r := rAll C.G.K) (by rw [c.K]; exact cr_all c.calm) (by rfl) okAll hm hg (by decide) (by decide) hs ha
theorem x_toInt (c : XC C X k) {a : Expr} {ea : E} (hm : Fr X "int") (ha : PE X a (rdE C (evE cal ea))) (hg : Gl X "int" := by rfl) (hs : starEach [a] X.env = (false, eval a X.env) :: starEach [] X.env := by rfl) : PE X (.Call (.Name "int" p1) [a] [] pos) (rdE C (evE cal (.op .int (.cons ea .nil)))) :=
  x_ty cr_intM (by rfl) okInt hm hg (by decide) (by decide) hs ha
theorem x_toStr (c : XC C X k) {a : Expr} {ea : E} (hm : Fr X "str") (ha : PE X a (rdE C (evE cal ea))) (hg : Gl X "str" := by rfl) (hs : starEach [a] X.env = (false, eval a X.env) :: starEach [] X.env := by rfl) : PE X (.Call (.Name "str" p1) [a] [] pos) (rdE C (evE cal (.op .str (.cons ea .nil)))) :=
  x_ty cr_strM (by rfl) okStr hm hg (by decide) (by decide) hs ha
theorem x_toList (c : XC C X k) {a : Expr} {ea : E} (hm : Fr X "list") (ha : PE X a (rdE C (evE cal ea))) (hg : Gl X "list" := by rfl) (hs : starEach [a] X.env = (false, eval a X.env) :: starEach [] X.env := by rfl) : PE X (.Call (.Name "list" p1) [a] [] pos) (rdE C (evE cal (.op .list (.cons ea .nil)))) :=
  x_ty (r := rListM C.G.K) (by rw [c.K]; exact cr_listM c.calm) (by rfl) okList hm hg (by decide) (by decide) hs ha
/-! ### isinstance -/
theorem x_cls {x : Str} (l : Ty) (hv : bootBuiltins x = some (.type l.nm)) (hm : Fr X x) (hg : Gl X x) (hn : x ≠ "__name__" := by decide) (hd : (x == ("__debug__" : Str)) = false := by decide) : PE X (.Name x p1) (tC (.ty l.nm)) := pe_bltn hg hm hv rfl hn hd
theorem x_isi1 (c : XC C X k) {a : Expr} {x : Str} {ea : E} (l : Ty) (hm : Fr X "isinstance") (hx : PE X (.Name x p2) (tC (.ty l.nm))) (ha : PE X a (rdE C (evE cal ea))) (hg : Gl X "isinstance" := by rfl)
    (hs : starEach [a, .Name x p2] X.env = (false, eval a X.env) :: starEach [.Name x p2] X.env := by rfl) : PE X (.Call (.Name "isinstance" p1) [a, .Name x p2] [] pos) (rdE C (evE cal (.op (.isi1 l) (.cons ea .nil)))) :=
  n_op1 (fun ta h => PE.imp (pe_callB (r := rIsi C.G.K) (by rw [c.K]; exact call_isi) hg hm PyProof.Rows.boot_isinstance (pa_cons h (pa_cons hx pa_nil) hs) (by decide) (by decide) hs (by rfl)) fun _ _ _ q => q) okIsi1 ha
theorem x_isi2 (c : XC C X k) {a : Expr} {x y : Str} {ea : E} {n} (l l' : Ty) (hm : Fr X "isinstance") (hx : PE X (.Name x p2) (tC (.ty l.nm))) (hy : PE X (.Name y p3) (tC (.ty l'.nm))) (ha : PE X a (rdE C (evE cal ea))) (hg : Gl X "isinstance" := by rfl)
    (hs : starEach [a, .Tuple [.Name x p2, .Name y p3] n p4] X.env = (false, eval a X.env) :: starEach [.Tuple [.Name x p2, .Name y p3] n p4] X.env := by rfl) : PE X (.Call (.Name "isinstance" p1) [a, .Tuple [.Name x p2, .Name y p3] n p4] [] pos) (rdE C (evE cal (.op (.isi [l, l']) (.cons ea .nil)))) :=
  n_op1 (r := rIsiL C.G.K [l, l']) (fun ta h => PE.imp (pe_callB (r := rIsiT C.G.K) (by rw [c.K]; exact call_isiT) hg hm PyProof.Rows.boot_isinstance (pa_cons h (pa_cons (pe_tup (pa_cons hx (pa_cons hy pa_nil))) pa_nil) hs) (by decide) (by decide) hs (by rfl)) fun _ _ _ q => q) (okIsi (by simp)) ha
theorem x_isi3 (c : XC C X k) {a : Expr} {x y z : Str} {ea : E} {n} {p5 : Pos} (l l' l'' : Ty) (hm : Fr X "isinstance") (hx : PE X (.Name x p2) (tC (.ty l.nm))) (hy : PE X (.Name y p3) (tC (.ty l'.nm))) (hz : PE X (.Name z p5) (tC (.ty l''.nm))) (ha : PE X a (rdE C (evE cal ea))) (hg : Gl X "isinstance" := by rfl)
    (hs : starEach [a, .Tuple [.Name x p2, .Name y p3, .Name z p5] n p4] X.env = (false, eval a X.env) :: starEach [.Tuple [.Name x p2, .Name y p3, .Name z p5] n p4] X.env := by rfl) : PE X (.Call (.Name "isinstance" p1) [a, .Tuple [.Name x p2, .Name y p3, .Name z p5] n p4] [] pos) (rdE C (evE cal (.op (.isi [l, l', l'']) (.cons ea .nil)))) :=
  n_op1 (r := rIsiL C.G.K [l, l', l'']) (fun ta h => PE.imp (pe_callB (r := rIsiT C.G.K) (by rw [c.K]; exact call_isiT) hg hm PyProof.Rows.boot_isinstance (pa_cons h (pa_cons (pe_tup (pa_cons hx (pa_cons hy (pa_cons hz pa_nil)))) pa_nil) hs) (by decide) (by decide) hs (by rfl)) fun _ _ _ q => q) (okIsi (by simp)) ha
/-! ### 'text'.join(list) -/
theorem x_join (c : XC C X k) {o e : Expr} {eo ee : E} (ho : PE X o (rdE C (evE cal eo))) (he : PE X e (rdE C (evE cal ee))) (hs : starEach [e] X.env = [(false, eval e X.env)] := by rfl) (hbase : attributeBase o "join" X.env (eval o X.env) = eval o X.env := by rfl) (hline : (p1.endLine == pos.line) = true := by rfl) :
    PE X (.Call (.Attribute o "join" p1) [e] [] pos) (rdE C (evE cal (.jn eo ee))) :=
  PE.imp (pe_join (pe_opd ho) (pe_opd he) hs hbase hline) fun σ H Q ⟨w, m, e, P, q⟩ => by
  rw [evE, Res.sat_bind] at q
  refine ⟨w, m, e, P, ?_⟩
  rw [opdF, Res.sat_bind]
  refine Res.sat_mono q fun ra m1 q1 w1 v1 S1 x1 r1 => ?_
  split at q1
  · rename_i z hz
    rw [Res.sat_bind] at q1
    refine ⟨⟨z, (S1.der r1 hz).str⟩, w1, m1, rfl, P.step S1 x1, ?_⟩
    rw [opdF, Res.sat_bind]
    refine Res.sat_mono q1 fun rb m2 q2 w2 v2 S2 x2 r2 => ?_
    split at q2
    · rename_i t ht
      split at q2
      · rename_i r hr
        cases (S1.der r1 hz).str
        have := okJoin w2 m2 σ (.str z) t (.str z) v2 r Q S2 (.fz (.str z)) (S2.der r2 ht) hr fun w' v S' x' r' => q2 w' v S' (x1.trans (x2.trans x')) r'
        rw [← c.K]
        exact this.2
      · exact q2.elim
    · exact q2.elim
  · exact q1.elim
/-! ### own functions -/
theorem XC.low (c : XC C X k) : Room (2 * k) X.A := c.room.mono (by omega)
structure FnAt (X : Cx) (k : Nat) (G : Gm) (cal : Nat → List Slot → CRes) (f : Nat) (x : Str) (ps : List Str) : Prop where
  ex : ∃ fa fd, X.mg x = some (.ref fa) ∧ PySem.W.keepIn X.K (.ref fa) = true ∧ Binds X.K fd ps [] ∧ FnOk X.prog X.w X.K X.mg X.base (L2.CX X.prog X.w) (2 * k) fa fd ps (spM G cal f)
theorem x_call (c : XC C X k) {f : Nat} {x : Str} {ps : List Str} {e : Expr} {es : List Expr} {io : List Bool} {as : Es} (F : FnAt X k C.G cal f x ps) (ha : PA X (e :: es) (rdDs C (evDs cal as))) (hg : Gl X x := by rfl) (hdb : (x == ("__debug__" : Str)) = false := by decide)
    (he : starEach (e :: es) X.env = (false, eval e X.env) :: starEach es X.env := by rfl) (hpl : (backTo pos (starEach es X.env)).any (·.1) = false := by rfl) : PE X (.Call (.Name x p1) (e :: es) [] pos) (rdE C (evE cal (.call f io as))) := by
  obtain ⟨fa, fd, h1, h2, h3, h4⟩ := F.ex
  exact n_call (fun t ht => PE.imp (pe_callS (E := WE (WM C)) h4 c.low hg h1 h2 h3 (fun σ => passAt c.tk σ) ht hdb he hpl) fun _ _ _ q => q) ha
theorem x_call0 (c : XC C X k) {f : Nat} {x : Str} (F : FnAt X k C.G cal f x []) (hg : Gl X x := by rfl) (hdb : (x == ("__debug__" : Str)) = false := by decide) : PE X (.Call (.Name x p1) [] [] pos) (rdE C (evE cal (.call f [] .nil))) := by
  obtain ⟨fa, fd, h1, h2, h3, h4⟩ := F.ex
  refine PE.imp (t := tCallM C cal f tNil) ⟨fun pins s σ H Q I h => ?_⟩ fun σ H Q ⟨w, m, e, P, q⟩ => ?_
  · refine wpAny_Call_Name_kw (ld_glob I hg h1 ?_ hdb)
    exact PySem.W.callWith_K0 I.kIn h2 (run_fnS (E := WE (WM C)) (us := []) h4 c.low h3 (passAt c.tk σ) I .nil h)
  · rw [evE, Res.sat_bind, evDs] at q
    subst e
    exact call_core P .nil q
theorem PK.imp {es : List Keyword} {t t' : TA} (h : PK X es t) (i : ∀ σ H Q, t' σ H Q → t σ H Q) : PK X es t' := ⟨fun p pins s σ H Q I q => h.run p pins s σ H Q I (i σ H Q q)⟩
theorem k_nil : PK X [] (rdDs C (evDs cal .nil)) := by
  rw [evDs_nil]
  exact PK.imp pk_nil fun σ H Q ⟨w, m, e, P, q⟩ => by
    have := q w [] P.sr (.refl w) .nil
    rwa [e] at this
theorem k_cons {e : Expr} {nm : Option Str} {kws : List Keyword} {a : E} {r : Es} (h : PE X e (rdE C (evE cal a))) (hr : PK X kws (rdDs C (evDs cal r))) : PK X (⟨nm, e, p1⟩ :: kws) (rdDs C (evDs cal (.cons a r))) := by
  rw [evDs_cons]
  exact PK.imp (pk_cons (pe_opd h) hr) fun _ _ _ q => rd_cons q
/-! ### loops' sources -/
theorem i_any (c : XC C X k) {tg e : Expr} {ea : E} (h : PE X e (rdE C (evE cal ea))) : PI X tg e (rdS C (evSrc cal (.it ea))) := s_it (fun t h => by rw [c.K]; exact Mi.PI.or (Mi.PI.or (Mi.PI.or (pi_list h) (pi_tup h)) (pi_str h)) (pi_keysL h)) h
theorem i_rng1 (c : XC C X k) {tg e : Expr} {ea : E} (hm : Fr X "range") (h : PE X e (rdE C (evE cal ea))) (hg : Gl X "range" := by rfl) (hs : starEach [e] X.env = [(false, eval e X.env)] := by rfl) : PI X tg (.Call (.Name "range" p1) [e] [] pos) (rdS C (evSrc cal (.rng1 ea))) :=
  s_rng1 (fun t h => pi_range1 hg hm (pa_cons h pa_nil hs) hs) h
theorem i_enum (c : XC C X k) {e : Expr} {ea : E} {elts} {kk} (hm : Fr X "enumerate") (h : PE X e (rdE C (evE cal ea))) (hg : Gl X "enumerate" := by rfl) (hs : starEach [e] X.env = [(false, eval e X.env)] := by rfl) : PI X (.Tuple elts kk p2) (.Call (.Name "enumerate" p1) [e] [] pos) (rdS C (evSrc cal (.enum ea))) :=
  s_enum (fun t h => by rw [c.K]; exact pi_enumT hg hm (pa_cons h pa_nil hs) hs) h
theorem i_zip (c : XC C X k) {a b : Expr} {ea eb : E} {elts} {kk} (hm : Fr X "zip") (h : PE X a (rdE C (evE cal ea))) (h' : PE X b (rdE C (evE cal eb))) (hg : Gl X "zip" := by rfl) (hs : starEach [a, b] X.env = (false, eval a X.env) :: starEach [b] X.env := by rfl)
    (hs2 : starEach [b] X.env = [(false, eval b X.env)] := by rfl) (hpl : (backTo pos (starEach [b] X.env)).any (·.1) = false := by rfl) : PI X (.Tuple elts kk p2) (.Call (.Name "zip" p1) [a, b] [] pos) (rdS C (evSrc cal (.zip ea eb))) :=
  s_zip (fun t u h h' => by rw [c.K]; exact RZ.pi_zipA hg hm (pa_cons h (pa_cons h' pa_nil hs2) hs) hs hpl) h h'
/-! ### comprehensions -/
theorem evAll_nil : evAll cal .nil = fun m => .ok (.fz (.bl true)) m := by funext m; rw [evAll]
theorem f_nil : PTs X [] (rdB C (evAll cal .nil)) := by
  rw [evAll_nil]
  exact ⟨fun pins s σ H Q I ⟨w, m, e, P, ⟨k, hk, q⟩⟩ => by
    cases hk
    have := q w P.sr (.refl w)
    rw [e] at this
    exact pts_nil.run pins s σ H Q I this⟩
theorem f_one {e : Expr} {a : E} (h : PT X e (rdB C (evE cal a))) : PTs X [e] (rdB C (evAll cal (.cons a .nil))) :=
  ⟨fun pins s σ H Q I ⟨w, m, e, P, q⟩ => by
    refine (pts_one h).run pins s σ H Q I ⟨w, m, e, P, ?_⟩
    rw [evAll, Res.sat_bind] at q
    refine Res.sat_mono q fun r m1 q1 => ?_
    split at q1
    · rw [evAll] at q1
      obtain ⟨k, hk, q1⟩ := q1
      exact ⟨true, rfl, by cases hk; exact q1⟩
    · obtain ⟨k, hk, q1⟩ := q1
      exact ⟨false, rfl, by cases hk; exact q1⟩
    · exact q1.elim⟩
theorem x_comp (c : XC C X k) {elt tg iter : Expr} {ifs : List Expr} {scope : Scope} {own : List (Str × Nat)} {ow : List Nat} {p : Pt} {s : Src} {cs : Es} {e : E} {g : TG} (gp : GP C.G p g) (ok : BlkOk X.N X.env.scope scope own) (hi : PI X tg iter (rdS C (evSrc cal s)))
    (hg : ∀ (s : Shared) (H : Hp) (D : Addr) (cl : List (Str × Addr)) (fp : List Addr), PG (X.blk s H scope (compEnvC scope cl D X.env) fp) tg g)
    (ht : ∀ (s : Shared) (H : Hp) (D : Addr) (cl : List (Str × Addr)) (fp : List Addr), XC C.inn (X.blk s H scope (compEnvC scope cl D X.env) fp) k → PTs (X.blk s H scope (compEnvC scope cl D X.env) fp) ifs (rdB C.inn (evAll cal cs)))
    (he : ∀ (s : Shared) (H : Hp) (D : Addr) (cl : List (Str × Addr)) (fp : List Addr), XC C.inn (X.blk s H scope (compEnvC scope cl D X.env) fp) k → PE (X.blk s H scope (compEnvC scope cl D X.env) fp) elt (rdE C.inn (evE cal e)))
    (how : own.map (·.2) = ow := by rfl) (hsub : ∀ j ∈ p.sl, j ∈ ow := by decide) (hs : ∀ x, foldedSetIterable iter X.env x = pure x := by intro _; rfl) :
    PE X (.ListComp elt [⟨tg, iter, ifs, 0⟩] scope pos) (rdE C (evE cal (.comp ow p s cs e))) := by
  subst how
  exact n_comp gp hsub (pe_lc c.calm c.nd hi ok hg (fun s H D cl fp => ht s H D cl fp c.blk) (fun s H D cl fp => he s H D cl fp c.blk) hs)
end
end Mi
set_option maxHeartbeats 1000000
namespace Mi
open PySem PySem.Spec PyProof.Rows L2

section
variable {C : Ct} {X : Cx} {k : Nat} {cal : Nat → List Slot → CRes} {L : Nat} {pos p1 p2 p3 p4 : Pos}
/-! ### statements -/
theorem w_set (c : XC C X k) {i : Nat} {x : Str} {e : Expr} {ea : E} (nfx : C.fx i = false) (he : PE X e (rdE C (evE cal ea))) (hi : X.N[i]? = some x := by rfl) (hx : Loc X.env.scope x := by first | exact Or.inl rfl | exact Or.inr rfl) (hs : swapsWith e (some (.Name x p1)) pos.line X.env = pure false := by rfl)
    (hf : X.fn x = true ∨ X.env.scope.names.lookup x = some .local := by first | exact .inl rfl | exact .inr rfl) : PS X (.Assign [.Name x p1] e pos) (rdSt C (evS cal L (.set i ea))) := st_set nfx (ps_set c.nd hi hx he hs hf)
theorem w_setc (c : XC C X k) {i : Nat} {x : Str} {elt tg iter : Expr} {ifs : List Expr} {scope : Scope} {own : List (Str × Nat)} {ow : List Nat} {p : Pt} {s : Src} {cs : Es} {e : E} {g : TG} (nfx : C.fx i = false) (gp : GP C.G p g) (ok : BlkOk X.N X.env.scope scope own) (hi : PI X tg iter (rdS C (evSrc cal s)))
    (hg : ∀ (s : Shared) (H : Hp) (D : Addr) (cl : List (Str × Addr)) (fp : List Addr), PG (X.blk s H scope (compEnvC scope cl D X.env) fp) tg g)
    (ht : ∀ (s : Shared) (H : Hp) (D : Addr) (cl : List (Str × Addr)) (fp : List Addr), XC C.inn (X.blk s H scope (compEnvC scope cl D X.env) fp) k → PTs (X.blk s H scope (compEnvC scope cl D X.env) fp) ifs (rdB C.inn (evAll cal cs)))
    (he : ∀ (s : Shared) (H : Hp) (D : Addr) (cl : List (Str × Addr)) (fp : List Addr), XC C.inn (X.blk s H scope (compEnvC scope cl D X.env) fp) k → PE (X.blk s H scope (compEnvC scope cl D X.env) fp) elt (rdE C.inn (evE cal e)))
    (hN : X.N[i]? = some x := by rfl) (hx : X.env.scope.names.lookup x = some .local := by rfl) (hsw : swapsWith (.ListComp elt [⟨tg, iter, ifs, 0⟩] scope p2) (some (.Name x p1)) pos.line X.env = pure true := by rfl)
    (how : own.map (·.2) = ow := by rfl) (hsub : ∀ j ∈ p.sl, j ∈ ow := by decide) (hs : ∀ x, foldedSetIterable iter X.env x = pure x := by intro _; rfl) :
    PS X (.Assign [.Name x p1] (.ListComp elt [⟨tg, iter, ifs, 0⟩] scope p2) pos) (rdSt C (evS cal L (.set i (.comp ow p s cs e)))) := by
  subst how
  exact st_set nfx (PS.imp (ps_setLc c.calm c.nd hN hx hsw hi ok hg (fun s H D cl fp => ht s H D cl fp c.blk) (fun s H D cl fp => he s H D cl fp c.blk) hs) fun D σ H q => rd_comp gp hsub q)
theorem w_unp (c : XC C X k) {tg e : Expr} {p : Pt} {ea : E} {g : TG} (gp : GP C.G p g) (nfx : ∀ j ∈ p.sl, C.fx j = false) (hg : PG X tg g) (he : PE X e (rdE C (evE cal ea))) (hs : swapsWithSole [tg] e pos.line X.env = pure false := by rfl) (hw : swappedStores [tg] e X.env = pure none := by rfl)
    (h1 : (assignEach [tg] X.env).map (·.2) = [assign tg X.env] := by rfl) : PS X (.Assign [tg] e pos) (rdSt C (evS cal L (.unp p ea))) := st_unp gp nfx (ps_asg he hg hs hw h1)
theorem w_augAdd (c : XC C X k) {i : Nat} {x : Str} {e : Expr} {ea : E} (nfx : C.fx i = false) (he : PE X e (rdE C (evE cal ea))) (hi : X.N[i]? = some x := by rfl) (hx : Loc X.env.scope x := by first | exact Or.inl rfl | exact Or.inr rfl) (hf : X.fn x = true ∨ X.env.scope.names.lookup x = some .local := by first | exact .inl rfl | exact .inr rfl) :
    PS X (.AugAssign (.Name x p1) .Add e pos) (rdSt C (evS cal L (.aug i .add ea))) := st_aug nfx (fun x y z Q H h q f1 f2 f3 => by
      unfold augF at h
      split at h
      · cases h; exact ⟨_, _, rfl, rfl, q⟩
      · rename_i h0; cases h0
      · cases h) (fun x y z h => by
      unfold augF at h
      split at h
      · cases h; exact ⟨rfl, rfl, rfl⟩
      · rename_i h0; cases h0
      · cases h) (ps_aug c.nd hi hx (pe_opd he) ip_add hf)
theorem w_ret {e : Expr} {ea : E} (he : PE X e (rdE C (evE cal ea))) : PS X (.Return (some e) pos) (rdSt C (evS cal L (.ret ea))) := st_ret (ps_ret he)
theorem w_ife {c : Expr} {a b : List Stmt} {ec : E} {sa sb : Ss} (hc : PT X c (rdB C (evE cal ec))) (ha : PSs X a (rdSt C (evSs cal L sa))) (hb : PSs X b (rdSt C (evSs cal L sb))) : PS X (.If c a b pos) (rdSt C (evS cal L (.ife ec sa sb))) := st_ife (ps_if hc ha hb)
theorem w_fr (c : XC C X k) (hp : PassesOwn (model X.prog X.w) X.A X.env X.xe) {tg iter : Expr} {b : List Stmt} {p : Pt} {s : Src} {sb : Ss} {g : TG} (gp : GP C.G p g) (nfx : ∀ j ∈ p.sl, C.fx j = false) (hg : PG X tg g) (hi : PI X tg iter (rdS C (evSrc cal s))) (hb : PSs X b (rdSt C (evSs cal L sb)))
    (hs : ∀ x, foldedSetIterable iter X.env x = pure x := by intro _; rfl) : PS X (.For tg iter b [] pos) (rdSt C (evS cal L (.fr p s sb))) := st_fr gp nfx (ps_for hp c.calm hi hg hb hs)
theorem w_app (c : XC C X k) {i : Nat} {x : Str} {e : Expr} {ea : E} (he : PE X e (rdE C (evE cal ea))) (ho : PE X (.Name x p1) (tVar i)) (hbase : attributeBase (.Name x p1) "append" X.env (eval (.Name x p1) X.env) = eval (.Name x p1) X.env := by rfl)
    (hfew : ((backTo p3 (starEach [e] X.env)).all (fun x => !x.1) && (backToKw p3 (keywordEach [] X.env)).all (fun x => x.1.isSome) && decide ([e].length + ([] : List Keyword).length + (if ([] : List Keyword).isEmpty then 0 else 1) < 30)) = true := by rfl)
    (hline : (p2.endLine == p3.line) = true := by rfl) (hst : starEach [e] X.env = (false, eval e X.env) :: starEach [] X.env := by rfl) (hs : swapsWith (.Call (.Attribute (.Name x p1) "append" p2) [e] [] p3) none pos.line X.env = pure false := by rfl) :
    PS X (.Expr (.Call (.Attribute (.Name x p1) "append" p2) [e] [] p3) pos) (rdSt C (evS cal L (.app i ea))) :=
  st_app (ps_expr (PE.imp (pe_bm PySem.F.plainAttrs_list PySem.F.slot_list_append PySem.F.type_list_append mt_append ho (pa_cons (pe_opd he) pa_nil hst) hbase hfew hline hst (by rfl)) fun σ H Q q => by rw [← c.K]; exact q) hs)
theorem ps_or {o o' : TSet} (h : PSet X o) (h' : PSet X o') : PSet X fun a b c H Q => o a b c H Q ∨ o' a b c H Q := fun pins s σ H o i v ov iv u Q I ro ri rv q => q.elim (h pins s σ H o i v ov iv u Q I ro ri rv) (h' pins s σ H o i v ov iv u Q I ro ri rv)
theorem w_sto (c : XC C X k) {i : Nat} {x : Str} {ke e : Expr} {ek ea : E} (ho : PE X (.Name x p1) (tVar i)) (hk : PE X ke (rdE C (evE cal ek))) (he : PE X e (rdE C (evE cal ea)))
    (ha : ∀ v, assign (.Subscript (.Name x p1) ke p2) X.env v = (do
      let ov ← holding [v] (eval (.Name x p1) X.env)
      let iv ← holding [v, ov] (eval ke X.env)
      standAt p2
      holding [v, ov, iv] (setItem ov iv v)
      release [v, ov, iv] []) := by intro _; rfl)
    (hs : swapsWithSole [.Subscript (.Name x p1) ke p2] e pos.line X.env = pure false := by rfl) (hw : swappedStores [.Subscript (.Name x p1) ke p2] e X.env = pure none := by rfl)
    (h1 : (assignEach [.Subscript (.Name x p1) ke p2] X.env).map (·.2) = [assign (.Subscript (.Name x p1) ke p2) X.env] := by rfl) : PS X (.Assign [.Subscript (.Name x p1) ke p2] e pos) (rdSt C (evS cal L (.sto i ek ea))) :=
  st_sto (ps_asg he (pg_sub ho hk (ps_or set_list (set_dict (hu_of c.room))) ha) hs hw h1)
end

/-! ### a def's promise -/
noncomputable def fxOf (io : List Bool) (j : Nat) : Bool := io[j]?.getD false
theorem outsM_get : ∀ {io : List Bool} {m : List Slot} {j : Nat} {s : Slot}, (outsM io m)[j]? = some s → (io[j]? = some true ∧ m[j]? = some s) ∨ s = .no
  | [], m, j, s, h => by cases m <;> simp [outsM] at h
  | _ :: io, [], 0, s, h => .inr (by simpa [outsM] using h.symm)
  | _ :: io, [], j + 1, s, h => by
    rcases outsM_get (io := io) (m := []) (j := j) (s := s) (by simpa [outsM] using h) with h | h
    · simp at h
    · exact .inr h
  | true :: io, x :: m, 0, s, h => .inl ⟨rfl, h⟩
  | false :: io, x :: m, 0, s, h => .inr (by simpa [outsM] using h.symm)
  | true :: io, x :: m, j + 1, s, h => by
    rcases outsM_get (io := io) (m := m) (j := j) (s := s) h with h | h
    · exact .inl (by simpa using h)
    · exact .inr h
  | false :: io, x :: m, j + 1, s, h => by
    rcases outsM_get (io := io) (m := m) (j := j) (s := s) h with h | h
    · exact .inl (by simpa using h)
    · exact .inr h
theorem outsM_length : ∀ {io : List Bool} {m : List Slot}, (outsM io m).length = io.length
  | [], m => by cases m <;> rfl
  | b :: io, [] => congrArg Nat.succ (outsM_length (io := io) (m := []))
  | true :: io, x :: m => congrArg Nat.succ (outsM_length (io := io) (m := m))
  | false :: io, x :: m => congrArg Nat.succ (outsM_length (io := io) (m := m))
section
variable {G : Gm} {w : Wd}
theorem start_get {N : List Str} {vs : List V} {j : Nat} (h : j < vs.length) : (L2.start N vs)[j]? = (vs.map some)[j]? := by
  unfold L2.start
  rw [List.getElem?_append_left (by simpa using h)]
theorem outs_sr {io : List Bool} {N : List Str} {vs : List V} {m : List Slot} {σ : St} (S : SR G w m σ) (hf : ∀ j, fxOf io j = true → σ[j]? = (L2.start N vs)[j]?) (hl : io.length = vs.length) : SR G w (outsM io m) (vs.map some) := by
  have key : ∀ {j s}, (outsM io m)[j]? = some s → io[j]? = some true → σ[j]? = (vs.map some)[j]? := fun {j s} h e => by
    have lt : j < vs.length := by rw [← hl]; exact (List.getElem?_eq_some_iff.mp e).1
    rw [hf j (by unfold fxOf; rw [e]; rfl), start_get lt]
  refine ⟨by rw [outsM_length, List.length_map, hl], fun j s h => ?_, fun i j o o' a h1 h2 e1 e2 => ?_, S.sep, S.trk⟩
  · rcases outsM_get h with ⟨e, q⟩ | rfl
    · have := S.sl j s q
      rwa [key h e] at this
    · trivial
  · rcases outsM_get h1 with ⟨g1, q1⟩ | z
    · rcases outsM_get h2 with ⟨g2, q2⟩ | z
      · exact S.inj i j o o' a q1 q2 (by rw [key h1 g1]; exact e1) (by rw [key h2 g2]; exact e2)
      · cases z
    · cases z
theorem start_sr {N : List Str} {vs : List V} {args : List Slot} {n : Nat} (S : SR G w args (vs.map some)) (hn : n = N.length - vs.length) : SR G w (args ++ List.replicate n Slot.no) (L2.start N vs) := by
  have len : args.length = vs.length := by have := S.len; rwa [List.length_map] at this
  subst hn
  have key : ∀ {j s}, (args ++ List.replicate (N.length - vs.length) Slot.no)[j]? = some s → s = Slot.no ∨ (args[j]? = some s ∧ (L2.start N vs)[j]? = (vs.map some)[j]?) := fun {j s} h => by
    by_cases lt : j < args.length
    · rw [List.getElem?_append_left lt] at h
      exact .inr ⟨h, start_get (by omega)⟩
    · rw [List.getElem?_append_right (by omega), List.getElem?_replicate] at h
      split at h
      · cases h; exact .inl rfl
      · cases h
  refine ⟨?_, fun j s h => ?_, fun i j o o' a h1 h2 e1 e2 => ?_, S.sep, S.trk⟩
  · show _ = List.length (vs.map some ++ List.replicate (N.length - vs.length) none)
    rw [List.length_append, List.length_append, List.length_replicate, List.length_replicate, List.length_map, len]
  · rcases key h with rfl | ⟨q, e⟩
    · trivial
    · rw [e]; exact S.sl j s q
  · rcases key h1 with z | ⟨q1, g1⟩
    · cases z
    · rcases key h2 with z | ⟨q2, g2⟩
      · cases z
      · exact S.inj i j o o' a q1 q2 (by rw [← g1]; exact e1) (by rw [← g2]; exact e2)
end
noncomputable def BodyOk (G : Gm) (P : Program) (w : World) (K : PySem.W.Frag) (mg : Str → Option Value) (base : Heap) (N : List Str) (io : List Bool) (qual : Str) (scope : Scope) (f : Addr) (body : List Stmt) (k : Nat) (cal : Nat → List Slot → CRes) (L : Nat) (b : Ss) : Prop :=
  ∀ (cdv : Value) (A : Around) (outer : List Env) (s : Shared) (H : Hp) (E : XK) (C : Ct), C.G = G → C.fx = fxOf io → XC C (cxOf (L2.CX P w) P w K mg base N qual scope f cdv A outer s H E) k →
    PassesOwn (model P w) (cxOf (L2.CX P w) P w K mg base N qual scope f cdv A outer s H E).A (cxOf (L2.CX P w) P w K mg base N qual scope f cdv A outer s H E).env (cxOf (L2.CX P w) P w K mg base N qual scope f cdv A outer s H E).xe →
    PSs (cxOf (L2.CX P w) P w K mg base N qual scope f cdv A outer s H E) body (rdSt C (evSs cal L b))
theorem fn_okB {G : Gm} {P : Program} {w : World} {K : PySem.W.Frag} {mg : Str → Option Value} {base : Heap} {x qual : Str} {params : Arguments} {body : List Stmt} {scope : Scope} {dvs : List V} {kws : List (Str × V)} {fa : Addr} {fd : FuncData} {N ps : List Str} {k L f : Nat} {Γ : Nat → Option Def} {d : Def}
    (F : FunD K x qual params body scope dvs kws fa fd) (S : FnScope N ps scope) (hK : G.K = K) (hd : Γ f = some d) (hnp : d.np = ps.length) (hns : d.ns = N.length) (hio : d.io.length = ps.length) (hle : ps.length ≤ N.length)
    (B : BodyOk G P w K mg base N d.io qual scope fa body k (callF Γ L k) L d.body) : FnB P w K mg base (L2.CX P w) (2 * (k + 1)) fa fd ps (spM G (callF Γ L (k + 1)) f) := by
  have run : ∀ args, callF Γ L (k + 1) f args = runD (callF Γ L k) L d args := fun args => by
    show (match Γ f with | some d => _ | none => _) = _
    rw [hd]
  have len : ∀ vs H Q E, spM G (callF Γ L (k + 1)) f vs H Q E → vs.length = ps.length := fun vs H Q E ⟨w0, args, e, S0, q⟩ => by
    rw [run] at q
    unfold runD at q
    have := S0.len
    rw [List.length_map] at this
    by_cases h : args.length = d.np
    · omega
    · rw [if_neg h] at q; exact q.elim
  refine fnB_of (k := 2 * k + 1) F S len fun cdv A outer s H vs Q E hr h => ?_
  have hl := len vs H Q E h
  obtain ⟨w0, args, e, S0, q⟩ := h
  rw [run] at q
  unfold runD at q
  by_cases hlen : args.length = d.np
  · rw [if_pos hlen] at q
    let C : Ct := ⟨G, w0, L2.start N vs, fxOf d.io, fun x m => ∀ w' cls dd, SR G w' (outsM d.io m) (vs.map some) → Ex w0 w' → RX G w' x cls dd → E cls dd w'.H⟩
    have S1 : SR G w0 (args ++ List.replicate (d.ns - d.np) .no) (L2.start N vs) := start_sr S0 (by rw [hns, hnp, hl])
    have outs : ∀ {w' : Wd} {m : List Slot} {σ' : St}, Pre C w' m σ' → SR G w' (outsM d.io m) (vs.map some) := fun {w' m σ'} P => outs_sr P.sr P.fix (by omega)
    have tk : Takes (cxOf (L2.CX P w) P w K mg base N qual scope fa cdv A outer s H E) (WM C) := Takes.imp (takes_of (E := E) rfl rfl rfl rfl) fun c dd σ H' ⟨w', m, x, e', P', rx, em⟩ => by
      subst e'
      exact em w' c dd (outs P') P'.ex rx
    have xc : XC C (cxOf (L2.CX P w) P w K mg base N qual scope fa cdv A outer s H E) k := ⟨hK, S.nd, rfl, hr, tk⟩
    refine ⟨_, B cdv A outer s H E C rfl rfl xc (passes_of rfl), w0, args ++ List.replicate (d.ns - d.np) .no, e, ⟨S1, .refl w0, fun _ _ => rfl⟩, ?_⟩
    cases hb : evSs (callF Γ L k) L d.body (args ++ List.replicate (d.ns - d.np) .no) with
    | no => rw [hb] at q; exact q.elim
    | bk m => rw [hb] at q; exact q.elim
    | ct m => rw [hb] at q; exact q.elim
    | nx m =>
      rw [hb] at q
      exact fun w' σ' P' x' => q w' .non (outs P') x' .non
    | ex x m =>
      rw [hb] at q
      exact fun w' cls dd S' x' rx => q w' cls dd S' x' rx
    | rt r m =>
      rw [hb] at q
      cases r with
      | fz t => exact fun w' σ' v P' x' rr => q w' v (outs P') x' rr
      | bo i => exact q.elim
      | ow o =>
        refine fun w' σ' v P' x' rr => q w' v (outs P') x' ?_
        obtain ⟨p, rfl, ro, l, n⟩ := rr
        refine ⟨p, rfl, ro, l, fun j o' hj z => ?_⟩
        rcases outsM_get hj with ⟨g, q'⟩ | g
        · have lt : j < vs.length := by have := (List.getElem?_eq_some_iff.mp g).1; omega
          refine n j o' q' ?_
          rw [P'.fix j (by show fxOf d.io j = true; unfold fxOf; rw [g]; rfl)]
          show (L2.start N vs)[j]? = _
          rw [start_get lt]
          exact z
        · cases g
  · rw [if_neg hlen] at q; exact q.elim
theorem fn_ok {G : Gm} {P : Program} {w : World} {K : PySem.W.Frag} {mg : Str → Option Value} {base : Heap} {x qual : Str} {params : Arguments} {body : List Stmt} {scope : Scope} {dvs : List V} {kws : List (Str × V)} {fa : Addr} {fd : FuncData} {N ps : List Str} {k L f : Nat} {Γ : Nat → Option Def} {d : Def}
    (F : FunD K x qual params body scope dvs kws fa fd) (S : FnScope N ps scope) (hK : G.K = K) (hd : Γ f = some d) (hnp : d.np = ps.length) (hns : d.ns = N.length) (hio : d.io.length = ps.length) (hle : ps.length ≤ N.length)
    (B : BodyOk G P w K mg base N d.io qual scope fa body k (callF Γ L k) L d.body) : FnOk P w K mg base (L2.CX P w) (2 * (k + 1)) fa fd ps (spM G (callF Γ L (k + 1)) f) := (fn_okB F S hK hd hnp hns hio hle B).ok
end Mi
set_option maxHeartbeats 1000000
namespace Mi
open PySem PySem.Spec PyProof.Rows L2

section
variable {G : Gm} {w w' : Wd} {m m' : List Slot} {σ : St}
theorem RFf.look {f : Str} {t : T} : ∀ {fs : List (Str × T)} {gs : List (Str × V)}, RFf G w fs gs → fs.lookup f = some t → ∃ v, gs.lookup f = some v ∧ RF G w t v
  | _, _, .nil, h => by cases h
  | _, _, .cons (k := k) (v := v) a b, h => by
    rw [List.lookup_cons] at h
    rw [List.lookup_cons]
    cases hb : f == k with
    | true =>
      rw [hb] at h
      cases h
      exact ⟨v, rfl, a⟩
    | false =>
      rw [hb] at h
      exact RFf.look b h
theorem RFf.lookN {f : Str} : ∀ {fs : List (Str × T)} {gs : List (Str × V)}, RFf G w fs gs → fs.lookup f = none → gs.lookup f = none
  | _, _, .nil, _ => rfl
  | _, _, .cons (k := k) a b, h => by
    rw [List.lookup_cons] at h
    rw [List.lookup_cons]
    cases hb : f == k with
    | true => rw [hb] at h; cases h
    | false => rw [hb] at h; exact RFf.lookN b h
theorem RFf.length : ∀ {fs : List (Str × T)} {gs : List (Str × V)}, RFf G w fs gs → fs.length = gs.length
  | _, _, .nil => rfl
  | _, _, .cons _ b => congrArg Nat.succ (RFf.length b)
theorem RFf.put {f : Str} {t : T} {v : V} (r : RF G w t v) : ∀ {fs : List (Str × T)} {gs : List (Str × V)}, RFf G w fs gs → RFf G w (putS f t fs) (putF f v gs)
  | _, _, .nil => .cons r .nil
  | _, _, .cons (k := k) a b => by
    unfold putS putF
    by_cases e : k = f
    · rw [if_pos e, if_pos e]; exact .cons r b
    · rw [if_neg e, if_neg e]; exact .cons a (RFf.put r b)
end
theorem spM_weak {G : Gm} {cal : Nat → List Slot → CRes} {f : Nat} {vs : List V} {H : Hp} {Q : VK} {E E' : XK} (h : spM G cal f vs H Q E) (i : ∀ c d H, E c d H → E' c d H) : spM G cal f vs H Q E' := by
  obtain ⟨w, args, e, S, q⟩ := h
  refine ⟨w, args, e, S, ?_⟩
  cases hc : cal f args with
  | ok r outs => rw [hc] at q; exact q
  | ex x outs => rw [hc] at q; exact fun w' c d s x' r => i _ _ _ (q w' c d s x' r)
  | no => rw [hc] at q; exact q
noncomputable abbrev EF : XK := fun _ _ _ => False
noncomputable def Ct.quiet (C : Ct) : Ct := ⟨C.G, C.w0, C.s0, C.fx, fun _ _ => False⟩
theorem Pre.quiet {C : Ct} {w : Wd} {m : List Slot} {σ : St} (p : Pre C w m σ) : Pre C.quiet w m σ := ⟨p.sr, p.ex, p.fix⟩
section
variable {C : Ct} {X : Cx} {cal : Nat → List Slot → CRes} {L : Nat}
theorem call_quiet {f : Nat} {io : List Bool} {ds : List Opd} {vs : List V} {w : Wd} {m : List Slot} {σ : St} {Q : VK} (P : Pre C w m σ) (r : RDs C.G w σ ds vs)
    (h : (callR cal f io ds m).calm.sat (fun r m' => ∀ w' v, SR C.G w' m' σ → Ex w w' → RR C.G w' m' σ r v → Q v w'.H) C.EM) : spM C.G cal f vs w.H Q EF :=
  spM_weak (call_core (C := C.quiet) P.quiet r (Res.sat_calm h)) fun c d H ⟨_, _, _, _, _, _, z⟩ => z
theorem n_fld {ex ea : Expr} {c : Nat} {a : E} {f : Str} (hp : ∀ ta, PE X ea ta → PE X ex (tFld C.G.K ta f)) (hc : Cls C.G.K (C.G.cls c)) (hn : NoAttr C.G.K (C.G.cls c) f) (ha : PE X ea (rdE C (evE cal a))) : PE X ex (rdE C (evE cal (.fld c a f))) :=
  PE.imp (hp _ (pe_opd ha)) fun σ H Q ⟨w, m, e, P, q⟩ => by
  rw [evE, Res.sat_bind] at q
  refine ⟨w, m, e, P, ?_⟩
  rw [opdF, Res.sat_bind]
  refine Res.sat_mono q fun r m1 q1 w1 v S1 x1 r1 => ?_
  split at q1
  · rename_i c' fs hd
    split at q1
    · rename_i hcc
      subst hcc
      cases hl : fs.lookup f with
      | none => rw [hl] at q1; exact q1.elim
      | some t =>
        rw [hl] at q1
        obtain ⟨p, dx, gs, rfl, h1, h2⟩ := (S1.der r1 hd).ins
        obtain ⟨u, h3, h4⟩ := h2.look hl
        exact ⟨p, _, dx, gs, u, rfl, h1, hc, hn, h3, q1 w1 u S1 x1 h4⟩
    · exact q1.elim
  · exact q1.elim
theorem n_prop {ex ea : Expr} {c f : Nat} {a : E} (hp : ∀ ta, PE X ea ta → PE X ex (tProp (C.G.cls c) (spM C.G cal f) [] EF ta)) (ha : PE X ea (rdE C (evE cal a))) : PE X ex (rdE C (evE cal (.prop c f a))) :=
  PE.imp (hp _ (pe_opd ha)) fun σ H Q ⟨w, m, e, P, q⟩ => by
  rw [evE, Res.sat_bind] at q
  refine ⟨w, m, e, P, ?_⟩
  rw [opdF, Res.sat_bind]
  refine Res.sat_mono q fun r m1 q1 w1 v1 S1 x1 r1 => ?_
  split at q1
  · rename_i c' fs hd
    split at q1
    · rename_i hcc
      subst hcc
      obtain ⟨p, dx, gs, rfl, h1, h2⟩ := (S1.der r1 hd).ins
      refine ⟨p, dx, gs, rfl, h1, ?_⟩
      exact call_quiet (P.step S1 x1) (.cons r1 .nil) (Res.sat_mono q1 fun r m2 k w' v S' x' rr => k w' v S' (x1.trans x') rr)
    · exact q1.elim
  · exact q1.elim
noncomputable def tMkP (C : Addr) (sp : Sp) (pmv : List V → List V) (E : XK) (t : TA) : TE := fun σ H Q => t σ H fun vs H1 => ∀ x dx, H1 x = none → H1 dx = none → dx ≠ x → sp (.ref x :: pmv vs) (upd (upd H1 dx (.own x)) x (.ins C dx [])) (fun v H2 => v = .non ∧ Q (.ref x) H2) E
theorem rd_mk0 {c f : Nat} {pm : List Nat} {es : Es} {pmv : List V → List V} (hpm : ∀ {w : Wd} {ts : List T} {vs : List V}, RFs C.G w ts vs → RFs C.G w (pmT pm ts) (pmv vs)) {σ : St} {H : Hp} {Q : VK} (q : rdE C (evE cal (.mk c f pm es)) σ H Q) : tMkP (C.G.cls c) (spM C.G cal f) pmv EF (rdDs C (evDs cal es)) σ H Q := by
  obtain ⟨w, m, e, P, q⟩ := q
  rw [evE, Res.sat_bind] at q
  refine ⟨w, m, e, P, Res.sat_mono q fun ds m1 q1 w1 vs0 S1 x1 r1 x dx hx hdx hne => ?_⟩
  cases h1 : escs m1 ds with
  | none => rw [h1] at q1; exact q1.elim
  | some pr =>
    obtain ⟨ts0, m2⟩ := pr
    rw [h1] at q1
    simp only at q1
    obtain ⟨w2, e2, S2, x2, r20⟩ := SR.escs S1 r1 h1
    have r2 := hpm r20
    generalize pmT pm ts0 = ts at r2 q1
    generalize pmv vs0 = vs at r2
    have hx2 : w2.H x = none := by rw [e2]; exact hx
    have hdx2 : w2.H dx = none := by rw [e2]; exact hdx
    split at q1
    · rename_i o outs hcal
      let wA : Wd := ⟨w2.F, w2.L, upd w2.H dx (.own x)⟩
      have moA : Mo w2 wA := ⟨fun _ z => z, fun a fa => by
        obtain ⟨u, hu⟩ := S2.trk a fa
        exact .inl (hu.trans (upd_trk hdx2 hu).symm)⟩
      have exA : Ex w2 wA := ⟨moA.fz, moA.kp, fun a u g1 g2 g3 => ⟨upd_trk hdx2 g1, g2, g3⟩⟩
      have SA : SR C.G wA m2 σ := S2.grow moA (fun a l => ⟨l, fun ⟨u, hu⟩ => (upd_trk hdx2 hu).trans hu.symm⟩) S2.sep fun a fa => by
        obtain ⟨u, hu⟩ := S2.trk a fa
        exact ⟨u, upd_trk hdx2 hu⟩
      have hxA : wA.H x = none := (upd_ne (fun z => hne z.symm)).trans hx2
      have S5 : SR C.G (wA.new x (.ins (C.G.cls c) dx [])) m2 σ := SA.new hxA
      have x5 : Ex w2 (wA.new x (.ins (C.G.cls c) dx [])) := exA.trans (Ex.new SA.trk hxA)
      have xoff : Off m2 σ x := fun j o' hj z => by
        obtain ⟨a, ea, ro, _⟩ := S2.sl j _ hj
        rw [z] at ea
        cases ea
        obtain ⟨u, hu⟩ := ro.trk
        rw [hx2] at hu
        cases hu
      have r5 : RFs C.G (wA.new x (.ins (C.G.cls c) dx [])) ts vs := RFs.mono x5.mo r2
      have ow0 : ∀ {k : Nat} {o' : O}, (Slot.ow (.ins c []) :: ts.map Slot.fz)[k]? = some (.ow o') → k = 0 := fun {k o'} hk => by
        cases k with
        | zero => rfl
        | succ k =>
          rw [List.getElem?_cons_succ, List.getElem?_map] at hk
          cases ht : ts[k]? with
          | none => rw [ht] at hk; cases hk
          | some t => rw [ht] at hk; cases hk
      have pq : PQ C.G (wA.new x (.ins (C.G.cls c) dx [])) m2 σ (.ow (.ins c []) :: ts.map .fz) (.ref x :: vs) := by
        refine ⟨by simp [r2.length], fun k s hk => ?_, fun k l o1 o2 a h1 h2 _ _ => by rw [ow0 h1, ow0 h2], fun k o1 a hk z => ?_⟩
        · cases k with
          | zero =>
            cases hk
            exact ⟨x, rfl, .ins upd_same .nil, .inr rfl⟩
          | succ k =>
            rw [List.getElem?_cons_succ, List.getElem?_map] at hk
            cases ht : ts[k]? with
            | none => rw [ht] at hk; cases hk
            | some t =>
              rw [ht] at hk
              cases hk
              obtain ⟨v, hv, rv⟩ := r5.get ht
              exact ⟨v, by rw [List.getElem?_cons_succ, hv]; rfl, rv⟩
        · have := ow0 hk
          subst this
          cases z
          exact xoff
      have hH : (callW (wA.new x (.ins (C.G.cls c) dx [])) (.ow (.ins c []) :: ts.map .fz) (.ref x :: vs)).H = upd (upd w1.H dx (.own x)) x (.ins (C.G.cls c) dx []) := by
        show upd (upd w2.H dx (.own x)) x _ = _
        rw [e2]
      refine ⟨_, _, hH, pq.call S5, ?_⟩
      rw [hcal]
      intro w' v S' x' rr
      have S3 := call_back pq S5 x' S'
      have x3 := call_ex pq x'
      obtain ⟨a, ea, ro, la⟩ := S'.sl 0 _ rfl
      have ea' : a = x := by
        have : (some (some (V.ref x)) : Option (Option V)) = some (some (.ref a)) := ea
        cases this
        rfl
      subst ea'
      refine ⟨by cases rr; rfl, ?_⟩
      have mo5 : Mo w' (backW (wA.new a (.ins (C.G.cls c) dx [])) w' (.ow (.ins c []) :: ts.map .fz) (.ref a :: vs)) := mo_same rfl rfl
      exact q1 (backW (wA.new a (.ins (C.G.cls c) dx [])) w' (.ow (.ins c []) :: ts.map .fz) (.ref a :: vs)) (.ref a) S3 (x1.trans (x2.trans (x5.trans x3))) ⟨a, rfl, ro.mono mo5 rfl, .inr la, call_off pq S5 x' la⟩
    · exact q1.elim
theorem st_stf {st : Stmt} {i c : Nat} {f : Str} {e : E} (hc : Cls C.G.K (C.G.cls c)) (hn : NoAttr C.G.K (C.G.cls c) f) (h : PS X st (sFld C.G.K (tVar i) (rdD C (opdF (evE cal e))) f)) : PS X st (rdSt C (evS cal L (.stf i c f e))) := PS.imp h fun D σ H ⟨w, m, eH, P, q⟩ => by
  rw [evS, FSat_ofR] at q
  refine ⟨w, m, eH, P, ?_⟩
  rw [opdF, Res.sat_bind]
  refine Res.sat_mono q fun r m1 q1 w1 v S1 x1 r1 => ?_
  cases h1 : esc m1 r.opd with
  | none => rw [h1] at q1; exact q1.elim
  | some pr =>
    obtain ⟨t, m2⟩ := pr
    rw [h1] at q1
    simp only at q1
    obtain ⟨w2, e2, S2, x2, r2⟩ := S1.esc r1 h1
    cases h2 : m2[i]? with
    | none => rw [h2] at q1; exact q1.elim
    | some s =>
      rw [h2] at q1
      have sl := S2.sl i s h2
      cases s with
      | no => exact q1.elim
      | fz t => exact q1.elim
      | ow o =>
        cases o with
        | lst k => exact q1.elim
        | dic k => exact q1.elim
        | ins c' fs =>
          obtain ⟨a, ea, ro, la⟩ := sl
          simp only at q1
          split at q1
          · rename_i hcc
            obtain ⟨rfl, hlt⟩ := hcc
            obtain ⟨dx, gs, hv, rs⟩ := ro.ins_inv
            have nf := S2.sep a la
            obtain ⟨S3, x3⟩ := S2.write (u := .ins (C.G.cls c') dx (putF f v gs)) (o' := .ins c' (putS f t fs)) h2 ea (.ins upd_same (RFf.mono (Mo.poke nf) (RFf.put r2 rs)))
            refine ⟨_, ea, a, _, dx, gs, rfl, by rw [← e2]; exact hv, hc, hn, by rw [← rs.length]; exact hlt, ?_⟩
            rw [← e2]
            exact q1 (w2.wr a (.ins (C.G.cls c') dx (putF f v gs))) σ (P.step S3 (x1.trans (x2.trans x3))) (x1.trans (x2.trans x3))
          · exact q1.elim
theorem st_nev {st : Stmt} : PS X st (rdSt C (evS cal L .nev)) := PS.imp ps_never fun D σ H ⟨w, m, eH, P, q⟩ => by
  rw [evS] at q
  exact q
end
end Mi
set_option maxHeartbeats 2000000
namespace MiP
open PySem PySem.Spec PyProof.Rows
section
variable {prog : Program} {w : World} {A : Around} {E : Value → Shared → Prop} {s : Shared} {K : PySem.W.Frag} {x C f : Addr} {ox : Obj} {od : Option Obj} {v t : Value}
noncomputable def Beside (K : PySem.W.Frag) (C : Addr) (t : Value) : Prop := t = .ref C ∨ PySem.W.subIn K t (.ref C) = some false
theorem ne_entry {Q : Fin → Shared → Prop} (hu : A.units < cLine) (X : K.In s.heap) (I : PySem.W.InstAt s.heap x ox C od) (hs : PySem.W.findIn K (.ref C) "__eq__" = some (some (.ref f))) (hf : PySem.W.isFn K (.ref f) = true)
    (h : wpAny (model prog w) A (call (.ref f) [.ref x, v]) (fun r s' => ∃ b, r = .bool b ∧ Q (.done (.ret (.bool (!b)))) s') E s) : wpAny (model prog w) A (Builtin.«object.__ne__» ⟨[.ref x, v], []⟩) Q E s := by
  unfold Builtin.«object.__ne__»
  repeat (first
    | with_reducible refine wpAny_cRoomFor hu ?_
    | (refine wpAny_bind (m := callSpecialIfBound? (.ref x) (Str.ofString "__eq__") [v])
        (PySem.W.ifBound_K X I hs hf (wpAny_mono h (fun r s' hr => by
          obtain ⟨b, rfl, hq⟩ := hr
          repeat (first | exact hq | exact wpAny_pure hq | exact wpAny_truthy_bool hq | (refine wpAny_bind (m := truthy (.bool _)) (wpAny_truthy_bool ?_)) | wp_step)) fun _ _ e => e)))
    | wp_step)
theorem ifBound_objNe {M : Model} {args : List Value} {Q : Option Value → Shared → Prop} (X : K.In s.heap) (I : PySem.W.InstAt s.heap x ox C od) (hs : PySem.W.findIn K (.ref C) "__ne__" = some (some (.builtin "object.__ne__")))
    (h : wpAny M A (call (.builtin "object.__ne__") (.ref x :: args)) (fun v => Q (some v)) E s) : wpAny M A (callSpecialIfBound? (.ref x) "__ne__" args) Q E s := by
  simp only [callSpecialIfBound?, bindSpecialIfBound?]
  refine wpAny_holding (wpAny_bind (wpAny_bind (wpAny_bind (I.type.here ((PySem.W.looks_findIn X hs).here ?_)))))
  refine wpAny_bind (wpAny_askSetting (wpAny_ite ?_))
  have fin' : wpAny M A (call (.builtin "object.__ne__") ([.ref x] ++ args) >>= fun v => pure (some v)) Q E s := wpAny_bind (wpAny_mono h (fun v s' h' => wpAny_pure h') fun _ _ h' => h')
  split
  · refine wpAny_bind (wpAny_of_eq (F.cmp_object.ne.bind _) (wpAny_pure ?_)); exact fin'
  · refine wpAny_tryCatch (wpAny_bind (wpAny_of_eq (F.cmp_object.ne.bind _) (wpAny_pure ?_))); exact fin'
theorem own_ne {Q : Value → Shared → Prop} (hu : A.units + 1 < cLine) (X : K.In s.heap) (I : PySem.W.InstAt s.heap x ox C od) (hs : PySem.W.findIn K (.ref C) "__eq__" = some (some (.ref f))) (hf : PySem.W.isFn K (.ref f) = true)
    (hn : PySem.W.findIn K (.ref C) "__ne__" = some (some (.builtin "object.__ne__"))) (hm : PySem.W.mroIn K C (.type "object") = some true)
    (ht : ∀ M, PySem.W.Looks M s.heap (typeOf v) t) (hb : Beside K C t) (h : wpAny (model prog w) A.in1 (call (.ref f) [.ref x, v]) (fun r s' => ∃ b, r = .bool b ∧ Q (.bool (!b)) s') E s) : wpAny (model prog w) A (richCompare .NotEq (.ref x) v) Q E s := by
  have one : wpAny (model prog w) A (tryCompare (.ref x) "__ne__" v) (fun r s' => ∃ b, r = some (.bool b) ∧ Q (.bool b) s') E s := by
    unfold tryCompare
    refine wpAny_bind (ifBound_objNe X I hn (wpAny_call (codeAny_call_builtin F.cmp_object.ne.plain F.cmpEntry_ne (PySem.W.check_slot F.cmpKind_ne F.cmpSplit_ne (I.type.andThen (PySem.W.looks_mroIn X hm)) (F.cmpArgs_ne _ _)
      (ne_entry (A := A.in1) hu X I hs hf (wpAny_mono h (fun r s' hr => ?_) fun _ _ e => e))))))
    obtain ⟨b, rfl, q⟩ := hr
    exact ⟨b, rfl, wpAny_pure ⟨_, rfl, q⟩⟩
  have two : ∀ k : Option Value → Sem Value, (∀ b s', Q (.bool b) s' → wpAny (model prog w) A (k (some (.bool b))) Q E s') → wpAny (model prog w) A (tryCompare (.ref x) "__ne__" v >>= k) Q E s := fun k hk =>
    wpAny_bind (wpAny_mono one (fun r s' hr => by
      obtain ⟨b, rfl, q⟩ := hr
      exact hk b s' q) fun _ _ e => e)
  simp only [richCompare, cmpInfo_NotEq, oneThing_ref]
  refine wpAny_holding (wpAny_bind (wpAny_cRoomFor (Nat.lt_of_succ_lt hu) ?_))
  refine wpAny_bind (I.type.here ?_)
  refine wpAny_bind ((ht _).here ?_)
  split
  · rename_i hne
    have hb2 : PySem.W.subIn K t (.ref C) = some false := hb.resolve_left fun e => by
      subst e
      simp at hne
    refine wpAny_bind ((PySem.W.looks_subIn X hb2).here ?_)
    simp only [Bool.false_eq_true, if_false]
    exact two _ fun b s' q => wpAny_pure q
  · refine wpAny_bind (wpAny_pure ?_)
    simp only [Bool.false_eq_true, if_false]
    exact two _ fun b s' q => wpAny_pure q
end
end MiP

namespace Mi
open PySem PySem.Spec PyProof.Rows L2
structure ClX (K : PySem.W.Frag) (C : Addr) : Prop where
  cl : Cls K C
  ha : PySem.W.findIn K (.ref C) "__class__" = some (some (.builtin "object.__class__"))
  hn : PySem.W.specialIn K (.builtin "object.__class__") "__get__" = some (some (.builtin "getset_descriptor.__get__"))
  htk : PySem.W.takesIn K (.builtin "object.__class__") = some true
  hm : PySem.W.mroIn K C (.type "object") = some true
theorem passEF {X : Cx} : Passes (L2.CX X.prog X.w) X EF := fun _ _ _ _ _ _ _ h => by
  obtain ⟨_, _, _, _, _, _, _, _, _, _, _, _, z⟩ := h
  exact z.elim
section
variable {X : Cx} {k : Nat} {f C : Addr} {fd : FuncData} {ps : List Str} {sp : Sp}
theorem run_fn1 {CX : CXT} {E : XK} {pins : List (Addr × Obj)} {σ : St} {H : Hp} {s : Shared} {Q : VK} {us : List Value} {vs : List V} (F : FnOk X.prog X.w X.K X.mg X.base CX k f fd ps sp) (hr : Room (k + 1) X.A) (hb : Binds X.K fd ps []) (hx : Passes CX X E)
    (I : Inv X pins σ H s) (r : Vals vs us) (h : sp vs H Q E) : wpAny (model X.prog X.w) X.A.in1 (call (.ref f) us) (EP X pins σ Q) X.xe s := by
  have hl : us.length = ps.length := by rw [← r.length]; exact F.len _ _ _ _ h
  have b := hb s us I.kIn (by rw [List.append_nil]; exact hl)
  rw [List.append_nil] at b
  refine wpAny_call (codeAny_mono (F.run X.A.in1 X.stack s H ⟨us, []⟩ us vs Q E hr.in1 I.env0.in1 b r h) fun r s' hq => ?_)
  cases r with
  | error e => exact hx pins σ H s e s' I hq
  | ok fl =>
    cases fl with
    | ret u => exact I.after hq
    | next => exact False.elim hq
    | brk => exact False.elim hq
    | cont => exact False.elim hq
noncomputable def rOwn (K : PySem.W.Frag) (C : Addr) (sp : Sp) (neg : Bool) : R2 := fun x y H Q => ∃ a dx fs t, x = .ref a ∧ H a = some (.ins C dx fs) ∧ TyX K H y t ∧ MiP.Beside K C t ∧ sp [x, y] H (fun v H' => ∃ b, v = .bl b ∧ Q (.bl (if neg = true then !b else b)) H') EF
theorem op_ownNe (hm : Meth X.K C "__eq__" f) (hn : PySem.W.findIn X.K (.ref C) "__ne__" = some (some (.builtin "object.__ne__"))) (ho : PySem.W.mroIn X.K C (.type "object") = some true) (F : FnOk X.prog X.w X.K X.mg X.base (L2.CX X.prog X.w) k f fd ps sp) (hr : Room (k + 1) X.A) (hb : Binds X.K fd ps []) : OpR X (compareOp .NotEq) (rOwn X.K C sp true) := by
  intro pins s σ H x y v u Q I rx ry h
  obtain ⟨a, dx, fs, t, rfl, ea, ty, bs, q⟩ := h
  have rx' := rx
  cases rx
  obtain ⟨mA, O, _⟩ := ins_get I.hok ea
  obtain ⟨od, J, _⟩ := O.look
  obtain ⟨P, Z, p, _⟩ := kit_of I ry ty
  have hu : X.A.units + 1 < cLine := by have := hr.un; omega
  refine PySem.W.cmp_ofNotEq (MiP.own_ne hu I.kIn J hm.at_ hm.fn hn ho (fun M => Z.ty M _ I.kIn p) bs (thn (run_fn1 F hr hb passEF I (.cons rx' (.cons ry .nil)) q) fun r s' hh => ?_))
  obtain ⟨v', H', I', rv, b, e, q'⟩ := hh
  subst e
  cases rv
  exact ⟨b, rfl, .bl (!b), H', I', rfl, q'⟩
end
section
variable {G : Gm}
theorem sub_ty {K : PySem.W.Frag} {C : Addr} {n : String} {l : List Value} (e : fastBuiltinMro n = some l) (h : l.contains (.ref C) = false) : PySem.W.subIn K (.type n) (.ref C) = some false := by
  show (fastBuiltinMro n).map (·.contains (.ref C)) = some false
  rw [e]
  show some (l.contains (.ref C)) = some false
  rw [h]
theorem beside_ty {K : PySem.W.Frag} {C : Addr} {t : T} (h : ∀ c fs, t ≠ .ins c fs) : MiP.Beside K C (.type (tyT t)) := by
  have go : ∀ {n : String} {l : List Value}, fastBuiltinMro n = some l → (∀ x ∈ l, ∀ C, x ≠ .ref C) → MiP.Beside K C (.type n) := fun {n l} e hl => .inr (sub_ty e (by
    rw [List.contains_eq_any_beq, List.any_eq_false]
    intro x hx
    simpa using fun z => hl x hx C z.symm))
  cases t with
  | ins c fs => exact absurd rfl (h c fs)
  | non => exact go (n := "NoneType") (l := [.type "NoneType", .type "object"]) (by decide +kernel) (by simp)
  | bl b => exact go (n := "bool") (l := [.type "bool", .type "int", .type "object"]) (by decide +kernel) (by simp)
  | int i => exact go (n := "int") (l := [.type "int", .type "object"]) (by decide +kernel) (by simp)
  | str s => exact go (n := "str") (l := [.type "str", .type "object"]) (by decide +kernel) (by simp)
  | lst xs => exact go (n := "list") (l := [.type "list", .type "object"]) (by decide +kernel) (by simp)
  | tup xs => exact go (n := "tuple") (l := [.type "tuple", .type "object"]) (by decide +kernel) (by simp)
  | dic xs => exact go (n := "dict") (l := [.type "dict", .type "object"]) (by decide +kernel) (by simp)
  | scr xs => exact go (n := "list") (l := [.type "list", .type "object"]) (by decide +kernel) (by simp)
theorem beside_of {w : Wd} {c : Nat} {t : T} {v : V} (cx : ClX G.K (G.cls c)) (r : RA G w t v) (h : besideT c (some t) = true) : ∃ ty, TyX G.K w.H v ty ∧ MiP.Beside G.K (G.cls c) ty := by
  by_cases hi : ∃ c' fs, t = .ins c' fs
  · obtain ⟨c', fs, rfl⟩ := hi
    have e : c' = c := of_decide_eq_true h
    subst e
    obtain ⟨a, dx, gs, rfl, h1, _⟩ := r.ins
    exact ⟨.ref (G.cls c'), .base (.ins h1 cx.cl cx.ha cx.hn cx.htk cx.hm), .inl rfl⟩
  · have nt : ∀ c fs, t ≠ .ins c fs := fun c' fs e => hi ⟨c', fs, e⟩
    exact ⟨_, r.ty nt, beside_ty nt⟩
end
section
variable {C : Ct} {X : Cx} {cal : Nat → List Slot → CRes}
theorem rd_ceq {neg : Bool} {c f : Nat} {a b : E} {r : R2} {σ : St} {H : Hp} {Q : VK} (cx : ClX C.G.K (C.G.cls c)) (ok : OpOk2 C.G (if neg = true then .ne else .eq) r) (h : rdE C (evE cal (.ceq neg c f a b)) σ H Q) :
    tOp (fun x y H Q => rOwn C.G.K (C.G.cls c) (spM C.G cal f) neg x y H Q ∨ r x y H Q) (rdD C (opdF (evE cal a))) (rdD C (opdF (evE cal b))) σ H Q := by
  obtain ⟨w, m, e, P, q⟩ := h
  rw [evE, Res.sat_bind] at q
  refine ⟨w, m, e, P, ?_⟩
  rw [opdF, Res.sat_bind]
  refine Res.sat_mono q fun ra m1 q1 w1 v1 S1 x1 r1 => ?_
  rw [Res.sat_bind] at q1
  refine ⟨w1, m1, rfl, P.step S1 x1, ?_⟩
  rw [opdF, Res.sat_bind]
  refine Res.sat_mono q1 fun rb m2 q2 w2 v2 S2 x2 r2 => ?_
  split at q2
  · rename_i c' fs hd
    split at q2
    · rename_i hcc
      obtain ⟨rfl, hbs⟩ := hcc
      obtain ⟨p, dx, gs, rfl, h1, h2⟩ := (S2.der (r1.mono x2.mo) hd).ins
      cases hd2 : der m2 rb.opd with
      | none => rw [hd2] at hbs; cases hbs
      | some t2 =>
        rw [hd2] at hbs
        obtain ⟨ty, g1, g2⟩ := beside_of cx (S2.der r2 hd2) hbs
        refine .inl ⟨p, dx, gs, ty, rfl, h1, g1, g2, ?_⟩
        rw [Res.sat_bind] at q2
        refine call_quiet ((P.step S1 x1).step S2 x2) (.cons (r1.mono x2.mo) (.cons r2 .nil)) (Res.sat_mono q2 fun r m3 q3 w3 v3 S3 x3 r3 => ?_)
        cases r with
        | ow o => exact q3.elim
        | bo k => exact q3.elim
        | fz t =>
          cases t <;> try (exact q3.elim)
          case bl k =>
            cases r3
            exact ⟨k, rfl, q3 w3 _ S3 (x1.trans (x2.trans x3)) (.bl _)⟩
    · exact q2.elim
  · obtain ⟨ts, res, h1, h2, h3⟩ := opR_sat q2
    obtain ⟨t1, t2, rfl, g1, g2⟩ := ders2 h1
    exact .inr (ok w2 m2 σ t1 t2 v1 v2 res Q S2 (S2.der (r1.mono x2.mo) g1) (S2.der r2 g2) h2 fun w' v S' x' r' => h3 w' v S' (x1.trans (x2.trans x')) r')
theorem t_ceq {ex ea eb : Expr} {neg : Bool} {c f : Nat} {a b : E} {r : R2} (hp : ∀ ta tb, PE X ea ta → PE X eb tb → PT X ex (tTest (tOp (fun x y H Q => rOwn C.G.K (C.G.cls c) (spM C.G cal f) neg x y H Q ∨ r x y H Q) ta tb))) (cx : ClX C.G.K (C.G.cls c)) (ok : OpOk2 C.G (if neg = true then .ne else .eq) r)
    (ha : PE X ea (rdE C (evE cal a))) (hb : PE X eb (rdE C (evE cal b))) : PT X ex (rdB C (evE cal (.ceq neg c f a b))) := PT.imp (hp _ _ (pe_opd ha) (pe_opd hb)) fun σ H Q q => rd_ceq cx ok (rd_bool q)
end
end Mi
set_option maxHeartbeats 1000000
namespace Mi
open PySem PySem.Spec PyProof.Rows L2
/-! ### sorted lists of ints -/
theorem insS_perm (a : Int) : ∀ l : List Int, (insS a l).Perm (a :: l)
  | [] => .refl _
  | b :: r => by
    unfold insS
    split
    · exact .refl _
    · exact ((insS_perm a r).cons b).trans (.swap a b r)
theorem insS_srt (a : Int) : ∀ l : List Int, l.Pairwise (· ≤ ·) → (insS a l).Pairwise (· ≤ ·)
  | [], _ => List.pairwise_singleton _ _
  | b :: r, h => by
    unfold insS
    have hb := List.pairwise_cons.mp h
    split
    · rename_i hab
      refine List.pairwise_cons.mpr ⟨fun x hx => ?_, h⟩
      rcases List.mem_cons.mp hx with rfl | hx
      · exact hab
      · exact Int.le_trans hab (hb.1 x hx)
    · rename_i hab
      refine List.pairwise_cons.mpr ⟨fun x hx => ?_, insS_srt a r hb.2⟩
      rcases List.mem_cons.mp ((insS_perm a r).mem_iff.mp hx) with rfl | hx
      · omega
      · exact hb.1 x hx
theorem sortS_perm : ∀ l : List Int, (sortS l).Perm l
  | [] => .refl _
  | a :: r => (insS_perm a (sortS r)).trans ((sortS_perm r).cons a)
theorem sortS_srt : ∀ l : List Int, (sortS l).Pairwise (· ≤ ·)
  | [] => .nil
  | a :: r => insS_srt a _ (sortS_srt r)
theorem srt_one : ∀ {l k : List Int}, l.Perm k → l.Pairwise (· ≤ ·) → k.Pairwise (· ≤ ·) → l = k
  | [], k, p, _, _ => p.symm.eq_nil.symm
  | a :: r, [], p, _, _ => p.eq_nil
  | a :: r, b :: s, p, h, g => by
    have h1 := List.pairwise_cons.mp h
    have g1 := List.pairwise_cons.mp g
    have e : a = b := by
      have ha : b ≤ a := by
        rcases List.mem_cons.mp (p.mem_iff.mp List.mem_cons_self) with e | e
        · omega
        · exact g1.1 a e
      have hb : a ≤ b := by
        rcases List.mem_cons.mp (p.symm.mem_iff.mp List.mem_cons_self) with e | e
        · omega
        · exact h1.1 b e
      omega
    subst e
    rw [srt_one (p.cons_inv) h1.2 g1.2]
section
variable {G : Gm}
theorem intsT_v {w : Wd} : ∀ {ts : List T} {vs : List V} {ns : List Int}, RFs G w ts vs → intsT ts = some ns → vs = ns.map V.int
  | [], _, _, .nil, h => by cases h; rfl
  | t :: ts, _, ns, .cons (v := v) a b, h => by
    cases t <;> try (cases h; done)
    case int i =>
      rw [intsT] at h
      cases e : intsT ts with
      | none => rw [e] at h; cases h
      | some ms =>
        rw [e] at h
        cases h
        rw [intsT_v b e]
        cases a
        rfl
theorem seqI_v {w : Wd} {t : T} {v : V} {ns : List Int} (r : RA G w t v) (h : seqI t = some ns) : ∃ p, v = .ref p ∧ SqL G.K w.H p (ns.map V.int) := by
  cases t <;> try (cases h; done)
  case lst xs =>
    obtain ⟨p, vs, rfl, h1, rs⟩ := r.lst
    have := intsT_v rs h
    subst this
    exact ⟨p, rfl, .inl (.inl h1)⟩
  case scr ms =>
    obtain ⟨p, rfl, h1⟩ := r.scr
    cases h
    exact ⟨p, rfl, h1⟩
theorem ltc_tot : ∀ (a b : List Nat), PySem.Spec.ltCps a b = false → PySem.Spec.ltCps b a = false → a = b
  | [], [], _, _ => rfl
  | [], _ :: _, h, _ => by cases h
  | _ :: _, [], _, h => by cases h
  | a :: r, b :: t, h, g => by
    rw [PySem.Spec.ltCps, Bool.or_eq_false_iff, decide_eq_false_iff_not] at h g
    have e : a = b := by omega
    subst e
    rw [beq_self_eq_true, Bool.true_and] at h g
    rw [ltc_tot r t h.2 g.2]
theorem ltc_asym : ∀ (a b : List Nat), PySem.Spec.ltCps a b = true → PySem.Spec.ltCps b a = false
  | [], [], h => by cases h
  | [], _ :: _, _ => rfl
  | _ :: _, [], h => by cases h
  | a :: r, b :: t, h => by
    rw [PySem.Spec.ltCps, Bool.or_eq_true, decide_eq_true_eq, Bool.and_eq_true, beq_iff_eq] at h
    rw [PySem.Spec.ltCps, Bool.or_eq_false_iff, decide_eq_false_iff_not]
    rcases h with h | ⟨rfl, h⟩
    · refine ⟨by omega, ?_⟩
      rw [Bool.and_eq_false_iff]
      exact .inl (beq_eq_false_iff_ne.mpr (by omega))
    · refine ⟨by omega, ?_⟩
      rw [ltc_asym r t h, Bool.and_false]
theorem ltc_trans : ∀ (a b c : List Nat), PySem.Spec.ltCps b a = false → PySem.Spec.ltCps c b = false → PySem.Spec.ltCps c a = false
  | a, [], [], h, _ => h
  | [], [], c :: u, _, g => by cases c <;> rfl
  | _ :: _, [], _ :: _, h, _ => by cases h
  | [], b :: t, [], _, g => by cases g
  | _ :: _, _ :: _, [], _, g => by cases g
  | [], b :: t, c :: u, _, g => rfl
  | a :: r, b :: t, c :: u, h, g => by
    rw [PySem.Spec.ltCps, Bool.or_eq_false_iff, decide_eq_false_iff_not, Bool.and_eq_false_iff, beq_eq_false_iff_ne] at h g ⊢
    refine ⟨by omega, ?_⟩
    by_cases e : c = a
    · have e1 : b = a := by omega
      subst e
      subst e1
      exact .inr (ltc_trans r t u (h.2.resolve_left (fun z => z rfl)) (g.2.resolve_left (fun z => z rfl)))
    · exact .inl e
theorem leT_tot {a b : Str} (h : leT a b = false) : leT b a = true := by
  unfold leT at h ⊢
  rw [Bool.not_eq_false'] at h
  rw [ltc_asym _ _ h]
  rfl
theorem leT_anti {a b : Str} (h : leT a b = true) (g : leT b a = true) : a = b := by
  unfold leT at h g
  rw [Bool.not_eq_true'] at h g
  have := ltc_tot _ _ g h
  obtain ⟨⟨x⟩⟩ := a
  obtain ⟨⟨y⟩⟩ := b
  simp only at this
  rw [this]
theorem leT_trans {a b c : Str} (h : leT a b = true) (g : leT b c = true) : leT a c = true := by
  unfold leT at h g ⊢
  rw [Bool.not_eq_true'] at h g ⊢
  exact ltc_trans _ _ _ h g
theorem insT_perm (a : Str) : ∀ l : List Str, (insT a l).Perm (a :: l)
  | [] => .refl _
  | b :: r => by
    rw [insT]
    split
    · exact .refl _
    · exact ((insT_perm a r).cons b).trans (.swap a b r)
theorem sortT_perm : ∀ l : List Str, (sortT l).Perm l
  | [] => .refl _
  | a :: r => (insT_perm a (sortT r)).trans ((sortT_perm r).cons a)
theorem insT_srt (a : Str) : ∀ l : List Str, l.Pairwise (fun x y => leT x y = true) → (insT a l).Pairwise fun x y => leT x y = true
  | [], _ => List.pairwise_singleton _ _
  | b :: r, h => by
    rw [insT]
    have h1 := List.pairwise_cons.mp h
    split
    · rename_i hab
      refine List.pairwise_cons.mpr ⟨fun c hc => ?_, h⟩
      rcases List.mem_cons.mp hc with rfl | hc
      · exact hab
      · exact leT_trans hab (h1.1 c hc)
    · rename_i hab
      refine List.pairwise_cons.mpr ⟨fun c hc => ?_, insT_srt a r h1.2⟩
      rcases List.mem_cons.mp ((insT_perm a r).mem_iff.mp hc) with rfl | hc
      · exact leT_tot (Bool.eq_false_iff.mpr hab)
      · exact h1.1 c hc
theorem sortT_srt : ∀ l : List Str, (sortT l).Pairwise fun x y => leT x y = true
  | [] => .nil
  | a :: r => insT_srt a _ (sortT_srt r)
theorem srtT_one : ∀ {l k : List Str}, l.Perm k → (l.Pairwise fun x y => leT x y = true) → (k.Pairwise fun x y => leT x y = true) → l = k
  | [], k, p, _, _ => p.symm.eq_nil.symm
  | a :: r, [], p, _, _ => p.eq_nil
  | a :: r, b :: s, p, h, g => by
    have h1 := List.pairwise_cons.mp h
    have g1 := List.pairwise_cons.mp g
    have e : a = b := by
      rcases List.mem_cons.mp (p.mem_iff.mp List.mem_cons_self) with e | e
      · exact e
      · rcases List.mem_cons.mp (p.symm.mem_iff.mp List.mem_cons_self) with e2 | e2
        · exact e2.symm
        · exact leT_anti (h1.1 b e2) (g1.1 a e)
    subst e
    rw [srtT_one (List.Perm.cons_inv p) h1.2 g1.2]
theorem srtT_of : ∀ {l : List Str}, PyProof.Rows.sortedS l = true → l.Pairwise fun x y => leT x y = true
  | [], _ => .nil
  | a :: r, h => by
    have key : ∀ (p : Str) (r : List Str), PyProof.Rows.risingS p r = true → ((∀ x ∈ r, leT p x = true) ∧ (r.Pairwise fun x y => leT x y = true)) := by
      intro p r
      induction r generalizing p with
      | nil => intro _; exact And.intro (fun x hx => by cases hx) List.Pairwise.nil
      | cons x r ih =>
        intro h
        rw [PyProof.Rows.risingS, Bool.and_eq_true] at h
        obtain ⟨h1, h2⟩ := ih x h.2
        have hp : leT p x = true := h.1
        refine ⟨fun y hy => ?_, List.pairwise_cons.mpr ⟨h1, h2⟩⟩
        rcases List.mem_cons.mp hy with rfl | hy
        · exact hp
        · exact leT_trans hp (h1 y hy)
    exact List.pairwise_cons.mpr (key a r h)
noncomputable def rSrtM (K : PySem.W.Frag) : List V → Hp → VK → Prop := fun xs H Q => rSortedI K xs H Q ∨ rSortedS K xs H Q
theorem cr_srtM {X : Cx} : CallR X (.builtin "sorted") (rSrtM X.K) := by
  intro pins s σ H xs us Q I r q
  exact q.elim (cr_sortedI pins s σ H xs us Q I r) (cr_sortedS pins s σ H xs us Q I r)
theorem rfs_strs {w : Wd} : ∀ (ys : List Str), RFs G w (ys.map T.str) (ys.map V.str)
  | [] => .nil
  | y :: r => .cons (.str y) (rfs_strs r)
theorem okSrt : OpOk1 G .srt (fun x H Q => rSrtM G.K [x] H Q) := fun w m σ t1 v1 res Q S a h k => by
  replace h : srtF t1 = some res := h
  unfold srtF at h
  cases e : seqI t1 with
  | none =>
    rw [e] at h
    cases t1 <;> try (cases h; done)
    case lst xs =>
      simp only at h
      cases e2 : strsT xs with
      | none => rw [e2] at h; cases h
      | some ys =>
        rw [e2] at h
        simp only [Option.bind_some] at h
        split at h
        · rename_i hl
          cases h
          obtain ⟨p, vs, rfl, h1, r⟩ := a.lst
          have := r.strs' e2
          subst this
          refine .inr ⟨p, ys, rfl, .inl (.inl h1), hl, fun ys' q pm sr hq => ?_⟩
          rw [srtT_one (pm.trans (sortT_perm ys).symm) (srtT_of sr) (sortT_srt ys)]
          exact k.lst S (rfs_strs _) q hq
        · cases h
  | some ns =>
    rw [e] at h
    cases h
    obtain ⟨p, rfl, hp⟩ := seqI_v a e
    refine .inl ⟨p, ns, rfl, hp, fun ns' q pm sr hq => ?_⟩
    rw [srt_one (pm.trans (sortS_perm ns).symm) sr (sortS_srt ns)]
    exact k.lst S (RFs.of_ints _) q hq
end
/-! ### the calls -/
section
variable {C : Ct} {X : Cx} {k : Nat} {cal : Nat → List Slot → CRes} {pos p1 p2 : Pos}
theorem x_sorted (c : XC C X k) {a : Expr} {ea : E} (hm : Fr X "sorted") (ha : PE X a (rdE C (evE cal ea))) (hg : Gl X "sorted" := by rfl) (hs : starEach [a] X.env = (false, eval a X.env) :: starEach [] X.env := by rfl) : PE X (.Call (.Name "sorted" p1) [a] [] pos) (rdE C (evE cal (.op .srt (.cons ea .nil)))) :=
  x_bi (r := rSrtM C.G.K) (by rw [c.K]; exact cr_srtM) (by rfl) okSrt hm hg (by decide) (by decide) hs ha
end
end Mi
set_option maxHeartbeats 2000000
namespace MiP
open PySem PySem.Spec PyProof.Rows
section
variable {prog : Program} {w : World} {A : Around} {E : Value → Shared → Prop} {s : Shared} {K : PySem.W.Frag} {x C f : Addr} {ox : Obj} {od : Option Obj}
end
end MiP
namespace Mi
open PySem PySem.Spec PyProof.Rows L2
section
variable {X : Cx} {k : Nat} {f C : Addr} {fd : FuncData} {ps : List Str} {sp : Sp}
end
section
variable {X : Cx} {k : Nat} {f C : Addr} {fd : FuncData} {ps : List Str} {sp : Sp}
end
section
variable {C : Ct} {X : Cx} {cal : Nat → List Slot → CRes}
end
end Mi
set_option maxHeartbeats 1000000
namespace Mi
open PySem PySem.Spec PyProof.Rows L2
/-! ### f-strings -/
section
variable {C : Ct} {X : Cx} {cal : Nat → List Slot → CRes}
noncomputable def jsT (C : Ct) (cal : Nat → List Slot → CRes) : Es → List TE
  | .nil => []
  | .cons e r => tFmt (rdE C (evE cal e)) :: jsT C cal r
theorem js_run {σ : St} : ∀ (es : Es) (acc : Str) (w : Wd) (m : List Slot) (Q : Str → Hp → Prop), Pre C w m σ → (evJs cal es acc m).sat (fun z m1 => ∀ w', SR C.G w' m1 σ → Ex w w' → Q z w'.H) C.EM → tJs (jsT C cal es) acc σ w.H Q
  | .nil, acc, w, m, Q, P, q => by
    rw [evJs] at q
    exact q w P.sr (.refl w)
  | .cons e r, acc, w, m, Q, P, q => by
    rw [evJs, Res.sat_bind] at q
    refine ⟨w, m, rfl, P, Res.sat_mono q fun x m1 q1 w1 v S1 x1 r1 => ?_⟩
    cases x with
    | ow o => exact q1.elim
    | bo k => exact q1.elim
    | fz t =>
      cases t <;> try (exact q1.elim)
      case str y =>
        cases r1
        simp only at q1
        split at q1
        · rename_i hl
          have hy : y.length ≤ sizeLine := by
            have e : (acc ++ y).length = acc.length + y.length := Array.size_append ..
            omega
          exact .inl ⟨y, rfl, hy, y, rfl, hl, js_run r (acc ++ y) w1 m1 Q (P.step S1 x1) (Res.sat_mono q1 fun z m2 k w' S' x' => k w' S' (x1.trans x'))⟩
        · exact q1.elim
      case int i =>
        cases r1
        simp only at q1
        split at q1
        · rename_i hl
          exact .inr ⟨i, rfl, hl.2, toString i, rfl, hl.1, js_run r (acc ++ toString i) w1 m1 Q (P.step S1 x1) (Res.sat_mono q1 fun z m2 k w' S' x' => k w' S' (x1.trans x'))⟩
        · exact q1.elim
theorem j_nil : PJ X [] (jsT C cal .nil) := .nil
theorem j_cons {e : Expr} {es : List Expr} {a : E} {r : Es} (h : PE X e (tFmt (rdE C (evE cal a)))) (hr : PJ X es (jsT C cal r)) : PJ X (e :: es) (jsT C cal (.cons a r)) := .cons h hr
theorem j_txt {s : Str} {j} {pos : Pos} (hs : s.length ≤ sizeLine) : PE X (.Constant (.str s) j pos) (tFmt (rdE C (evE cal (.c (.str s))))) :=
  PE.imp pe_str fun σ H Q ⟨w, m, e, P, q⟩ => by
  rw [evE] at q
  have q := q w (.str s) P.sr (.refl w) (.str s)
  rw [e] at q
  rcases q with ⟨y, e1, e2, q⟩ | ⟨i, e1, _⟩
  · cases e1; exact q
  · cases e1
theorem j_fmt {e : Expr} {a : E} {pos : Pos} (h : PE X e (rdE C (evE cal a))) : PE X (.FormattedValue e (-1) none pos) (tFmt (rdE C (evE cal a))) := pe_fmt h
theorem x_fst {v1 v2 : Expr} {rest : List Expr} {es : Es} {pos : Pos} (h : PJ X (v1 :: v2 :: rest) (jsT C cal es)) : PE X (.JoinedStr (v1 :: v2 :: rest) pos) (rdE C (evE cal (.fst es))) :=
  PE.imp (pe_joined h) fun σ H Q ⟨w, m, e, P, q⟩ => by
  rw [evE, Res.sat_bind] at q
  subst e
  exact js_run es Str.empty w m _ P (Res.sat_mono q fun z m1 k w' S' x' => k w' _ S' x' (.str z))
end
end Mi
set_option maxHeartbeats 1000000
namespace Mi
open PySem PySem.Spec PyProof.Rows L2
/-! ### displays with a star -/
section
variable {G : Gm} {w : Wd} {σ : St}
theorem RDs.app {vs us : List V} {ds es : List Opd} : RDs G w σ ds vs → RDs G w σ es us → RDs G w σ (ds ++ es) (vs ++ us)
  | .nil, r => r
  | .cons a b, r => .cons a (RDs.app b r)
theorem RDs.of_fs : ∀ {ts : List T} {vs : List V}, RFs G w ts vs → RDs G w σ (ts.map Opd.t) vs
  | _, _, .nil => .nil
  | _, _, .cons a b => .cons a (RDs.of_fs b)
end
section
variable {C : Ct} {X : Cx} {k : Nat} {cal : Nat → List Slot → CRes} {pos : Pos}
theorem ax_nil {bs : List Bool} : PA X [] (rdDs C (evDx cal .nil bs)) := PA.imp pa_nil fun σ H Q ⟨w, m, e, P, q⟩ => by
  rw [evDx] at q
  subst e
  exact q w [] P.sr (.refl w) .nil
theorem ax_cons {bs : List Bool} {e : Expr} {es : List Expr} {a : E} {r : Es} (h : PE X e (rdE C (evE cal a))) (hr : PA X es (rdDs C (evDx cal r bs))) (hs : starEach (e :: es) X.env = (false, eval e X.env) :: starEach es X.env := by rfl) :
    PA X (e :: es) (rdDs C (evDx cal (.cons a r) (false :: bs))) := PA.imp (pa_cons (pe_opd h) hr hs) fun σ H Q ⟨w, m, e, P, q⟩ => by
  rw [evDx, Res.sat_bind] at q
  refine ⟨w, m, e, P, ?_⟩
  rw [opdF, Res.sat_bind]
  refine Res.sat_mono q fun x m1 q1 w1 v S1 x1 r1 => ?_
  simp only [List.headD_cons, List.tail_cons, Bool.false_eq_true, if_false] at q1
  rw [Res.sat_bind] at q1
  exact ⟨w1, m1, rfl, P.step S1 x1, Res.sat_mono q1 fun ds m2 q2 w2 us S2 x2 r2 => q2 w2 (v :: us) S2 (x1.trans x2) (.cons (r1.mono x2.mo) r2)⟩
theorem ax_star {bs : List Bool} {e : Expr} {p : Pos} {es : List Expr} {a : E} {r : Es} (c : XC C X k) (h : PE X e (rdE C (evE cal a))) (hr : PA X es (rdDs C (evDx cal r bs))) (hs : starEach (.Starred e p :: es) X.env = (true, eval e X.env) :: starEach es X.env := by rfl) :
    PA X (.Starred e p :: es) (rdDs C (evDx cal (.cons a r) (true :: bs))) := PA.imp (StX.pa_star (pe_opd h) hr hs) fun σ H Q ⟨w, m, e, P, q⟩ => by
  rw [evDx, Res.sat_bind] at q
  rw [← c.K]
  refine ⟨w, m, e, P, ?_⟩
  rw [opdF, Res.sat_bind]
  refine Res.sat_mono q fun x m1 q1 w1 v S1 x1 r1 => ?_
  simp only [List.headD_cons, List.tail_cons, if_true] at q1
  split at q1
  · rename_i xs hd
    obtain ⟨p, vs, rfl, h1, rs⟩ := (S1.der r1 hd).lst
    rw [Res.sat_bind] at q1
    exact ⟨p, vs, rfl, .inr (.inl (.inl h1)), w1, m1, rfl, P.step S1 x1, Res.sat_mono q1 fun ds m2 q2 w2 us S2 x2 r2 => q2 w2 (vs ++ us) S2 (x1.trans x2) ((RDs.of_fs (RFs.mono x2.mo rs)).app r2)⟩
  · exact q1.elim
theorem x_lsx {exs : List Expr} {bs : List Bool} {es : Es} (h : PA X exs (rdDs C (evDx cal es bs))) : PE X (.List exs pos) (rdE C (evE cal (.lsx bs es))) := PE.imp (pe_lst h) fun σ H Q ⟨w, m, e, P, q⟩ => by
  rw [evE, Res.sat_bind] at q
  refine ⟨w, m, e, P, Res.sat_mono q fun ds m1 q1 w1 vs S1 x1 r1 => ?_⟩
  cases h1 : escs m1 ds with
  | none => rw [h1] at q1; exact q1.elim
  | some pr =>
    obtain ⟨ts, m2⟩ := pr
    rw [h1] at q1
    simp only at q1
    obtain ⟨w2, e2, S2, x2, r2⟩ := SR.escs S1 r1 h1
    split at q1
    · rename_i hl
      refine ⟨by rw [← r2.length]; exact hl, ?_⟩
      rw [← e2]
      exact After.lst (fun w' v S' x' r' => q1 w' v S' (x1.trans (x2.trans x')) r') S2 r2
    · exact q1.elim
end
end Mi
set_option maxHeartbeats 1000000
namespace Mi
open PySem PySem.Spec PyProof.Rows L2

/-! ### constants of the top -/
mutual
theorem matV_ok {G : Gm} : ∀ {t : T} {u : Value}, matV G.K t u = true → ∃ v, RelV v u ∧ ∀ w, RF G w t v
  | .non, u, h => by
    cases u <;> first | exact ⟨.non, rfl, fun _ => .non⟩ | (simp [matV] at h)
  | .bl b, u, h => by
    cases u <;> try (simp [matV] at h; done)
    case bool c =>
      have e : b = c := by simpa [matV] using h
      subst e
      exact ⟨.bl b, rfl, fun _ => .bl b⟩
  | .int i, u, h => by
    cases u <;> try (simp [matV] at h; done)
    case int j t =>
      have e : i = j := by simpa [matV] using h
      subst e
      exact ⟨.int i, ⟨t, rfl⟩, fun _ => .int i⟩
  | .str x, u, h => by
    cases u <;> try (simp [matV] at h; done)
    case str j t =>
      have e : x = j := by simpa [matV] using h
      subst e
      exact ⟨.str x, ⟨t, rfl⟩, fun _ => .str x⟩
  | .tup xs, u, h => by
    cases u <;> try (simp [matV] at h; done)
    case ref a =>
      rw [matV] at h
      cases q : G.K.lookup a with
      | none => simp [q] at h
      | some o =>
        obtain ⟨oc, od, dt, osl⟩ := o
        simp only [q] at h
        cases oc <;> try (cases dt <;> simp at h; done)
        case type c =>
          cases dt <;> try (simp at h; done)
          case seq its n =>
            simp only [Bool.and_eq_true, decide_eq_true_eq] at h
            obtain ⟨rfl, h2, h3⟩ := h
            obtain ⟨vs, r1, r2⟩ := matVs_ok h3
            exact ⟨.ref a, rfl, fun w => .tup (.inr ⟨_, its, n, q, rfl, rfl, h2, r1⟩) (r2 w)⟩
  | .lst _, u, h => by simp [matV] at h
  | .dic _, u, h => by simp [matV] at h
  | .ins _ _, u, h => by simp [matV] at h
  | .scr _, u, h => by simp [matV] at h
theorem matVs_ok {G : Gm} : ∀ {t : List T} {u : List Value}, matVs G.K t u = true → ∃ v, Vals v u ∧ ∀ w, RFs G w t v
  | [], [], _ => ⟨[], .nil, fun _ => .nil⟩
  | [], _ :: _, h => by simp [matVs] at h
  | _ :: _, [], h => by simp [matVs] at h
  | t :: ts, u :: us, h => by
    simp only [matVs, Bool.and_eq_true] at h
    obtain ⟨v, a, b⟩ := matV_ok h.1
    obtain ⟨vs, c, d⟩ := matVs_ok h.2
    exact ⟨v :: vs, .cons a c, fun w => .cons (b w) (d w)⟩
end
noncomputable abbrev AlM : Type := He.AlD × Bool
noncomputable def obsM (fa : List He.Fa) (fn : List He.DefD) (gk : List (Str × T)) (K : PySem.W.Frag) : AlM := (He.obsD fa fn K, gk.all (globK K))
noncomputable def SaysM (fa : List He.Fa) (fn : List He.DefD) (gk : List (Str × T)) (K : PySem.W.Frag) : Prop := obsM fa fn gk K = (He.valD fn, true)
theorem SaysM.d {fa : List He.Fa} {fn : List He.DefD} {gk : List (Str × T)} {K : PySem.W.Frag} (c : SaysM fa fn gk K) : He.SaysD fa fn K := congrArg Prod.fst c
theorem SaysM.g {fa : List He.Fa} {fn : List He.DefD} {gk : List (Str × T)} {K : PySem.W.Frag} (c : SaysM fa fn gk K) : ∀ p ∈ gk, globK K p = true := List.all_eq_true.mp (congrArg Prod.snd c)

theorem globK_ok {G : Gm} {h : Heap} {mg : Str → Option Value} {x : Str} {t : T} (X : G.K.In h) (Gn : h.Ns mainGlobals mg) (c : globK G.K (x, t) = true) : ∃ u v, mg x = some u ∧ RelV v u ∧ ∀ w, RF G w t v := by
  unfold globK at c
  cases q : PySem.W.nsIn G.K mainGlobals x with
  | none => simp [q] at c
  | some o =>
    cases o with
    | none => simp [q] at c
    | some u =>
      simp only [q] at c
      obtain ⟨v, a, b⟩ := matV_ok c
      exact ⟨u, v, PySem.W.mg_of X Gn q, a, b⟩
/-! ### what a def's body leans on -/
noncomputable def FnIn (P : Program) (w : World) (K : PySem.W.Frag) (mg : Str → Option Value) (base : Heap) (k : Nat) (G : Gm) (cal : Nat → List Slot → CRes) (f : Nat) (x : Str) (ps : List Str) : Prop :=
  ∃ fa fd, mg x = some (.ref fa) ∧ PySem.W.keepIn K (.ref fa) = true ∧ Binds K fd ps [] ∧ FnOk P w K mg base (L2.CX P w) (2 * k) fa fd ps (spM G cal f)
noncomputable def FnInK (P : Program) (w : World) (K : PySem.W.Frag) (mg : Str → Option Value) (base : Heap) (k : Nat) (G : Gm) (cal : Nat → List Slot → CRes) (f : Nat) (x : Str) (ps : List Str) : Prop :=
  ∃ fa fd, mg x = some (.ref fa) ∧ PySem.W.keepIn K (.ref fa) = true ∧ (∀ us : List Value, us.length = ps.length → bindArgs fd ⟨[], ps.zip us⟩ = pure (ps.zip us)) ∧ FnOk P w K mg base (L2.CX P w) (2 * k) fa fd ps (spM G cal f)
structure GE (tab : List (Str × List Str)) (tk : List Nat) (gk : List (Str × T)) (fr : List Str) (P : Program) (w : World) (K : PySem.W.Frag) (mg : Str → Option Value) (base : Heap) (k : Nat) (G : Gm) (cal : Nat → List Slot → CRes) : Prop where
  fns : ∀ (f : Nat) (x : Str) (ps : List Str), tab[f]? = some (x, ps) → FnIn P w K mg base k G cal f x ps
  fnk : ∀ (f : Nat) (x : Str) (ps : List Str), tab[f]? = some (x, ps) → f ∈ tk → FnInK P w K mg base k G cal f x ps
  gs : ∀ (i : Nat) (x : Str) (t : T), gk[i]? = some (x, t) → ∃ u v, mg x = some u ∧ RelV v u ∧ ∀ w, RF G w t v
  frs : ∀ (i : Nat) (x : Str), fr[i]? = some x → mg x = none
section
variable {tab : List (Str × List Str)} {tk : List Nat} {gk : List (Str × T)} {fr : List Str} {G : Gm} {cal : Nat → List Slot → CRes} {k : Nat}
theorem GE.g {X : Cx} (e : GE tab tk gk fr X.prog X.w X.K X.mg X.base k G cal) (i : Nat) {x : Str} {t : T} (h : gk[i]? = some (x, t) := by rfl) : GlobAt X G x t := e.gs i x t h
theorem GE.b {X : Cx} (e : GE tab tk gk fr X.prog X.w X.K X.mg X.base k G cal) (i : Nat) {x : Str} (h : fr[i]? = some x := by rfl) : Fr X x := e.frs i x h
theorem nf {C : Ct} {io : List Bool} {i : Nat} (h : C.fx = fxOf io) (e : fxOf io i = false := by rfl) : C.fx i = false := by rw [h]; exact e
theorem nfs {C : Ct} {io : List Bool} {p : Pt} (h : C.fx = fxOf io) (e : (p.sl.all fun j => !fxOf io j) = true := by rfl) : ∀ j ∈ p.sl, C.fx j = false := fun j hj => by
  rw [h]
  have := List.all_eq_true.mp e j hj
  simpa using this
end
theorem fn_zero {P : Program} {w : World} {K : PySem.W.Frag} {mg : Str → Option Value} {base : Heap} {G : Gm} {Γ : Nat → Option Def} {L f : Nat} {fa : Addr} {fd : FuncData} {ps : List Str} : FnOk P w K mg base (L2.CX P w) 0 fa fd ps (spM G (callF Γ L 0) f) :=
  ⟨fun _ _ _ _ ⟨_, _, _, _, z⟩ => z.elim, fun _ _ _ _ _ _ _ _ _ _ _ _ _ ⟨_, _, _, _, z⟩ => z.elim⟩
theorem fn_zeroB {P : Program} {w : World} {K : PySem.W.Frag} {mg : Str → Option Value} {base : Heap} {G : Gm} {Γ : Nat → Option Def} {L f : Nat} {fa : Addr} {fd : FuncData} {ps : List Str} : FnB P w K mg base (L2.CX P w) 0 fa fd ps (spM G (callF Γ L 0) f) :=
  ⟨fn_zero, fun _ _ _ _ _ _ _ _ _ _ _ ⟨_, _, q⟩ _ => by obtain ⟨_, _, _, _, z⟩ := q; exact z.elim⟩
theorem law_sp {G : Gm} {cal : Nat → List Slot → CRes} {f : Nat} {ns : List Int} {outs : List Slot} (hc : cal f [.fz (.scr ns)] = .ok (.fz (.bl true)) outs) {H : Hp} {a : Addr} (hO : Only H) (hS : SqL G.K H a (ns.map V.int)) (E : XK) : spM G cal f [.ref a] H (fun v _ => v = .bl true) E := by
  refine ⟨⟨fun b => ∃ u, H b = some u, fun _ => False, H⟩, [.fz (.scr ns)], rfl, ⟨rfl, fun i s h => ?_, fun i j o o' a h1 => ?_, fun _ z => z.elim, fun b h => h⟩, ?_⟩
  · cases i with
    | succ i => cases h
    | zero =>
      cases h
      refine ⟨.ref a, rfl, .scr ?_⟩
      rcases hS with (h | ⟨o, h⟩) | ⟨o, its, n, h1, h2, h3, h4, h5, h6⟩
      · rcases hO a with z | ⟨o, xs, z⟩ <;> rw [h] at z <;> cases z
      · exact .inl ⟨⟨_, h⟩, o, h⟩
      · exact .inr ⟨o, its, n, h1, h2, h3, h4, h5, h6⟩
  · cases i with
    | succ i => cases h1
    | zero => cases h1
  · rw [hc]
    intro w' v _ _ rr
    cases rr
    rfl
noncomputable def CXA (P : Program) : CXT := fun outer H s E u s' => ∃ w, L2.CX P w outer H s E u s'
theorem cxA {P : Program} {w : World} {K : PySem.W.Frag} {mg : Str → Option Value} {base : Heap} {k : Nat} {fa : Addr} {fd : FuncData} {ps : List Str} {sp : Sp} (F : FnOk P w K mg base (L2.CX P w) k fa fd ps sp) : FnOk P w K mg base (CXA P) k fa fd ps sp :=
  ⟨F.len, fun A outer s H args us vs Q E hr he hb hv hs => codeAny_mono (F.run A outer s H args us vs Q E hr he hb hv hs) fun r s' q => by
    cases r with
    | error e => exact ⟨w, q⟩
    | ok fl => cases fl <;> exact q⟩
theorem cxA_no {P : Program} {H : Hp} {s : Shared} {e : Value} {s' : Shared} (h : CXA P [] H s (fun _ _ _ => False) e s') : False := by
  obtain ⟨w, _, _, _, _, _, _, _, _, _, _, _, _, z⟩ := h
  exact z
end Mi
set_option maxHeartbeats 4000000
namespace Mi
open PySem PySem.Spec PyProof.Rows L2

/-! ### the law's own helpers: as data -/
noncomputable def bagB : Ss :=
  (.cons (.set 1 (.op .mod (.cons (.op .int (.cons (.op .add (.cons (.op .add (.cons (.op .mul (.cons (.var 1) (.cons (.c (.int 46337)) .nil))) (.cons (.op .mul (.cons (.op .mod (.cons (.op .int (.cons (.var 2) .nil)) (.cons (.c (.int 1000211)) .nil))) (.cons (.c (.int 919)) .nil))) .nil))) (.cons (.c (.int 41)) .nil))) .nil)) (.cons (.c (.int 2147483563)) .nil)))) .nil)
noncomputable def dBag : Def := ⟨1, 3, [false],
  (.cons (.set 1 (.c (.int 12006)))
  (.cons (.fr (.nm 2) (.it (.op (.sl false true) (.cons (.var 0) (.cons (.c (.int 63)) .nil)))) bagB)
  (.cons (.ret (.lst (.cons (.op .list (.cons (.op (.sl false true) (.cons (.var 0) (.cons (.c (.int 63)) .nil))) .nil)) (.cons (.c (.int 0)) (.cons (.c (.int 0)) (.cons (.var 1) (.cons (.c (.int 0)) .nil)))))))
  .nil)))⟩
noncomputable def dTake : Def := ⟨2, 5, [true, false],
  (.cons (.sto 0 (.c (.int 4)) (.op .add (.cons (.op .idx (.cons (.var 0) (.cons (.c (.int 4)) .nil))) (.cons (.c (.int 1)) .nil))))
  (.cons (.ife (.an (.op .eq (.cons (.op .idx (.cons (.var 0) (.cons (.c (.int 2)) .nil))) (.cons (.c (.int 0)) .nil))) (.op .lt (.cons (.op .idx (.cons (.var 0) (.cons (.c (.int 1)) .nil))) (.cons (.op .len (.cons (.op .idx (.cons (.var 0) (.cons (.c (.int 0)) .nil))) .nil)) .nil)))) (.cons (.set 2 (.op .idx (.cons (.op .idx (.cons (.var 0) (.cons (.c (.int 0)) .nil))) (.cons (.op .idx (.cons (.var 0) (.cons (.c (.int 1)) .nil))) .nil))))
  (.cons (.sto 0 (.c (.int 1)) (.op .add (.cons (.op .idx (.cons (.var 0) (.cons (.c (.int 1)) .nil))) (.cons (.c (.int 1)) .nil))))
  (.cons (.ife (.op .ge (.cons (.op .abs (.cons (.var 2) .nil)) (.cons (.op .pow (.cons (.c (.int 10)) (.cons (.c (.int 18)) .nil))) .nil))) (.cons (.sto 0 (.c (.int 2)) (.op .abs (.cons (.var 2) .nil)))
  .nil) (.cons (.sto 0 (.c (.int 3)) (.op .mod (.cons (.op .int (.cons (.op .add (.cons (.op .add (.cons (.op .mul (.cons (.op .idx (.cons (.var 0) (.cons (.c (.int 3)) .nil))) (.cons (.c (.int 47303)) .nil))) (.cons (.op .mul (.cons (.op .mod (.cons (.op .int (.cons (.var 2) .nil)) (.cons (.c (.int 1000211)) .nil))) (.cons (.c (.int 733)) .nil))) .nil))) (.cons (.c (.int 59)) .nil))) .nil)) (.cons (.c (.int 2147483579)) .nil))))
  .nil))
  .nil))) .nil)
  (.cons (.ife (.op .gt (.cons (.op .idx (.cons (.var 0) (.cons (.c (.int 2)) .nil))) (.cons (.c (.int 0)) .nil))) (.cons (.set 3 (.op .mod (.cons (.op .int (.cons (.op .idx (.cons (.var 0) (.cons (.c (.int 2)) .nil))) .nil)) (.cons (.var 1) .nil))))
  (.cons (.sto 0 (.c (.int 2)) (.op .fdiv (.cons (.op .idx (.cons (.var 0) (.cons (.c (.int 2)) .nil))) (.cons (.var 1) .nil))))
  (.cons (.ret (.var 3))
  .nil))) .nil)
  (.cons (.set 4 (.op .mod (.cons (.op .int (.cons (.op .add (.cons (.op .mul (.cons (.op .idx (.cons (.var 0) (.cons (.c (.int 3)) .nil))) (.cons (.op .idx (.cons (.var 0) (.cons (.c (.int 3)) .nil))) .nil))) (.cons (.op .mul (.cons (.op .idx (.cons (.var 0) (.cons (.c (.int 4)) .nil))) (.cons (.c (.int 8191)) .nil))) .nil))) .nil)) (.cons (.c (.int 2147483647)) .nil))))
  (.cons (.sto 0 (.c (.int 3)) (.op .mod (.cons (.op .int (.cons (.op .add (.cons (.op .add (.cons (.op .mul (.cons (.var 4) (.cons (.c (.int 16981)) .nil))) (.cons (.op .mul (.cons (.op .idx (.cons (.var 0) (.cons (.c (.int 3)) .nil))) (.cons (.c (.int 47969)) .nil))) .nil))) (.cons (.c (.int 70019)) .nil))) .nil)) (.cons (.c (.int 2147483579)) .nil))))
  (.cons (.ret (.op .mod (.cons (.op .int (.cons (.op .fdiv (.cons (.op .idx (.cons (.var 0) (.cons (.c (.int 3)) .nil))) (.cons (.c (.int 67)) .nil))) .nil)) (.cons (.var 1) .nil))))
  .nil))))))⟩
noncomputable def dOf (t : Nat) : Def := ⟨2, 2, [true, false],
  (.cons (.ret (.op .idx (.cons (.var 1) (.cons (.call t [true, false] (.cons (.var 0) (.cons (.op .len (.cons (.var 1) .nil)) .nil))) .nil))))
  .nil)⟩
/-! ### small steps -/
theorem mulF_ok {i j : Int} (h : i.natAbs < 2 ^ 200) (h' : j.natAbs < 2 ^ 200) : mulF (.int i) (.int j) = fI (i * j) := by
  have e : ∀ {n : Nat}, n < 2 ^ 200 → n.log2 ≤ 200 := fun {n} h => by
    by_cases z : n = 0
    · subst z; decide
    · exact Nat.le_of_lt ((Nat.log2_lt z).mpr h)
  have := e h
  have := e h'
  show (if _ then _ else _) = _
  rw [if_pos (by omega)]
theorem atI_nat {α : Type} {xs : List α} {i : Int} {n : Nat} {x : α} (h : i = (n : Int)) (e : xs[n]? = some x) : atI xs i = some x := by
  have lt := (List.getElem?_eq_some_iff.mp e).1
  subst h
  unfold atI ixN
  rw [if_pos (by omega), if_pos (by omega)]
  simpa using e
/-! ### the bag -/
structure BagS (ns : List Int) (i : Nat) (r x : Int) (c : Nat) : Prop where
  r0 : 0 ≤ r
  x0 : 0 ≤ x
  x1 : x < 2147483647
noncomputable def bag (ns : List Int) (i : Nat) (r x : Int) (c : Nat) : Slot := .ow (.lst [.lst (ns.map .int), .int i, .int r, .int x, .int c])
noncomputable def Bag (c : Nat) (s : Slot) : Prop := ∃ ns i r x, s = bag ns i r x c ∧ BagS ns i r x c
theorem at4 {a b c d e : T} : atI [a, b, c, d, e] 4 = some e := rfl
theorem at3 {a b c d e : T} : atI [a, b, c, d, e] 3 = some d := rfl
theorem at2 {a b c d e : T} : atI [a, b, c, d, e] 2 = some c := rfl
theorem at1 {a b c d e : T} : atI [a, b, c, d, e] 1 = some b := rfl
theorem at0 {a b c d e : T} : atI [a, b, c, d, e] 0 = some a := rfl
theorem ix4 : ixN 5 4 = some 4 := rfl
theorem ix3 : ixN 5 3 = some 3 := rfl
theorem ix2 : ixN 5 2 = some 2 := rfl
theorem ix1 : ixN 5 1 = some 1 := rfl
noncomputable def takeTail : Ss :=
  (.cons (.ife (.op .gt (.cons (.op .idx (.cons (.var 0) (.cons (.c (.int 2)) .nil))) (.cons (.c (.int 0)) .nil))) (.cons (.set 3 (.op .mod (.cons (.op .int (.cons (.op .idx (.cons (.var 0) (.cons (.c (.int 2)) .nil))) .nil)) (.cons (.var 1) .nil))))
  (.cons (.sto 0 (.c (.int 2)) (.op .fdiv (.cons (.op .idx (.cons (.var 0) (.cons (.c (.int 2)) .nil))) (.cons (.var 1) .nil))))
  (.cons (.ret (.var 3))
  .nil))) .nil)
  (.cons (.set 4 (.op .mod (.cons (.op .int (.cons (.op .add (.cons (.op .mul (.cons (.op .idx (.cons (.var 0) (.cons (.c (.int 3)) .nil))) (.cons (.op .idx (.cons (.var 0) (.cons (.c (.int 3)) .nil))) .nil))) (.cons (.op .mul (.cons (.op .idx (.cons (.var 0) (.cons (.c (.int 4)) .nil))) (.cons (.c (.int 8191)) .nil))) .nil))) .nil)) (.cons (.c (.int 2147483647)) .nil))))
  (.cons (.sto 0 (.c (.int 3)) (.op .mod (.cons (.op .int (.cons (.op .add (.cons (.op .add (.cons (.op .mul (.cons (.var 4) (.cons (.c (.int 16981)) .nil))) (.cons (.op .mul (.cons (.op .idx (.cons (.var 0) (.cons (.c (.int 3)) .nil))) (.cons (.c (.int 47969)) .nil))) .nil))) (.cons (.c (.int 70019)) .nil))) .nil)) (.cons (.c (.int 2147483579)) .nil))))
  (.cons (.ret (.op .mod (.cons (.op .int (.cons (.op .fdiv (.cons (.op .idx (.cons (.var 0) (.cons (.c (.int 3)) .nil))) (.cons (.c (.int 67)) .nil))) .nil)) (.cons (.var 1) .nil))))
  .nil))))
theorem tail_pos {cal : Nat → List Slot → CRes} {L : Nat} {ns : List Int} {i : Nat} {r x : Int} {c : Nat} {many : Int} {s2 s3 s4 : Slot} (hr : 0 < r) (hm : 0 < many) (hm2 : many < 2 ^ 64) :
    evSs cal L takeTail [bag ns i r x c, .fz (.int many), s2, s3, s4] = .rt (.fz (.int (r % many))) [bag ns i (r / many) x c, .fz (.int many), s2, .fz (.int (r % many)), s4] := by
  have q1 : fdivF (.int r) (.int many) = fI (r / many) := by
    have : many.natAbs.log2 ≤ 64 := Nat.le_of_lt ((Nat.log2_lt (by omega)).mpr (by omega))
    show (if _ then _ else _) = _
    rw [if_pos ⟨hm, by omega⟩]
  have q2 : modF (.int r) (.int many) = fI (r % many) := by
    show (if _ then _ else _) = _
    rw [if_pos hm]
  unfold takeTail bag
  simp [evSs, evS, evE, evDs, Res.bind, ofR, R.opd, opR, ders, der, opF, op2, op1, O.frz, idxF, esc, at4, at3, at2, at1, at0, ix4, ix3, ix2, ix1, fI, fB, cmpF, putR, intF, outR, q1, q2, hr]
theorem tail_zero {cal : Nat → List Slot → CRes} {L : Nat} {ns : List Int} {i : Nat} {x : Int} {c : Nat} {many : Int} {s2 s3 s4 : Slot} (x0 : 0 ≤ x) (x1 : x < 2147483647) (hc : c < 2 ^ 41) (hm : 0 < many) (hm2 : many < 2 ^ 64) :
    ∃ t x', evSs cal L takeTail [bag ns i 0 x c, .fz (.int many), s2, s3, s4] = .rt (.fz (.int (x' / 67 % many))) [bag ns i 0 x' c, .fz (.int many), s2, s3, .fz (.int t)] ∧ 0 ≤ x' ∧ x' < 2147483647 := by
  have b400 : (2 : Nat) ^ 64 < 2 ^ 200 := by decide
  have q1 : mulF (.int x) (.int x) = fI (x * x) := mulF_ok (by omega) (by omega)
  have q2 : mulF (.int c) (.int 8191) = fI (c * 8191) := mulF_ok (by omega) (by decide)
  have q3 : mulF (.int x) (.int 47969) = fI (x * 47969) := mulF_ok (by omega) (by decide)
  have m1 : ∀ y : Int, modF (.int y) (.int 2147483647) = fI (y % 2147483647) := fun y => rfl
  have m2 : ∀ y : Int, modF (.int y) (.int 2147483579) = fI (y % 2147483579) := fun y => rfl
  have m3 : ∀ y : Int, modF (.int y) (.int many) = fI (y % many) := fun y => by
    show (if _ then _ else _) = _
    rw [if_pos hm]
  have d1 : ∀ y : Int, fdivF (.int y) (.int 67) = fI (y / 67) := fun y => by
    show (if (0 : Int) < 67 ∧ (67 : Int).natAbs.log2 < 9000 then fI (y / 67) else none) = _
    rw [if_pos (by decide)]
  obtain ⟨t, ht⟩ : ∃ t, t = (x * x + c * 8191) % 2147483647 := ⟨_, rfl⟩
  have t0 : 0 ≤ t := by rw [ht]; exact Int.emod_nonneg _ (by decide)
  have t1 : t < 2147483647 := by rw [ht]; exact Int.emod_lt_of_pos _ (by decide)
  have q4 : mulF (.int t) (.int 16981) = fI (t * 16981) := mulF_ok (by omega) (by decide)
  refine ⟨t, (t * 16981 + x * 47969 + 70019) % 2147483579, ?_, Int.emod_nonneg _ (by decide), Int.lt_trans (Int.emod_lt_of_pos _ (by decide)) (by decide)⟩
  unfold takeTail bag
  simp [evSs, evS, evE, evDs, Res.bind, ofR, R.opd, opR, ders, der, opF, op2, op1, O.frz, idxF, esc, at4, at3, at2, at1, at0, ix4, ix3, ix2, ix1, fI, fB, cmpF, putR, intF, outR, addF, q1, q2, q3, m1, m2, m3, d1, ← ht, q4]
theorem take_body {cal : Nat → List Slot → CRes} {L : Nat} {ns : List Int} {i : Nat} {r x : Int} {c : Nat} {many : Int} (B : BagS ns i r x c) (hc : c < 2 ^ 40) (hm : 0 < many) (hm2 : many < 2 ^ 64) :
    ∃ d s m, evSs cal L dTake.body [bag ns i r x c, .fz (.int many), .no, .no, .no] = .rt (.fz (.int d)) (s :: m) ∧ 0 ≤ d ∧ d < many ∧ Bag (c + 1) s := by
  obtain ⟨r0, x0, x1⟩ := B
  have key : ∀ {i' : Nat} {r' x' : Int} {s2 : Slot}, 0 ≤ r' → 0 ≤ x' → x' < 2147483647 → ∃ d s m, evSs cal L takeTail [bag ns i' r' x' (c + 1), .fz (.int many), s2, .no, .no] = .rt (.fz (.int d)) (s :: m) ∧ 0 ≤ d ∧ d < many ∧ Bag (c + 1) s := fun {i' r' x' s2} h1 h2 h3 => by
    by_cases hr : 0 < r'
    · exact ⟨_, _, _, tail_pos hr hm hm2, Int.emod_nonneg _ (by omega), Int.emod_lt_of_pos _ hm, ns, i', r' / many, x', rfl, Int.ediv_nonneg h1 (by omega), h2, h3⟩
    · have : r' = 0 := by omega
      subst this
      obtain ⟨t, x'', e, g1, g2⟩ := tail_zero (cal := cal) (L := L) (ns := ns) (i := i') (s2 := s2) (s3 := .no) (s4 := .no) h2 h3 (show c + 1 < 2 ^ 41 by omega) hm hm2
      exact ⟨_, _, _, e, Int.emod_nonneg _ (by omega), Int.emod_lt_of_pos _ hm, ns, i', 0, x'', rfl, Int.le_refl _, g1, g2⟩
  have s1 : ∀ rest, evSs cal L (.cons (.sto 0 (.c (.int 4)) (.op .add (.cons (.op .idx (.cons (.var 0) (.cons (.c (.int 4)) .nil))) (.cons (.c (.int 1)) .nil)))) rest) [bag ns i r x c, .fz (.int many), .no, .no, .no] = evSs cal L rest [bag ns i r x (c + 1), .fz (.int many), .no, .no, .no] := fun rest => by
    unfold bag
    simp [evSs, evS, evE, evDs, Res.bind, ofR, R.opd, opR, ders, der, opF, op2, op1, O.frz, idxF, esc, at4, ix4, fI, addF]
  unfold dTake
  rw [s1]
  by_cases hb : r = 0 ∧ i < ns.length
  · obtain ⟨rfl, hi⟩ := hb
    obtain ⟨n, hn⟩ : ∃ n, ns[i]? = some n := ⟨ns[i], List.getElem?_eq_getElem hi⟩
    have a1 : atI (ns.map T.int) (i : Int) = some (.int n) := atI_nat rfl (by rw [List.getElem?_map, hn]; rfl)
    have p1 : powF (.int 10) (.int 18) = fI 1000000000000000000 := rfl
    have m2 : ∀ y : Int, modF (.int y) (.int 2147483579) = fI (y % 2147483579) := fun y => rfl
    have m3 : ∀ y : Int, modF (.int y) (.int 1000211) = fI (y % 1000211) := fun y => rfl
    have n0 : 0 ≤ n % 1000211 := Int.emod_nonneg _ (by decide)
    have n1 : n % 1000211 < 1000211 := Int.emod_lt_of_pos _ (by decide)
    have b400 : (2 : Nat) ^ 64 < 2 ^ 200 := by decide
    have q1 : mulF (.int x) (.int 47303) = fI (x * 47303) := mulF_ok (by omega) (by decide)
    have q2 : mulF (.int (n % 1000211)) (.int 733) = fI (n % 1000211 * 733) := mulF_ok (by omega) (by decide)
    have e : ∃ r' x' s2, evSs cal L (.cons (.ife (.an (.op .eq (.cons (.op .idx (.cons (.var 0) (.cons (.c (.int 2)) .nil))) (.cons (.c (.int 0)) .nil))) (.op .lt (.cons (.op .idx (.cons (.var 0) (.cons (.c (.int 1)) .nil))) (.cons (.op .len (.cons (.op .idx (.cons (.var 0) (.cons (.c (.int 0)) .nil))) .nil)) .nil)))) (.cons (.set 2 (.op .idx (.cons (.op .idx (.cons (.var 0) (.cons (.c (.int 0)) .nil))) (.cons (.op .idx (.cons (.var 0) (.cons (.c (.int 1)) .nil))) .nil))))
  (.cons (.sto 0 (.c (.int 1)) (.op .add (.cons (.op .idx (.cons (.var 0) (.cons (.c (.int 1)) .nil))) (.cons (.c (.int 1)) .nil))))
  (.cons (.ife (.op .ge (.cons (.op .abs (.cons (.var 2) .nil)) (.cons (.op .pow (.cons (.c (.int 10)) (.cons (.c (.int 18)) .nil))) .nil))) (.cons (.sto 0 (.c (.int 2)) (.op .abs (.cons (.var 2) .nil)))
  .nil) (.cons (.sto 0 (.c (.int 3)) (.op .mod (.cons (.op .int (.cons (.op .add (.cons (.op .add (.cons (.op .mul (.cons (.op .idx (.cons (.var 0) (.cons (.c (.int 3)) .nil))) (.cons (.c (.int 47303)) .nil))) (.cons (.op .mul (.cons (.op .mod (.cons (.op .int (.cons (.var 2) .nil)) (.cons (.c (.int 1000211)) .nil))) (.cons (.c (.int 733)) .nil))) .nil))) (.cons (.c (.int 59)) .nil))) .nil)) (.cons (.c (.int 2147483579)) .nil))))
  .nil))
  .nil))) .nil) takeTail) [bag ns i 0 x (c + 1), .fz (.int many), .no, .no, .no] = evSs cal L takeTail [bag ns (i + 1) r' x' (c + 1), .fz (.int many), s2, .no, .no] ∧ 0 ≤ r' ∧ 0 ≤ x' ∧ x' < 2147483647 := by
      by_cases hg : (1000000000000000000 : Int) ≤ (if n < 0 then -n else n)
      · refine ⟨if n < 0 then -n else n, x, .fz (.int n), ?_, by omega, x0, x1⟩
        unfold bag
        simp [evSs, evS, evE, evDs, Res.bind, ofR, R.opd, opR, ders, der, opF, op2, op1, O.frz, idxF, esc, at4, at3, at2, at1, at0, ix1, ix2, ix3, fI, fB, cmpF, eqF, scalT, flatT, eqT, lenF, hi, a1, p1, absF, hg, addF, putR]
      · refine ⟨0, (x * 47303 + n % 1000211 * 733 + 59) % 2147483579, .fz (.int n), ?_, by omega, Int.emod_nonneg _ (by decide), Int.lt_trans (Int.emod_lt_of_pos _ (by decide)) (by decide)⟩
        unfold bag
        simp [evSs, evS, evE, evDs, Res.bind, ofR, R.opd, opR, ders, der, opF, op2, op1, O.frz, idxF, esc, at4, at3, at2, at1, at0, ix1, ix2, ix3, fI, fB, cmpF, eqF, scalT, flatT, eqT, lenF, hi, a1, p1, absF, hg, addF, intF, m2, m3, q1, q2, putR]
    obtain ⟨r', x', s2, e, g1, g2, g3⟩ := e
    exact e ▸ key g1 g2 g3
  · have e : evSs cal L (.cons (.ife (.an (.op .eq (.cons (.op .idx (.cons (.var 0) (.cons (.c (.int 2)) .nil))) (.cons (.c (.int 0)) .nil))) (.op .lt (.cons (.op .idx (.cons (.var 0) (.cons (.c (.int 1)) .nil))) (.cons (.op .len (.cons (.op .idx (.cons (.var 0) (.cons (.c (.int 0)) .nil))) .nil)) .nil)))) (.cons (.set 2 (.op .idx (.cons (.op .idx (.cons (.var 0) (.cons (.c (.int 0)) .nil))) (.cons (.op .idx (.cons (.var 0) (.cons (.c (.int 1)) .nil))) .nil))))
  (.cons (.sto 0 (.c (.int 1)) (.op .add (.cons (.op .idx (.cons (.var 0) (.cons (.c (.int 1)) .nil))) (.cons (.c (.int 1)) .nil))))
  (.cons (.ife (.op .ge (.cons (.op .abs (.cons (.var 2) .nil)) (.cons (.op .pow (.cons (.c (.int 10)) (.cons (.c (.int 18)) .nil))) .nil))) (.cons (.sto 0 (.c (.int 2)) (.op .abs (.cons (.var 2) .nil)))
  .nil) (.cons (.sto 0 (.c (.int 3)) (.op .mod (.cons (.op .int (.cons (.op .add (.cons (.op .add (.cons (.op .mul (.cons (.op .idx (.cons (.var 0) (.cons (.c (.int 3)) .nil))) (.cons (.c (.int 47303)) .nil))) (.cons (.op .mul (.cons (.op .mod (.cons (.op .int (.cons (.var 2) .nil)) (.cons (.c (.int 1000211)) .nil))) (.cons (.c (.int 733)) .nil))) .nil))) (.cons (.c (.int 59)) .nil))) .nil)) (.cons (.c (.int 2147483579)) .nil))))
  .nil))
  .nil))) .nil) takeTail) [bag ns i r x (c + 1), .fz (.int many), .no, .no, .no] = evSs cal L takeTail [bag ns i r x (c + 1), .fz (.int many), .no, .no, .no] := by
      unfold bag
      by_cases h0 : r = 0
      · have : ¬ i < ns.length := fun z => hb ⟨h0, z⟩
        simp [evSs, evS, evE, evDs, Res.bind, ofR, R.opd, opR, ders, der, opF, op2, op1, O.frz, idxF, esc, at2, at1, at0, fI, fB, cmpF, eqF, scalT, flatT, eqT, lenF, h0, this]
      · have : (r == 0) = false := by simpa using h0
        simp [evSs, evS, evE, evDs, Res.bind, ofR, R.opd, opR, ders, der, opF, op2, op1, O.frz, idxF, esc, at2, at1, at0, fI, fB, cmpF, eqF, scalT, flatT, eqT, lenF, this]
    exact e ▸ key r0 x0 x1
/-! ### a call, by its body's run -/
theorem run_rt {Γ : Nat → Option Def} {L k f : Nat} {d : Def} {args m : List Slot} {r : R} (hf : Γ f = some d) (hl : args.length = d.np) (hr : ∀ i, r ≠ .bo i) (h : evSs (callF Γ L k) L d.body (args ++ List.replicate (d.ns - d.np) .no) = .rt r m) : callF Γ L (k + 1) f args = .ok r (outsM d.io m) := by
  unfold callF
  rw [hf]
  show runD _ _ d _ = _
  unfold runD
  rw [if_pos hl, h]
  cases r with
  | fz t => rfl
  | ow o => rfl
  | bo i => exact absurd rfl (hr i)
theorem run_fz {Γ : Nat → Option Def} {L k f : Nat} {d : Def} {args m : List Slot} {t : T} (hf : Γ f = some d) (hl : args.length = d.np) (h : evSs (callF Γ L k) L d.body (args ++ List.replicate (d.ns - d.np) .no) = .rt (.fz t) m) : callF Γ L (k + 1) f args = .ok (.fz t) (outsM d.io m) := run_rt hf hl (fun _ z => nomatch z) h
theorem run_ow {Γ : Nat → Option Def} {L k f : Nat} {d : Def} {args m : List Slot} {o : O} (hf : Γ f = some d) (hl : args.length = d.np) (h : evSs (callF Γ L k) L d.body (args ++ List.replicate (d.ns - d.np) .no) = .rt (.ow o) m) : callF Γ L (k + 1) f args = .ok (.ow o) (outsM d.io m) := run_rt hf hl (fun _ z => nomatch z) h
theorem take_ok {Γ : Nat → Option Def} {L k f : Nat} (hf : Γ f = some dTake) {s : Slot} {c : Nat} {many : Int} (B : Bag c s) (hc : c < 2 ^ 40) (hm : 0 < many) (hm2 : many < 2 ^ 64) :
    ∃ d s', callF Γ L (k + 1) f [s, .fz (.int many)] = .ok (.fz (.int d)) [s', .no] ∧ 0 ≤ d ∧ d < many ∧ Bag (c + 1) s' := by
  obtain ⟨ns, i, r, x, rfl, B⟩ := B
  obtain ⟨d, s', m, e, h0, h1, h2⟩ := take_body (cal := callF Γ L k) (L := L) B hc hm hm2
  refine ⟨d, s', ?_, h0, h1, h2⟩
  rw [run_fz (args := [bag ns i r x c, .fz (.int many)]) hf rfl e]
  cases m <;> rfl
theorem Bag.ow {c : Nat} {s : Slot} (B : Bag c s) : ∃ o, s = .ow o := by
  obtain ⟨ns, i, r, x, rfl, _⟩ := B
  exact ⟨_, rfl⟩
theorem of_ok {Γ : Nat → Option Def} {L k f t : Nat} (hf : Γ f = some (dOf t)) (ht : Γ t = some dTake) {s : Slot} {c n : Nat} {xs : T} (B : Bag c s) (hc : c < 2 ^ 40) (hx : lenF xs = fI n) (h0 : 0 < n) (h1 : n < 2 ^ 63) (hi : ∀ d : Nat, d < n → ∃ y, idxF xs (.int d) = some (.fz y)) :
    ∃ d y s', callF Γ L (k + 2) f [s, .fz xs] = .ok (.fz y) [s', .no] ∧ d < n ∧ idxF xs (.int (d : Nat)) = some (.fz y) ∧ Bag (c + 1) s' := by
  obtain ⟨d, s', e, g0, g1, B'⟩ := take_ok (Γ := Γ) (L := L) (k := k) ht B hc (show (0 : Int) < n by omega) (by omega)
  obtain ⟨d', rfl⟩ := Int.eq_ofNat_of_zero_le g0
  obtain ⟨y, hy⟩ := hi d' (by omega)
  refine ⟨d', y, s', ?_, by omega, hy, B'⟩
  obtain ⟨o, rfl⟩ := B.ow
  have hb : evSs (callF Γ L (k + 1)) L (dOf t).body ([.ow o, .fz xs] ++ List.replicate ((dOf t).ns - (dOf t).np) .no) = .rt (.fz y) [s', .fz xs] := by
    have hy' : idxF xs (.int (d' : Int)) = some (.fz y) := hy
    have e' : callF Γ L (k + 1) t [.ow o, .fz (.int (n : Int))] = .ok (.fz (.int (d' : Int))) [s', .no] := e
    unfold dOf
    simp [evSs, evS, evE, evDs, Res.bind, ofR, R.opd, opR, ders, der, opF, op2, op1, O.frz, esc, callR, pass, back, hx, fI, e', hy', outR]
  rw [run_fz (args := [.ow o, .fz xs]) hf rfl hb]
  rfl
/-! ### the bag's making -/
theorem bag_loop {cal : Nat → List Slot → CRes} {L : Nat} {s0 : Slot} : ∀ (ns : List Int) (x : Int) (s2 : Slot), 0 ≤ x → x < 2147483647 → ∃ x' s2', forGo (.nm 2) (fun m => evSs cal L bagB m) (ns.map T.int) [s0, .fz (.int x), s2] = .nx [s0, .fz (.int x'), s2'] ∧ 0 ≤ x' ∧ x' < 2147483647
  | [], x, s2, h0, h1 => ⟨x, s2, rfl, h0, h1⟩
  | n :: ns, x, s2, h0, h1 => by
    have n0 : 0 ≤ n % 1000211 := Int.emod_nonneg _ (by decide)
    have n1 : n % 1000211 < 1000211 := Int.emod_lt_of_pos _ (by decide)
    have b400 : (2 : Nat) ^ 64 < 2 ^ 200 := by decide
    have q1 : mulF (.int x) (.int 46337) = fI (x * 46337) := mulF_ok (by omega) (by decide)
    have q2 : mulF (.int (n % 1000211)) (.int 919) = fI (n % 1000211 * 919) := mulF_ok (by omega) (by decide)
    have m2 : ∀ y : Int, modF (.int y) (.int 2147483563) = fI (y % 2147483563) := fun y => rfl
    have m3 : ∀ y : Int, modF (.int y) (.int 1000211) = fI (y % 1000211) := fun y => rfl
    obtain ⟨x', s2', e, g0, g1⟩ := bag_loop (cal := cal) (L := L) (s0 := s0) ns ((x * 46337 + n % 1000211 * 919 + 41) % 2147483563) (.fz (.int n)) (Int.emod_nonneg _ (by decide)) (Int.lt_trans (Int.emod_lt_of_pos _ (by decide)) (by decide))
    refine ⟨x', s2', ?_, g0, g1⟩
    rw [List.map_cons]
    unfold forGo
    rw [← e]
    simp [bagB, bindP, evSs, evS, evE, evDs, Res.bind, ofR, R.opd, opR, ders, der, opF, op2, op1, fI, intF, addF, q1, q2, m2, m3, putR]
theorem bag_ok {Γ : Nat → Option Def} {L k f : Nat} (hf : Γ f = some dBag) {ns : List Int} : ∃ s, callF Γ L (k + 1) f [.fz (.scr ns)] = .ok (.ow s) [.no] ∧ Bag 0 (.ow s) := by
  obtain ⟨x', s2', e, g0, g1⟩ := bag_loop (cal := callF Γ L k) (L := L) (s0 := .fz (.scr ns)) (cutI ns none (some 63)) 12006 .no (by decide) (by decide)
  have hb : evSs (callF Γ L k) L dBag.body ([.fz (.scr ns)] ++ List.replicate (dBag.ns - dBag.np) .no) = .rt (.ow (.lst [.lst ((cutI ns none (some 63)).map .int), .int 0, .int 0, .int x', .int 0])) [.fz (.scr ns), .fz (.int x'), s2'] := by
    have sl : (5 : Nat) ≤ sizeLine := by decide
    unfold dBag
    simp [evSs, evS, evSrc, evE, evDs, Res.bind, ofR, R.opd, opR, ders, der, opF, op2, op1, intO, slF, esc, escs, O.frz, itemsT, putR, e, listF, outR, sl]
  exact ⟨_, run_ow (args := [.fz (.scr ns)]) hf rfl hb, _, 0, 0, x', rfl, Int.le_refl _, g0, g1⟩
end Mi
set_option maxHeartbeats 4000000
namespace Mi
open PySem PySem.Spec PyProof.Rows L2

/-! ### equal, of the same kinds -/
noncomputable def smK (f : Nat) : E := (.call f [false, false] (.cons (.op .idx (.cons (.var 0) (.cons (.var 2) .nil))) (.cons (.op .idx (.cons (.var 1) (.cons (.var 2) .nil))) .nil)))
noncomputable def sameE (f : Nat) : E := (.call f [false, false] (.cons (.var 3) (.cons (.var 4) .nil)))
noncomputable def same0 (f : Nat) : S := (.ife (.or (.op .isn (.cons (.var 1) (.cons (.c .non) .nil))) (.op .isn (.cons (.var 0) (.cons (.c .non) .nil)))) (.cons (.ret (.an (.op .isn (.cons (.var 1) (.cons (.c .non) .nil))) (.op .isn (.cons (.var 0) (.cons (.c .non) .nil)))))
  .nil) .nil)
noncomputable def same1 (f : Nat) : S := (.ife (.op (.isi1 .dict) (.cons (.var 1) .nil)) (.cons (.ife (.or (.nt (.op (.isi1 .dict) (.cons (.var 0) .nil))) (.op .ne (.cons (.op .list (.cons (.var 0) .nil)) (.cons (.op .list (.cons (.var 1) .nil)) .nil)))) (.cons (.ret (.c (.bl false)))
  .nil) .nil)
  (.cons (.ret (.op .all (.cons (.comp [2] (.nm 2) (.it (.var 1)) .nil (smK f)) .nil)))
  .nil)) .nil)
noncomputable def same2 (f : Nat) : S := (.ife (.op (.isi [.list, .tuple]) (.cons (.var 1) .nil)) (.cons (.ife (.op .ne (.cons (.op (.isi1 .list) (.cons (.var 0) .nil)) (.cons (.op (.isi1 .list) (.cons (.var 1) .nil)) .nil))) (.cons (.ret (.c (.bl false)))
  .nil) .nil)
  (.cons (.ife (.or (.op .ne (.cons (.op (.isi1 .tuple) (.cons (.var 0) .nil)) (.cons (.op (.isi1 .tuple) (.cons (.var 1) .nil)) .nil))) (.op .ne (.cons (.op .len (.cons (.var 0) .nil)) (.cons (.op .len (.cons (.var 1) .nil)) .nil)))) (.cons (.ret (.c (.bl false)))
  .nil) .nil)
  (.cons (.ret (.op .all (.cons (.comp [3, 4] (.tup (.cons (.nm 3) (.cons (.nm 4) .nil))) (.zip (.var 0) (.var 1)) .nil (sameE f)) .nil)))
  .nil))) .nil)
noncomputable def same3 (f : Nat) : S := (.ife (.op (.isi [.list, .tuple, .dict]) (.cons (.var 0) .nil)) (.cons (.ret (.c (.bl false)))
  .nil) .nil)
noncomputable def same4 (f : Nat) : S := (.ife (.op .ne (.cons (.op (.isi1 .bool) (.cons (.var 0) .nil)) (.cons (.op (.isi1 .bool) (.cons (.var 1) .nil)) .nil))) (.cons (.ret (.c (.bl false)))
  .nil) .nil)
noncomputable def same5 (f : Nat) : S := (.ife (.op .ne (.cons (.op (.isi1 .int) (.cons (.var 0) .nil)) (.cons (.op (.isi1 .int) (.cons (.var 1) .nil)) .nil))) (.cons (.ret (.c (.bl false)))
  .nil) .nil)
noncomputable def same6 (f : Nat) : S := (.ret (.an (.op .eq (.cons (.op (.isi1 .str) (.cons (.var 0) .nil)) (.cons (.op (.isi1 .str) (.cons (.var 1) .nil)) .nil))) (.op .eq (.cons (.var 0) (.cons (.var 1) .nil)))))
noncomputable def dSame (f : Nat) : Def := ⟨2, 5, [false, false],
  (.cons (same0 f) (.cons (same1 f) (.cons (same2 f) (.cons (same3 f) (.cons (same4 f) (.cons (same5 f) (.cons (same6 f) .nil)))))))⟩
/-! ### the law's draws, at a slot -/
theorem idx_lst {xs : List T} {d : Nat} (h : d < xs.length) : ∃ y, idxF (.lst xs) (.int d) = some (.fz y) := by
  refine ⟨xs[d], ?_⟩
  show (atI xs d).map _ = _
  rw [atI_nat (x := xs[d]) rfl (List.getElem?_eq_getElem h)]
  rfl
theorem idx_lst_mem {xs : List T} {d : Nat} {y : T} (hd : d < xs.length) (h : idxF (.lst xs) (.int d) = some (.fz y)) : y ∈ xs := by
  have h : (atI xs (d : Int)).map R.fz = some (.fz y) := h
  rw [atI_nat (x := xs[d]) rfl (List.getElem?_eq_getElem hd)] at h
  cases h
  exact List.getElem_mem hd
theorem ds_nil {cal : Nat → List Slot → CRes} {m : List Slot} : evDs cal .nil m = .ok [] m := by rw [evDs]
theorem src_it {cal : Nat → List Slot → CRes} {e : E} {m m1 m2 : List Slot} {r : R} {t : T} {xs : List T} (h : evE cal e m = .ok r m1) (he : esc m1 r.opd = some (t, m2)) (hi : itemsT t = some xs) : evSrc cal (.it e) m = .ok xs m2 := by
  rw [evSrc, h]
  simp only [Res.bind, he, hi]
/-! own calls -/
noncomputable def sameT : T → T → Bool
  | .non, .non => true
  | .bl a, .bl b => a == b
  | .int a, .int b => a == b
  | .str a, .str b => a == b
  | _, _ => false
theorem same_flat {Γ : Nat → Option Def} {L k f s : Nat} (hf : Γ f = some (dSame s)) {x y : T} (hx : flatT x = true) (hy : flatT y = true) : callF Γ L (k + 1) f [.fz x, .fz y] = .ok (.fz (.bl (sameT x y))) [.no, .no] := by
  have hb : ∃ m, evSs (callF Γ L k) L (dSame s).body ([.fz x, .fz y] ++ List.replicate ((dSame s).ns - (dSame s).np) .no) = .rt (.fz (.bl (sameT x y))) m := by
    cases x <;> first | (cases hx; done) | skip
    all_goals (cases y <;> first | (cases hy; done) | skip)
    all_goals exact ⟨_, rfl⟩
  obtain ⟨m, hb⟩ := hb
  rw [run_fz (args := [.fz x, .fz y]) hf rfl hb]
  rcases m with _ | ⟨a, _ | ⟨b, m⟩⟩ <;> rfl
theorem ev_an1 {cal : Nat → List Slot → CRes} {a b : E} {m m1 : List Slot} (h : evE cal a m = .ok (.fz (.bl true)) m1) : evE cal (.an a b) m = evE cal b m1 := by rw [evE, h]; rfl
theorem ev_an0 {cal : Nat → List Slot → CRes} {a b : E} {m m1 : List Slot} (h : evE cal a m = .ok (.fz (.bl false)) m1) : evE cal (.an a b) m = .ok (.fz (.bl false)) m1 := by rw [evE, h]; rfl
theorem ev_or1 {cal : Nat → List Slot → CRes} {a b : E} {m m1 : List Slot} (h : evE cal a m = .ok (.fz (.bl true)) m1) : evE cal (.or a b) m = .ok (.fz (.bl true)) m1 := by rw [evE, h]; rfl
theorem ev_or0 {cal : Nat → List Slot → CRes} {a b : E} {m m1 : List Slot} (h : evE cal a m = .ok (.fz (.bl false)) m1) : evE cal (.or a b) m = evE cal b m1 := by rw [evE, h]; rfl
theorem ev_nt {cal : Nat → List Slot → CRes} {a : E} {m m1 : List Slot} {b : Bool} (h : evE cal a m = .ok (.fz (.bl b)) m1) : evE cal (.nt a) m = .ok (.fz (.bl (!b))) m1 := by rw [evE, h]; rfl
theorem ev_var {cal : Nat → List Slot → CRes} {i : Nat} {m : List Slot} {t : T} (h : m[i]? = some (.fz t)) : evE cal (.var i) m = .ok (.fz t) m := by rw [evE, h]
theorem ev_c {cal : Nat → List Slot → CRes} {m : List Slot} {t : T} : evE cal (.c t) m = .ok (.fz t) m := by rw [evE]
theorem st_if1 {cal : Nat → List Slot → CRes} {L : Nat} {c : E} {a b : Ss} {m m1 : List Slot} (h : evE cal c m = .ok (.fz (.bl true)) m1) : evS cal L (.ife c a b) m = evSs cal L a m1 := by rw [evS, h]; rfl
theorem st_if0 {cal : Nat → List Slot → CRes} {L : Nat} {c : E} {a b : Ss} {m m1 : List Slot} (h : evE cal c m = .ok (.fz (.bl false)) m1) : evS cal L (.ife c a b) m = evSs cal L b m1 := by rw [evS, h]; rfl
end Mi
set_option maxHeartbeats 2000000
namespace MiP
open PySem PySem.Spec PyProof.Rows
section
variable {prog : Program} {w : World} {M : Model} {A : Around} {E : Value → Shared → Prop} {s : Shared} {K : PySem.W.Frag} {x C f : Addr} {ox : Obj} {od : Option Obj} {v b : Value}
theorem own_bin {op : Operator} {Q : Value → Shared → Prop} (X : K.In s.heap) (I : PySem.W.InstAt s.heap x ox C od) (hb : PySem.W.Looks (model prog w) s.heap (typeOf b) (.ref C)) (hc : PySem.W.selfFirst K C = true)
    (hs : PySem.W.findIn K (.ref C) (PySem.dunder op.info.2) = some (some (.ref f))) (hf : PySem.W.isFn K (.ref f) = true)
    (h : wpAny (model prog w) A (call (.ref f) [.ref x, b]) (PySem.W.CmpBack Q) E s) : wpAny (model prog w) A (binaryOp op (.ref x) b) Q E s := by
  obtain ⟨cd, hcd, hm⟩ : ∃ cd, PySem.W.clsIn K C = some cd ∧ (cd.mro.head? == some (.ref C)) = true := by
    unfold PySem.W.selfFirst at hc
    cases q : PySem.W.clsIn K C with
    | none => rw [q] at hc; cases hc
    | some cd => rw [q] at hc; exact ⟨cd, rfl, hc⟩
  obtain ⟨rest, hm⟩ : ∃ rest, cd.mro = .ref C :: rest := by
    cases q : cd.mro with
    | nil => rw [q] at hm; cases hm
    | cons a r => rw [q] at hm; exact ⟨r, by rw [List.head?_cons] at hm; cases (beq_iff_eq.mp hm); rfl⟩
  unfold binaryOp
  refine wpAny_holding (wpAny_bind ?_)
  unfold binaryOp1
  refine wpAny_bind (I.type.here (wpAny_bind (hb.here (wpAny_bind ((PySem.W.fills_K X hcd hm hs).here ?_)))))
  simp only [beq_self_eq_true, if_true]
  refine wpAny_bind (wpAny_pure ?_)
  simp only [Bool.and_false, Bool.false_eq_true, if_false, Bool.false_and]
  refine wpAny_bind (wpAny_pure ?_)
  simp only [Bool.false_eq_true, if_false]
  refine wpAny_bind (m := tryMethod (.ref x) _ b) ?_
  unfold tryMethod
  refine wpAny_bind (PySem.W.special_fn X I hs (beq_iff_eq.mp hf) (wpAny_mono h (fun v s' hv => ?_) fun _ _ e => e))
  cases v <;> first | exact hv.elim | exact wpAny_pure (wpAny_pure (wpAny_pure hv))
end
end MiP
namespace Mi
open PySem PySem.Spec PyProof.Rows L2
theorem relV_cb {v : V} {r : Value} {P : Value → Shared → Prop} {s : Shared} (h : RelV v r) (p : P r s) : PySem.W.CmpBack P r s := by
  cases r <;> try exact p
  case notImplemented =>
    cases v <;> first | (obtain ⟨t, e⟩ := h; exact nomatch e) | cases h
section
variable {X : Cx} {k : Nat} {f C : Addr} {fd : FuncData} {ps : List Str} {sp : Sp}
noncomputable def rBin (C : Addr) (sp : Sp) : R2 := fun x y H Q => ∃ a dx fs b dy gs, x = .ref a ∧ y = .ref b ∧ H a = some (.ins C dx fs) ∧ H b = some (.ins C dy gs) ∧ sp [x, y] H Q EF
theorem op_own {op : Operator} (hc : PySem.W.selfFirst X.K C = true) (hm : Meth X.K C (PySem.dunder op.info.2) f) (F : FnOk X.prog X.w X.K X.mg X.base (L2.CX X.prog X.w) k f fd ps sp) (hr : Room k X.A) (hb : Binds X.K fd ps []) : OpR X (binaryOp op) (rBin C sp) := by
  intro pins s σ H x y v u Q I rx ry h
  obtain ⟨a, dx, fs, b, dy, gs, rfl, rfl, ea, eb, q⟩ := h
  have rx' := rx
  have ry' := ry
  cases rx
  cases ry
  obtain ⟨mA, O, _⟩ := ins_get I.hok ea
  obtain ⟨od, J, _⟩ := O.look
  obtain ⟨mB, O2, _⟩ := ins_get I.hok eb
  obtain ⟨od2, J2, _⟩ := O2.look
  exact MiP.own_bin I.kIn J J2.type hc hm.at_ hm.fn (thn (run_fn (dvs := []) (ds := []) F hr hb .nil passEF I (.cons rx' (.cons ry' .nil)) (by rw [List.append_nil]; exact q)) fun r s' hh => by
    obtain ⟨v', H', I', rv, q'⟩ := hh
    exact relV_cb rv ⟨v', H', I', rv, q'⟩)
end
section
variable {C : Ct} {X : Cx} {cal : Nat → List Slot → CRes} {L : Nat}
theorem n_bop {ex ea eb : Expr} {c f : Nat} {a b : E} (hp : ∀ ta tb, PE X ea ta → PE X eb tb → PE X ex (tOp (rBin (C.G.cls c) (spM C.G cal f)) ta tb)) (ha : PE X ea (rdE C (evE cal a))) (hb : PE X eb (rdE C (evE cal b))) : PE X ex (rdE C (evE cal (.bop c f a b))) := PE.imp (hp _ _ (pe_opd ha) (pe_opd hb)) fun σ H Q ⟨w, m, e, P, q⟩ => by
  rw [evE, Res.sat_bind] at q
  refine ⟨w, m, e, P, ?_⟩
  rw [opdF, Res.sat_bind]
  refine Res.sat_mono q fun ra m1 q1 w1 v1 S1 x1 r1 => ?_
  rw [Res.sat_bind] at q1
  refine ⟨w1, m1, rfl, P.step S1 x1, ?_⟩
  rw [opdF, Res.sat_bind]
  refine Res.sat_mono q1 fun rb m2 q2 w2 v2 S2 x2 r2 => ?_
  split at q2
  · rename_i c1 fs c2 gs hd1 hd2
    split at q2
    · rename_i hcc
      obtain ⟨rfl, rfl⟩ := hcc
      obtain ⟨p, dx, us, rfl, h1, h2⟩ := (S2.der (r1.mono x2.mo) hd1).ins
      obtain ⟨p', dx', us', rfl, h1', h2'⟩ := (S2.der r2 hd2).ins
      exact ⟨p, dx, us, p', dx', us', rfl, rfl, h1, h1', call_quiet ((P.step S1 x1).step S2 x2) (.cons (r1.mono x2.mo) (.cons r2 .nil)) (Res.sat_mono q2 fun r m3 q3 w3 v3 S3 x3 r3 => q3 w3 v3 S3 (x1.trans (x2.trans x3)) r3)⟩
    · exact q2.elim
  · exact q2.elim
theorem n_dic0 {ex : Expr} (hp : PE X ex tDNewK) : PE X ex (rdE C (evE cal .dic0)) := PE.imp hp fun σ H Q ⟨w, m, e, P, q⟩ => by
  rw [evE] at q
  intro p hp
  rw [← e] at hp ⊢
  exact After.new (o := .dic []) q P.sr hp (.dic upd_same .nil)
structure KitC (G : Gm) (c : Nat) (cs ns : List Nat) : Prop where
  ty : ∀ x ∈ ["NoneType", "bool", "int", "str", "list", "tuple", "dict"], PySem.W.kitOne G.K (.type x) (.ref (G.cls c)) = some false
  yes : ∀ c' ∈ cs, PySem.W.kitOne G.K (.ref (G.cls c')) (.ref (G.cls c)) = some true ∧ ClX G.K (G.cls c')
  no : ∀ c' ∈ ns, PySem.W.kitOne G.K (.ref (G.cls c')) (.ref (G.cls c)) = some false ∧ ClX G.K (G.cls c')
theorem n_isc {ex ea : Expr} {c : Nat} {cs ns : List Nat} {a : E} (kc : KitC C.G c cs ns) (hp : ∀ ta, PE X ea ta → PE X ex (tUn (fun x H Q => rIsi C.G.K [x, .ref (C.G.cls c)] H Q) ta)) (ha : PE X ea (rdE C (evE cal a))) : PE X ex (rdE C (evE cal (.isc cs ns a))) := PE.imp (hp _ (pe_opd ha)) fun σ H Q ⟨w, m, e, P, q⟩ => by
  rw [evE, Res.sat_bind] at q
  refine ⟨w, m, e, P, ?_⟩
  rw [opdF, Res.sat_bind]
  refine Res.sat_mono q fun ra m1 q1 w1 v1 S1 x1 r1 => ?_
  split at q1
  · rename_i c' fs hd
    have r := S1.der r1 hd
    obtain ⟨p, dx, us, rfl, h1, h2⟩ := r.ins
    split at q1
    · rename_i hy
      obtain ⟨k1, cl⟩ := kc.yes c' hy
      exact ⟨_, _, _, _, _, rfl, .own _, .base (.ins h1 cl.cl cl.ha cl.hn cl.htk cl.hm), k1, q1 w1 _ S1 x1 (.bl _)⟩
    · split at q1
      · rename_i hy
        obtain ⟨k1, cl⟩ := kc.no c' hy
        exact ⟨_, _, _, _, _, rfl, .own _, .base (.ins h1 cl.cl cl.ha cl.hn cl.htk cl.hm), k1, q1 w1 _ S1 x1 (.bl _)⟩
      · exact q1.elim
  · rename_i t hi hd
    have r := S1.der r1 hd
    have nt : ∀ c fs, t ≠ .ins c fs := fun c fs z => hi c fs z
    refine ⟨_, _, _, _, _, rfl, .own _, r.ty nt, kc.ty _ ?_, q1 w1 _ S1 x1 (.bl _)⟩
    cases t <;> first | exact absurd rfl (nt _ _) | simp [tyT]
  · exact q1.elim
end
end Mi
set_option maxHeartbeats 2000000
namespace Mi
open PySem PySem.Spec PyProof.Rows L2
section
variable {C : Ct} {X : Cx} {cal : Nat → List Slot → CRes}
theorem rd_dcm {own : List Nat} {p : Pt} {s : Src} {cs : Es} {ke e : E} {g : TG} (hg : GP C.G p g) (hsub : ∀ j ∈ p.sl, j ∈ own) {σ : St} {H : Hp} {Q : VK} (h : rdE C (evE cal (.dcm own p s cs ke e)) σ H Q) :
    tDc (rdS C (evSrc cal s)) g (rdB C.inn (evAll cal cs)) (rdE C.inn (evE cal ke)) (rdE C.inn (evE cal e)) own σ H Q := by
  obtain ⟨w, m, eH, P, q⟩ := h
  rw [evE, Res.sat_bind] at q
  refine ⟨w, m, eH, P, Res.sat_mono q fun xs m1 q1 w1 J S1 x1 it => ?_⟩
  split at q1
  · rename_i no
    intro D hD
    rw [Res.sat_bind] at q1
    have q1 := Res.sat_calm q1
    have nf1 : ¬ w1.F D := fun f => by
      obtain ⟨u, z⟩ := S1.trk D f
      rw [hD] at z; cases z
    refine ⟨fun i n H => i + n = xs.length ∧ ∃ wq mc acc vs, wq.H = H ∧ SR C.G wq mc (wipe σ own) ∧ Ex w1 wq ∧ ¬ wq.F D ∧ ¬ wq.L D ∧ wq.H D = some (.dK vs) ∧ RFk C.G wq acc vs ∧
      (dcGo own p (fun m => evAll cal cs m) (fun m => evE cal ke m) (fun m => evE cal e m) (xs.drop i) acc mc).sat (fun acc m2 => (Res.ok (R.ow (.dic acc)) (restM m1 m2 own)).sat (fun r m' => ∀ w' v, SR C.G w' m' σ → Ex w w' → RR C.G w' m' σ r v → Q v w'.H) C.EM) fun _ _ => False, ?_, ?_⟩
    · refine ⟨xs.length, by omega, ?_⟩
      have S0 := S1.wipe own
      have nlD : ∃ w1' : Wd, w1'.H = w1.H ∧ SR C.G w1' (wipeM m1 own) (wipe σ own) ∧ Ex w1 w1' ∧ ¬ w1'.F D ∧ ¬ w1'.L D := by
        refine ⟨⟨w1.F, fun a => w1.L a ∧ a ≠ D, w1.H⟩, rfl, ?_, ⟨fun _ h => h, fun _ _ => .refl _, fun a u h1 h2 h3 => ⟨h1, h2, fun z => h3 z.1⟩⟩, nf1, fun z => z.2 rfl⟩
        refine ⟨S0.len, fun j s h => ?_, S0.inj, fun a l f => S0.sep a l.1 f, S0.trk⟩
        have q := S0.sl j s h
        cases s with
        | no => trivial
        | fz t => obtain ⟨x, a, b⟩ := q; exact ⟨x, a, RF.mono (w := w1) (w' := ⟨w1.F, fun a => w1.L a ∧ a ≠ D, w1.H⟩) (mo_same rfl rfl) b⟩
        | ow o =>
          obtain ⟨a, e1, r, l⟩ := q
          refine ⟨a, e1, r.mono (mo_same rfl rfl) rfl, l, fun z => ?_⟩
          obtain ⟨u, hu⟩ := r.trk
          rw [z, hD] at hu; cases hu
      obtain ⟨w1', e1', S1', x1', nf', nl'⟩ := nlD
      refine ⟨w1'.wr D (.dK []), wipeM m1 own, [], [], by show upd w1'.H D _ = _; rw [e1'], S1'.poke nf' nl', x1'.poke hD nf', nf', nl', upd_same, .nil, ?_⟩
      rw [List.drop_zero]
      exact q1
    · rintro i n H ⟨hin, wc, mc, acc, vs, rfl, S, xc, nf, nl, hDv, rs, q2⟩
      cases hdr : xs.drop i with
      | nil =>
        have hi : i = xs.length := by
          have := congrArg List.length hdr
          rw [List.length_drop] at this
          simp at this
          omega
        subst hi
        rw [hdr] at q2
        have q2 : ∀ w' v, SR C.G w' (restM m1 mc own) σ → Ex w w' → RR C.G w' (restM m1 mc own) σ (.ow (.dic acc)) v → Q v w'.H := q2
        refine .inl ⟨it.stop wc xc.mo, ?_⟩
        have S2 : SR C.G wc (restM m1 mc own) σ := SR.rest S1 xc.mo S (wipe_length ..) (fun j hj => wipe_out hj) no
        refine q2 (wc.ad D) (.ref D) (S2.adopt nf) (x1.trans (xc.adopt hD)) ⟨D, rfl, .dic hDv (RFk.mono (w := wc) (w' := wc.ad D) (mo_same rfl rfl) rs), .inr rfl, fun j o' hj z => ?_⟩
        obtain ⟨a, e1, _, l⟩ := S2.sl j _ hj
        rw [z] at e1
        cases e1
        exact nl l
      | cons x rest =>
        have hx : xs[i]? = some x := by
          have := congrArg (fun l => l[0]?) hdr
          simpa using this
        have hlt : i < xs.length := (List.getElem?_eq_some_iff.mp hx).1
        have hrest : xs.drop (i + 1) = rest := by
          have := congrArg List.tail hdr
          simpa using this
        rw [hdr] at q2
        unfold dcGo at q2
        obtain ⟨hgo, hyl⟩ := it.go i x wc xc.mo hx
        refine .inr ⟨hgo, fun H' => ∃ wq mc acc vs, wq.H = H' ∧ SR C.G wq mc (wipe σ own) ∧ Ex w1 wq ∧ ¬ wq.F D ∧ ¬ wq.L D ∧ wq.H D = some (.dK vs) ∧ RFk C.G wq acc vs ∧
          (dcGo own p (fun m => evAll cal cs m) (fun m => evE cal ke m) (fun m => evE cal e m) rest acc mc).sat (fun acc m2 => (Res.ok (R.ow (.dic acc)) (restM m1 m2 own)).sat (fun r m' => ∀ w' v, SR C.G w' m' σ → Ex w w' → RR C.G w' m' σ r v → Q v w'.H) C.EM) fun _ _ => False,
          fun H' nx => ⟨n - 1, by omega, by omega, by rw [hrest]; exact nx⟩, fun v H' y => ?_⟩
        obtain ⟨w2, e2, S2, x2, r2, _⟩ := hyl v H' (wipeM mc own) (wipe σ own) (S.wipeM own) y
        cases hb : bindP (wipeM mc own) p x with
        | none => rw [hb] at q2; exact q2.elim
        | some m3 =>
          rw [hb] at q2
          simp only at q2
          rw [Res.sat_bind] at q2
          rw [← e2]
          refine hg w2 (wipeM mc own) m3 (wipe σ own) x v _ S2 r2 hb fun σ3 S3 f3 l3 => ⟨wipe_eq (by rw [l3, wipe_length]) fun j hj => by rw [f3 j fun z => hj (hsub j z), wipe_out hj], ?_⟩
          have w3eq : wipe σ3 own = wipe σ own := wipe_eq (by rw [l3, wipe_length]) fun j hj => by rw [f3 j fun z => hj (hsub j z), wipe_out hj]
          obtain ⟨d1, d2, d3⟩ := x2.ot D _ hDv nf nl
          refine ⟨w2, m3, rfl, ⟨S3, (P.ex.trans x1).trans (xc.trans x2), fun j z => nomatch z⟩, Res.sat_mono q2 fun r m4 q4 => ?_⟩
          cases r with
          | ow o => exact q4.elim
          | bo k => exact q4.elim
          | fz t =>
            cases t <;> try (exact q4.elim)
            case bl b =>
              refine ⟨b, rfl, fun w4 S4 x4 => ?_⟩
              obtain ⟨g1, g2, g3⟩ := x4.ot D _ d1 d2 d3
              cases b with
              | false =>
                refine ⟨w4, wipeM m4 own, acc, vs, rfl, ?_, xc.trans (x2.trans x4), g2, g3, g1, RFk.mono (x2.trans x4).mo rs, q4⟩
                have := S4.wipe own
                rwa [w3eq] at this
              | true =>
                simp only at q4
                rw [Res.sat_bind] at q4
                refine ⟨w4, m4, rfl, ⟨S4, (P.ex.trans x1).trans (xc.trans (x2.trans x4)), fun j z => nomatch z⟩, Res.sat_mono q4 fun rk mk qk wk vk Sk xk rrk => ?_⟩
                cases rk with
                | ow o => exact qk.elim
                | bo k => exact qk.elim
                | fz kt =>
                  cases hkt : keyT kt with
                  | none => simp only [hkt] at qk; exact qk.elim
                  | some key =>
                    simp only [hkt] at qk
                    rw [Res.sat_bind] at qk
                    have evk : vk = kV key := key_v hkt (.fz rrk)
                    obtain ⟨z1, z2, z3⟩ := xk.ot D _ g1 g2 g3
                    refine ⟨wk, mk, rfl, ⟨Sk, (P.ex.trans x1).trans (xc.trans (x2.trans (x4.trans xk))), fun j z => nomatch z⟩, Res.sat_mono qk fun r5 m5 q5 w5 v5 S5 x5 rr5 => ?_⟩
                    obtain ⟨k1, k2, k3⟩ := x5.ot D _ z1 z2 z3
                    refine ⟨vs, key, evk, k1, ?_⟩
                    cases hes : esc m5 r5.opd with
                    | none => rw [hes] at q5; exact q5.elim
                    | some pr =>
                      obtain ⟨t6, m6⟩ := pr
                      rw [hes] at q5
                      simp only at q5
                      split at q5
                      · rename_i hlen
                        obtain ⟨w6, e6, S6, x6, r6⟩ := S5.keep rr5 hes
                        obtain ⟨y1, y2, y3⟩ := x6.ot D _ k1 k2 k3
                        have xx := x2.trans (x4.trans (xk.trans (x5.trans x6)))
                        refine ⟨by rw [← rs.length]; exact hlen, w6.wr D (.dK (putK vs key v5)), wipeM m6 own, putT acc key t6, putK vs key v5, by show upd w6.H D _ = _; rw [e6], ?_, (xc.trans xx).poke hD y2, y2, y3, upd_same, ?_, q5⟩
                        · have := (S6.wipe own).poke (u := .dK (putK vs key v5)) y2 y3
                          rwa [w3eq] at this
                        · exact RFk.mono (Mo.poke y2) ((RFk.mono xx.mo rs).put r6)
                      · exact q5.elim
  · exact q1.elim
end
section
variable {C : Ct} {X : Cx} {k : Nat} {cal : Nat → List Slot → CRes} {L : Nat} {pos p1 p2 : Pos}
theorem x_dcm (c : XC C X k) {kx vx tg iter : Expr} {ifs : List Expr} {scope : Scope} {own : List (Str × Nat)} {ow : List Nat} {p : Pt} {s : Src} {cs : Es} {ke e : E} {g : TG} (gp : GP C.G p g) (ok : BlkOk X.N X.env.scope scope own) (hi : PI X tg iter (rdS C (evSrc cal s)))
    (hg : ∀ (s : Shared) (H : Hp) (D : Addr) (cl : List (Str × Addr)) (fp : List Addr), PG (X.blk s H scope (compEnvC scope cl D X.env) fp) tg g)
    (ht : ∀ (s : Shared) (H : Hp) (D : Addr) (cl : List (Str × Addr)) (fp : List Addr), XC C.inn (X.blk s H scope (compEnvC scope cl D X.env) fp) k → PTs (X.blk s H scope (compEnvC scope cl D X.env) fp) ifs (rdB C.inn (evAll cal cs)))
    (hk : ∀ (s : Shared) (H : Hp) (D : Addr) (cl : List (Str × Addr)) (fp : List Addr), XC C.inn (X.blk s H scope (compEnvC scope cl D X.env) fp) k → PE (X.blk s H scope (compEnvC scope cl D X.env) fp) kx (rdE C.inn (evE cal ke)))
    (he : ∀ (s : Shared) (H : Hp) (D : Addr) (cl : List (Str × Addr)) (fp : List Addr), XC C.inn (X.blk s H scope (compEnvC scope cl D X.env) fp) k → PE (X.blk s H scope (compEnvC scope cl D X.env) fp) vx (rdE C.inn (evE cal e)))
    (how : own.map (·.2) = ow := by rfl) (hsub : ∀ j ∈ p.sl, j ∈ ow := by decide) (hs : ∀ x, foldedSetIterable iter X.env x = pure x := by intro _; rfl) :
    PE X (.DictComp kx vx [⟨tg, iter, ifs, 0⟩] scope pos) (rdE C (evE cal (.dcm ow p s cs ke e))) := by
  subst how
  exact PE.imp (pe_dc c.calm c.nd hi ok hg (fun s H D cl fp => ht s H D cl fp c.blk) (fun s H D cl fp => hk s H D cl fp c.blk) (fun s H D cl fp => he s H D cl fp c.blk) hs) fun _ _ _ q => rd_dcm gp hsub q
/-! ### self.a, self.b = e -/
theorem RFf.puts {G : Gm} {w : Wd} {fs : List Str} : ∀ {ts : List T} {vs : List V} {gs : List (Str × T)} {us : List (Str × V)}, RFs G w ts vs → ts.length = fs.length → RFf G w gs us → RFf G w (putSs (fs.zip ts) gs) ((fs.zip vs).foldl (fun g p => putF p.1 p.2 g) us) := by
  induction fs with
  | nil => intro ts vs gs us r l q; exact q
  | cons f fs ih =>
    intro ts vs gs us r l q
    cases r with
    | nil => cases l
    | cons a b =>
      simp only [List.zip_cons_cons]
      unfold putSs
      rw [List.foldl_cons, List.foldl_cons]
      exact ih b (by simpa using l) (RFf.put a q)
end
end Mi
set_option maxHeartbeats 1000000
namespace Mi
open PySem PySem.Spec PyProof.Rows L2

/-! ### facts of the top, by names -/
section
variable {K : PySem.W.Frag} {c c' f m x : Str}
theorem Fx.clx (h : (Fx.cls c).ok K = true) : ClX K (He.ga K c) := by
  obtain ⟨h1, h⟩ := He.ba h
  obtain ⟨h2, h⟩ := He.ba h
  obtain ⟨h3, h⟩ := He.ba h
  obtain ⟨h4, h5⟩ := He.ba h
  exact ⟨He.cls_ok h1, eqv_ok h2, eqv_ok h3, of_decide_eq_true h4, of_decide_eq_true h5⟩
theorem Fx.propT (h : (Fx.prop c f).ok K = true) : PropOf K (He.ga K c) f (He.ma K (He.ga K c) f) (He5.wf K (He.ga K c) "property" f) := by
  obtain ⟨h1, h⟩ := He.ba h
  obtain ⟨h2, h⟩ := He.ba h
  obtain ⟨h3, h4⟩ := He.ba h
  refine ⟨eqv_ok h1, eqv_ok h2, of_decide_eq_true h3, ?_⟩
  split at h4
  · rename_i g r e
    rw [← of_decide_eq_true h4]
    exact ⟨r, e⟩
  · cases h4
theorem Fx.smetT {m : Str} (h : (Fx.smet c m).ok K = true) : PySem.W.findCls K (.ref (He.ga K c)) (.type "type") m = some (.get (.builtin "staticmethod.__get__") (.ref (He.ma K (He.ga K c) m)) .none (.ref (He.ga K c))) ∧ ∃ rest, PySem.W.recIn K (He.ma K (He.ga K c) m) "staticmethod" = some (.ref (He5.wf K (He.ga K c) "staticmethod" m) :: rest) := He5.wrapB_ok h
theorem Fx.crdT (h : (Fx.crd c).ok K = true) : ClX.CRead K (He.ga K c) (.type "type") := by
  obtain ⟨h1, h2⟩ := He.ba h
  exact ⟨h1, eqv_ok h2⟩
end
/-! ### the Hook -/
section
variable {fx : List Fx} {fn : List He5.DefA} {gk : List (Str × T)} {K : PySem.W.Frag}
theorem SaysQ.all (c : SaysQ fx fn gk K) : (fx.all fun f => f.ok K) = true ∧ (fn.all fun d => d.ok K) = true ∧ gk.all (globK K) = true := by
  have h := congrArg Prod.fst c
  obtain ⟨h1, h2⟩ := He.ba h
  exact ⟨h1, He.ba h2⟩
theorem SaysQ.fact (c : SaysQ fx fn gk K) : ∀ f ∈ fx, f.ok K = true := List.all_eq_true.mp c.all.1
theorem SaysQ.g (c : SaysQ fx fn gk K) : ∀ p ∈ gk, globK K p = true := List.all_eq_true.mp c.all.2.2
theorem SaysQ.def_ (c : SaysQ fx fn gk K) (i : Nat) {d : He5.DefA} (h : fn[i]? = some d) : ∃ fd, L2.FunD K d.name d.qual d.params d.body d.scope (d.dvs K) (d.kws K) (d.at_ K) fd := by
  have e : fn.map (fun d => He5.fnA K (d.at_ K)) = fn.map He5.DefA.val := congrArg (fun p => p.2.1) c
  have e2 : (fn.map fun d => He5.fnA K (d.at_ K))[i]? = (fn.map He5.DefA.val)[i]? := by rw [e]
  rw [List.getElem?_map, List.getElem?_map, h] at e2
  exact He5.DefA.funD (Option.some.inj e2) (List.all_eq_true.mp c.all.2.1 d (List.mem_of_getElem? h))
end
noncomputable def noCls (ps : List Str) : Bool := match ps with
  | p :: _ => !decide (p = ("cls" : Str))
  | [] => true
noncomputable def qcls (z : Str) : Str := ⟨(z.cps.toList.takeWhile fun c => c != 46).toArray⟩
noncomputable def spQ (G : Gm) (cal : Nat → List Slot → CRes) (f : Nat) (d : He5.DefA) (ps : List Str) : Sp := fun vs H Q E => (noCls ps = false → vs.head? = some (.ref (He.ga G.K (qcls d.qual)))) ∧ spM G cal f vs H Q E
/-! ### what a def's body leans on -/
structure GQ (tab : Nat → Option (He5.DefA × List Str)) (fx : List Fx) (gk : List (Str × T)) (cn : List Str) (P : Program) (w : World) (K : PySem.W.Frag) (mg : Str → Option Value) (base : Heap) (k : Nat) (G : Gm) (cal : Nat → List Slot → CRes) : Prop where
  fnb : ∀ (f : Nat) (d : He5.DefA) (ps : List Str), tab f = some (d, ps) → ∃ fd, L2.FunD K d.name d.qual d.params d.body d.scope (d.dvs K) (d.kws K) (d.at_ K) fd ∧ FnB P w K mg base (L2.CX P w) (2 * k) (d.at_ K) fd ps (spQ G cal f d ps)
  fxs : ∀ (i : Nat) (f : Fx), fx[i]? = some f → f.ok K = true
  gs : ∀ (i : Nat) (x : Str) (t : T), gk[i]? = some (x, t) → ∃ u v, mg x = some u ∧ RelV v u ∧ ∀ w, RF G w t v
  glo : ∀ (i : Nat) (x : Str), fx[i]? = some (.glo x) → mg x = some (.ref (He.ga K x))
  fre : ∀ (i : Nat) (x : Str), fx[i]? = some (.free x) → mg x = none
  bf : ∀ (i : Nat) (x : Str) (id : String), fx[i]? = some (.bfun x id) → mg x = some (.builtin id)
  cn : ∀ (c : Nat) (x : Str), cn[c]? = some x → G.cls c = He.ga K x
  eK : G.K = K
theorem GQ.fns {tab : Nat → Option (He5.DefA × List Str)} {fx : List Fx} {gk : List (Str × T)} {cn : List Str} {P : Program} {w : World} {K : PySem.W.Frag} {mg : Str → Option Value} {base : Heap} {k : Nat} {G : Gm} {cal : Nat → List Slot → CRes} (q : GQ tab fx gk cn P w K mg base k G cal)
    (f : Nat) (d : He5.DefA) (ps : List Str) (h : tab f = some (d, ps)) : ∃ fd, L2.FunD K d.name d.qual d.params d.body d.scope (d.dvs K) (d.kws K) (d.at_ K) fd ∧ FnOk P w K mg base (L2.CX P w) (2 * k) (d.at_ K) fd ps (spQ G cal f d ps) :=
  let ⟨fd, F, b⟩ := q.fnb f d ps h
  ⟨fd, F, b.ok⟩
noncomputable def clsOf (K : PySem.W.Frag) (cn : List Str) (c : Nat) : Addr := match cn[c]? with
  | some x => He.ga K x
  | none => default
structure Bnd (d : He5.DefA) (ps : List Str) (fx : List Fx) (n : Nat) (dts : List T) : Prop where
  nc : noCls ps = true
  b : ∀ {K : PySem.W.Frag} {f : Addr} {fd : FuncData}, L2.FunD K d.name d.qual d.params d.body d.scope (d.dvs K) (d.kws K) f fd → ∃ dvs ds, Vals dvs ds ∧ Binds K fd ps ds ∧ (∀ G : Gm, G.K = K → (∀ f ∈ fx, f.ok K = true) → ∀ w, RFs G w dts dvs)
theorem bnd_all {d : He5.DefA} {ps : List Str} {fx : List Fx} {n : Nat} (hd : d.dfl = [])
    (h : ∀ (kV doc pm : Value) (an : Option Addr) (cdv ct : Value) (us : List Value), us.length = ps.length → bindArgs (PySem.W.fnOf d.name d.qual d.params d.body d.scope .none kV doc pm an cdv ct) ⟨us, []⟩ = pure (ps.zip us)) (hnc : noCls ps = true := by rfl) : Bnd d ps fx n [] := ⟨hnc, fun {K f fd} F => by
  have e : d.dvs K = [] := by unfold He5.DefA.dvs; rw [hd]; rfl
  rw [e] at F
  exact ⟨[], [], .nil, F.bindsN h, fun _ _ _ _ => .nil⟩⟩
theorem bnd_dfl {d : He5.DefA} {ps : List Str} {fx : List Fx} {n j : Nat} {dts : List T} (hd : d.dfl ≠ []) (hn : n + (d.dfl.length - j) = ps.length) (hr : ∀ G : Gm, (∀ f ∈ fx, f.ok G.K = true) → ∀ w, RFs G w dts ((d.dvs G.K).drop j))
    (h : ∀ (T : Addr) (kV doc pm : Value) (an : Option Addr) (cdv ct : Value) (us its : List Value), us.length = n → its.length = d.dfl.length →
      ∃ k, bindArgs (PySem.W.fnOf d.name d.qual d.params d.body d.scope (.ref T) kV doc pm an cdv ct) ⟨us, []⟩ = seqItems? (.ref T) >>= k ∧ k (some its.toArray) = pure (ps.zip (us ++ its.drop j))) (hnc : noCls ps = true := by rfl) : Bnd d ps fx n dts := ⟨hnc, fun {K f fd} F => by
  have hl : (d.dvs K).length = d.dfl.length := by unfold He5.DefA.dvs; rw [List.length_map]
  have hd' : d.dvs K ≠ [] := fun z => hd (by
    have := congrArg List.length z
    rw [hl] at this
    exact List.length_eq_zero_iff.mp this)
  obtain ⟨ds, h1, h2⟩ := F.binds1 n j hd' (by rw [hl]; exact hn) (fun T kV doc pm an cdv ct us its hu hi => h T kV doc pm an cdv ct us its hu (by rw [hi, hl]))
  refine ⟨_, ds, h1, h2, fun G hG hf w => ?_⟩
  subst hG
  exact hr G hf w⟩
/-! ### consts at the end of arguments -/
noncomputable def Es.app : Es → Es → Es
  | .nil, b => b
  | .cons e r, b => .cons e (r.app b)
noncomputable def Es.cs : List T → Es
  | [] => .nil
  | t :: r => .cons (.c t) (Es.cs r)
theorem evDs_cs {cal : Nat → List Slot → CRes} : ∀ (ts : List T) (m : List Slot), evDs cal (Es.cs ts) m = .ok (ts.map Opd.t) m
  | [], m => by rw [Es.cs, evDs]; rfl
  | t :: r, m => by
    rw [Es.cs, evDs, evE]
    show (evDs cal (Es.cs r) m).bind _ = _
    rw [evDs_cs r m]
    rfl
theorem Res.bind_assoc {α β γ : Type} (r : Res α) (f : α → List Slot → Res β) (g : β → List Slot → Res γ) : (r.bind f).bind g = r.bind fun a m => (f a m).bind g := by cases r <;> rfl
theorem evDs_app {cal : Nat → List Slot → CRes} {ts : List T} : ∀ (es : Es) (m : List Slot), evDs cal (es.app (Es.cs ts)) m = (evDs cal es m).bind fun ds m1 => .ok (ds ++ ts.map Opd.t) m1
  | .nil, m => by
    rw [Es.app, evDs_cs, evDs]; rfl
  | .cons e r, m => by
    rw [Es.app, evDs, evDs]
    rw [Res.bind_assoc]
    congr 1
    funext x m1
    rw [evDs_app r m1, Res.bind_assoc, Res.bind_assoc]
    rfl
theorem RDs.app' {G : Gm} {w : Wd} {σ : St} {ds : List Opd} {vs : List V} {ts : List T} {us : List V} (a : RDs G w σ ds vs) (b : RFs G w ts us) : RDs G w σ (ds ++ ts.map Opd.t) (vs ++ us) := by
  induction a with
  | nil =>
    induction ts generalizing us with
    | nil => cases b; exact .nil
    | cons t r ih => cases b with | cons x y => exact .cons x (ih y)
  | cons x _ ih => exact .cons x ih
end Mi
set_option maxHeartbeats 1000000
namespace Mi
open PySem PySem.Spec PyProof.Rows L2

section
variable {tab : Nat → Option (He5.DefA × List Str)} {fx : List Fx} {gk : List (Str × T)} {cn : List Str} {C : Ct} {X : Cx} {k L : Nat} {cal : Nat → List Slot → CRes} {pos p1 p2 p3 apos : Pos}
noncomputable abbrev GX (tab : Nat → Option (He5.DefA × List Str)) (fx : List Fx) (gk : List (Str × T)) (cn : List Str) (X : Cx) (k : Nat) (G : Gm) (cal : Nat → List Slot → CRes) : Prop := GQ tab fx gk cn X.prog X.w X.K X.mg X.base k G cal
theorem rdD_mono {f : List Slot → Res Opd} {σ : St} {H : Hp} {Q Q' : VK} (h : rdD C f σ H Q) (i : ∀ v H, Q v H → Q' v H) : rdD C f σ H Q' := by
  obtain ⟨w, m, e, P, q⟩ := h
  exact ⟨w, m, e, P, Res.sat_mono q fun d m1 q1 w1 v S1 x1 r1 => i _ _ (q1 w1 v S1 x1 r1)⟩
theorem nil_rd {σ : St} {H : Hp} {Q : List V → Hp → Prop} (h : rdDs C (evDs cal .nil) σ H Q) : Q [] H := by
  obtain ⟨w, m, e, P, q⟩ := h
  rw [evDs] at q
  subst e
  exact q w [] P.sr (.refl w) .nil
/-! ### the program's defs -/
theorem q_fn (e : GX tab fx gk cn X k C.G cal) {f i : Nat} {d : He5.DefA} {ps : List Str} {x : Str} (ht : tab f = some (d, ps)) (hi : fx[i]? = some (.glo x)) (hat : d.at_ = fun K => He.ga K x) (b : Bnd d ps fx ps.length []) : FnAt X k C.G cal f x ps := ⟨by
  obtain ⟨fd, F, ok⟩ := e.fns f d ps ht
  replace ok := ok.imp (sp' := spM C.G cal f) fun vs H Q E h => ⟨fun z => (by rw [b.nc] at z; cases z), h⟩
  obtain ⟨dvs, ds, h1, h2, h3⟩ := b.b F
  have r := h3 C.G e.eK (fun f hf => by obtain ⟨i, hi⟩ := List.getElem?_of_mem hf; exact e.fxs i f hi) ⟨fun _ => True, fun _ => True, fun _ => none⟩
  cases r
  cases h1
  have ha : d.at_ X.K = He.ga X.K x := by rw [hat]
  rw [ha] at F ok
  exact ⟨_, fd, e.glo i x hi, F.kp, h2, ok⟩⟩
theorem q_glob (e : GX tab fx gk cn X k C.G cal) (i : Nat) {x : Str} {t : T} (hi : gk[i]? = some (x, t)) : GlobAt X C.G x t := e.gs i x t hi
theorem q_fr (e : GX tab fx gk cn X k C.G cal) (i : Nat) {x : Str} (hi : fx[i]? = some (.free x)) : Fr X x := e.fre i x hi
/-! ### classes -/
theorem GQ.clsA (e : GX tab fx gk cn X k C.G cal) {cl ic : Nat} {nm : Str} (hcl : cn[cl]? = some nm) (hic : fx[ic]? = some (.cls nm)) : ClX X.K (C.G.cls cl) := by
  rw [e.cn cl nm hcl]
  exact Fx.clx (e.fxs ic _ hic)
theorem GQ.noat (e : GX tab fx gk cn X k C.G cal) {cl i : Nat} {nm f : Str} (hcl : cn[cl]? = some nm) (hi : fx[i]? = some (.noat nm f)) : NoAttr X.K (C.G.cls cl) f := by
  rw [e.cn cl nm hcl]
  exact He.noat_ok (e.fxs i _ hi)
theorem GQ.meth (e : GX tab fx gk cn X k C.G cal) {cl i : Nat} {nm m : Str} (hcl : cn[cl]? = some nm) (hi : fx[i]? = some (.meth nm m)) : Meth X.K (C.G.cls cl) m (He.ma X.K (He.ga X.K nm) m) := by
  rw [e.cn cl nm hcl]
  exact He.meth_ok (e.fxs i _ hi)
theorem q_fld (c : XC C X k) (e : GX tab fx gk cn X k C.G cal) {cl ic i : Nat} {nm f : Str} {o : Expr} {a : E} (hcl : cn[cl]? = some nm) (hic : fx[ic]? = some (.cls nm)) (hi : fx[i]? = some (.noat nm f)) (ha : PE X o (rdE C (evE cal a))) (hb : attributeBase o f X.env (eval o X.env) = eval o X.env := by rfl) :
    PE X (.Attribute o f pos) (rdE C (evE cal (.fld cl a f))) :=
  n_fld (fun ta h => by rw [c.K]; exact pe_fld h hb) (by rw [c.K]; exact (e.clsA hcl hic).cl) (by rw [c.K]; exact e.noat hcl hi) ha
theorem q_prop (c : XC C X k) (e : GX tab fx gk cn X k C.G cal) {cl f ic i : Nat} {nm m : Str} {d : He5.DefA} {ps : List Str} {o : Expr} {a : E} (hcl : cn[cl]? = some nm) (hic : fx[ic]? = some (.cls nm)) (hi : fx[i]? = some (.prop nm m)) (ht : tab f = some (d, ps)) (hat : d.at_ = fun K => He5.wf K (He.ga K nm) "property" m) (b : Bnd d ps fx 1 [])
    (ha : PE X o (rdE C (evE cal a))) (hb : attributeBase o m X.env (eval o X.env) = eval o X.env := by rfl) : PE X (.Attribute o m pos) (rdE C (evE cal (.prop cl f a))) := by
  obtain ⟨fd, F, ok⟩ := e.fns f d ps ht
  replace ok := ok.imp (sp' := spM C.G cal f) fun vs H Q E h => ⟨fun z => (by rw [b.nc] at z; cases z), h⟩
  obtain ⟨dvs, ds, h1, h2, h3⟩ := b.b F
  have r := h3 C.G e.eK (fun f hf => by obtain ⟨i, hi⟩ := List.getElem?_of_mem hf; exact e.fxs i f hi) ⟨fun _ => True, fun _ => True, fun _ => none⟩
  cases r
  cases h1
  have hp := Fx.propT (e.fxs i _ hi)
  have ha' : d.at_ X.K = He5.wf X.K (He.ga X.K nm) "property" m := by rw [hat]
  rw [ha'] at F ok
  rw [← e.cn cl nm hcl] at hp ok
  exact n_prop (fun ta h => pe_prop h (e.clsA hcl hic).cl hp ok c.room h2 .nil (fun _ _ _ _ _ _ _ h => by obtain ⟨_, _, _, _, _, _, _, _, _, _, _, _, z⟩ := h; exact z.elim) hb) ha
theorem n_methD {ex : Expr} {c f : Nat} {n : Str} {io : List Bool} {a : E} {es : Es} {dts : List T} {dvs : List V} (hd : ∀ w, RFs C.G w dts dvs) (hp : PE X ex (tMeth (C.G.cls c) n (spM C.G cal f) dvs EF (rdD C (opdF (evE cal a))) (rdDs C (evDs cal es)))) : PE X ex (rdE C (evE cal (.meth c f n io a (es.app (Es.cs dts))))) :=
  PE.imp hp fun σ H Q ⟨w, m, e, P, q⟩ => by
  rw [evE, Res.sat_bind] at q
  refine ⟨w, m, e, P, ?_⟩
  rw [opdF, Res.sat_bind]
  refine Res.sat_mono q fun r m1 q1 w1 v S1 x1 r1 => ?_
  split at q1
  · rename_i c' fs hd1
    split at q1
    · rename_i hcc
      obtain ⟨rfl, hl⟩ := hcc
      obtain ⟨p, dx, gs, rfl, h1, h2⟩ := (S1.der r1 hd1).ins
      refine ⟨p, dx, gs, rfl, h1, h2.lookN hl, ?_⟩
      rw [evDs_app, Res.bind_assoc, Res.sat_bind] at q1
      refine ⟨w1, m1, rfl, P.step S1 x1, Res.sat_mono q1 fun ds m2 q2 w2 vs S2 x2 r2 => ?_⟩
      exact call_quiet ((P.step S1 x1).step S2 x2) (.cons (r1.mono x2.mo) (r2.app' (hd w2))) (Res.sat_mono q2 fun r m3 k w' v S' x' rr => k w' v S' (x1.trans (x2.trans x')) rr)
    · exact q1.elim
  · exact q1.elim
theorem GQ.defA (e : GX tab fx gk cn X k C.G cal) {f n : Nat} {d : He5.DefA} {ps : List Str} {dts : List T} (ht : tab f = some (d, ps)) (b : Bnd d ps fx n dts) :
    ∃ fd dvs ds, Vals dvs ds ∧ Binds X.K fd ps ds ∧ (∀ w, RFs C.G w dts dvs) ∧ FnOk X.prog X.w X.K X.mg X.base (L2.CX X.prog X.w) (2 * k) (d.at_ X.K) fd ps (spM C.G cal f) := by
  obtain ⟨fd, F, ok⟩ := e.fns f d ps ht
  replace ok := ok.imp (sp' := spM C.G cal f) fun vs H Q E h => ⟨fun z => (by rw [b.nc] at z; cases z), h⟩
  obtain ⟨dvs, ds, h1, h2, h3⟩ := b.b F
  exact ⟨fd, dvs, ds, h1, h2, h3 C.G e.eK (fun f hf => by obtain ⟨i, hi⟩ := List.getElem?_of_mem hf; exact e.fxs i f hi), ok⟩
theorem q_meth (c : XC C X k) (e : GX tab fx gk cn X k C.G cal) {pl : Sem Bool} {cl f n ic im : Nat} {nm m : Str} {d : He5.DefA} {ps : List Str} {dts : List T} {o e1 : Expr} {es1 : List Expr} {io : List Bool} {a : E} {es : Es} (hcl : cn[cl]? = some nm) (hic : fx[ic]? = some (.cls nm)) (him : fx[im]? = some (.meth nm m)) (ht : tab f = some (d, ps))
    (hat : d.at_ = fun K => He.ma K (He.ga K nm) m) (b : Bnd d ps fx n dts) (ha : PE X o (rdE C (evE cal a))) (h : PA X (e1 :: es1) (rdDs C (evDs cal es)))
    (hst : starEach (e1 :: es1) X.env = (false, eval e1 X.env) :: starEach es1 X.env := by rfl) (hpl : (backTo pos (starEach es1 X.env)).any (·.1) = false := by rfl)
    (he : eval (.Call (.Attribute o m apos) (e1 :: es1) [] pos) X.env = (do
      let ov ← eval o X.env
      standAt apos.atName
      let (f, first) ← holding [ov] (getMethod ov m pl)
      callWith pos f first (backTo pos (starEach (e1 :: es1) X.env)) (backToKw pos (keywordEach [] X.env))) := by rfl) :
    PE X (.Call (.Attribute o m apos) (e1 :: es1) [] pos) (rdE C (evE cal (.meth cl f m io a (es.app (Es.cs dts))))) := by
  obtain ⟨fd, dvs, ds, h1, h2, h3, ok⟩ := e.defA ht b
  have ha' : d.at_ X.K = He.ma X.K (He.ga X.K nm) m := by rw [hat]
  rw [ha'] at ok
  exact n_methD h3 (pe_meth (pl := pl) (pe_opd ha) (e.clsA hcl hic).cl (e.meth hcl him) ok c.low h2 h1 passEF h hst hpl he)
theorem q_meth0 (c : XC C X k) (e : GX tab fx gk cn X k C.G cal) {pl : Sem Bool} {cl f n ic im : Nat} {nm m : Str} {d : He5.DefA} {ps : List Str} {dts : List T} {o : Expr} {io : List Bool} {a : E} (hcl : cn[cl]? = some nm) (hic : fx[ic]? = some (.cls nm)) (him : fx[im]? = some (.meth nm m)) (ht : tab f = some (d, ps))
    (hat : d.at_ = fun K => He.ma K (He.ga K nm) m) (b : Bnd d ps fx n dts) (ha : PE X o (rdE C (evE cal a)))
    (he : eval (.Call (.Attribute o m apos) [] [] pos) X.env = (do
      let ov ← eval o X.env
      standAt apos.atName
      let (f, first) ← holding [ov] (getMethod ov m pl)
      callWith pos f first (backTo pos (starEach [] X.env)) (backToKw pos (keywordEach [] X.env))) := by rfl) :
    PE X (.Call (.Attribute o m apos) [] [] pos) (rdE C (evE cal (.meth cl f m io a (Es.cs dts)))) := by
  obtain ⟨fd, dvs, ds, h1, h2, h3, ok⟩ := e.defA ht b
  have ha' : d.at_ X.K = He.ma X.K (He.ga X.K nm) m := by rw [hat]
  rw [ha'] at ok
  exact n_methD (es := .nil) h3 (PE.imp (pe_meth0 (pl := pl) (pe_opd ha) (e.clsA hcl hic).cl (e.meth hcl him) ok c.low h2 h1 passEF he) fun σ H Q q => rdD_mono q fun v H1 ⟨a, dx, fs, q1, q2, q3, q4⟩ => ⟨a, dx, fs, q1, q2, q3, nil_rd q4⟩)
/-! ### new instances -/
theorem evDs_len : ∀ (es : Es) (m : List Slot) (ds : List Opd) (m' : List Slot), evDs cal es m = .ok ds m' → ds.length = es.len
  | .nil, m, ds, m', h => by rw [evDs] at h; cases h; rfl
  | .cons e r, m, ds, m', h => by
    rw [evDs] at h
    cases h1 : evE cal e m with
    | no => rw [h1] at h; cases h
    | ex x m1 => rw [h1] at h; cases h
    | ok x m1 =>
      rw [h1] at h
      simp only [Res.bind] at h
      cases h2 : evDs cal r m1 with
      | no => rw [h2] at h; cases h
      | ex x m2 => rw [h2] at h; cases h
      | ok xs m2 =>
        rw [h2] at h
        cases h
        exact congrArg Nat.succ (evDs_len r m1 xs _ h2)
end
end Mi
set_option maxHeartbeats 1000000
namespace Mi
open PySem PySem.Spec PyProof.Rows L2

structure KitI (fx : List Fx) (cn : List Str) (cl : Nat) (nm : Str) (cs ns : List Nat) : Prop where
  ty : ∃ i : Nat, fx[i]? = some (.kty nm)
  yes : ∀ c' ∈ cs, ∃ (n' : Str) (i j : Nat), cn[c']? = some n' ∧ fx[i]? = some (.kown n' nm true) ∧ fx[j]? = some (.cls n')
  no : ∀ c' ∈ ns, ∃ (n' : Str) (i j : Nat), cn[c']? = some n' ∧ fx[i]? = some (.kown n' nm false) ∧ fx[j]? = some (.cls n')
section
variable {tab : Nat → Option (He5.DefA × List Str)} {fx : List Fx} {gk : List (Str × T)} {cn : List Str} {C : Ct} {X : Cx} {k L : Nat} {cal : Nat → List Slot → CRes} {pos p1 p2 p3 apos : Pos}
theorem GQ.mkr (e : GX tab fx gk cn X k C.G cal) {cl i : Nat} {nm : Str} (hcl : cn[cl]? = some nm) (hi : fx[i]? = some (.mkr nm)) : Mk X.K (C.G.cls cl) (He.ma X.K (He.ga X.K nm) "__init__") := by
  rw [e.cn cl nm hcl]
  exact He.mkr_ok (e.fxs i _ hi)
theorem GQ.gloC (e : GX tab fx gk cn X k C.G cal) {cl i : Nat} {nm : Str} (hcl : cn[cl]? = some nm) (hi : fx[i]? = some (.glo nm)) : X.mg nm = some (.ref (C.G.cls cl)) := by
  rw [e.cn cl nm hcl]
  exact e.glo i nm hi
noncomputable def pmV (pm : List Nat) (vs : List V) : List V := match pm with
  | [] => vs
  | pm => pm.map fun i => vs.getD i .non
theorem RFs.getD {G : Gm} {w : Wd} {ts : List T} {vs : List V} (r : RFs G w ts vs) (i : Nat) : RF G w (ts.getD i .non) (vs.getD i .non) := by
  rw [List.getD_eq_getElem?_getD, List.getD_eq_getElem?_getD]
  cases h : ts[i]? with
  | none =>
    have : vs[i]? = none := by
      have := r.length
      have := List.getElem?_eq_none_iff.mp h
      exact List.getElem?_eq_none_iff.mpr (by omega)
    rw [this]
    exact .non
  | some t =>
    obtain ⟨v, h1, h2⟩ := r.get h
    rw [h1]
    exact h2
theorem RDs.len {G : Gm} {w : Wd} {σ : St} {ds : List Opd} {vs : List V} (r : RDs G w σ ds vs) : ds.length = vs.length := by
  induction r with
  | nil => rfl
  | cons _ _ ih => exact congrArg Nat.succ ih
structure KBnd (d : He5.DefA) (ps ks : List Str) (pm : List Nat) : Prop where
  nc : noCls ps = true
  b : ∀ {K : PySem.W.Frag} {f : Addr} {fd : FuncData}, L2.FunD K d.name d.qual d.params d.body d.scope (d.dvs K) (d.kws K) f fd → ∃ g gV, KBn K fd ps 1 ks g gV ∧ ∀ x zs, zs.length = ks.length → gV [x] zs = x :: pmV pm zs
/-! ### attributes stored -/
theorem q_stf (c : XC C X k) (e : GX tab fx gk cn X k C.G cal) {cl ic i j : Nat} {nm f x : Str} {v : Expr} {a : E} (hcl : cn[cl]? = some nm) (hic : fx[ic]? = some (.cls nm)) (hi : fx[i]? = some (.noat nm f)) (ho : PE X (.Name x p1) (tVar j)) (ha : PE X v (rdE C (evE cal a)))
    (hs : swapsWith v (some (.Attribute (.Name x p1) f p2)) pos.line X.env = pure false := by rfl) : PS X (.Assign [.Attribute (.Name x p1) f p2] v pos) (rdSt C (evS cal L (.stf j cl f a))) :=
  st_stf (by rw [c.K]; exact (e.clsA hcl hic).cl) (by rw [c.K]; exact e.noat hcl hi) (by rw [c.K]; exact ps_fld ho (pe_opd ha) hs)
/-! ### own operators -/
theorem q_cneT (c : XC C X k) (e : GX tab fx gk cn X k C.G cal) {cl f ic im ine : Nat} {nm : Str} {d : He5.DefA} {ps : List Str} {o o' : Expr} {a a' : E} (hcl : cn[cl]? = some nm) (hic : fx[ic]? = some (.cls nm)) (him : fx[im]? = some (.meth nm "__eq__")) (hin : fx[ine]? = some (.ne nm)) (ht : tab f = some (d, ps))
    (hat : d.at_ = fun K => He.ma K (He.ga K nm) "__eq__") (b : Bnd d ps fx 2 []) (ha : PE X o (rdE C (evE cal a))) (hb : PE X o' (rdE C (evE cal a'))) (hm : behindInMarks .NotEq o' = false := by first | exact nomark _ | rfl) :
    PT X (.Compare o [.NotEq] [o'] pos) (rdB C (evE cal (.ceq true cl f a a'))) := by
  obtain ⟨fd, dvs, ds, h1, h2, h3, ok⟩ := e.defA ht b
  cases h3 ⟨fun _ => True, fun _ => True, fun _ => none⟩
  cases h1
  have ha' : d.at_ X.K = He.ma X.K (He.ga X.K nm) "__eq__" := by rw [hat]
  rw [ha'] at ok
  have cx : ClX C.G.K (C.G.cls cl) := by rw [c.K]; exact e.clsA hcl hic
  have hne : PySem.W.findIn X.K (.ref (C.G.cls cl)) "__ne__" = some (some (.builtin "object.__ne__")) := by rw [e.cn cl nm hcl]; exact eqv_ok (e.fxs ine _ hin)
  exact t_ceq (neg := true) (r := rNeM C.G.K) (fun ta tb h h' => pt_cmpR (OpR.or (by rw [c.K]; exact op_ownNe (e.meth hcl him) hne (e.clsA hcl hic).hm ok c.room h2) (by rw [c.K]; exact or_ne c.hu)) h h' hm) cx okNe ha hb
theorem q_bop (c : XC C X k) (e : GX tab fx gk cn X k C.G cal) {op : Operator} {cl f is im : Nat} {nm m : Str} {d : He5.DefA} {ps : List Str} {o o' : Expr} {a a' : E} (hm : PySem.dunder op.info.2 = m) (hcl : cn[cl]? = some nm) (his : fx[is]? = some (.self1 nm)) (him : fx[im]? = some (.meth nm m)) (ht : tab f = some (d, ps))
    (hat : d.at_ = fun K => He.ma K (He.ga K nm) m) (b : Bnd d ps fx 2 []) (ha : PE X o (rdE C (evE cal a))) (hb : PE X o' (rdE C (evE cal a'))) : PE X (.BinOp o op o' pos) (rdE C (evE cal (.bop cl f a a'))) := by
  subst hm
  obtain ⟨fd, dvs, ds, h1, h2, h3, ok⟩ := e.defA ht b
  cases h3 ⟨fun _ => True, fun _ => True, fun _ => none⟩
  cases h1
  have ha' : d.at_ X.K = He.ma X.K (He.ga X.K nm) (PySem.dunder op.info.2) := by rw [hat]
  rw [ha'] at ok
  have hs : PySem.W.selfFirst X.K (C.G.cls cl) = true := by rw [e.cn cl nm hcl]; exact e.fxs is _ his
  exact n_bop (fun ta tb h h' => pe_op (op_own hs (e.meth hcl him) ok c.low h2) h h') ha hb
/-! ### isinstance -/
theorem q_isc (c : XC C X k) (e : GX tab fx gk cn X k C.G cal) {cl ig ib : Nat} {nm : Str} {cs ns : List Nat} {o : Expr} {a : E} (hcl : cn[cl]? = some nm) (hig : fx[ig]? = some (.glo nm)) (hib : fx[ib]? = some (.free "isinstance")) (ki : KitI fx cn cl nm cs ns) (ha : PE X o (rdE C (evE cal a))) (hg : Gl X "isinstance" := by rfl)
    (hgn : Gl X nm := by rfl) (hdb : (nm == ("__debug__" : Str)) = false := by decide) (hs : starEach [o, .Name nm p2] X.env = (false, eval o X.env) :: starEach [.Name nm p2] X.env := by rfl) : PE X (.Call (.Name "isinstance" p1) [o, .Name nm p2] [] pos) (rdE C (evE cal (.isc cs ns a))) := by
  have kc : KitC C.G cl cs ns := by
    refine ⟨fun x hx => ?_, fun c' h => ?_, fun c' h => ?_⟩
    · obtain ⟨i, hi⟩ := ki.ty
      have := List.all_eq_true.mp (show (tyNames.all fun x => decide (PySem.W.kitOne X.K (.type x) (.ref (He.ga X.K nm)) = some false)) = true from e.fxs i _ hi) x hx
      rw [c.K, e.cn cl nm hcl]
      exact of_decide_eq_true this
    · obtain ⟨n', i, j, h1, h2, h3⟩ := ki.yes c' h
      refine ⟨?_, by rw [c.K]; exact e.clsA h1 h3⟩
      rw [c.K, e.cn cl nm hcl, e.cn c' n' h1]
      exact of_decide_eq_true (e.fxs i _ h2)
    · obtain ⟨n', i, j, h1, h2, h3⟩ := ki.no c' h
      refine ⟨?_, by rw [c.K]; exact e.clsA h1 h3⟩
      rw [c.K, e.cn cl nm hcl, e.cn c' n' h1]
      exact of_decide_eq_true (e.fxs i _ h2)
  exact n_isc kc (fun ta h => PE.imp (pe_callB (r := rIsi C.G.K) (by rw [c.K]; exact call_isi) hg (e.fre ib _ hib) PyProof.Rows.boot_isinstance (pa_cons h (pa_cons (pe_glob (v := .ref (C.G.cls cl)) hgn (e.gloC hcl hig) rfl hdb) pa_nil) hs) (by decide) (by decide) hs (by rfl)) fun _ _ _ q => q) ha
theorem x_dic0 : PE X (.Dict [] [] pos) (rdE C (evE cal .dic0)) := n_dic0 pe_dnewK
end
end Mi
set_option maxHeartbeats 1000000
namespace Mi
open PySem PySem.Spec PyProof.Rows L2

/-! ### lent objects: frozen for the while of one expression, of some statements -/
noncomputable def lendS (is : List Nat) (j : Nat) (s : Slot) : Slot := match s with
  | .ow o => if j ∈ is ∧ o.lendable = true then .fz o.frz else .no
  | s => s
theorem lendM_get (is : List Nat) : ∀ (k : Nat) (m : List Slot) (j : Nat), (lendM is k m)[j]? = (m[j]?).map (lendS is (k + j))
  | k, [], j => by rw [lendM]; rfl
  | k, s :: r, j => by
    have ih := fun j => lendM_get is (k + 1) r j
    cases j with
    | zero => cases s <;> (rw [lendM]; rfl)
    | succ j =>
      have := ih j
      rw [show k + 1 + j = k + (j + 1) by omega] at this
      cases s <;> (rw [lendM]; rw [List.getElem?_cons_succ, List.getElem?_cons_succ]; exact this)
theorem lendM_len (is : List Nat) : ∀ (k : Nat) (m : List Slot), (lendM is k m).length = m.length
  | k, [] => by rw [lendM]
  | k, s :: r => by cases s <;> (rw [lendM, List.length_cons, List.length_cons, lendM_len is (k + 1) r])
theorem lendM_ow {is : List Nat} {k j : Nat} {m : List Slot} {o : O} (h : (lendM is k m)[j]? = some (.ow o)) : False := by
  rw [lendM_get] at h
  cases e : m[j]? with
  | none => rw [e] at h; cases h
  | some s =>
    rw [e] at h
    cases s with
    | no => cases h
    | fz t => cases h
    | ow o' =>
      have h : (if k + j ∈ is ∧ o'.lendable = true then Slot.fz o'.frz else .no) = .ow o := Option.some.inj h
      split at h <;> cases h
noncomputable def Lent (is : List Nat) (m : List Slot) (σ : St) (a : Addr) : Prop := ∃ (j : Nat) (o : O), j ∈ is ∧ o.lendable = true ∧ m[j]? = some (.ow o) ∧ σ[j]? = some (some (.ref a))
noncomputable def Wd.lend (w : Wd) (is : List Nat) (m : List Slot) (σ : St) : Wd := ⟨fun a => w.F a ∨ Lent is m σ a, fun _ => False, w.H⟩
noncomputable def Wd.thaw (w w1 : Wd) : Wd := ⟨w.F, fun a => w.L a ∨ w1.L a, w1.H⟩
section
variable {G : Gm} {w w1 : Wd} {m m1 : List Slot} {σ σ1 : St} {is : List Nat}
theorem Mo.lend : Mo w (w.lend is m σ) := ⟨fun _ h => .inl h, fun _ _ => .refl _⟩
theorem SR.lent (S : SR G w m σ) {a : Addr} {j : Nat} {o : O} (h : m[j]? = some (.ow o)) (e : σ[j]? = some (some (.ref a))) : w.L a ∧ RO G w a o := by
  obtain ⟨b, e1, r, l⟩ := S.sl j _ h
  rw [e] at e1
  cases e1
  exact ⟨l, r⟩
theorem Ex.lend (S : SR G w m σ) : Ex w (w.lend is m σ) := ⟨fun _ h => .inl h, fun _ _ => .refl _, fun a u h1 h2 h3 => ⟨h1, fun q => q.elim h2 fun ⟨j, o, _, _, e1, e2⟩ => h3 (S.lent e1 e2).1, fun q => q⟩⟩
theorem SR.lend (S : SR G w m σ) (is : List Nat) : SR G (w.lend is m σ) (lendM is 0 m) σ := by
  refine ⟨by rw [lendM_len]; exact S.len, fun j s h => ?_, fun i j o o' a h => (lendM_ow h).elim, fun a l => l.elim, fun a f => ?_⟩
  · rw [lendM_get, Nat.zero_add] at h
    cases e : m[j]? with
    | none => rw [e] at h; cases h
    | some s0 =>
      rw [e] at h
      have q := S.sl j s0 e
      cases s0 with
      | no => cases h; trivial
      | fz t => cases h; obtain ⟨x, e, r⟩ := q; exact ⟨x, e, r.mono .lend⟩
      | ow o =>
        have h : (if j ∈ is ∧ o.lendable = true then Slot.fz o.frz else .no) = s := Option.some.inj h
        obtain ⟨a, ea, r, l⟩ := q
        split at h
        · rename_i hc
          subst h
          exact ⟨_, ea, r.rf (.inr ⟨j, o, hc.1, hc.2, e, ea⟩) .lend rfl⟩
        · subst h; trivial
  · rcases f with f | ⟨j, o, _, _, e1, e2⟩
    · exact S.trk a f
    · exact (S.lent e1 e2).2.trk
theorem Mo.thaw (x : Ex (w.lend is m σ) w1) : Mo w (w.thaw w1) := ⟨fun _ h => h, fun b hb => x.kp b (.inl hb)⟩
theorem Ex.thaw (S : SR G w m σ) (x : Ex (w.lend is m σ) w1) : Ex w (w.thaw w1) := ⟨(Mo.thaw x).fz, (Mo.thaw x).kp, fun a u h1 h2 h3 => by
  obtain ⟨q1, q2, q3⟩ := x.ot a u h1 (fun q => q.elim h2 fun ⟨j, o, _, _, e1, e2⟩ => h3 (S.lent e1 e2).1) (fun q => q)
  exact ⟨q1, h2, fun q => q.elim h3 q3⟩⟩
theorem lent_same (S : SR G w m σ) (x : Ex (w.lend is m σ) w1) (S1 : SR G w1 m1 σ1) {a : Addr} {j : Nat} {o : O} (h : m[j]? = some (.ow o)) (e : σ[j]? = some (some (.ref a))) : RO G (w.thaw w1) a o ∧ ¬ w1.L a := by
  obtain ⟨l, r⟩ := S.lent h e
  by_cases f : Lent is m σ a
  · have f' : (w.lend is m σ).F a := .inr f
    refine ⟨?_, fun l1 => S1.sep a l1 (x.fz a f')⟩
    obtain ⟨j', o', _, hl, h', e'⟩ := f
    have := S.inj j j' o o' a h h' e e'
    subst this
    rw [h] at h'
    cases h'
    cases r with
    | lst h1 r => exact .lst ((x.kp a f').eq h1 (fun k q => by rcases q with q | ⟨o, q⟩ <;> cases q)) (r.mono (Mo.thaw x))
    | ins h1 r => exact .ins ((x.kp a f').eq h1 (fun k q => by rcases q with q | ⟨o, q⟩ <;> cases q)) (r.mono (Mo.thaw x))
    | dic h1 r => cases hl
  · obtain ⟨u, hu⟩ := r.trk
    obtain ⟨q1, q2, q3⟩ := x.ot a u hu (fun q => q.elim (S.sep a l) f) (fun q => q)
    exact ⟨r.mono (Mo.thaw x) (q1.trans hu.symm), q3⟩
theorem SR.thaw (S : SR G w m σ) (x : Ex (w.lend is m σ) w1) (S1 : SR G w1 m1 σ1) : SR G (w.thaw w1) m σ := by
  refine ⟨S.len, fun j s h => ?_, S.inj, fun a l f => ?_, fun a f => ?_⟩
  · have q := S.sl j s h
    cases s with
    | no => trivial
    | fz t => obtain ⟨v, e, r⟩ := q; exact ⟨v, e, r.mono (Mo.thaw x)⟩
    | ow o =>
      obtain ⟨a, e, r, l⟩ := q
      exact ⟨a, e, (lent_same S x S1 h e).1, .inl l⟩
  · rcases l with l | l
    · exact S.sep a l f
    · exact S1.sep a l (x.fz a (.inl f))
  · obtain ⟨u, hu⟩ := S.trk a f
    exact (x.kp a (.inl f)).some ⟨u, hu⟩
end
section
variable {C : Ct} {X : Cx} {k : Nat} {cal : Nat → List Slot → CRes} {L : Nat} {pos p1 p2 p3 p4 : Pos}
/-! ### two new lists, kept -/
noncomputable def Wd.hide (w : Wd) (p : Addr) : Wd := ⟨w.F, fun a => w.L a ∧ a ≠ p, w.H⟩
noncomputable def Wd.show_ (w : Wd) (p : Addr) : Wd := ⟨w.F, fun a => w.L a ∨ a = p, w.H⟩
theorem SR.hide {G : Gm} {w : Wd} {m : List Slot} {σ : St} {p : Addr} (S : SR G w m σ) (n : Off m σ p) : SR G (w.hide p) m σ := by
  refine ⟨S.len, fun j s h => ?_, S.inj, fun a l => S.sep a l.1, S.trk⟩
  have q := S.sl j s h
  cases s with
  | no => trivial
  | fz t => obtain ⟨v, e, r⟩ := q; exact ⟨v, e, r.mono (mo_same (w := w) (w' := w.hide p) rfl rfl)⟩
  | ow o =>
    obtain ⟨a, e, r, l⟩ := q
    exact ⟨a, e, r.mono (mo_same (w := w) (w' := w.hide p) rfl rfl) rfl, l, fun z => n j o h (z ▸ e)⟩
theorem Ex.hide {w : Wd} {p : Addr} (l : w.L p) : Ex w (w.hide p) := ⟨fun _ h => h, fun _ _ => .refl _, fun a u h1 h2 h3 => ⟨h1, h2, fun q => h3 q.1⟩⟩
theorem SR.show_ {G : Gm} {w : Wd} {m : List Slot} {σ : St} {p : Addr} (S : SR G w m σ) (nf : ¬ w.F p) : SR G (w.show_ p) m σ := by
  refine ⟨S.len, fun j s h => ?_, S.inj, fun a l f => ?_, S.trk⟩
  · have q := S.sl j s h
    cases s with
    | no => trivial
    | fz t => obtain ⟨v, e, r⟩ := q; exact ⟨v, e, r.mono (mo_same (w := w) (w' := w.show_ p) rfl rfl)⟩
    | ow o =>
      obtain ⟨a, e, r, l⟩ := q
      exact ⟨a, e, r.mono (mo_same (w := w) (w' := w.show_ p) rfl rfl) rfl, .inl l⟩
  · rcases l with l | rfl
    · exact S.sep a l f
    · exact nf f
theorem w_paro (c : XC C X k) {i j : Nat} {x y : Str} {a b : Expr} {ea eb : E} {kt k2} (nfx : C.fx i = false ∧ C.fx j = false) (ha : PE X a (rdE C (evE cal ea))) (hb : PE X b (rdE C (evE cal eb))) (hw : swappedStores [.Tuple [.Name x p1, .Name y p2] kt p3] (.Tuple [a, b] k2 p4) X.env = pure (some [x, y]) := by rfl)
    (hi : X.N[i]? = some x := by rfl) (hj : X.N[j]? = some y := by rfl) (hij : i ≠ j := by decide) (hx : X.env.scope.names.lookup x = some .local := by rfl) (hy : X.env.scope.names.lookup y = some .local := by rfl)
    (h1 : starEach [a, b] X.env = (false, eval a X.env) :: starEach [b] X.env := by rfl) (h2 : starEach [b] X.env = (false, eval b X.env) :: starEach [] X.env := by rfl)
    (hs : swapsWithSole [.Tuple [.Name x p1, .Name y p2] kt p3] (.Tuple [a, b] k2 p4) pos.line X.env = pure false := by rfl) : PS X (.Assign [.Tuple [.Name x p1, .Name y p2] kt p3] (.Tuple [a, b] k2 p4) pos) (rdSt C (evS cal L (.paro i j ea eb))) :=
  PS.imp (ps_par c.calm c.nd hi hj hij hx hy (pa_cons ha (pa_cons hb pa_nil h2) h1) hw hs) fun D σ H ⟨w, m, eH, P, q⟩ => by
  rw [evS, FSat_ofR] at q
  refine ⟨w, m, eH, P, Res.sat_mono q fun ra m1 q1 w1 v1 S1 x1 r1 => ?_⟩
  cases ra with
  | fz t => exact q1.elim
  | bo i => exact q1.elim
  | ow o1 =>
    obtain ⟨p1, rfl, ro1, l1, n1⟩ := r1
    rw [FSat_ofR] at q1
    refine ⟨w1.hide p1, m1, rfl, P.step (S1.hide n1) (x1.trans (Ex.hide l1)), Res.sat_mono q1 fun rb m2 q2 w2 v2 S2 x2 r2 => ?_⟩
    cases rb with
    | fz t =>
      simp only at q2
      split at q2
      · rename_i hlt
        refine ⟨_, _, rfl, ?_⟩
        obtain ⟨u, hu⟩ := ro1.trk
        obtain ⟨e1, nf, nl⟩ := x2.ot p1 u hu (S1.sep p1 l1) (fun z => z.2 rfl)
        have S3 : SR C.G (w2.show_ p1) m2 σ := S2.show_ nf
        have mo1 : Mo w1 (w2.show_ p1) := ⟨x2.fz, x2.kp⟩
        have ro1' : RO C.G (w2.show_ p1) p1 o1 := ro1.mono mo1 (e1.trans hu.symm)
        have n1' : ∀ (i' : Nat) (o : O), m2[i']? = some (.ow o) → σ[i']? ≠ some (some (.ref p1)) := fun i' o h z => by
          obtain ⟨a, ea, _, la⟩ := S2.sl i' _ h
          rw [z] at ea
          cases ea
          exact nl la
        have S4 := S3.setOw (i := i) ro1' (.inr rfl) n1'
        have S5 := S4.setFz (i := j) (RF.mono (mo_same (w := w2) (w' := w2.show_ p1) rfl rfl) r2)
        have x3 : Ex w1 (w2.show_ p1) := ⟨x2.fz, x2.kp, fun a u h1 h2 h3 => by
          obtain ⟨q1, q2, q3⟩ := x2.ot a u h1 h2 (fun z => h3 z.1)
          exact ⟨q1, q2, fun z => z.elim q3 fun z => h3 (z ▸ l1)⟩⟩
        refine q2 (w2.show_ p1) _ ⟨S5, P.ex.trans (x1.trans x3), fun k hk => ?_⟩ (x1.trans x3)
        rw [List.getElem?_set_ne, List.getElem?_set_ne, P.fix k hk]
        · intro e; rw [e, hk] at nfx; exact nomatch nfx.1
        · intro e; rw [e, hk] at nfx; exact nomatch nfx.2
      · exact q2.elim
    | bo i => exact q2.elim
    | ow o2 =>
      obtain ⟨p2, rfl, ro2, l2, n2⟩ := r2
      simp only at q2
      split at q2
      · rename_i hlt
        refine ⟨_, _, rfl, ?_⟩
        obtain ⟨u, hu⟩ := ro1.trk
        obtain ⟨e1, nf, nl⟩ := x2.ot p1 u hu (S1.sep p1 l1) (fun z => z.2 rfl)
        have S3 : SR C.G (w2.show_ p1) m2 σ := S2.show_ nf
        have mo1 : Mo w1 (w2.show_ p1) := ⟨x2.fz, x2.kp⟩
        have ro1' : RO C.G (w2.show_ p1) p1 o1 := ro1.mono mo1 (e1.trans hu.symm)
        have n1' : ∀ (i' : Nat) (o : O), m2[i']? = some (.ow o) → σ[i']? ≠ some (some (.ref p1)) := fun i' o h z => by
          obtain ⟨a, ea, _, la⟩ := S2.sl i' _ h
          rw [z] at ea
          cases ea
          exact nl la
        have S4 := S3.setOw (i := i) ro1' (.inr rfl) n1'
        have hne : p1 ≠ p2 := fun z => nl (z ▸ l2)
        have S5 := S4.setOw (i := j) (o := o2) (p := p2) (ro2.mono (mo_same (w := w2) (w' := w2.show_ p1) rfl rfl) rfl) (.inl l2) (fun i' o h z => by
          by_cases hi' : i' = i
          · subst hi'
            have lt : i' < σ.length := by rw [← S2.len]; exact hlt.1
            rw [List.getElem?_set_self lt] at z
            cases z
            exact hne rfl
          · rw [List.getElem?_set_ne (Ne.symm hi')] at h z
            exact n2 i' o h z)
        have x3 : Ex w1 (w2.show_ p1) := ⟨x2.fz, x2.kp, fun a u h1 h2 h3 => by
          obtain ⟨q1, q2, q3⟩ := x2.ot a u h1 h2 (fun z => h3 z.1)
          exact ⟨q1, q2, fun z => z.elim q3 fun z => h3 (z ▸ l1)⟩⟩
        refine q2 (w2.show_ p1) _ ⟨S5, P.ex.trans (x1.trans x3), fun k hk => ?_⟩ (x1.trans x3)
        rw [List.getElem?_set_ne, List.getElem?_set_ne, P.fix k hk]
        · intro e; rw [e, hk] at nfx; exact nomatch nfx.1
        · intro e; rw [e, hk] at nfx; exact nomatch nfx.2
      · exact q2.elim
theorem setOw_fz {m : List Slot} {σ : St} {p : Addr} {i : Nat} {t : T} {v : V} (n : ∀ (i' : Nat) (o : O), m[i']? = some (.ow o) → σ[i']? ≠ some (some (.ref p))) : ∀ (i' : Nat) (o : O), (m.set i (.fz t))[i']? = some (.ow o) → (σ.set i (some v))[i']? ≠ some (some (.ref p)) := fun i' o h z => by
  by_cases e : i' = i
  · subst e
    rw [List.getElem?_set] at h
    rw [if_pos rfl] at h
    split at h <;> cases h
  · rw [List.getElem?_set_ne (Ne.symm e)] at h z
    exact n i' o h z
/-! ### statements that look, and change nothing -/
noncomputable def Ct.scp (C : Ct) (A : List Nat) (w0 : Wd) (s0 : St) : Ct := ⟨C.G, w0, s0, fun j => !A.contains j, fun _ _ => False⟩
/-! ### a new instance out of owned objects -/
section
variable {tab : Nat → Option (He5.DefA × List Str)} {fx : List Fx} {gk : List (Str × T)} {cn : List Str}
end
end
end Mi
set_option maxHeartbeats 1000000
namespace Mi
open PySem PySem.Spec PyProof.Rows L2

/-! ### plain tools -/
theorem wipe_getP : ∀ (A : List Nat) (m : List Slot) (j : Nat), j ∉ A → (wipeM m A)[j]? = m[j]?
  | [], m, j, _ => rfl
  | v :: vs, m, j, h => by
    rw [wipeM, List.getElem?_set_ne (fun e => h (by simp [e])), wipe_getP vs m j fun z => h (by simp [z])]
theorem wipe_lenP : ∀ (A : List Nat) (m : List Slot), (wipeM m A).length = m.length
  | [], m => rfl
  | v :: vs, m => by rw [wipeM, List.length_set, wipe_lenP vs m]
theorem rest_len : ∀ (A : List Nat) (m0 m : List Slot), (restM m0 m A).length = m.length
  | [], m0, m => rfl
  | v :: vs, m0, m => by rw [restM, List.length_set, rest_len vs m0 m]
theorem rest_get : ∀ (A : List Nat) (m0 m : List Slot) (j : Nat), (restM m0 m A)[j]? = if j ∈ A ∧ j < m.length then some (m0[j]?.getD .no) else m[j]?
  | [], m0, m, j => by simp [restM]
  | v :: vs, m0, m, j => by
    rw [restM]
    by_cases e : v = j
    · subst e
      by_cases lt : v < m.length
      · rw [List.getElem?_set_self (by rw [rest_len]; exact lt), if_pos ⟨by simp, lt⟩]
      · rw [List.getElem?_eq_none (by rw [List.length_set, rest_len]; omega), if_neg (fun z => lt z.2), List.getElem?_eq_none (by omega)]
    · rw [List.getElem?_set_ne e, rest_get vs m0 m j]
      have : (j ∈ v :: vs) ↔ (j ∈ vs) := by
        simp only [List.mem_cons]
        exact ⟨fun z => z.elim (fun z => absurd z.symm e) id, .inr⟩
      simp only [this]
theorem rest_wipe {m : List Slot} {A : List Nat} (h : noOw m A = true) : restM m (wipeM m A) A = m := by
  apply List.ext_getElem?
  intro j
  rw [rest_get, wipe_lenP]
  by_cases hj : j ∈ A
  · have := List.all_eq_true.mp h j hj
    cases e : m[j]? with
    | none => rw [e] at this; cases this
    | some s =>
      have lt := (List.getElem?_eq_some_iff.mp e).1
      rw [if_pos ⟨hj, lt⟩]
      rfl
  · rw [if_neg (fun z => hj z.1), wipe_getP A m j hj]
theorem compP {own : List Nat} {p : Pt} {cond elt : List Slot → Res R} {m0 : List Slot} (P : T → Bool) (g : T → T) : ∀ (xs acc : List T), (∀ x ∈ xs, ∃ m1, bindP (wipeM m0 own) p x = some m1 ∧ wipeM m1 own = m0 ∧ cond m1 = .ok (.fz (.bl (P x))) m1 ∧ (P x = true → ∃ r, elt m1 = .ok r m1 ∧ esc m1 r.opd = some (g x, m1))) →
    acc.length + xs.length ≤ sizeLine → compGo own p cond elt xs acc m0 = .ok (acc ++ (xs.filter P).map g) m0
  | [], acc, _, _ => by rw [compGo]; simp
  | x :: xs, acc, h, hl => by
    obtain ⟨m1, h1, h5, h2, h3⟩ := h x List.mem_cons_self
    simp only [List.length_cons] at hl
    unfold compGo
    cases hp : P x with
    | true =>
      obtain ⟨r, h3, h4⟩ := h3 hp
      rw [hp] at h2
      simp only [h1, h2, Res.bind, h3, h4, h5]
      rw [if_pos (by omega), compP P g xs (acc ++ [g x]) (fun y hy => h y (List.mem_cons_of_mem _ hy)) (by simp; omega), List.append_assoc, List.filter_cons, hp]
      rfl
    | false =>
      rw [hp] at h2
      simp only [h1, h2, Res.bind, h5]
      rw [compP P g xs acc (fun y hy => h y (List.mem_cons_of_mem _ hy)) (by omega), List.filter_cons, hp]
      rfl
/-! whole numbers -/
noncomputable abbrev tI (xs : List Int) : List T := xs.map T.int
theorem tI_cons {a : Int} {r : List Int} : tI (a :: r) = .int a :: tI r := rfl
noncomputable def rngI (lo hi : Int) : List Int := (List.range (hi - lo).toNat).map fun (k : Nat) => lo + (k : Int)
theorem rangeT_eq (lo hi : Int) : rangeT lo hi = tI (rngI lo hi) := by unfold rangeT rngI tI; rw [List.map_map]; rfl
theorem len_rngI (lo hi : Int) : (rngI lo hi).length = (hi - lo).toNat := by simp [rngI]
theorem bools_map {α : Type} (f : α → Bool) : ∀ xs : List α, bools (xs.map fun x => T.bl (f x)) = some (xs.map f)
  | [] => rfl
  | a :: r => by simp only [List.map_cons, bools, bools_map f r, Option.map_some]
theorem all_map {α : Type} (f : α → Bool) (xs : List α) : allF (.lst (xs.map fun x => T.bl (f x))) = fB (xs.all f) := by
  show (bools (xs.map fun x => T.bl (f x))).bind (fun bs => fB (bs.all id)) = _
  rw [bools_map]
  show fB ((xs.map f).all id) = _
  rw [List.all_map]
  rfl
/-! ### equality of lists, of dicts -/
theorem pyTs_tI : ∀ xs : List Int, pyTs (tI xs) = some (xs.map PyData.int)
  | [] => rfl
  | a :: r => by rw [tI_cons, pyTs, pyTs_tI r]; rfl
theorem lay_tI : ∀ xs : List Int, PyData.canLayAll0 (xs.map PyData.int) = true
  | [] => rfl
  | a :: r => by rw [List.map_cons, PyData.canLayAll0, lay_tI r]; rfl
theorem depth_tI : ∀ xs : List Int, PyData.depthAll (xs.map PyData.int) = 0
  | [] => rfl
  | a :: r => by rw [List.map_cons, PyData.depthAll, depth_tI r]; rfl
theorem eqv_tI : ∀ xs ys : List Int, PyData.eqvAll (xs.map PyData.int) (ys.map PyData.int) = decide (xs = ys)
  | [], [] => rfl
  | [], _ :: _ => by simp [PyData.eqvAll]
  | _ :: _, [] => by simp [PyData.eqvAll]
  | x :: xs, y :: ys => by
    rw [List.map_cons, List.map_cons, PyData.eqvAll, eqv_tI xs ys]
    show (PyData.eqv (.int x) (.int y) && _) = _
    have : PyData.eqv (.int x) (.int y) = decide (x = y) := by
      simp only [PyData.eqv]
      by_cases h : x = y <;> simp [h]
    rw [this, ← Bool.decide_and]
    exact decide_eq_decide.mpr (by rw [List.cons.injEq])
theorem shaped_tI (xs : List Int) : SeqAt.shaped (.list (xs.map PyData.int)) = true := by
  show (PyData.canLay0 (.list _) && decide (PyData.depth (.list _) ≤ 64)) = true
  rw [PyData.canLay0, lay_tI, PyData.depth, depth_tI]
  rfl
theorem eq_tI (k : Bool → Bool) (xs ys : List Int) : eqF (.lst (tI xs)) (.lst (tI ys)) k = fB (k (decide (xs = ys))) := by
  show (match pyT (.lst (tI xs)), pyT (.lst (tI ys)) with
    | some d, some e => if SeqAt.shaped d = true ∧ SeqAt.shaped e = true then fB (k (PyData.eqv d e)) else none
    | _, _ => _) = _
  have h : ∀ xs, pyT (.lst (tI xs)) = some (.list (xs.map PyData.int)) := fun xs => by rw [pyT, pyTs_tI]; rfl
  rw [h xs, h ys]
  simp only
  rw [if_pos ⟨shaped_tI xs, shaped_tI ys⟩, PyData.eqv, eqv_tI]
theorem eq_nil (k : Bool → Bool) (xs : List Int) : eqF (.lst (tI xs)) (.lst []) k = fB (k (decide (xs = []))) := eq_tI k xs []
/-! ### texts -/
noncomputable def istr (i : Int) : PySem.Str := toString i
noncomputable abbrev tS (xs : List PySem.Str) : List T := xs.map T.str
theorem strs_tS : ∀ xs : List PySem.Str, strsT (tS xs) = some xs
  | [] => rfl
  | a :: r => by show (strsT (tS r)).map _ = _; rw [strs_tS r]; rfl
noncomputable def JoinOk (xs : List PySem.Str) : Prop := (xs.map (·.length)).sum + xs.length * 1 ≤ 16777216
theorem join_eq (sep : PySem.Str) (l : List PySem.Str) : Txt.join sep l = PySem.Str.join sep l := by
  cases l with
  | nil => rfl
  | cons a r => exact PySem.StrLaws.glued_eq_join sep (a :: r)
noncomputable def Small (i : Int) : Prop := i.natAbs.log2 < 1920
theorem str_int {i : Int} (h : Small i) : strF (.int i) = some (.fz (.str (istr i))) := if_pos h
/-! ### equal things are the same -/
theorem sameT_refl {t : T} (h : flatT t = true) : sameT t t = true := by
  cases t <;> first | (cases h; done) | simp [sameT]
end Mi
set_option maxHeartbeats 1000000
namespace Mi
open PySem PySem.Spec PyProof.Rows L2

section
variable {C : Ct} {X : Cx} {k L : Nat} {cal : Nat → List Slot → CRes} {pos p1 p2 : Pos}
/-! ### functions of two arguments -/
/-! ### list(range(..)) -/
/-! ### the truth of an instance -/
section
variable {tab : Nat → Option (He5.DefA × List Str)} {fx : List Fx} {gk : List (Str × T)} {cn : List Str}
end
/-! ### a method's call by keywords alone -/
theorem kbindsN {K : PySem.W.Frag} {x qual : Str} {params : Arguments} {body : List Stmt} {scope : Scope} {kws : List (Str × V)} {f : Addr} {fd : FuncData} {ps : List Str} (F : L2.FunD K x qual params body scope [] kws f fd) (n : Nat) (ks : List Str) (g : {α : Type} → List α → List α → List α)
    (hrel : ∀ {vs zs : List V} {us ws : List Value}, Vals vs us → Vals zs ws → Vals (g vs zs) (g us ws))
    (h : ∀ (kV doc pm : Value) (an : Option Addr) (cdv ct : Value) (us ws : List Value), us.length = n → ws.length = ks.length → bindArgs (PySem.W.fnOf x qual params body scope .none kV doc pm an cdv ct) ⟨us, ks.zip ws⟩ = pure (ps.zip (g us ws))) : KBn K fd ps n ks (fun us ws => g us ws) (fun vs zs => g vs zs) := by
  obtain ⟨oc, od, dV, kV, doc, pm, an, cdv, ct, osl, rfl, lk, hcd, hD, hK⟩ := F.ex
  rcases hD with ⟨_, rfl⟩ | ⟨e, _⟩
  · exact ⟨fun s us ws X l1 l2 => .of_eq (h kV doc pm an cdv ct us ws l1 l2), fun r1 r2 => hrel r1 r2⟩
  · exact absurd rfl e
theorem pe_methK0 {o : Expr} {kws : List Keyword} {apos : Pos} {pl : Sem Bool} {CX : CXT} {k : Nat} {A f : Addr} {fd : FuncData} {m : Str} {ps ks : List Str} {sp : Sp} {E : XK} {ta : TE} {tk : TA} {g : List Value → List Value → List Value} {gV : List V → List V → List V} (he : PE X o ta) (c : Cls X.K A) (hm : Meth X.K A m f) (F : FnOk X.prog X.w X.K X.mg X.base CX k f fd ps sp) (hr : Room k X.A) (hb : KBn X.K fd ps 1 ks g gV) (hx : Passes CX X E) (hkw : PK X kws tk)
    (hall : (backToKw pos (keywordEach kws X.env)).all (·.1.isSome) = true) (hks : (backToKw pos (keywordEach kws X.env)).filterMap (·.1) = ks)
    (hpl : ((backTo pos (starEach [] X.env)).any (·.1) || (backToKw pos (keywordEach kws X.env)).any (·.1.isNone)) = false)
    (ht : eval (.Call (.Attribute o m apos) [] kws pos) X.env = (do
      let ov ← eval o X.env
      standAt apos.atName
      let (f, first) ← holding [ov] (getMethod ov m pl)
      callWith pos f first (backTo pos (starEach [] X.env)) (backToKw pos (keywordEach kws X.env)))) :
    PE X (.Call (.Attribute o m apos) [] kws pos) (fun σ H Q => ta σ H fun x H1 => ∃ a dx fs, x = .ref a ∧ H1 a = some (.ins A dx fs) ∧ fs.lookup m = none ∧ tk σ H1 fun zs H2 => zs.length = ks.length ∧ sp (gV [.ref a] zs) H2 Q E) := by
  refine ⟨fun pins s σ H Q I h => ?_⟩
  refine PySem.W.methodCall_KW (pl := pl) (thn (he.run pins s σ H _ I h) fun u s1 ⟨x, H1, I1, rx, a, dx, fs, ex, ea, l, q⟩ => ?_) ht
  subst ex
  obtain rfl : u = Value.ref a := rx
  refine getmeth_ok I1 ea c hm l ?_
  refine PySem.W.callWith_KW0 (first := [.ref a]) (h₀ := X.base) I.ok.mod.kin hm.kp hall ?_ hpl
  refine thn (hkw.run pos pins s1 σ H1 _ I1 q) fun ws s2 ⟨zs, H2, I2, rz, l2, q2⟩ => ⟨I2.kIn, ?_⟩
  rw [hks]
  have r1 : Vals [V.ref a] [Value.ref a] := .cons rfl .nil
  have r2 := hb.rel r1 rz
  refine wpAny_call (codeAny_mono (F.run X.A X.stack s2 H2 ⟨[.ref a], ks.zip ws⟩ (g [.ref a] ws) (gV [.ref a] zs) Q E hr I2.env0 (hb.to s2 [.ref a] ws I2.kIn rfl (rz.length.symm.trans l2)) r2 q2) fun r s' hq => ?_)
  cases r with
  | error e => exact hx pins σ H2 s2 e s' I2 hq
  | ok fl =>
    cases fl with
    | ret u => exact I2.after hq
    | next => exact False.elim hq
    | brk => exact False.elim hq
    | cont => exact False.elim hq
section
variable {tab : Nat → Option (He5.DefA × List Str)} {fx : List Fx} {gk : List (Str × T)} {cn : List Str}
theorem q_methK (c : XC C X k) (e : GX tab fx gk cn X k C.G cal) {pl : Sem Bool} {apos : Pos} {cl f ic im : Nat} {nm m : Str} {d : He5.DefA} {ps ks : List Str} {o : Expr} {kws : List Keyword} {io : List Bool} {a : E} {es : Es} (hcl : cn[cl]? = some nm) (hic : fx[ic]? = some (.cls nm)) (him : fx[im]? = some (.meth nm m)) (ht : tab f = some (d, ps))
    (hat : d.at_ = fun K => He.ma K (He.ga K nm) m) (b : KBnd d ps ks []) (hlen : es.len = ks.length) (ha : PE X o (rdE C (evE cal a))) (h : PK X kws (rdDs C (evDs cal es)))
    (hall : (backToKw pos (keywordEach kws X.env)).all (·.1.isSome) = true := by rfl) (hks : (backToKw pos (keywordEach kws X.env)).filterMap (·.1) = ks := by rfl)
    (hpl : ((backTo pos (starEach [] X.env)).any (·.1) || (backToKw pos (keywordEach kws X.env)).any (·.1.isNone)) = false := by rfl)
    (he : eval (.Call (.Attribute o m apos) [] kws pos) X.env = (do
      let ov ← eval o X.env
      standAt apos.atName
      let (f, first) ← holding [ov] (getMethod ov m pl)
      callWith pos f first (backTo pos (starEach [] X.env)) (backToKw pos (keywordEach kws X.env))) := by rfl) :
    PE X (.Call (.Attribute o m apos) [] kws pos) (rdE C (evE cal (.meth cl f m io a es))) := by
  obtain ⟨fd, F, ok⟩ := e.fns f d ps ht
  replace ok := ok.imp (sp' := spM C.G cal f) fun vs H Q E h => ⟨fun z => (by rw [b.nc] at z; cases z), h⟩
  obtain ⟨g, gV, kb, hg2⟩ := b.b F
  have ha' : d.at_ X.K = He.ma X.K (He.ga X.K nm) m := by rw [hat]
  rw [ha'] at ok
  refine PE.imp (pe_methK0 (pl := pl) (pe_opd ha) (e.clsA hcl hic).cl (e.meth hcl him) ok c.low kb passEF h hall hks hpl he) fun σ H Q ⟨w, m, eH, P, q⟩ => ?_
  rw [evE, Res.sat_bind] at q
  refine ⟨w, m, eH, P, ?_⟩
  rw [opdF, Res.sat_bind]
  refine Res.sat_mono q fun r m1 q1 w1 v S1 x1 r1 => ?_
  split at q1
  · rename_i c' fs hd
    split at q1
    · rename_i hcc
      obtain ⟨rfl, hl⟩ := hcc
      obtain ⟨p, dx, gs, rfl, h1, h2⟩ := (S1.der r1 hd).ins
      refine ⟨p, dx, gs, rfl, h1, h2.lookN hl, ?_⟩
      rw [Res.sat_bind] at q1
      refine ⟨w1, m1, rfl, P.step S1 x1, ?_⟩
      cases hds : evDs cal es m1 with
      | no => rw [hds] at q1; exact q1.elim
      | ex x m2 => rw [hds] at q1; exact q1
      | ok ds m2 =>
        rw [hds] at q1
        intro w2 vs S2 x2 r2
        have hl' : vs.length = ks.length := by rw [← r2.len, evDs_len es m1 ds m2 hds, hlen]
        refine ⟨hl', ?_⟩
        rw [hg2 _ _ hl']
        exact call_quiet ((P.step S1 x1).step S2 x2) (.cons (r1.mono x2.mo) r2) (Res.sat_mono q1 fun r m3 k w' v S' x' rr => k w' v S' (x1.trans (x2.trans x')) rr)
    · exact q1.elim
  · exact q1.elim
end
end
end Mi
set_option maxHeartbeats 1000000
namespace Mi
open PySem PySem.Spec PyProof.Rows L2

section
variable {C : Ct} {X : Cx} {k L : Nat} {cal : Nat → List Slot → CRes} {pos apos p1 p2 : Pos}
/-! ### classmethods: C.m() -/
section
variable {tab : Nat → Option (He5.DefA × List Str)} {fx : List Fx} {gk : List (Str × T)} {cn : List Str}
/-! ### cls(..) in a classmethod -/
end
end
end Mi
set_option maxHeartbeats 1000000
namespace Mi
open PySem PySem.Spec PyProof.Rows L2

/-! ### wishes: the evaluator, forward -/
@[irreducible] def wE (cal : Nat → List Slot → CRes) (e : E) (m : List Slot) (Q : R → List Slot → Prop) : Prop := ∃ r m', evE cal e m = .ok r m' ∧ Q r m'
@[irreducible] def wD (cal : Nat → List Slot → CRes) (es : Es) (m : List Slot) (Q : List Opd → List Slot → Prop) : Prop := ∃ r m', evDs cal es m = .ok r m' ∧ Q r m'
@[irreducible] def wS (cal : Nat → List Slot → CRes) (s : Src) (m : List Slot) (Q : List T → List Slot → Prop) : Prop := ∃ r m', evSrc cal s m = .ok r m' ∧ Q r m'
@[irreducible] def wA (cal : Nat → List Slot → CRes) (es : Es) (m : List Slot) (Q : R → List Slot → Prop) : Prop := ∃ r m', evAll cal es m = .ok r m' ∧ Q r m'
structure En where
  nx : List Slot → Prop
  rt : R → List Slot → Prop
  bk : List Slot → Prop
  ct : List Slot → Prop
noncomputable abbrev En.seq (D : En) (f : List Slot → Prop) : En := ⟨f, D.rt, D.bk, D.ct⟩
noncomputable def Fl.sat (D : En) : Fl → Prop
  | .nx m => D.nx m
  | .rt r m => D.rt r m
  | .bk m => D.bk m
  | .ct m => D.ct m
  | _ => False
@[irreducible] def wT (cal : Nat → List Slot → CRes) (L : Nat) (s : S) (m : List Slot) (D : En) : Prop := (evS cal L s m).sat D
@[irreducible] def wB (cal : Nat → List Slot → CRes) (L : Nat) (s : Ss) (m : List Slot) (D : En) : Prop := (evSs cal L s m).sat D
@[irreducible] def wC (cal : Nat → List Slot → CRes) (f : Nat) (args : List Slot) (Q : R → List Slot → Prop) : Prop := ∃ r outs, cal f args = .ok r outs ∧ (∀ i, r ≠ .bo i) ∧ Q r outs
@[irreducible] def wO (f : Op) (ts : List T) (Q : R → Prop) : Prop := ∃ r, opF f ts = some r ∧ Q r
theorem Fl.sat_mono {D D' : En} {f : Fl} (h : f.sat D) (h1 : ∀ m, D.nx m → D'.nx m) (h2 : ∀ r m, D.rt r m → D'.rt r m) (h3 : ∀ m, D.bk m → D'.bk m) (h4 : ∀ m, D.ct m → D'.ct m) : f.sat D' := by
  cases f with
  | nx m => exact h1 _ h
  | rt r m => exact h2 _ _ h
  | bk m => exact h3 _ h
  | ct m => exact h4 _ h
  | ex x m => exact h
  | no => exact h
section
variable {cal : Nat → List Slot → CRes} {L : Nat} {m : List Slot} {Q : R → List Slot → Prop} {D : En}
theorem wE.mono {e : E} {Q' : R → List Slot → Prop} (h : wE cal e m Q) (k : ∀ r m, Q r m → Q' r m) : wE cal e m Q' := by
  (try unfold wE at *); (try unfold wD at *); (try unfold wS at *); (try unfold wA at *); (try unfold wT at *); (try unfold wB at *); (try unfold wC at *); (try unfold wO at *); (try unfold wJ at *); (try unfold wX at *)
  obtain ⟨r, m', e1, q⟩ := h
  exact ⟨r, m', e1, k _ _ q⟩
theorem wE.of {e : E} {r : R} {m' : List Slot} (h : evE cal e m = .ok r m') (q : Q r m') : wE cal e m Q := by (try unfold wE at *); (try unfold wD at *); (try unfold wS at *); (try unfold wA at *); (try unfold wT at *); (try unfold wB at *); (try unfold wC at *); (try unfold wO at *); (try unfold wJ at *); (try unfold wX at *); exact ⟨r, m', h, q⟩
theorem wC.of {f : Nat} {args outs : List Slot} {r : R} (h : cal f args = .ok r outs) (nb : ∀ i, r ≠ .bo i) (q : Q r outs) : wC cal f args Q := by (try unfold wE at *); (try unfold wD at *); (try unfold wS at *); (try unfold wA at *); (try unfold wT at *); (try unfold wB at *); (try unfold wC at *); (try unfold wO at *); (try unfold wJ at *); (try unfold wX at *); exact ⟨r, outs, h, nb, q⟩
theorem wC.fz {f : Nat} {args outs : List Slot} {t : T} (h : cal f args = .ok (.fz t) outs) (q : Q (.fz t) outs) : wC cal f args Q := by (try unfold wE at *); (try unfold wD at *); (try unfold wS at *); (try unfold wA at *); (try unfold wT at *); (try unfold wB at *); (try unfold wC at *); (try unfold wO at *); (try unfold wJ at *); (try unfold wX at *); exact ⟨_, outs, h, (fun _ z => nomatch z), q⟩
theorem wC.ow {f : Nat} {args outs : List Slot} {o : O} (h : cal f args = .ok (.ow o) outs) (q : Q (.ow o) outs) : wC cal f args Q := by (try unfold wE at *); (try unfold wD at *); (try unfold wS at *); (try unfold wA at *); (try unfold wT at *); (try unfold wB at *); (try unfold wC at *); (try unfold wO at *); (try unfold wJ at *); (try unfold wX at *); exact ⟨_, outs, h, (fun _ z => nomatch z), q⟩
theorem wC.mono {f : Nat} {args : List Slot} {Q' : R → List Slot → Prop} (h : wC cal f args Q) (k : ∀ r m, Q r m → Q' r m) : wC cal f args Q' := by
  (try unfold wE at *); (try unfold wD at *); (try unfold wS at *); (try unfold wA at *); (try unfold wT at *); (try unfold wB at *); (try unfold wC at *); (try unfold wO at *); (try unfold wJ at *); (try unfold wX at *)
  obtain ⟨r, m', e1, n, q⟩ := h
  exact ⟨r, m', e1, n, k _ _ q⟩
theorem wC.eq_fz {f : Nat} {args : List Slot} {t : T} {outs : List Slot} (h : wC cal f args fun r o => r = .fz t ∧ o = outs) : cal f args = .ok (.fz t) outs := by
  (try unfold wE at *); (try unfold wD at *); (try unfold wS at *); (try unfold wA at *); (try unfold wT at *); (try unfold wB at *); (try unfold wC at *); (try unfold wO at *); (try unfold wJ at *); (try unfold wX at *)
  obtain ⟨r, o, e, _, rfl, rfl⟩ := h
  exact e
theorem wC.eq_ow {f : Nat} {args : List Slot} {t : O} {outs : List Slot} (h : wC cal f args fun r o => r = .ow t ∧ o = outs) : cal f args = .ok (.ow t) outs := by
  (try unfold wE at *); (try unfold wD at *); (try unfold wS at *); (try unfold wA at *); (try unfold wT at *); (try unfold wB at *); (try unfold wC at *); (try unfold wO at *); (try unfold wJ at *); (try unfold wX at *)
  obtain ⟨r, o, e, _, rfl, rfl⟩ := h
  exact e
theorem wO.of {f : Op} {ts : List T} {P : R → Prop} {r : R} (h : opF f ts = some r) (q : P r) : wO f ts P := by (try unfold wE at *); (try unfold wD at *); (try unfold wS at *); (try unfold wA at *); (try unfold wT at *); (try unfold wB at *); (try unfold wC at *); (try unfold wO at *); (try unfold wJ at *); (try unfold wX at *); exact ⟨r, h, q⟩
theorem wif0 {k : Bool} {A B : Prop} (h : k = false) (b : B) : (k = true → A) ∧ (k = false → B) := ⟨fun z => (by rw [h] at z; cases z), fun _ => b⟩
theorem wif1 {k : Bool} {A B : Prop} (h : k = true) (a : A) : (k = true → A) ∧ (k = false → B) := ⟨fun _ => a, fun z => (by rw [h] at z; cases z)⟩
/-! expressions -/
theorem wp_c {t : T} (q : Q (.fz t) m) : wE cal (.c t) m Q := by (try unfold wE at *); (try unfold wD at *); (try unfold wS at *); (try unfold wA at *); (try unfold wT at *); (try unfold wB at *); (try unfold wC at *); (try unfold wO at *); (try unfold wJ at *); (try unfold wX at *); exact ⟨_, _, ev_c, q⟩
theorem wp_var {i : Nat} {t : T} (h : m[i]? = some (.fz t)) (q : Q (.fz t) m) : wE cal (.var i) m Q := by (try unfold wE at *); (try unfold wD at *); (try unfold wS at *); (try unfold wA at *); (try unfold wT at *); (try unfold wB at *); (try unfold wC at *); (try unfold wO at *); (try unfold wJ at *); (try unfold wX at *); exact ⟨_, _, ev_var h, q⟩
theorem wp_bo {i : Nat} {o : O} (h : m[i]? = some (.ow o)) (q : Q (.bo i) m) : wE cal (.var i) m Q := by (try unfold wE at *); (try unfold wD at *); (try unfold wS at *); (try unfold wA at *); (try unfold wT at *); (try unfold wB at *); (try unfold wC at *); (try unfold wO at *); (try unfold wJ at *); (try unfold wX at *); exact ⟨_, _, (by rw [evE, h]), q⟩
theorem dp_nil {Q : List Opd → List Slot → Prop} (q : Q [] m) : wD cal .nil m Q := by (try unfold wE at *); (try unfold wD at *); (try unfold wS at *); (try unfold wA at *); (try unfold wT at *); (try unfold wB at *); (try unfold wC at *); (try unfold wO at *); (try unfold wJ at *); (try unfold wX at *); exact ⟨_, _, ds_nil, q⟩
theorem dp_cons {e : E} {r : Es} {Q : List Opd → List Slot → Prop} (h : wE cal e m fun x m1 => wD cal r m1 fun xs m2 => Q (x.opd :: xs) m2) : wD cal (.cons e r) m Q := by
  (try unfold wE at *); (try unfold wD at *); (try unfold wS at *); (try unfold wA at *); (try unfold wT at *); (try unfold wB at *); (try unfold wC at *); (try unfold wO at *); (try unfold wJ at *); (try unfold wX at *)
  obtain ⟨x, m1, h1, xs, m2, h2, q⟩ := h
  exact ⟨_, _, (by rw [evDs, h1]; simp only [Res.bind, h2]), q⟩
theorem wp_op {f : Op} {es : Es} (h : wD cal es m fun ds m1 => ∃ ts, ders m1 ds = some ts ∧ wO f ts fun r => Q r m1) : wE cal (.op f es) m Q := by
  (try unfold wE at *); (try unfold wD at *); (try unfold wS at *); (try unfold wA at *); (try unfold wT at *); (try unfold wB at *); (try unfold wC at *); (try unfold wO at *); (try unfold wJ at *); (try unfold wX at *)
  obtain ⟨ds, m1, h1, ts, h2, r, h3, q⟩ := h
  exact ⟨_, _, (by rw [evE, h1]; simp only [Res.bind, opR, h2, h3]), q⟩
theorem wp_lst {es : Es} (h : wD cal es m fun ds m1 => ∃ ts m2, escs m1 ds = some (ts, m2) ∧ Nat.ble ts.length sizeLine = true ∧ Q (.ow (.lst ts)) m2) : wE cal (.lst es) m Q := by
  (try unfold wE at *); (try unfold wD at *); (try unfold wS at *); (try unfold wA at *); (try unfold wT at *); (try unfold wB at *); (try unfold wC at *); (try unfold wO at *); (try unfold wJ at *); (try unfold wX at *)
  obtain ⟨ds, m1, h1, ts, m2, h2, h3, q⟩ := h
  exact ⟨_, _, (by rw [evE, h1]; simp only [Res.bind, h2, if_pos (Nat.le_of_ble_eq_true h3)]), q⟩
theorem wp_tup {es : Es} (h : wD cal es m fun ds m1 => ∃ ts m2, escs m1 ds = some (ts, m2) ∧ Nat.ble ts.length sizeLine = true ∧ Q (.fz (.tup ts)) m2) : wE cal (.tup es) m Q := by
  (try unfold wE at *); (try unfold wD at *); (try unfold wS at *); (try unfold wA at *); (try unfold wT at *); (try unfold wB at *); (try unfold wC at *); (try unfold wO at *); (try unfold wJ at *); (try unfold wX at *)
  obtain ⟨ds, m1, h1, ts, m2, h2, h3, q⟩ := h
  exact ⟨_, _, (by rw [evE, h1]; simp only [Res.bind, h2, if_pos (Nat.le_of_ble_eq_true h3)]), q⟩
theorem wp_dic0 (q : Q (.ow (.dic [])) m) : wE cal .dic0 m Q := by (try unfold wE at *); (try unfold wD at *); (try unfold wS at *); (try unfold wA at *); (try unfold wT at *); (try unfold wB at *); (try unfold wC at *); (try unfold wO at *); (try unfold wJ at *); (try unfold wX at *); exact ⟨_, _, (by rw [evE]), q⟩
theorem wp_dsc {kvs : List (Key × T)} (h : (kvs.all fun kv => flatT kv.2) = true) (hl : Nat.ble kvs.length 15 = true) (q : Q (.ow (.dic (putsT [] kvs))) m) : wE cal (.dsc kvs) m Q := by
  unfold wE
  exact ⟨_, _, (by rw [evE, if_pos ⟨h, Nat.le_of_ble_eq_true hl⟩]), q⟩
theorem wp_dgt {a b c : E} (h : wE cal a m fun ra m1 => ∃ l, der m1 ra.opd = some (.dic l) ∧ wE cal b m1 fun rb m2 => wE cal c m2 fun rc m3 => ∃ kvs k x q, der m3 ra.opd = some (.dic kvs) ∧ der m3 rb.opd = some k ∧ der m3 rc.opd = some x ∧ flatT x = true ∧ keyT k = some q ∧ Q (.fz ((valT kvs q).getD x)) m3) : wE cal (.dgt a b c) m Q := by
  unfold wE at *
  obtain ⟨ra, m1, h1, l, h2, h⟩ := h
  obtain ⟨rb, m2, h3, h⟩ := h
  obtain ⟨rc, m3, h4, kvs, k, x, q, h5, h6, h7, h8, h9, h⟩ := h
  refine ⟨_, _, ?_, h⟩
  rw [evE, h1]
  simp only [Res.bind, h2]
  rw [h3]
  simp only
  rw [h4]
  simp only [h5, h6, h7, h8, h9, if_true]
theorem wp_an {a b : E} (h : wE cal a m fun r m1 => ∃ k, r = .fz (.bl k) ∧ (k = true → wE cal b m1 Q) ∧ (k = false → Q (.fz (.bl false)) m1)) : wE cal (.an a b) m Q := by
  (try unfold wE at *); (try unfold wD at *); (try unfold wS at *); (try unfold wA at *); (try unfold wT at *); (try unfold wB at *); (try unfold wC at *); (try unfold wO at *); (try unfold wJ at *); (try unfold wX at *)
  obtain ⟨r, m1, h1, k, rfl, q1, q2⟩ := h
  cases k with
  | true =>
    obtain ⟨r, m2, h2, q⟩ := q1 rfl
    exact ⟨_, _, (ev_an1 h1).trans h2, q⟩
  | false => exact ⟨_, _, ev_an0 h1, q2 rfl⟩
theorem wp_anP {a b : E} (h : wE cal a m fun r m1 => ∃ k, r = .fz (.bl k) ∧ wE cal b m1 fun r2 m2 => ∃ k2, r2 = .fz (.bl k2) ∧ m2 = m1 ∧ Q (.fz (.bl (k && k2))) m1) : wE cal (.an a b) m Q := by
  (try unfold wE at *); (try unfold wD at *); (try unfold wS at *); (try unfold wA at *); (try unfold wT at *); (try unfold wB at *); (try unfold wC at *); (try unfold wO at *); (try unfold wJ at *); (try unfold wX at *)
  obtain ⟨r, m1, h1, k, rfl, r2, m2, h2, k2, rfl, rfl, q⟩ := h
  cases k with
  | true => exact ⟨_, _, (ev_an1 h1).trans h2, by simpa using q⟩
  | false => exact ⟨_, _, ev_an0 h1, by simpa using q⟩
theorem wp_orP {a b : E} (h : wE cal a m fun r m1 => ∃ k, r = .fz (.bl k) ∧ wE cal b m1 fun r2 m2 => ∃ k2, r2 = .fz (.bl k2) ∧ m2 = m1 ∧ Q (.fz (.bl (k || k2))) m1) : wE cal (.or a b) m Q := by
  (try unfold wE at *); (try unfold wD at *); (try unfold wS at *); (try unfold wA at *); (try unfold wT at *); (try unfold wB at *); (try unfold wC at *); (try unfold wO at *); (try unfold wJ at *); (try unfold wX at *)
  obtain ⟨r, m1, h1, k, rfl, r2, m2, h2, k2, rfl, rfl, q⟩ := h
  cases k with
  | false => exact ⟨_, _, (ev_or0 h1).trans h2, by simpa using q⟩
  | true => exact ⟨_, _, ev_or1 h1, by simpa using q⟩
theorem wp_nt {a : E} (h : wE cal a m fun r m1 => ∃ k, r = .fz (.bl k) ∧ Q (.fz (.bl (!k))) m1) : wE cal (.nt a) m Q := by
  (try unfold wE at *); (try unfold wD at *); (try unfold wS at *); (try unfold wA at *); (try unfold wT at *); (try unfold wB at *); (try unfold wC at *); (try unfold wO at *); (try unfold wJ at *); (try unfold wX at *)
  obtain ⟨r, m1, h1, k, rfl, q⟩ := h
  exact ⟨_, _, ev_nt h1, q⟩
theorem wp_ite {c a b : E} (h : wE cal c m fun r m1 => ∃ k, r = .fz (.bl k) ∧ (k = true → wE cal a m1 Q) ∧ (k = false → wE cal b m1 Q)) : wE cal (.ite c a b) m Q := by
  (try unfold wE at *); (try unfold wD at *); (try unfold wS at *); (try unfold wA at *); (try unfold wT at *); (try unfold wB at *); (try unfold wC at *); (try unfold wO at *); (try unfold wJ at *); (try unfold wX at *)
  obtain ⟨r, m1, h1, k, rfl, q1, q2⟩ := h
  cases k with
  | true =>
    obtain ⟨r, m2, h2, q⟩ := q1 rfl
    exact ⟨_, _, (by rw [evE, h1]; exact h2), q⟩
  | false =>
    obtain ⟨r, m2, h2, q⟩ := q2 rfl
    exact ⟨_, _, (by rw [evE, h1]; exact h2), q⟩
theorem wp_ch {f g : Op} {a b c : E} (h : wE cal a m fun ra m1 => wE cal b m1 fun rb m2 => ∃ ts, ders m2 [ra.opd, rb.opd] = some ts ∧ wO f ts fun r => ∃ k, r = .fz (.bl k) ∧ (k = true → wE cal c m2 fun rc m4 => ∃ us, ders m4 [rb.opd, rc.opd] = some us ∧ wO g us fun r => Q r m4) ∧ (k = false → Q (.fz (.bl false)) m2)) : wE cal (.ch f g a b c) m Q := by
  (try unfold wE at *); (try unfold wD at *); (try unfold wS at *); (try unfold wA at *); (try unfold wT at *); (try unfold wB at *); (try unfold wC at *); (try unfold wO at *); (try unfold wJ at *); (try unfold wX at *)
  obtain ⟨ra, m1, h1, rb, m2, h2, ts, h3, r, h4, k, rfl, q1, q2⟩ := h
  cases k with
  | true =>
    obtain ⟨rc, m4, h5, us, h6, r, h7, q⟩ := q1 rfl
    exact ⟨_, _, (by rw [evE, h1]; simp only [Res.bind]; rw [h2]; simp only [opR, h3, h4]; rw [h5]; simp only [h6, h7]), q⟩
  | false => exact ⟨_, _, (by rw [evE, h1]; simp only [Res.bind]; rw [h2]; simp only [opR, h3, h4]), q2 rfl⟩
theorem wp_jn {a b : E} (h : wE cal a m fun ra m1 => ∃ z, der m1 ra.opd = some (.str z) ∧ wE cal b m1 fun rb m2 => ∃ t r, der m2 rb.opd = some t ∧ joinF (.str z) t = some r ∧ Q r m2) : wE cal (.jn a b) m Q := by
  (try unfold wE at *); (try unfold wD at *); (try unfold wS at *); (try unfold wA at *); (try unfold wT at *); (try unfold wB at *); (try unfold wC at *); (try unfold wO at *); (try unfold wJ at *); (try unfold wX at *)
  obtain ⟨ra, m1, h1, z, h2, rb, m2, h3, t, r, h4, h5, q⟩ := h
  exact ⟨_, _, (by rw [evE, h1]; simp only [Res.bind, h2]; rw [h3]; simp only [h4, h5]), q⟩
theorem wp_fld {c : Nat} {e : E} {f : PySem.Str} (h : wE cal e m fun r m1 => ∃ fs t, der m1 r.opd = some (.ins c fs) ∧ fs.lookup f = some t ∧ Q (.fz t) m1) : wE cal (.fld c e f) m Q := by
  (try unfold wE at *); (try unfold wD at *); (try unfold wS at *); (try unfold wA at *); (try unfold wT at *); (try unfold wB at *); (try unfold wC at *); (try unfold wO at *); (try unfold wJ at *); (try unfold wX at *)
  obtain ⟨r, m1, h1, fs, t, h2, h3, q⟩ := h
  exact ⟨_, _, (by rw [evE, h1]; simp only [Res.bind, h2, if_true, h3]), q⟩
theorem callR_ok {f : Nat} {io : List Bool} {ds : List Opd} {args m2 outs m3 : List Slot} {r : R} (h2 : pass m io ds = some (args, m2)) (h3 : cal f args = .ok r outs) (nb : ∀ i, r ≠ .bo i) (h4 : back m2 io ds outs = some m3) : callR cal f io ds m = .ok r m3 := by
  unfold callR
  simp only [h2, h3]
  cases r with
  | bo i => exact absurd rfl (nb i)
  | fz t => simp only [h4]
  | ow t => simp only [h4]
@[irreducible] def wK (cal : Nat → List Slot → CRes) (f : Nat) (io : List Bool) (ds : List Opd) (m : List Slot) (Q : R → List Slot → Prop) : Prop := ∃ args m2, pass m io ds = some (args, m2) ∧ wC cal f args fun r outs => ∃ m3, back m2 io ds outs = some m3 ∧ Q r m3
theorem wk_go {f : Nat} {io : List Bool} {ds : List Opd} {args m2 : List Slot} (h : pass m io ds = some (args, m2)) (q : wC cal f args fun r outs => ∃ m3, back m2 io ds outs = some m3 ∧ Q r m3) : wK cal f io ds m Q := by
  unfold wK; exact ⟨args, m2, h, q⟩
theorem wK.run {f : Nat} {io : List Bool} {ds : List Opd} (h : wK cal f io ds m Q) : ∃ r m', callR cal f io ds m = .ok r m' ∧ Q r m' := by
  unfold wK wC at h
  obtain ⟨args, m2, h2, r, outs, h3, nb, m3, h4, q⟩ := h
  exact ⟨_, _, callR_ok h2 h3 nb h4, q⟩
theorem wp_call {f : Nat} {io : List Bool} {es : Es} (h : wD cal es m fun ds m1 => wK cal f io ds m1 Q) : wE cal (.call f io es) m Q := by
  (try unfold wE at *); (try unfold wD at *); (try unfold wS at *); (try unfold wA at *); (try unfold wT at *); (try unfold wB at *); (try unfold wC at *); (try unfold wO at *); (try unfold wJ at *); (try unfold wX at *)
  obtain ⟨ds, m1, h1, h2⟩ := h
  obtain ⟨r, m', h3, q⟩ := h2.run
  exact ⟨_, _, (by rw [evE, h1]; exact h3), q⟩
theorem wp_prop {c f : Nat} {e : E} (h : wE cal e m fun r m1 => ∃ fs, der m1 r.opd = some (.ins c fs) ∧ wK cal f [false] [r.opd] m1 Q) : wE cal (.prop c f e) m Q := by
  (try unfold wE at *); (try unfold wD at *); (try unfold wS at *); (try unfold wA at *); (try unfold wT at *); (try unfold wB at *); (try unfold wC at *); (try unfold wO at *); (try unfold wJ at *); (try unfold wX at *)
  obtain ⟨r, m1, h1, fs, h2, h3⟩ := h
  obtain ⟨r', m', h4, q⟩ := h3.run
  exact ⟨_, _, (by rw [evE, h1]; simp only [Res.bind, h2, if_true, h4, Res.calm]), q⟩
theorem wp_meth {c f : Nat} {n : PySem.Str} {io : List Bool} {e : E} {es : Es} (h : wE cal e m fun r m1 => ∃ fs, der m1 r.opd = some (.ins c fs) ∧ fs.lookup n = none ∧ wD cal es m1 fun ds m2 => wK cal f (false :: io) (r.opd :: ds) m2 Q) : wE cal (.meth c f n io e es) m Q := by
  (try unfold wE at *); (try unfold wD at *); (try unfold wS at *); (try unfold wA at *); (try unfold wT at *); (try unfold wB at *); (try unfold wC at *); (try unfold wO at *); (try unfold wJ at *); (try unfold wX at *)
  obtain ⟨r, m1, h1, fs, h2, hn, ds, m2, h3, h4⟩ := h
  obtain ⟨r', m', h5, q⟩ := h4.run
  exact ⟨_, _, (by rw [evE, h1]; simp only [Res.bind, h2, hn, and_self, if_true, h3, h5, Res.calm]), q⟩
theorem wp_mk {c f : Nat} {pm : List Nat} {es : Es} (h : wD cal es m fun ds m1 => ∃ ts m2, escs m1 ds = some (ts, m2) ∧ wC cal f (.ow (.ins c []) :: (pmT pm ts).map .fz) fun r outs => r = .fz .non ∧ ∃ o outs', outs = .ow o :: outs' ∧ Q (.ow o) m2) : wE cal (.mk c f pm es) m Q := by
  (try unfold wE at *); (try unfold wD at *); (try unfold wS at *); (try unfold wA at *); (try unfold wT at *); (try unfold wB at *); (try unfold wC at *); (try unfold wO at *); (try unfold wJ at *); (try unfold wX at *)
  obtain ⟨ds, m1, h1, ts, m2, h2, r, outs, h3, nb, rfl, o, outs', rfl, q⟩ := h
  exact ⟨_, _, (by rw [evE, h1]; simp only [Res.bind, h2, h3]), q⟩
theorem wp_bop {c f : Nat} {a b : E} (h : wE cal a m fun ra m1 => wE cal b m1 fun rb m2 => ∃ fs gs, der m2 ra.opd = some (.ins c fs) ∧ der m2 rb.opd = some (.ins c gs) ∧ wK cal f [false, false] [ra.opd, rb.opd] m2 Q) : wE cal (.bop c f a b) m Q := by
  (try unfold wE at *); (try unfold wD at *); (try unfold wS at *); (try unfold wA at *); (try unfold wT at *); (try unfold wB at *); (try unfold wC at *); (try unfold wO at *); (try unfold wJ at *); (try unfold wX at *)
  obtain ⟨ra, m1, h1, rb, m2, h2, fs, gs, h3, h4, h5⟩ := h
  obtain ⟨r', m', h6, q⟩ := h5.run
  exact ⟨_, _, (by rw [evE, h1]; simp only [Res.bind]; rw [h2]; simp only [h3, h4, and_self, if_true, h6, Res.calm]), q⟩
theorem wp_uop {c f : Nat} {a : E} (h : wE cal a m fun ra m1 => ∃ fs, der m1 ra.opd = some (.ins c fs) ∧ wK cal f [false] [ra.opd] m1 Q) : wE cal (.uop c f a) m Q := by
  (try unfold wE at *); (try unfold wD at *); (try unfold wS at *); (try unfold wA at *); (try unfold wT at *); (try unfold wB at *); (try unfold wC at *); (try unfold wO at *); (try unfold wJ at *); (try unfold wX at *)
  obtain ⟨ra, m1, h1, fs, h3, h5⟩ := h
  obtain ⟨r', m', h6, q⟩ := h5.run
  exact ⟨_, _, (by rw [evE, h1]; simp only [Res.bind, h3, if_true, h6, Res.calm]), q⟩
theorem wp_inn {neg : Bool} {c f : Nat} {a b : E} (h : wE cal a m fun ra m1 => wE cal b m1 fun rb m2 => ∃ fs, der m2 rb.opd = some (.ins c fs) ∧ wK cal f [false, false] [rb.opd, ra.opd] m2 fun r m3 => ∃ k, r = .fz (.bl k) ∧ Q (.fz (.bl (if neg = true then !k else k))) m3) : wE cal (.inn neg c f a b) m Q := by
  (try unfold wE at *); (try unfold wD at *); (try unfold wS at *); (try unfold wA at *); (try unfold wT at *); (try unfold wB at *); (try unfold wC at *); (try unfold wO at *); (try unfold wJ at *); (try unfold wX at *)
  obtain ⟨ra, m1, h1, rb, m2, h2, fs, h3, h5⟩ := h
  obtain ⟨r', m', h6, k, rfl, q⟩ := h5.run
  exact ⟨_, _, (by rw [evE, h1]; simp only [Res.bind]; rw [h2]; simp only [h3, if_true, h6, Res.calm]), q⟩
theorem wp_gti {c f : Nat} {a b : E} (h : wE cal a m fun ra m1 => wE cal b m1 fun rb m2 => ∃ fs, der m2 ra.opd = some (.ins c fs) ∧ wK cal f [false, false] [ra.opd, rb.opd] m2 Q) : wE cal (.gti c f a b) m Q := by
  (try unfold wE at *); (try unfold wD at *); (try unfold wS at *); (try unfold wA at *); (try unfold wT at *); (try unfold wB at *); (try unfold wC at *); (try unfold wO at *); (try unfold wJ at *); (try unfold wX at *)
  obtain ⟨ra, m1, h1, rb, m2, h2, fs, h3, h5⟩ := h
  obtain ⟨r', m', h6, q⟩ := h5.run
  exact ⟨_, _, (by rw [evE, h1]; simp only [Res.bind]; rw [h2]; simp only [h3, if_true, h6, Res.calm]), q⟩
theorem wp_spc {s : Bool} {c f : Nat} {a : E} (h : wE cal a m fun ra m1 => ∃ fs, der m1 ra.opd = some (.ins c fs) ∧ wK cal f [false] [ra.opd] m1 fun r m2 => (match s with | true => ∃ z, r = .fz (.str z) | false => ∃ z, r = .fz (.bl z)) ∧ Q r m2) : wE cal (.spc s c f a) m Q := by
  (try unfold wE at *); (try unfold wD at *); (try unfold wS at *); (try unfold wA at *); (try unfold wT at *); (try unfold wB at *); (try unfold wC at *); (try unfold wO at *); (try unfold wJ at *); (try unfold wX at *)
  obtain ⟨ra, m1, h1, fs, h3, h5⟩ := h
  obtain ⟨r', m', h6, hz, q⟩ := h5.run
  refine ⟨r', m', ?_, q⟩
  rw [evE, h1]
  simp only [Res.bind, h3, if_true, h6, Res.calm]
  cases s with
  | true => obtain ⟨z, rfl⟩ := hz; rfl
  | false => obtain ⟨z, rfl⟩ := hz; rfl
theorem wp_ceq {neg : Bool} {c f : Nat} {a b : E} (h : wE cal a m fun ra m1 => wE cal b m1 fun rb m2 => ∃ fs, der m2 ra.opd = some (.ins c fs) ∧ besideT c (der m2 rb.opd) = true ∧ wK cal f [false, false] [ra.opd, rb.opd] m2 fun r m3 => ∃ k, r = .fz (.bl k) ∧ Q (.fz (.bl (if neg = true then !k else k))) m3) : wE cal (.ceq neg c f a b) m Q := by
  (try unfold wE at *); (try unfold wD at *); (try unfold wS at *); (try unfold wA at *); (try unfold wT at *); (try unfold wB at *); (try unfold wC at *); (try unfold wO at *); (try unfold wJ at *); (try unfold wX at *)
  obtain ⟨ra, m1, h1, rb, m2, h2, fs, h3, h4, h5⟩ := h
  obtain ⟨r', m', h6, k, rfl, q⟩ := h5.run
  exact ⟨_, _, (by rw [evE, h1]; simp only [Res.bind]; rw [h2]; simp only [h3, h4, and_self, if_true, h6, Res.calm]), q⟩
theorem wp_isc {cs ns : List Nat} {e : E} (h : wE cal e m fun r m1 => ∃ k, (match der m1 r.opd with | some (.ins c _) => if c ∈ cs then some true else if c ∈ ns then some false else none | some _ => some false | none => none) = some k ∧ Q (.fz (.bl k)) m1) : wE cal (.isc cs ns e) m Q := by
  (try unfold wE at *); (try unfold wD at *); (try unfold wS at *); (try unfold wA at *); (try unfold wT at *); (try unfold wB at *); (try unfold wC at *); (try unfold wO at *); (try unfold wJ at *); (try unfold wX at *)
  obtain ⟨r, m1, h1, k, h2, q⟩ := h
  refine ⟨_, _, ?_, q⟩
  rw [evE, h1]
  simp only [Res.bind]
  split at h2
  · rename_i c fs hd
    (try rw [hd])
    (try simp only)
    split at h2
    · rename_i hc; cases h2; rw [if_pos hc]
    · rename_i hc
      rw [if_neg hc]
      split at h2
      · rename_i hc2; cases h2; rw [if_pos hc2]
      · cases h2
  · rename_i t hn hd
    (try rw [hd])
    cases h2
    cases t <;> first | rfl | exact (hn _ _ rfl).elim
  · cases h2
theorem wp_lr {s : Src} (h : wS cal s m fun xs m1 => xs.length ≤ sizeLine ∧ Q (.ow (.lst xs)) m1) : wE cal (.lr s) m Q := by
  (try unfold wE at *); (try unfold wD at *); (try unfold wS at *); (try unfold wA at *); (try unfold wT at *); (try unfold wB at *); (try unfold wC at *); (try unfold wO at *); (try unfold wJ at *); (try unfold wX at *)
  obtain ⟨xs, m1, h1, h2, q⟩ := h
  exact ⟨_, _, (by rw [evE, h1]; simp only [Res.bind, if_pos h2]), q⟩
@[irreducible] def wJ (cal : Nat → List Slot → CRes) (es : Es) (acc : PySem.Str) (m : List Slot) (Q : PySem.Str → List Slot → Prop) : Prop := ∃ z m', evJs cal es acc m = .ok z m' ∧ Q z m'
theorem jp_nil {acc : PySem.Str} {Q : PySem.Str → List Slot → Prop} (q : Q acc m) : wJ cal .nil acc m Q := by (try unfold wE at *); (try unfold wD at *); (try unfold wS at *); (try unfold wA at *); (try unfold wT at *); (try unfold wB at *); (try unfold wC at *); (try unfold wO at *); (try unfold wJ at *); (try unfold wX at *); exact ⟨_, _, (by rw [evJs]), q⟩
theorem jp_cons {e : E} {r : Es} {acc : PySem.Str} {Q : PySem.Str → List Slot → Prop} (h : wE cal e m fun x m1 => ∃ y, x = .fz (.str y) ∧ (acc ++ y).length ≤ sizeLine ∧ wJ cal r (acc ++ y) m1 Q) : wJ cal (.cons e r) acc m Q := by
  (try unfold wE at *); (try unfold wD at *); (try unfold wS at *); (try unfold wA at *); (try unfold wT at *); (try unfold wB at *); (try unfold wC at *); (try unfold wO at *); (try unfold wJ at *); (try unfold wX at *)
  obtain ⟨x, m1, h1, y, rfl, hl, z, m', h2, q⟩ := h
  exact ⟨_, _, (by rw [evJs, h1]; simp only [Res.bind, if_pos hl, h2]), q⟩
theorem wp_fst {es : Es} (h : wJ cal es Str.empty m fun z m1 => Q (.fz (.str z)) m1) : wE cal (.fst es) m Q := by
  (try unfold wE at *); (try unfold wD at *); (try unfold wS at *); (try unfold wA at *); (try unfold wT at *); (try unfold wB at *); (try unfold wC at *); (try unfold wO at *); (try unfold wJ at *); (try unfold wX at *)
  obtain ⟨z, m1, h1, q⟩ := h
  exact ⟨_, _, (by rw [evE, h1]; rfl), q⟩
theorem dx_nil {bs : List Bool} : evDx cal .nil bs m = .ok [] m := by rw [evDx]
@[irreducible] def wX (cal : Nat → List Slot → CRes) (es : Es) (bs : List Bool) (m : List Slot) (Q : List Opd → List Slot → Prop) : Prop := ∃ ds m', evDx cal es bs m = .ok ds m' ∧ Q ds m'
theorem xp_nil {bs : List Bool} {Q : List Opd → List Slot → Prop} (q : Q [] m) : wX cal .nil bs m Q := by (try unfold wE at *); (try unfold wD at *); (try unfold wS at *); (try unfold wA at *); (try unfold wT at *); (try unfold wB at *); (try unfold wC at *); (try unfold wO at *); (try unfold wJ at *); (try unfold wX at *); exact ⟨_, _, dx_nil, q⟩
theorem xp_one {e : E} {r : Es} {bs : List Bool} {Q : List Opd → List Slot → Prop} (h : wE cal e m fun x m1 => wX cal r bs m1 fun ds m2 => Q (x.opd :: ds) m2) : wX cal (.cons e r) (false :: bs) m Q := by
  (try unfold wE at *); (try unfold wD at *); (try unfold wS at *); (try unfold wA at *); (try unfold wT at *); (try unfold wB at *); (try unfold wC at *); (try unfold wO at *); (try unfold wJ at *); (try unfold wX at *)
  obtain ⟨x, m1, h1, ds, m2, h2, q⟩ := h
  exact ⟨_, _, (by rw [evDx, h1]; simp only [Res.bind, List.headD_cons, Bool.false_eq_true, if_false, List.tail_cons, h2]), q⟩
theorem xp_star {e : E} {r : Es} {bs : List Bool} {Q : List Opd → List Slot → Prop} (h : wE cal e m fun x m1 => ∃ xs, der m1 x.opd = some (.lst xs) ∧ wX cal r bs m1 fun ds m2 => Q (xs.map Opd.t ++ ds) m2) : wX cal (.cons e r) (true :: bs) m Q := by
  (try unfold wE at *); (try unfold wD at *); (try unfold wS at *); (try unfold wA at *); (try unfold wT at *); (try unfold wB at *); (try unfold wC at *); (try unfold wO at *); (try unfold wJ at *); (try unfold wX at *)
  obtain ⟨x, m1, h1, xs, hx, ds, m2, h2, q⟩ := h
  exact ⟨_, _, (by rw [evDx, h1]; simp only [Res.bind, List.headD_cons, if_true, List.tail_cons, hx, h2]), q⟩
theorem wp_lsx {bs : List Bool} {es : Es} (h : wX cal es bs m fun ds m1 => ∃ ts m2, escs m1 ds = some (ts, m2) ∧ ts.length ≤ sizeLine ∧ Q (.ow (.lst ts)) m2) : wE cal (.lsx bs es) m Q := by
  (try unfold wE at *); (try unfold wD at *); (try unfold wS at *); (try unfold wA at *); (try unfold wT at *); (try unfold wB at *); (try unfold wC at *); (try unfold wO at *); (try unfold wJ at *); (try unfold wX at *)
  obtain ⟨ds, m1, h1, ts, m2, h2, h3, q⟩ := h
  exact ⟨_, _, (by rw [evE, h1]; simp only [Res.bind, h2, if_pos h3]), q⟩
/-! sources -/
theorem sp_it {e : E} {Q : List T → List Slot → Prop} (h : wE cal e m fun r m1 => ∃ t m2 xs, esc m1 r.opd = some (t, m2) ∧ itemsT t = some xs ∧ Q xs m2) : wS cal (.it e) m Q := by
  (try unfold wE at *); (try unfold wD at *); (try unfold wS at *); (try unfold wA at *); (try unfold wT at *); (try unfold wB at *); (try unfold wC at *); (try unfold wO at *); (try unfold wJ at *); (try unfold wX at *)
  obtain ⟨r, m1, h1, t, m2, xs, h2, h3, q⟩ := h
  exact ⟨_, _, src_it h1 h2 h3, q⟩
theorem sp_rng1 {e : E} {Q : List T → List Slot → Prop} (h : wE cal e m fun r m1 => ∃ j, der m1 r.opd = some (.int j) ∧ (-(2 ^ 62) ≤ j ∧ j < 2 ^ 62) ∧ Q (tI (rngI 0 j)) m1) : wS cal (.rng1 e) m Q := by
  (try unfold wE at *); (try unfold wD at *); (try unfold wS at *); (try unfold wA at *); (try unfold wT at *); (try unfold wB at *); (try unfold wC at *); (try unfold wO at *); (try unfold wJ at *); (try unfold wX at *)
  obtain ⟨r, m1, h1, j, h2, h3, q⟩ := h
  refine ⟨_, _, ?_, q⟩
  rw [evSrc, h1]
  simp only [Res.bind, h2, wideI, decide_eq_true h3, if_true, rangeT_eq]
theorem sp_enum {e : E} {Q : List T → List Slot → Prop} (h : wE cal e m fun r m1 => ∃ t m2 xs, esc m1 r.opd = some (t, m2) ∧ loE t = some xs ∧ Q (enumT 0 xs) m2) : wS cal (.enum e) m Q := by
  (try unfold wE at *); (try unfold wD at *); (try unfold wS at *); (try unfold wA at *); (try unfold wT at *); (try unfold wB at *); (try unfold wC at *); (try unfold wO at *); (try unfold wJ at *); (try unfold wX at *)
  obtain ⟨r, m1, h1, t, m2, xs, h2, h3, q⟩ := h
  exact ⟨_, _, (by rw [evSrc, h1]; simp only [Res.bind, h2, h3]), q⟩
/-! comprehensions -/
theorem wp_comp {α : Type} {own : List Nat} {p : Pt} {s : Src} {cs : Es} {e : E} (h : wS cal s m fun xs m1 => ∃ (as : List α) (f : α → T) (P : α → Bool) (g : α → T), xs = as.map f ∧ noOw m1 own = true ∧ wipeM (wipeM m1 own) own = wipeM m1 own ∧
    (∀ x ∈ as, ∃ m2, bindP (wipeM m1 own) p (f x) = some m2 ∧ wipeM m2 own = wipeM m1 own ∧ (wA cal cs m2 fun r m3 => r = .fz (.bl (P x)) ∧ m3 = m2) ∧ (P x = true → wE cal e m2 fun r m3 => m3 = m2 ∧ esc m2 r.opd = some (g x, m2))) ∧
    as.length ≤ sizeLine ∧ Q (.ow (.lst ((as.filter P).map g))) m1) : wE cal (.comp own p s cs e) m Q := by
  unfold wS at h; unfold wE
  obtain ⟨xs, m1, h1, as, f, P, g, rfl, hn, hw, hx, hl, q⟩ := h
  refine ⟨_, _, ?_, q⟩
  have key : ∀ (as : List α) (acc : List T), (∀ x ∈ as, ∃ m2, bindP (wipeM (wipeM m1 own) own) p (f x) = some m2 ∧ wipeM m2 own = wipeM m1 own ∧ (wA cal cs m2 fun r m3 => r = .fz (.bl (P x)) ∧ m3 = m2) ∧ (P x = true → wE cal e m2 fun r m3 => m3 = m2 ∧ esc m2 r.opd = some (g x, m2))) → acc.length + as.length ≤ sizeLine →
      compGo own p (fun m => evAll cal cs m) (fun m => evE cal e m) (as.map f) acc (wipeM m1 own) = .ok (acc ++ (as.filter P).map g) (wipeM m1 own) := by
    intro as
    induction as with
    | nil => intro acc _ _; rw [List.map_nil, compGo]; simp
    | cons a r ih =>
      intro acc h hl
      (try unfold wE at *); (try unfold wD at *); (try unfold wS at *); (try unfold wA at *); (try unfold wT at *); (try unfold wB at *); (try unfold wC at *); (try unfold wO at *); (try unfold wJ at *); (try unfold wX at *)
      obtain ⟨m2, b1, b2, ⟨r1, m3, b3, rfl, rfl⟩, b4⟩ := h a List.mem_cons_self
      simp only [List.length_cons] at hl
      rw [List.map_cons]
      unfold compGo
      cases hp : P a with
      | true =>
        obtain ⟨r2, m4, b5, rfl, b6⟩ := b4 hp
        rw [hp] at b3
        simp only [b1, b3, Res.bind, b5, b6, b2]
        rw [if_pos (by omega), ih (acc ++ [g a]) (fun y hy => h y (List.mem_cons_of_mem _ hy)) (by simp; omega), List.filter_cons, hp]
        simp
      | false =>
        rw [hp] at b3
        simp only [b1, b3, Res.bind, b2]
        rw [ih acc (fun y hy => h y (List.mem_cons_of_mem _ hy)) (by omega), List.filter_cons, hp]
        simp
  have hc := key as [] (by rw [hw]; exact hx) (by simpa using hl)
  rw [evE, h1]
  simp only [Res.bind, if_pos hn, hc, Res.calm, rest_wipe hn, List.nil_append]
theorem wp_compI {own : List Nat} {p : Pt} {s : Src} {cs : Es} {e : E} (h : wS cal s m fun xs m1 => ∃ I : List T → List T → List Slot → Prop, noOw m1 own = true ∧ I xs [] (wipeM m1 own) ∧
    (∀ x xs acc m2, I (x :: xs) acc m2 → ∃ m3, bindP (wipeM m2 own) p x = some m3 ∧ wA cal cs m3 fun r m4 => ∃ k, r = .fz (.bl k) ∧ (k = true → wE cal e m4 fun r m5 => ∃ t m6, esc m5 r.opd = some (t, m6) ∧ acc.length < sizeLine ∧ I xs (acc ++ [t]) (wipeM m6 own)) ∧ (k = false → I xs acc (wipeM m4 own))) ∧
    (∀ acc m2, I [] acc m2 → Q (.ow (.lst acc)) (restM m1 m2 own))) : wE cal (.comp own p s cs e) m Q := by
  (try unfold wE at *); (try unfold wD at *); (try unfold wS at *); (try unfold wA at *); (try unfold wT at *); (try unfold wB at *); (try unfold wC at *); (try unfold wO at *); (try unfold wJ at *); (try unfold wX at *)
  obtain ⟨xs, m1, h1, I, hn, h0, hs, hd⟩ := h
  have key : ∀ (xs acc : List T) (m2 : List Slot), I xs acc m2 → ∃ acc' m3, compGo own p (fun m => evAll cal cs m) (fun m => evE cal e m) xs acc m2 = .ok acc' m3 ∧ I [] acc' m3 := by
    intro xs
    induction xs with
    | nil => intro acc m2 i; exact ⟨acc, m2, by rw [compGo], i⟩
    | cons x r ih =>
      intro acc m2 i
      obtain ⟨m3, b1, r1, m4, b2, k, rfl, b3, b4⟩ := hs x r acc m2 i
      cases k with
      | true =>
        obtain ⟨r2, m5, b5, t, m6, b6, b7, b8⟩ := b3 rfl
        obtain ⟨acc', m7, b9, b10⟩ := ih _ _ b8
        refine ⟨acc', m7, ?_, b10⟩
        unfold compGo
        simp only [b1, b2, Res.bind, b5, b6, if_pos b7]
        exact b9
      | false =>
        obtain ⟨acc', m7, b9, b10⟩ := ih _ _ (b4 rfl)
        refine ⟨acc', m7, ?_, b10⟩
        unfold compGo
        simp only [b1, b2, Res.bind]
        exact b9
  obtain ⟨acc', m3, b1, b2⟩ := key xs [] _ h0
  refine ⟨_, _, ?_, hd _ _ b2⟩
  rw [evE, h1]
  simp only [Res.bind, if_pos hn, b1, Res.calm]
theorem ap_nil (q : Q (.fz (.bl true)) m) : wA cal .nil m Q := by (try unfold wE at *); (try unfold wD at *); (try unfold wS at *); (try unfold wA at *); (try unfold wT at *); (try unfold wB at *); (try unfold wC at *); (try unfold wO at *); (try unfold wJ at *); (try unfold wX at *); exact ⟨_, _, (by rw [evAll]), q⟩
theorem ap_one {e : E} (h : wE cal e m fun r m1 => ∃ k, r = .fz (.bl k) ∧ Q (.fz (.bl k)) m1) : wA cal (.cons e .nil) m Q := by
  (try unfold wE at *); (try unfold wD at *); (try unfold wS at *); (try unfold wA at *); (try unfold wT at *); (try unfold wB at *); (try unfold wC at *); (try unfold wO at *); (try unfold wJ at *); (try unfold wX at *)
  obtain ⟨r, m1, h1, k, rfl, q⟩ := h
  cases k with
  | true => exact ⟨_, _, (by rw [evAll, h1]; simp only [Res.bind, evAll]), q⟩
  | false => exact ⟨_, _, (by rw [evAll, h1]; rfl), q⟩
theorem wp_dcm {α : Type} {own : List Nat} {p : Pt} {s : Src} {cs : Es} {ke e : E} (h : wS cal s m fun xs m1 => ∃ (as : List α) (f : α → T) (P : α → Bool) (kk : α → Key) (g : α → T), xs = as.map f ∧ noOw m1 own = true ∧ wipeM (wipeM m1 own) own = wipeM m1 own ∧
    (∀ x ∈ as, ∃ m2, bindP (wipeM m1 own) p (f x) = some m2 ∧ wipeM m2 own = wipeM m1 own ∧ (wA cal cs m2 fun r m3 => r = .fz (.bl (P x)) ∧ m3 = m2) ∧ (P x = true → (wE cal ke m2 fun r m3 => m3 = m2 ∧ ∃ t, r = .fz t ∧ keyT t = some (kk x)) ∧ wE cal e m2 fun r m3 => m3 = m2 ∧ esc m2 r.opd = some (g x, m2))) ∧
    as.length ≤ sizeLine ∧ Q (.ow (.dic (putsT [] ((as.filter P).map fun x => (kk x, g x))))) m1) : wE cal (.dcm own p s cs ke e) m Q := by
  unfold wS at h; unfold wE
  obtain ⟨xs, m1, h1, as, f, P, kk, g, rfl, hn, hw, hx, hl, q⟩ := h
  refine ⟨_, _, ?_, q⟩
  have plen : ∀ (a : List (Key × T)) (k : Key) (v : T), (putT a k v).length ≤ a.length + 1 := fun a k v => by
    unfold putT
    split
    · rw [List.length_map]; omega
    · rw [List.length_append]; simp
  have key : ∀ (as : List α) (acc : List (Key × T)), (∀ x ∈ as, ∃ m2, bindP (wipeM (wipeM m1 own) own) p (f x) = some m2 ∧ wipeM m2 own = wipeM m1 own ∧ (wA cal cs m2 fun r m3 => r = .fz (.bl (P x)) ∧ m3 = m2) ∧ (P x = true → (wE cal ke m2 fun r m3 => m3 = m2 ∧ ∃ t, r = .fz t ∧ keyT t = some (kk x)) ∧ wE cal e m2 fun r m3 => m3 = m2 ∧ esc m2 r.opd = some (g x, m2))) → acc.length + as.length ≤ sizeLine →
      dcGo own p (fun m => evAll cal cs m) (fun m => evE cal ke m) (fun m => evE cal e m) (as.map f) acc (wipeM m1 own) = .ok (putsT acc ((as.filter P).map fun x => (kk x, g x))) (wipeM m1 own) := by
    intro as
    induction as with
    | nil => intro acc _ _; rw [List.map_nil, dcGo]; rfl
    | cons a r ih =>
      intro acc h hl
      (try unfold wE at *); (try unfold wD at *); (try unfold wS at *); (try unfold wA at *); (try unfold wT at *); (try unfold wB at *); (try unfold wC at *); (try unfold wO at *); (try unfold wJ at *); (try unfold wX at *)
      obtain ⟨m2, b1, b2, ⟨r1, m3, b3, rfl, rfl⟩, b4⟩ := h a List.mem_cons_self
      simp only [List.length_cons] at hl
      rw [List.map_cons]
      unfold dcGo
      cases hp : P a with
      | true =>
        obtain ⟨⟨rk, mk, k1, rfl, t, rfl, k2⟩, r2, m4, b5, rfl, b6⟩ := b4 hp
        rw [hp] at b3
        simp only [b1, b3, Res.bind, k1, k2, b5, b6, b2]
        rw [if_pos (by omega), ih (putT acc (kk a) (g a)) (fun y hy => h y (List.mem_cons_of_mem _ hy)) (by have := plen acc (kk a) (g a); omega), List.filter_cons, hp]
        rfl
      | false =>
        rw [hp] at b3
        simp only [b1, b3, Res.bind, b2]
        rw [ih acc (fun y hy => h y (List.mem_cons_of_mem _ hy)) (by omega), List.filter_cons, hp]
        simp
  have hc := key as [] (by rw [hw]; exact hx) (by simpa using hl)
  rw [evE, h1]
  simp only [Res.bind, if_pos hn, hc, Res.calm, rest_wipe hn, List.nil_append]
/-! statements -/
theorem bp_nil (q : D.nx m) : wB cal L .nil m D := by (try unfold wE at *); (try unfold wD at *); (try unfold wS at *); (try unfold wA at *); (try unfold wT at *); (try unfold wB at *); (try unfold wC at *); (try unfold wO at *); (try unfold wJ at *); (try unfold wX at *); rw [evSs]; exact q
theorem bp_cons {s : S} {r : Ss} (h : wT cal L s m (D.seq fun m1 => wB cal L r m1 D)) : wB cal L (.cons s r) m D := by
  (try unfold wE at *); (try unfold wD at *); (try unfold wS at *); (try unfold wA at *); (try unfold wT at *); (try unfold wB at *); (try unfold wC at *); (try unfold wO at *); (try unfold wJ at *); (try unfold wX at *)
  try unfold wB
  try unfold wT at h
  rw [evSs]
  cases e : evS cal L s m with
  | nx m1 => rw [e] at h; exact h
  | rt r m1 => rw [e] at h; exact h
  | bk m1 => rw [e] at h; exact h
  | ct m1 => rw [e] at h; exact h
  | ex x m1 => rw [e] at h; exact h.elim
  | no => rw [e] at h; exact h.elim
theorem wp_set {i : Nat} {e : E} (h : wE cal e m fun r m1 => ∃ m2, putR i r m1 = .nx m2 ∧ D.nx m2) : wT cal L (.set i e) m D := by
  (try unfold wE at *); (try unfold wD at *); (try unfold wS at *); (try unfold wA at *); (try unfold wT at *); (try unfold wB at *); (try unfold wC at *); (try unfold wO at *); (try unfold wJ at *); (try unfold wX at *)
  obtain ⟨r, m1, h1, m2, h2, q⟩ := h
  try unfold wT
  rw [evS, h1]
  simp only [ofR, h2]
  exact q
theorem wp_unp {p : Pt} {e : E} (h : wE cal e m fun r m1 => ∃ t m2 m3, esc m1 r.opd = some (t, m2) ∧ bindP m2 p t = some m3 ∧ D.nx m3) : wT cal L (.unp p e) m D := by
  (try unfold wE at *); (try unfold wD at *); (try unfold wS at *); (try unfold wA at *); (try unfold wT at *); (try unfold wB at *); (try unfold wC at *); (try unfold wO at *); (try unfold wJ at *); (try unfold wX at *)
  obtain ⟨r, m1, h1, t, m2, m3, h2, h3, q⟩ := h
  try unfold wT
  rw [evS, h1]
  simp only [ofR, h2, h3]
  exact q
theorem wp_par {i j : Nat} {a b : E} (h : wE cal a m fun ra m1 => wE cal b m1 fun rb m2 => ∃ t u m3, escs m2 [ra.opd, rb.opd] = some ([t, u], m3) ∧ (Nat.blt i m3.length && Nat.blt j m3.length) = true ∧ D.nx ((m3.set i (.fz t)).set j (.fz u))) : wT cal L (.par i j a b) m D := by
  (try unfold wE at *); (try unfold wD at *); (try unfold wS at *); (try unfold wA at *); (try unfold wT at *); (try unfold wB at *); (try unfold wC at *); (try unfold wO at *); (try unfold wJ at *); (try unfold wX at *)
  obtain ⟨ra, m1, h1, rb, m2, h2, t, u, m3, h3, h4, q⟩ := h
  rw [Bool.and_eq_true] at h4
  have l1 : i < m3.length := Nat.le_of_ble_eq_true h4.1
  have l2 : j < m3.length := Nat.le_of_ble_eq_true h4.2
  try unfold wT
  rw [evS, h1]
  simp only [ofR]
  rw [h2]
  simp only [h3, if_pos (And.intro l1 l2)]
  exact q
theorem wp_aug {i : Nat} {f : Op} {e : E} (h : ∃ x, m[i]? = some (.fz x) ∧ wE cal e m fun r m1 => ∃ x' y z, m1[i]? = some (.fz x') ∧ der m1 r.opd = some y ∧ augF f x y = some z ∧ D.nx (m1.set i (.fz z))) : wT cal L (.aug i f e) m D := by
  (try unfold wE at *); (try unfold wD at *); (try unfold wS at *); (try unfold wA at *); (try unfold wT at *); (try unfold wB at *); (try unfold wC at *); (try unfold wO at *); (try unfold wJ at *); (try unfold wX at *)
  obtain ⟨x, h0, r, m1, h1, x', y, z, h2, h3, h4, q⟩ := h
  try unfold wT
  rw [evS, h0]
  simp only
  rw [h1]
  simp only [ofR, h2, h3, h4]
  exact q
theorem wp_ex {e : E} (h : wE cal e m fun _ m1 => D.nx m1) : wT cal L (.ex e) m D := by
  (try unfold wE at *); (try unfold wD at *); (try unfold wS at *); (try unfold wA at *); (try unfold wT at *); (try unfold wB at *); (try unfold wC at *); (try unfold wO at *); (try unfold wJ at *); (try unfold wX at *)
  obtain ⟨r, m1, h1, q⟩ := h
  try unfold wT
  rw [evS, h1]
  exact q
theorem wp_ret {e : E} (h : wE cal e m fun r m1 => ∃ r' m2, outR r m1 = some (r', m2) ∧ D.rt r' m2) : wT cal L (.ret e) m D := by
  (try unfold wE at *); (try unfold wD at *); (try unfold wS at *); (try unfold wA at *); (try unfold wT at *); (try unfold wB at *); (try unfold wC at *); (try unfold wO at *); (try unfold wJ at *); (try unfold wX at *)
  obtain ⟨r, m1, h1, r', m2, h2, q⟩ := h
  try unfold wT
  rw [evS, h1]
  simp only [ofR, h2]
  exact q
theorem wp_ife {c : E} {a b : Ss} (h : wE cal c m fun r m1 => ∃ k, r = .fz (.bl k) ∧ (k = true → wB cal L a m1 D) ∧ (k = false → wB cal L b m1 D)) : wT cal L (.ife c a b) m D := by
  (try unfold wE at *); (try unfold wD at *); (try unfold wS at *); (try unfold wA at *); (try unfold wT at *); (try unfold wB at *); (try unfold wC at *); (try unfold wO at *); (try unfold wJ at *); (try unfold wX at *)
  obtain ⟨r, m1, h1, k, rfl, q1, q2⟩ := h
  try unfold wT
  cases k with
  | true => rw [st_if1 h1]; exact q1 rfl
  | false => rw [st_if0 h1]; exact q2 rfl
theorem wp_app {i : Nat} {e : E} (h : ∃ ys, m[i]? = some (.ow (.lst ys)) ∧ wE cal e m fun r m1 => ∃ t m2 xs, esc m1 r.opd = some (t, m2) ∧ m2[i]? = some (.ow (.lst xs)) ∧ xs.length < sizeLine ∧ D.nx (m2.set i (.ow (.lst (xs ++ [t]))))) : wT cal L (.app i e) m D := by
  (try unfold wE at *); (try unfold wD at *); (try unfold wS at *); (try unfold wA at *); (try unfold wT at *); (try unfold wB at *); (try unfold wC at *); (try unfold wO at *); (try unfold wJ at *); (try unfold wX at *)
  obtain ⟨ys, h0, r, m1, h1, t, m2, xs, h2, h3, h4, q⟩ := h
  try unfold wT
  rw [evS, h0]
  simp only
  rw [h1]
  simp only [ofR, h2, h3, if_pos h4]
  exact q
theorem wp_parf {i j : Nat} {a b : E} (h : wE cal a m fun ra m1 => ∃ t, ra = .fz t ∧ wE cal b m1 fun rb m2 => ∃ o, rb = .ow o ∧ (i < m2.length ∧ j < m2.length ∧ i ≠ j) ∧ D.nx ((m2.set i (.fz t)).set j (.ow o))) : wT cal L (.parf i j a b) m D := by
  (try unfold wE at *); (try unfold wD at *); (try unfold wS at *); (try unfold wA at *); (try unfold wT at *); (try unfold wB at *); (try unfold wC at *); (try unfold wO at *); (try unfold wJ at *); (try unfold wX at *)
  obtain ⟨ra, m1, h1, t, rfl, rb, m2, h2, o, rfl, h3, q⟩ := h
  try unfold wT
  rw [evS, h1]
  simp only [ofR]
  rw [h2]
  simp only [ofR, if_pos h3]
  exact q
theorem wp_paro1 {i j : Nat} {a b : E} (h : wE cal a m fun ra m1 => ∃ o1, ra = .ow o1 ∧ wE cal b m1 fun rb m2 => ∃ t, rb = .fz t ∧ (i < m2.length ∧ j < m2.length ∧ i ≠ j) ∧ D.nx ((m2.set i (.ow o1)).set j (.fz t))) : wT cal L (.paro i j a b) m D := by
  unfold wE at h
  obtain ⟨ra, m1, h1, t, rfl, h⟩ := h
  (try unfold wE at h)
  obtain ⟨rb, m2, h2, o, rfl, h3, q⟩ := h
  unfold wT
  rw [evS, h1]
  simp only [ofR]
  rw [h2]
  simp only [ofR, if_pos h3]
  exact q
theorem wp_stf {i c : Nat} {f : PySem.Str} {e : E} (h : wE cal e m fun r m1 => ∃ t m2 fs, esc m1 r.opd = some (t, m2) ∧ m2[i]? = some (.ow (.ins c fs)) ∧ Nat.blt fs.length 1000 = true ∧ D.nx (m2.set i (.ow (.ins c (putS f t fs))))) : wT cal L (.stf i c f e) m D := by
  (try unfold wE at *); (try unfold wD at *); (try unfold wS at *); (try unfold wA at *); (try unfold wT at *); (try unfold wB at *); (try unfold wC at *); (try unfold wO at *); (try unfold wJ at *); (try unfold wX at *)
  obtain ⟨r, m1, h1, t, m2, fs, h2, h3, h4, q⟩ := h
  have l1 : fs.length < 1000 := Nat.le_of_ble_eq_true h4
  try unfold wT
  rw [evS, h1]
  simp only [ofR, h2, h3, if_pos (And.intro trivial l1)]
  exact q
theorem wp_fr {p : Pt} {s : Src} {b : Ss} (h : wS cal s m fun xs m1 => ∃ I : List T → List Slot → Prop, I xs m1 ∧
    (∀ x xs m2, I (x :: xs) m2 → ∃ m3, bindP m2 p x = some m3 ∧ wB cal L b m3 { nx := I xs, ct := I xs, bk := D.nx, rt := D.rt }) ∧ (∀ m2, I [] m2 → D.nx m2)) : wT cal L (.fr p s b) m D := by
  (try unfold wE at *); (try unfold wD at *); (try unfold wS at *); (try unfold wA at *); (try unfold wT at *); (try unfold wB at *); (try unfold wC at *); (try unfold wO at *); (try unfold wJ at *); (try unfold wX at *)
  obtain ⟨xs, m1, h1, I, h0, hs, hd⟩ := h
  try unfold wT
  rw [evS, h1]
  simp only
  clear h1
  revert m1
  induction xs with
  | nil => intro m1 i; rw [forGo]; exact hd _ i
  | cons x r ih =>
    intro m1 i
    obtain ⟨m3, b1, b2⟩ := hs _ _ _ i
    unfold forGo
    simp only [b1]
    try unfold wB at b2
    cases e : evSs cal L b m3 with
    | nx m4 => rw [e] at b2; exact ih _ b2
    | ct m4 => rw [e] at b2; exact ih _ b2
    | bk m4 => rw [e] at b2; exact b2
    | rt r m4 => rw [e] at b2; exact b2
    | ex x m4 => rw [e] at b2; exact b2.elim
    | no => rw [e] at b2; exact b2.elim
end
theorem wp_run {Γ : Nat → Option Def} {L k f : Nat} {d : Def} {args : List Slot} {Q : R → List Slot → Prop} (hf : Γ f = some d) (hl : args.length = d.np)
    (h : wB (callF Γ L k) L d.body (args ++ List.replicate (d.ns - d.np) .no) { nx := fun m => Q (.fz .non) (outsM d.io m), rt := fun r m => (∀ i, r ≠ .bo i) ∧ Q r (outsM d.io m), bk := fun _ => False, ct := fun _ => False }) : wC (callF Γ L (k + 1)) f args Q := by
  (try unfold wE at *); (try unfold wD at *); (try unfold wS at *); (try unfold wA at *); (try unfold wT at *); (try unfold wB at *); (try unfold wC at *); (try unfold wO at *); (try unfold wJ at *); (try unfold wX at *)
  try unfold wB at h
  have e0 : callF Γ L (k + 1) f args = runD (callF Γ L k) L d args := by
    show (match Γ f with | some d => runD (callF Γ L k) L d args | none => .no) = _
    rw [hf]
  rw [e0]
  unfold runD
  rw [if_pos hl]
  cases e : evSs (callF Γ L k) L d.body (args ++ List.replicate (d.ns - d.np) .no) with
  | nx m4 => rw [e] at h; exact ⟨_, _, rfl, (fun _ z => nomatch z), h⟩
  | ct m4 => rw [e] at h; exact h.elim
  | bk m4 => rw [e] at h; exact h.elim
  | rt r m4 =>
    rw [e] at h
    cases r with
    | bo i => exact absurd rfl (h.1 i)
    | fz t => exact ⟨_, _, rfl, (fun _ z => nomatch z), h.2⟩
    | ow t => exact ⟨_, _, rfl, (fun _ z => nomatch z), h.2⟩
  | ex x m4 => rw [e] at h; exact h.elim
  | no => rw [e] at h; exact h.elim
end Mi
set_option maxHeartbeats 1000000
namespace Mi
open PySem PySem.Spec PyProof.Rows L2

section
variable {G : Gm}
/-! ### dict(..) -/
noncomputable def rDictM (K : PySem.W.Frag) : List V → Hp → VK → Prop := fun xs H Q => (∃ (a : Addr) (ps : List Addr) (kvs : List (Key × V)), xs = [.ref a] ∧ SqL K H a (ps.map V.ref) ∧ Paired (fun p kv => SqT K H p [kV kv.1, kv.2]) ps kvs ∧ ∀ p, H p = none → Q (.ref p) (upd H p (.dK (mergeK [] kvs)))) ∨
  ∃ (a : Addr) (kvs : List (Key × V)), xs = [.ref a] ∧ Rd H a (.dK kvs) ∧ ∀ p, H p = none → Q (.ref p) (upd H p (.dK kvs))
theorem cr_dictM {X : Cx} (hcalm : X.calm = true) : CallR X (.type "dict") (rDictM X.K) := by
  intro pins s σ H xs us Q I r q
  rcases q with q | q
  · exact call_dictP hcalm pins s σ H xs us Q I r q
  · exact call_dictD pins s σ H xs us Q I r q
theorem RFk.puts {w : Wd} {more : List (Key × T)} {ms : List (Key × V)} (q : RFk G w more ms) : ∀ {kvs : List (Key × T)} {ks : List (Key × V)}, RFk G w kvs ks → RFk G w (putsT kvs more) (mergeK ks ms) := by
  induction more generalizing ms with
  | nil => cases q; exact fun r => r
  | cons p r ih =>
    cases q with
    | cons a b => exact fun r0 => ih b (r0.put a)
theorem pairs_v {w : Wd} : ∀ {xs : List T} {vs : List V} {kvs : List (Key × T)}, RFs G w xs vs → pairsT xs = some kvs → ∃ (ps : List Addr) (ks : List (Key × V)), vs = ps.map V.ref ∧ Paired (fun p kv => SqT G.K w.H p [kV kv.1, kv.2]) ps ks ∧ RFk G w kvs ks
  | [], _, kvs, .nil, h => by
    cases h
    exact ⟨[], [], rfl, .nil, .nil⟩
  | x :: r, _, kvs, .cons a b, h => by
    unfold pairsT at h
    cases e : pairT x with
    | none => rw [e] at h; cases h
    | some p =>
      rw [e] at h
      have h : (pairsT r).map (fun l => p :: l) = some kvs := h
      cases e2 : pairsT r with
      | none => rw [e2] at h; cases h
      | some l =>
        rw [e2] at h
        cases h
        obtain ⟨ps, ks, rfl, h2, h3⟩ := pairs_v b e2
        unfold pairT at e
        split at e
        · rename_i k v
          cases hk : keyT k with
          | none => rw [hk] at e; cases e
          | some q =>
            rw [hk] at e
            cases e
            cases a with
            | @tup _ ad _ ha rs =>
              cases rs with
              | @cons _ vk _ _ rk rs =>
                cases rs with
                | @cons _ vv _ _ rv rs =>
                  cases rs
                  have ek := key_v hk (.fz rk)
                  subst ek
                  refine ⟨ad :: ps, (q, vv) :: ks, rfl, .cons ?_ h2, .cons rv h3⟩
                  rcases ha with ⟨_, ha⟩ | ha
                  · exact .inl (.inl ha)
                  · exact .inr ha
        · cases e
theorem okDict : OpOk1 G .dict (fun x H Q => rDictM G.K [x] H Q) := fun w m σ t1 v1 res Q S a h k => by
  replace h : dictF t1 = some res := h
  cases t1 <;> try (cases h; done)
  case lst xs =>
    obtain ⟨p, vs, rfl, h1, r⟩ := a.lst
    have h : (pairsT xs).map (fun kvs => R.ow (.dic (putsT [] kvs))) = some res := h
    cases e : pairsT xs with
    | none => rw [e] at h; cases h
    | some kvs =>
      rw [e] at h
      cases h
      obtain ⟨ps, ks, rfl, h2, h3⟩ := pairs_v r e
      exact .inl ⟨p, ps, ks, rfl, .inl (.inl h1), h2, fun p hp => k.new S hp (.dic upd_same (RFk.mono (Mo.new S.trk hp) (RFk.puts h3 .nil)))⟩
  case dic kvs =>
    obtain ⟨p, ks, rfl, h1, r⟩ := a.dic
    cases h
    exact .inr ⟨p, ks, rfl, h1, fun p hp => k.new S hp (.dic upd_same (RFk.mono (Mo.new S.trk hp) r))⟩
end
section
variable {C : Ct} {X : Cx} {k : Nat} {cal : Nat → List Slot → CRes} {pos apos p1 p2 : Pos}
theorem x_dict (c : XC C X k) {a : Expr} {ea : E} (hm : Fr X "dict") (ha : PE X a (rdE C (evE cal ea))) (hg : Gl X "dict" := by rfl) (hs : starEach [a] X.env = (false, eval a X.env) :: starEach [] X.env := by rfl) : PE X (.Call (.Name "dict" p1) [a] [] pos) (rdE C (evE cal (.op .dict (.cons ea .nil)))) :=
  x_ty (r := rDictM C.G.K) (by rw [c.K]; exact cr_dictM c.calm) (by rfl) okDict hm hg (by decide) (by decide) hs ha
/-! ### a display of constants -/
theorem rf_flat {G : Gm} {w : Wd} {t : T} (h : flatT t = true) : RF G w t (vT t) := by
  cases t <;> first | (cases h; done) | exact .non | exact .bl _ | exact .int _ | exact .str _
/-! ### d.get(k, x) -/
theorem x_dgt (c : XC C X k) {a b d : Expr} {ea eb ed : E} (ha : PE X a (rdE C (evE cal ea))) (hb : PE X b (rdE C (evE cal eb))) (hd : PE X d (rdE C (evE cal ed))) (m : M2 X a "get" apos b d pos := by exact ⟨rfl, rfl, rfl, rfl⟩) :
    PE X (.Call (.Attribute a "get" apos) [b, d] [] pos) (rdE C (evE cal (.dgt ea eb ed))) :=
  PE.imp (pe_dget2 (by have := c.hu; omega) (pe_opd ha) (pe_opd hb) (pe_opd hd) m) fun σ H Q ⟨w, m, e, P, q⟩ => by
  rw [evE, Res.sat_bind] at q
  refine ⟨w, m, e, P, ?_⟩
  rw [opdF, Res.sat_bind]
  refine Res.sat_mono q fun ra m1 q1 w1 va S1 x1 ra1 => ?_
  split at q1
  · rename_i kvs0 hd0
    obtain ⟨p, ks, rfl, h1, r1⟩ := (S1.der ra1 hd0).dic
    rw [Res.sat_bind] at q1
    refine ⟨p, rfl, .inl ⟨ks, h1⟩, w1, m1, rfl, P.step S1 x1, ?_⟩
    rw [opdF, Res.sat_bind]
    refine Res.sat_mono q1 fun rb m2 q2 w2 vb S2 x2 rb2 => ?_
    rw [Res.sat_bind] at q2
    refine ⟨w2, m2, rfl, (P.step S1 x1).step S2 x2, ?_⟩
    rw [opdF, Res.sat_bind]
    refine Res.sat_mono q2 fun rc m3 q3 w3 vc S3 x3 rc3 => ?_
    split at q3
    · rename_i kvs kt xt g1 g2 g3
      split at q3
      · rename_i hf
        split at q3
        · rename_i key hk
          obtain ⟨p', ks', e', h1', r1'⟩ := (S3.der (ra1.mono (x2.trans x3).mo) g1).dic
          cases e'
          have ek : vb = kV key := key_v hk (S3.der (rb2.mono x3.mo) g2)
          subst ek
          have rx : RF C.G w3 xt vc := by
            rcases (S3.der rc3 g3).cases' with r | ⟨o, p, e, _, _⟩
            · exact r
            · subst e; cases o <;> cases hf
          refine ⟨_, .inl ⟨ks', key, h1', rfl, rfl⟩, ?_⟩
          have fin : ∀ v, RF C.G w3 ((valT kvs key).getD xt) v → Q v w3.H := fun v r => q3 w3 v S3 (x1.trans (x2.trans x3)) r
          rcases r1'.valV key with ⟨z1, z2⟩ | ⟨t, v, z1, z2, r'⟩
          · rw [z1] at fin; rw [z2]; exact fin _ rx
          · rw [z1] at fin; rw [z2]; exact fin _ r'
        · exact q3.elim
      · exact q3.elim
    · exact q3.elim
  · exact q1.elim
end
end Mi
set_option maxHeartbeats 1000000
namespace Mi
open PySem PySem.Spec PyProof.Rows L2
section
variable {P : R → Prop}
theorem wo_mul {a b : Int} (h : a.natAbs < 2 ^ 200) (h' : b.natAbs < 2 ^ 200) (q : P (.fz (.int (a * b)))) : wO .mul [.int a, .int b] P := .of (mulF_ok h h') q
theorem wo_neI {xs ys : List Int} (q : P (.fz (.bl (!decide (xs = ys))))) : wO .ne [.lst (tI xs), .lst (tI ys)] P := .of (eq_tI not xs ys) q
theorem ints_tI' : ∀ l : List Int, intsT (tI l) = some l
  | [] => rfl
  | a :: l => by show (intsT (tI l)).map _ = _; rw [ints_tI' l]; rfl
theorem wo_srtS {xs : List PySem.Str} (hl : xs.length < 64) (q : P (.ow (.lst ((sortT xs).map T.str)))) : wO .srt [.lst (xs.map T.str)] P := .of (by
  show srtF (.lst (xs.map T.str)) = _
  unfold srtF
  cases xs with
  | nil => rfl
  | cons x r =>
    rw [show seqI (.lst ((x :: r).map T.str)) = none from rfl]
    simp only
    rw [strs_tS]
    exact if_pos hl) q
end
/-! dicts of whole numbers by whole numbers -/
section
variable {P : R → Prop}
end
/-! sorted -/
end Mi
set_option maxHeartbeats 1000000
namespace Mi
open PySem PySem.Spec PyProof.Rows L2
/-! ### the law's draws, forward -/
noncomputable def Bg (b : Nat) (o : O) : Prop := ∃ c, Bag c (.ow o) ∧ c + b < 2 ^ 39
theorem Bg.mono {b b' : Nat} {o : O} (h : Bg b o) (l : b' ≤ b) : Bg b' o := by
  obtain ⟨c, h1, h2⟩ := h
  exact ⟨c, h1, by omega⟩
structure Draws (cal : Nat → List Slot → CRes) (t f : Nat) : Prop where
  take : ∀ {o : O} {b : Nat} {many : Int}, Bg (b + 1) o → 0 < many → many < 2 ^ 64 → ∃ d o', cal t [.ow o, .fz (.int many)] = .ok (.fz (.int d)) [.ow o', .no] ∧ 0 ≤ d ∧ d < many ∧ Bg b o'
  of : ∀ {o : O} {b : Nat} {xs : T} {n : Nat}, Bg (b + 1) o → lenF xs = fI n → 0 < n → n < 2 ^ 63 → (∀ d : Nat, d < n → ∃ y, idxF xs (.int d) = some (.fz y)) → ∃ (d : Nat) (y : T) (o' : O), cal f [.ow o, .fz xs] = .ok (.fz y) [.ow o', .no] ∧ d < n ∧ idxF xs (.int (d : Nat)) = some (.fz y) ∧ Bg b o'
theorem draws_ok {Γ : Nat → Option Def} {L k t f : Nat} (ht : Γ t = some dTake) (hf : Γ f = some (dOf t)) : Draws (callF Γ L (k + 2)) t f where
  take := fun {o b many} ⟨c, B, hc⟩ h0 h1 => by
    obtain ⟨d, s', e, g0, g1, B'⟩ := take_ok (Γ := Γ) (L := L) (k := k + 1) ht B (by omega) h0 h1
    obtain ⟨o', rfl⟩ := B'.ow
    exact ⟨d, o', e, g0, g1, c + 1, B', by omega⟩
  of := fun {o b xs n} ⟨c, B, hc⟩ hx h0 h1 hi => by
    obtain ⟨d, y, s', e, g0, g1, B'⟩ := of_ok (Γ := Γ) (L := L) (k := k) hf ht B (by omega) hx h0 h1 hi
    obtain ⟨o', rfl⟩ := B'.ow
    exact ⟨d, y, o', e, g0, g1, c + 1, B', by omega⟩
section
variable {cal : Nat → List Slot → CRes} {t f : Nat} {Q : R → List Slot → Prop} {o : O} {b : Nat}
theorem wc_take (D : Draws cal t f) {many : Int} (B : Bg b o) (hb : 0 < b) (h0 : 0 < many) (h1 : many < 2 ^ 64) (q : ∀ d o', 0 ≤ d → d < many → Bg (b - 1) o' → Q (.fz (.int d)) [.ow o', .no]) : wC cal t [.ow o, .fz (.int many)] Q := by
  obtain ⟨d, o', e, g0, g1, B'⟩ := D.take (b := b - 1) (B.mono (by omega)) h0 h1
  exact wC.fz e (q d o' g0 g1 B')
theorem wc_of (D : Draws cal t f) {xs : List T} (B : Bg b o) (hb : 0 < b) (h0 : Nat.blt 0 xs.length = true) (h1 : Nat.blt xs.length 100000 = true) (q : ∀ y o', y ∈ xs → Bg (b - 1) o' → Q (.fz y) [.ow o', .no]) : wC cal f [.ow o, .fz (.lst xs)] Q := by
  have l0 : 0 < xs.length := Nat.le_of_ble_eq_true h0
  have l1 : xs.length < 100000 := Nat.le_of_ble_eq_true h1
  obtain ⟨d, y, o', e, g0, g1, B'⟩ := D.of (b := b - 1) (xs := .lst xs) (n := xs.length) (B.mono (by omega)) rfl l0 (by omega) fun d hd => idx_lst hd
  exact wC.fz e (q y o' (idx_lst_mem g0 g1) B')
end
theorem bag_mk {Γ : Nat → Option Def} {L k f : Nat} (hf : Γ f = some dBag) {ns : List Int} : ∃ o, callF Γ L (k + 1) f [.fz (.scr ns)] = .ok (.ow o) [.no] ∧ Bg (2 ^ 38) o := by
  obtain ⟨o, e, B⟩ := bag_ok (Γ := Γ) (L := L) (k := k) hf (ns := ns)
  exact ⟨o, e, 0, B, by decide⟩
end Mi
set_option maxHeartbeats 1000000
namespace Mi
open PySem PySem.Spec PyProof.Rows L2
/-! ### plain things equal themselves -/
noncomputable def okT : T → Bool
  | .non => true
  | .bl _ => true
  | .int _ => true
  | .str s => PyData.canLay0 (.str s)
  | _ => false
inductive Po : Nat → T → Prop
  | flat {n : Nat} {t : T} : okT t = true → Po n t
  | lst {n : Nat} {xs : List T} : (∀ x ∈ xs, Po n x) → Po (n + 1) (.lst xs)
theorem pl_py : ∀ {n : Nat} {t : T}, Po n t → ∃ d, pyT t = some d ∧ PyData.canLay0 d = true ∧ PyData.depth d ≤ n ∧ PyData.eqv d d = true
  | n, _, .flat (t := t) h => by
    cases t <;> first | (cases h; done) | skip
    · exact ⟨.none, rfl, rfl, Nat.zero_le _, rfl⟩
    · exact ⟨.bool _, rfl, rfl, Nat.zero_le _, by simp [PyData.eqv]⟩
    · exact ⟨.int _, rfl, rfl, Nat.zero_le _, by simp [PyData.eqv]⟩
    · exact ⟨.str _, rfl, h, Nat.zero_le _, by simp [PyData.eqv]⟩
  | n + 1, _, .lst (xs := xs) h => by
    have key : ∀ xs : List T, (∀ x ∈ xs, Po n x) → ∃ ds, pyTs xs = some ds ∧ PyData.canLayAll0 ds = true ∧ PyData.depthAll ds ≤ n ∧ PyData.eqvAll ds ds = true := by
      intro xs
      induction xs with
      | nil => intro _; exact ⟨[], rfl, rfl, Nat.zero_le _, rfl⟩
      | cons a r ih =>
        intro h
        obtain ⟨d, e1, e2, e3, e4⟩ := pl_py (h a List.mem_cons_self)
        obtain ⟨ds, f1, f2, f3, f4⟩ := ih fun x hx => h x (List.mem_cons_of_mem _ hx)
        refine ⟨d :: ds, by rw [pyTs, e1, f1], by rw [PyData.canLayAll0, e2, f2]; rfl, ?_, by rw [PyData.eqvAll, e4, f4]; rfl⟩
        rw [PyData.depthAll]
        omega
    obtain ⟨ds, f1, f2, f3, f4⟩ := key xs h
    exact ⟨.list ds, by rw [pyT, f1]; rfl, by rw [PyData.canLay0]; exact f2, by rw [PyData.depth]; omega, by rw [PyData.eqv]; exact f4⟩
theorem eq_pl {n : Nat} {xs : List T} (h : Po n (.lst xs)) (hn : n ≤ 60) (k : Bool → Bool) : eqF (.lst xs) (.lst xs) k = fB (k true) := by
  obtain ⟨d, e1, e2, e3, e4⟩ := pl_py h
  show (match pyT (.lst xs), pyT (.lst xs) with
    | some d, some e => if SeqAt.shaped d = true ∧ SeqAt.shaped e = true then fB (k (PyData.eqv d e)) else none
    | _, _ => _) = _
  have s : SeqAt.shaped d = true := by
    show (PyData.canLay0 d && decide (PyData.depth d ≤ 64)) = true
    rw [e2, Bool.true_and, decide_eq_true_eq]
    omega
  rw [e1]
  simp only
  rw [if_pos ⟨s, s⟩, e4]
section
variable {P : R → Prop}
theorem wo_nePl {n : Nat} {xs ys : List T} (e : xs = ys) (h : Po n (.lst xs)) (hn : n ≤ 60) (q : P (.fz (.bl false))) : wO .ne [.lst xs, .lst ys] P := by
  subst e; exact .of (eq_pl h hn not) q
end
theorem po_flats {n : Nat} {xs : List T} (h : xs.all okT = true) : Po (n + 1) (.lst xs) := .lst fun x hx => .flat (List.all_eq_true.mp h x hx)
end Mi

set_option maxHeartbeats 1000000
/-! Cls.m(..) of a staticmethod; C(e, .., **kept) -/
namespace Mi
open PySem PySem.Spec PyProof.Rows L2

section
variable {C : Ct} {X : Cx} {k L : Nat} {cal : Nat → List Slot → CRes} {pos apos p1 p2 py kp : Pos}
/-! ### static methods -/
theorem getsm_ok {pins : List (Addr × Obj)} {σ : L2.St} {H : Hp} {s : Shared} {A : Around} {E : Value → Shared → Prop} {D p g : Addr} {rest : List Value} {mc : Value} {m : Str} {pl : Sem Bool} {Q : Value × List Value → Shared → Prop} (I : Inv X pins σ H s) (r : ClX.CRead X.K D mc)
    (h1 : PySem.W.findCls X.K (.ref D) mc m = some (.get (.builtin "staticmethod.__get__") (.ref p) .none (.ref D))) (h2 : PySem.W.recIn X.K p "staticmethod" = some (.ref g :: rest))
    (h : ∀ s', Inv X pins σ H s' → Q (.ref g, []) s') : wpAny (model X.prog X.w) A (getMethod (.ref D) m pl) Q E s := by
  refine PySem.W.method_cls I.kIn r.ga ?_
  refine PySem.W.cls_bind I.kIn r.rd h1 (wpAny_call (PySem.W.sm_get (s := { s with toks := s.toks + 1 }) I.kIn h2 (PySem.W.handed_on rfl ?_)))
  exact h _ (I.tok _)
theorem pe_smethS {CX : CXT} {D p g : Addr} {rest : List Value} {mc : Value} {fd : FuncData} {ps : List Str} {sp : Sp} {E : St → XK} {o e : Expr} {es : List Expr} {m : Str} {ta : TE} {t : TA} {pl : Sem Bool} (he : PE X o ta) (r : ClX.CRead X.K D mc)
    (h1 : PySem.W.findCls X.K (.ref D) mc m = some (.get (.builtin "staticmethod.__get__") (.ref p) .none (.ref D))) (h2 : PySem.W.recIn X.K p "staticmethod" = some (.ref g :: rest))
    (F : FnOk X.prog X.w X.K X.mg X.base CX k g fd ps sp) (hr : Room k X.A) (hk : PySem.W.keepIn X.K (.ref g) = true) (hb : Binds X.K fd ps []) (hx : ∀ σ, PassesAt CX X σ (E σ)) (ha : PA X (e :: es) t)
    (hst : starEach (e :: es) X.env = (false, eval e X.env) :: starEach es X.env) (hpl : (backTo pos (starEach es X.env)).any (·.1) = false)
    (ht : eval (.Call (.Attribute o m apos) (e :: es) [] pos) X.env = (do
      let ov ← eval o X.env
      standAt apos.atName
      let (f, first) ← holding [ov] (getMethod ov m pl)
      callWith pos f first (backTo pos (starEach (e :: es) X.env)) (backToKw pos (keywordEach [] X.env)))) :
    PE X (.Call (.Attribute o m apos) (e :: es) [] pos) (fun σ H Q => ta σ H fun x H1 => x = .ref D ∧ tCallS sp E t σ H1 Q) := by
  refine ⟨fun pins s σ H Q I h => ?_⟩
  refine PySem.W.methodCall_KW (pl := pl) (thn (he.run pins s σ H _ I h) fun u s1 ⟨x, H1, I1, rx, ex, q⟩ => ?_) ht
  subst ex
  obtain rfl : u = Value.ref D := rx
  refine getsm_ok I1 r h1 h2 fun s2 I2 => ?_
  refine PySem.W.callWith_K (first := []) (h₀ := X.base) I.ok.mod.kin hk (thn (ha.run pos pins s2 σ H1 _ I2 q) fun us s3 ⟨vs, H2, I3, rv, q2⟩ => ⟨I3.kIn, ?_⟩) hst hpl
  exact run_fnS F hr hb (hx σ) I3 rv q2
variable {tab : Nat → Option (He5.DefA × List Str)} {fx : List Fx} {gk : List (Str × T)} {cn : List Str}
theorem q_smeth (c : XC C X k) (e : GX tab fx gk cn X k C.G cal) {pl : Sem Bool} {f ig ic im : Nat} {nm m : Str} {d : He5.DefA} {ps : List Str} {e1 : Expr} {es1 : List Expr} {io : List Bool} {es : Es} (hig : fx[ig]? = some (.glo nm)) (hic : fx[ic]? = some (.crd nm)) (him : fx[im]? = some (.smet nm m)) (ht : tab f = some (d, ps))
    (hat : d.at_ = fun K => He5.wf K (He.ga K nm) "staticmethod" m) (b : Bnd d ps fx ps.length []) (h : PA X (e1 :: es1) (rdDs C (evDs cal es))) (hg : Gl X nm := by rfl) (hdb : (nm == ("__debug__" : Str)) = false := by decide)
    (hst : starEach (e1 :: es1) X.env = (false, eval e1 X.env) :: starEach es1 X.env := by rfl) (hpl : (backTo pos (starEach es1 X.env)).any (·.1) = false := by rfl)
    (he : eval (.Call (.Attribute (.Name nm p1) m apos) (e1 :: es1) [] pos) X.env = (do
      let ov ← eval (.Name nm p1) X.env
      standAt apos.atName
      let (f, first) ← holding [ov] (getMethod ov m pl)
      callWith pos f first (backTo pos (starEach (e1 :: es1) X.env)) (backToKw pos (keywordEach [] X.env))) := by rfl) :
    PE X (.Call (.Attribute (.Name nm p1) m apos) (e1 :: es1) [] pos) (rdE C (evE cal (.call f io es))) := by
  obtain ⟨fd, dvs, ds, h1, h2, h3, ok⟩ := e.defA ht b
  obtain ⟨fd', F, _⟩ := e.fns f d ps ht
  have r := h3 ⟨fun _ => True, fun _ => True, fun _ => none⟩
  cases r
  cases h1
  have ha' : d.at_ X.K = He5.wf X.K (He.ga X.K nm) "staticmethod" m := by rw [hat]
  rw [ha'] at ok F
  obtain ⟨g1, rest, g2⟩ := Fx.smetT (e.fxs im _ him)
  exact n_call (fun t ht => PE.imp (pe_smethS (E := WE (WM C)) (pl := pl) (pe_glob (v := .ref (He.ga X.K nm)) hg (e.glo ig nm hig) rfl hdb) (Fx.crdT (e.fxs ic _ hic)) g1 g2 ok c.low F.kp h2 (fun σ => passAt c.tk σ) ht hst hpl he) fun σ H Q q => ⟨rfl, q⟩) h
/-! ### a, b = x, [] : the tuple is not kept -/
theorem w_parfN (c : XC C X k) {i j : Nat} {x y : Str} {a b : Expr} {ea eb : E} {kt k2} {p3 p4 : Pos} (nfx : C.fx i = false ∧ C.fx j = false) (ha : PE X a (rdE C (evE cal ea))) (hb : PE X b (rdE C (evE cal eb))) (hx : PG X (.Name x p1) (gName i)) (hy : PG X (.Name y p2) (gName j))
    (h2 : starEach [a, b] X.env = (false, eval a X.env) :: starEach [b] X.env := by rfl) (h3 : starEach [b] X.env = (false, eval b X.env) :: starEach [] X.env := by rfl)
    (hn : (assignEach [.Name x p1, .Name y p2] X.env).length = 2 := by rfl) (hst : (assignEach [.Name x p1, .Name y p2] X.env).findIdx? (·.1) = none := by rfl)
    (hs : swapsWithSole [.Tuple [.Name x p1, .Name y p2] kt p3] (.Tuple [a, b] k2 p4) pos.line X.env = pure false := by rfl) (hw : swappedStores [.Tuple [.Name x p1, .Name y p2] kt p3] (.Tuple [a, b] k2 p4) X.env = pure none := by rfl)
    (h1 : (assignEach [.Tuple [.Name x p1, .Name y p2] kt p3] X.env).map (·.2) = [assign (.Tuple [.Name x p1, .Name y p2] kt p3) X.env] := by rfl) :
    PS X (.Assign [.Tuple [.Name x p1, .Name y p2] kt p3] (.Tuple [a, b] k2 p4) pos) (rdSt C (evS cal L (.parf i j ea eb))) :=
  PS.imp (ps_asg (pe_tup (pa_cons ha (pa_cons hb pa_nil h3) h2)) (pg_tup c.calm (pgs_cons hx (pgs_cons hy pgs_nil)) hn hst) hs hw h1) fun D σ H ⟨w, m, eH, P, q⟩ => by
  rw [evS, FSat_ofR] at q
  refine ⟨w, m, eH, P, Res.sat_mono q fun ra m1 q1 w1 v1 S1 x1 r1 => ?_⟩
  cases ra with
  | ow o => exact q1.elim
  | bo i => exact q1.elim
  | fz t =>
    rw [FSat_ofR] at q1
    refine ⟨w1, m1, rfl, P.step S1 x1, Res.sat_mono q1 fun rb m2 q2 w2 v2 S2 x2 r2 => ?_⟩
    cases rb with
    | fz t => exact q2.elim
    | bo i => exact q2.elim
    | ow o =>
      obtain ⟨p, rfl, ro, l, n⟩ := r2
      simp only at q2
      split at q2
      · refine ⟨by show 2 ≤ sizeLine; decide, fun q0 hq0 => ⟨q0, [v1, .ref p], rfl, .inl (.inl upd_same), rfl, v1, [.ref p], rfl, .ref p, [], rfl, rfl, ?_⟩⟩
        have hp : ∃ u, w2.H p = some u := ro.trk
        have hpq : p ≠ q0 := fun e => by
          obtain ⟨u, hu⟩ := hp
          rw [e, hq0] at hu
          cases hu
        have S3 : SR C.G ((w2.new q0 (.tup [v1, .ref p])).hide q0) m2 σ := (S2.new hq0).hide fun i' o' h e => by
          obtain ⟨a', e1, r', _⟩ := S2.sl i' _ h
          rw [e] at e1
          cases e1
          obtain ⟨u', hu⟩ := r'.trk
          rw [hq0] at hu
          cases hu
        have x3 : Ex w2 ((w2.new q0 (.tup [v1, .ref p])).hide q0) := (Ex.new S2.trk hq0).trans (Ex.hide (.inr rfl))
        have rf : RF C.G ((w2.new q0 (.tup [v1, .ref p])).hide q0) t v1 := RF.mono x3.mo (RF.mono x2.mo r1)
        have ro' : RO C.G ((w2.new q0 (.tup [v1, .ref p])).hide q0) p o := ro.mono x3.mo (by show upd w2.H q0 _ p = w2.H p; rw [upd_ne hpq])
        have S4 := (S3.setFz (i := i) rf).setOw (i := j) ro' ⟨.inl l, hpq⟩ (setOw_fz n)
        refine q2 ((w2.new q0 (.tup [v1, .ref p])).hide q0) _ ⟨S4, P.ex.trans (x1.trans (x2.trans x3)), fun k hk => ?_⟩ (x1.trans (x2.trans x3))
        rw [List.getElem?_set_ne, List.getElem?_set_ne, P.fix k hk]
        · intro e; rw [e, hk] at nfx; exact nomatch nfx.1
        · intro e; rw [e, hk] at nfx; exact nomatch nfx.2
      · exact q2.elim
/-! ### two stars -/
theorem evDs_app2 : ∀ (es fs : Es) (m : List Slot), evDs cal (es.app fs) m = (evDs cal es m).bind fun ds m1 => (evDs cal fs m1).bind fun ds2 m2 => .ok (ds ++ ds2) m2
  | .nil, fs, m => by
    rw [Es.app, evDs]
    show _ = (evDs cal fs m).bind _
    cases evDs cal fs m <;> rfl
  | .cons e r, fs, m => by
    rw [Es.app, evDs, evDs]
    rw [Res.bind_assoc]
    congr 1
    funext x m1
    rw [evDs_app2 r fs m1, Res.bind_assoc, Res.bind_assoc]
    congr 1
    funext xs m2
    rw [Res.bind_assoc]
    rfl
theorem RDs.app2 {G : Gm} {w : Wd} {σ : St} {ds ds2 : List Opd} {vs vs2 : List V} (a : RDs G w σ ds vs) (b : RDs G w σ ds2 vs2) : RDs G w σ (ds ++ ds2) (vs ++ vs2) := by
  induction a with
  | nil => exact b
  | cons x _ ih => exact .cons x ih
theorem rfk_str {G : Gm} {w : Wd} {ns : List Str} : ∀ {kvs : List (Key × T)} {ks : List (Key × V)}, RFk G w kvs ks → (kvs.all fun kv => match kv.1 with
    | .inr x => !ns.contains x
    | .inl _ => false) = true → ∃ l : List (Str × V), ks = dkS l ∧ ∀ p ∈ l, ns.contains p.1 = false
  | _, _, .nil, _ => ⟨[], rfl, fun _ h => by cases h⟩
  | _, _, .cons (k := .inl i) a r, h => by cases h
  | _, _, .cons (k := .inr x) (v := v) a r, h => by
    rw [List.all_cons, Bool.and_eq_true] at h
    obtain ⟨l, rfl, h2⟩ := rfk_str r h.2
    refine ⟨(x, v) :: l, rfl, fun p hp => ?_⟩
    rcases List.mem_cons.mp hp with rfl | hp
    · simpa using h.1
    · exact h2 p hp
theorem upd_comm {H : Hp} {a b : Addr} {u v : HO} (h : a ≠ b) : upd (upd H a u) b v = upd (upd H b v) a u := by
  funext c
  unfold upd
  by_cases h1 : c = b
  · subst h1
    rw [if_pos rfl, if_neg (fun e => h e.symm), if_pos rfl]
  · rw [if_neg h1, if_neg h1]
theorem ev_kw {i : Nat} {N : List Str} {m1 : List Slot} {r : R} {t : T} (h : evE cal (.var i) m1 = .ok r m1) (ht : der m1 r.opd = some t) :
    evDs cal (.cons (.op (.kwd N) (.cons (.var i) .nil)) .nil) m1 = match kwdF N t with
      | some r' => .ok [r'.opd] m1
      | none => .no := by
  rw [evDs, evE, evDs, h]
  show Res.bind (Res.bind (Res.bind (Res.ok r m1) _) _) _ = _
  simp only [Res.bind, evDs, opR, ders, ht, opF, op1, Option.bind_some]
  cases kwdF N t <;> rfl
theorem rd_mkW {c f i : Nat} {N : List Str} {es : Es} (hN : es.len + 1 = N.length) {σ : St} {H : Hp} {Q : VK} (q : rdE C (evE cal (.mk c f [] (es.app (.cons (.op (.kwd N) (.cons (.var i) .nil)) .nil)))) σ H Q) :
    tMakeD (C.G.cls c) N (spM C.G cal f) EF i (rdDs C (evDs cal es)) σ H Q := by
  have q := rd_mk0 (pm := []) (pmv := fun vs => vs) (fun r => r) q
  obtain ⟨w, m, e, P, q⟩ := q
  refine ⟨w, m, e, P, ?_⟩
  rw [evDs_app2] at q
  cases hd : evDs cal es m with
  | no => rw [hd] at q; exact q.elim
  | ex x m1 => rw [hd] at q; exact q
  | ok ds m1 =>
    rw [hd] at q
    have q1 : ((evDs cal (.cons (.op (.kwd N) (.cons (.var i) .nil)) .nil) m1).bind fun ds2 m2 => Res.ok (ds ++ ds2) m2).sat _ _ := q
    intro w1 vs S1 x1 r1
    have hl : ds.length = es.len := evDs_len es m ds m1 hd
    have key : ∃ kvs d v, der m1 d = some (.dic kvs) ∧ (kvs.all fun kv => match kv.1 with
        | .inr x => !N.contains x
        | .inl _ => false) = true ∧ σ[i]? = some (some v) ∧ RD C.G w1 σ d v ∧
        evDs cal (.cons (.op (.kwd N) (.cons (.var i) .nil)) .nil) m1 = .ok [.t (.dic kvs)] m1 := by
      have fin : ∀ (r : R) (t : T) (v : V), evE cal (.var i) m1 = .ok r m1 → der m1 r.opd = some t → σ[i]? = some (some v) → RD C.G w1 σ r.opd v → ∃ kvs d v, der m1 d = some (.dic kvs) ∧ (kvs.all fun kv => match kv.1 with
          | .inr x => !N.contains x
          | .inl _ => false) = true ∧ σ[i]? = some (some v) ∧ RD C.G w1 σ d v ∧
          evDs cal (.cons (.op (.kwd N) (.cons (.var i) .nil)) .nil) m1 = .ok [.t (.dic kvs)] m1 := by
        intro r t v h1 h2 h3 h4
        have h5 := ev_kw (N := N) h1 h2
        cases hk : kwdF N t with
        | none => rw [hk] at h5; rw [h5] at q1; exact q1.elim
        | some r' =>
          rw [hk] at h5
          unfold kwdF at hk
          split at hk
          · rename_i kvs
            split at hk
            · rename_i hall
              cases hk
              exact ⟨kvs, r.opd, v, h2, hall, h3, h4, h5⟩
            · cases hk
          · cases hk
      cases hm : m1[i]? with
      | none =>
        have h1 : evE cal (.var i) m1 = .no := by rw [evE, hm]
        rw [evDs, evE, evDs, h1] at q1
        exact q1.elim
      | some sl =>
        cases sl with
        | no =>
          have h1 : evE cal (.var i) m1 = .no := by rw [evE, hm]
          rw [evDs, evE, evDs, h1] at q1
          exact q1.elim
        | fz t =>
          have h1 : evE cal (.var i) m1 = .ok (.fz t) m1 := by rw [evE, hm]
          obtain ⟨v, hv, rv⟩ := S1.sl i _ hm
          exact fin (.fz t) t v h1 rfl hv rv
        | ow o =>
          have h1 : evE cal (.var i) m1 = .ok (.bo i) m1 := by rw [evE, hm]
          obtain ⟨a, ha, _, _⟩ := S1.sl i _ hm
          exact fin (.bo i) o.frz (.ref a) h1 (by show (match m1[i]? with | some (.ow o) => some o.frz | some (.fz t) => some t | _ => none) = _; rw [hm]) ha ha
    obtain ⟨kvs, d0, v, h2, hall, hσ, hrd, hev⟩ := key
    rw [hev] at q1
    obtain ⟨p, ks, rfl, hp, rk⟩ := (S1.der hrd h2).dic
    obtain ⟨l, rfl, hl2⟩ := rfk_str rk hall
    refine ⟨by rw [← r1.len, hl]; exact hN, p, l, hσ, hp, hl2, fun mm x dx d hm hx hdx hd n1 n2 n3 n4 n5 n6 => ?_⟩
    have S2 := S1.new (u := .dK (dkS l)) hm
    have x2 := Ex.new (u := .dK (dkS l)) S1.trk hm
    have hd2 : (w1.new mm (.dK (dkS l))).H d = none := by
      show upd w1.H mm _ d = none
      rw [upd_ne n3]; exact hd
    have S3 := S2.new (u := .dK (dkS l)) hd2
    have x3 := Ex.new (u := .dK (dkS l)) S2.trk hd2
    have rr : RR C.G ((w1.new mm (.dK (dkS l))).new d (.dK (dkS l))) m1 σ (.ow (.dic kvs)) (.ref d) := by
      refine ⟨d, rfl, .dic upd_same (RFk.mono x3.mo (RFk.mono x2.mo rk)), .inr rfl, fun i o' h e => ?_⟩
      obtain ⟨a, e1, r1, _⟩ := S2.sl i _ h
      rw [e] at e1
      cases e1
      obtain ⟨u', hu⟩ := r1.trk
      rw [hd2] at hu
      cases hu
    obtain ⟨w4, e4, S4, x4, d4⟩ := S3.opd rr
    have xx := x2.trans (x3.trans x4)
    have eH : w4.H = upd (upd w1.H mm (.dK (dkS l))) d (.dK (dkS l)) := e4
    have z := q1 w4 (vs ++ [.ref d]) S4 (x1.trans xx) ((r1.mono xx.mo).app2 (.cons (show RD C.G w4 σ (.t (.dic kvs)) (.ref d) from d4) .nil)) x dx (by rw [eH, upd_ne (Ne.symm n5), upd_ne n1]; exact hx) (by rw [eH, upd_ne (Ne.symm n6), upd_ne n2]; exact hdx) n4
    rw [eH, upd_comm n6, upd_comm n5] at z
    exact z
theorem kwD_of {K : PySem.W.Frag} {x qual : Str} {params : Arguments} {body : List Stmt} {scope : Scope} {dvs : List V} {kws : List (Str × V)} {f : Addr} {fd : FuncData} {N : List Str} {y : Str} (F : L2.FunD K x qual params body scope dvs kws f fd) (hpo : params.posonlyargs = []) (hn : params.args.map (·.arg) = N) (hko : params.kwonlyargs = []) (hva : params.vararg = none) (hkw : params.kwarg.map (·.arg) = some y) (hN : N.Nodup) :
    ∃ a, a.arg = y ∧ KwD K fd N a := by
  obtain ⟨oc, od, dV, kV, doc, pm, an, cdv, ct, osl, rfl, lk, hcd, hD, hK⟩ := F.ex
  cases hk : params.kwarg with
  | none => rw [hk] at hkw; cases hkw
  | some a =>
    rw [hk] at hkw
    refine ⟨a, Option.some.inj hkw, hpo, hn, hko, hva, hk, hN, ?_⟩
    rcases hD with ⟨_, rfl⟩ | ⟨_, T, o, its, m, rfl, lT, oT, rT⟩
    · exact ⟨none, fun M h X => PySem.W.Looks.of_pure rfl⟩
    · refine ⟨some its.toArray, fun M h X => ?_⟩
      have := L2.looks_items (M := M) (k := fun x => (pure x : Sem (Option (Array Value)))) X lT oT (PySem.W.Looks.of_pure rfl)
      rwa [bind_pure] at this
theorem q_mkW (c : XC C X k) (e : GX tab fx gk cn X k C.G cal) {cl f i ig im : Nat} {nm y : Str} {N : List Str} {y0 : Str} {d : He5.DefA} {e1 : Expr} {es1 : List Expr} {es : Es} (hcl : cn[cl]? = some nm) (hig : fx[ig]? = some (.glo nm)) (him : fx[im]? = some (.mkr nm)) (ht : tab f = some (d, N ++ [y0]))
    (hat : d.at_ = fun K => He.ma K (He.ga K nm) "__init__") (hn : es.len + 1 = N.length) (D : ∀ {K : PySem.W.Frag} {f : Addr} {fd : FuncData}, L2.FunD K d.name d.qual d.params d.body d.scope (d.dvs K) (d.kws K) f fd → ∃ a, a.arg = y0 ∧ KwD K fd N a) (hnc : noCls (N ++ [y0]) = true) (h : PA X (e1 :: es1) (rdDs C (evDs cal es))) (hN : X.N[i]? = some y) (hv : Vis X.env.scope y)
    (hg : Gl X nm := by rfl) (hdb : (nm == ("__debug__" : Str)) = false := by decide) (hdb2 : (y == ("__debug__" : Str)) = false := by decide) (hcd2 : (y == ("__classdict__" : Str)) = false := by decide)
    (hkw : backToKw pos (keywordEach [⟨none, .Name y py, kp⟩] X.env) = [(none, (do let v ← eval (.Name y py) X.env; standAt pos; pure v : Sem Value))] := by rfl)
    (he : starEach (e1 :: es1) X.env = (false, eval e1 X.env) :: starEach es1 X.env := by rfl) :
    PE X (.Call (.Name nm p1) (e1 :: es1) [⟨none, .Name y py, kp⟩] pos) (rdE C (evE cal (.mk cl f [] (es.app (.cons (.op (.kwd N) (.cons (.var i) .nil)) .nil))))) := by
  obtain ⟨fd, F, ok⟩ := e.fnb f d _ ht
  replace ok := ok.imp (sp' := spM C.G cal f) fun vs H Q E h => ⟨fun z => (by rw [hnc] at z; cases z), h⟩
  obtain ⟨a, ea, hD⟩ := D F
  subst ea
  have ha' : d.at_ X.K = He.ma X.K (He.ga X.K nm) "__init__" := by rw [hat]
  rw [ha'] at ok
  exact PE.imp (pe_makeD (e.mkr hcl him) ok c.room hg (e.gloC hcl hig) hD passEF StX.cxUp h (pe_var hN hv hdb2 hcd2) hdb hkw he) fun σ H Q q => rd_mkW hn q
end
end Mi
set_option maxHeartbeats 1000000
/-! C(e, k = v, ..) where __init__(self, constant=.., **rest) -/
namespace PySem
open Sem (wp)
section
variable {A : Around} {E : Value → Shared → Prop} {s : Shared} {M : Model}
theorem kw_bindB {fd : FuncData} {x d0 : Value} {kw : List (Str × Value)} {n0 n1 : Str} {a : Arg} {Q : List (Str × Value) → Shared → Prop} (hpo : fd.params.posonlyargs = []) (hn : fd.params.args.map (·.arg) = [n0, n1]) (hko : fd.params.kwonlyargs = []) (hva : fd.params.vararg = none) (hkw : fd.params.kwarg = some a)
    (hN : n1 ≠ n0) (hkk : ∀ p ∈ kw, ([n0, n1] : List Str).contains p.1 = false) (hd : PySem.W.Looks M s.heap (seqItems? fd.defaults) (some #[d0]))
    (h : wpAny M A (do
      let d ← alloc { cls := .type "dict", data := .dict #[] }
      for (k, v) in kw do nsSet d k v
      return [(n0, x), (n1, d0)] ++ [(a.arg, Value.ref d)]) Q E s) (hz : kw.length ≤ sizeLine + 1) : wpAny M A (bindArgs fd ⟨[x], kw⟩) Q E s := by
  have e1 : (n1 == n0) = false := beq_eq_false_iff_ne.mpr hN
  unfold bindArgs
  simp only [hpo, hko, hva, hkw, hn, List.map_nil, List.nil_append, List.append_nil]
  refine wpAny_bind (kw_loop (f := fun b x => (b.1, b.2 ++ [(x.1, x.2)])) kw _ (fun x hx b => ?_) ?_)
  · rw [if_neg (by rw [hkk x hx]; exact Bool.false_ne_true), if_pos (show (some a).isSome = true from rfl)]
  rw [kw_fold, List.nil_append]
  refine wpAny_bind (hd.here ?_)
  rw [if_neg (by simp)]
  rw [if_neg (by simp)]
  have e3 : (List.drop (([n0, n1] : List Str).length - (List.drop ((#[d0] : Array Value).toList.length - ([n0, n1] : List Str).length) (#[d0] : Array Value).toList).length) [n0, n1]).zip (List.drop ((#[d0] : Array Value).toList.length - ([n0, n1] : List Str).length) (#[d0] : Array Value).toList) = [(n1, d0)] := rfl
  simp only [Option.getD_some]
  rw [e3, List.forIn_cons]
  have e5 : (List.zip [n0, n1] [x]) = [(n0, x)] := rfl
  rw [e5]
  have e6 : (List.lookup n1 [(n0, x)]).isNone = true := by rw [List.lookup_cons, e1]; rfl
  dsimp only
  rw [if_pos e6]
  refine wpAny_bind (wpAny_bind (wpAny_pure ?_))
  dsimp only
  rw [List.forIn_nil]
  refine wpAny_pure ?_
  rw [List.forIn_nil]
  refine wpAny_bind (wpAny_pure ?_)
  rw [if_neg (by exact Bool.false_ne_true)]
  dsimp only
  rw [if_neg (by omega)]
  have e4 : List.filterMap (fun n => Option.map (fun x => (n, x)) (List.lookup n ([(n0, x)] ++ [(n1, d0)]))) [n0, n1] = [(n0, x), (n1, d0)] := by simp [List.lookup_cons, e1]
  rw [e4]
  exact h
end
end PySem

namespace L2
open PySem PySem.Spec PyProof.Rows
noncomputable def BKw (K : PySem.W.Frag) (fd : FuncData) (args : Args) (zs : List (Str × Value)) (y : Str) (kw : List (Str × Value)) : Prop := ∀ {M : Model} {A : Around} {E : Value → Shared → Prop} {s : Shared} {Q : List (Str × Value) → Shared → Prop}, K.In s.heap →
  wpAny M A (do
    let d ← alloc { cls := .type "dict", data := .dict #[] }
    for (k, v) in kw do nsSet d k v
    return zs ++ [(y, Value.ref d)]) Q E s → wpAny M A (bindArgs fd args) Q E s
section
variable {P : Program} {w : World} {K : PySem.W.Frag} {mg : Str → Option Value} {base : Heap} {CX : CXT} {k : Nat} {f : Addr} {fd : FuncData} {ps N : List Str} {y : Str} {sp : Sp}
theorem kw_bnd2 {A : Around} {outer : List Env} {s : Shared} {H : Hp} {E : XK} {args : Args} {vs : List V} {us : List Value} {ks : List (Str × V)} {kw : List (Str × Value)} (B : BKw K fd args (N.zip us) y kw) (hU : StX.CXUp CX) (e0 : Env0 P w K mg base A outer s H) (r : Vals vs us) (l1 : vs.length = N.length)
    (rk : KV ks kw) (hnd : (ks.map (·.1)).Nodup) (hz : ks.length ≤ sizeLine) :
    StX.Bnd CX P w K mg base fd args (N ++ [y]) A outer s H E (fun xs H2 => ∃ d, H d = none ∧ xs = vs ++ [.ref d] ∧ H2 = upd H d (.dK (dkS ks))) := by
  intro A' Ex Q' hQ
  have hl : us.length = N.length := r.length.symm.trans l1
  have hkin : K.In s.heap := e0.mod.kin.keeps fun b x e => (e0.bs b x e).1
  have hfr : H s.heap.objs.size = none := e0.hok.fresh (Nat.le_refl _)
  have hbig : sysModules < s.heap.objs.size := StX.env0_big e0
  refine B hkin (wpAny_bind (wpAny_alloc ?_))
  refine wpAny_bind (kw_nsSets (P := P) (w := w) kw [] (by rw [List.nil_append, ← kv_keys rk]; exact hnd) (Heap.DictOf.new s.heap) fun h' t' hd hs => ?_)
  refine wpAny_pure ?_
  have kp : ∀ b x, s.heap.get? b = some x → h'.get? b = some x := fun b x e => (hs.2 b (Nat.ne_of_lt (Heap.lt_size e))).trans (Heap.get?_push_of_some _ e)
  rw [List.nil_append] at hd
  have new : ObjOk P w (upd H s.heap.objs.size (.dK (dkS ks))) h' s.heap.objs.size (.dK (dkS ks)) := ⟨by rw [List.length_map]; exact hz, beq_eq_false_iff_ne.mpr (Ne.symm (Nat.ne_of_lt hbig)), _, kv_up rk, hd⟩
  have hsz : s.heap.objs.size ≤ h'.objs.size := by
    have := hs.1
    rw [Heap.size_push] at this
    omega
  have un : Un (frs outer) [] H (upd H s.heap.objs.size (.dK (dkS ks))) s.heap h' := Un.laid kp (Nat.le_refl _) hfr
  have z := hQ { s with heap := h', toks := t' } (upd H s.heap.objs.size (.dK (dkS ks))) (vs ++ [.ref s.heap.objs.size]) (us ++ [.ref s.heap.objs.size]) (env0_of e0 kp hsz (Nat.le_refl _) new) un rfl (fun e s' => hU outer s H _ _ E e s' un kp rfl) (r.append (.cons (show RelV (.ref s.heap.objs.size) (.ref s.heap.objs.size) from rfl) .nil)) (by rw [List.length_append, List.length_append, l1]; rfl) ⟨_, hfr, rfl, rfl⟩
  rw [List.zip_append hl.symm] at z
  exact z
structure MkB (K : PySem.W.Frag) (fd : FuncData) (n0 n1 y : Str) (n : Nat) (ks : List Str) (cV : List V → List V → V) (kV : List V → List (Str × V)) : Prop where
  b : ∀ {vs : List V} {us : List Value} {zs : List V} {ws : List Value}, Vals vs us → Vals zs ws → vs.length = n → zs.length = ks.length → ∃ cu kw, RelV (cV vs zs) cu ∧ KV (kV zs) kw ∧ ∀ x, BKw K fd ⟨x :: us, ks.zip ws⟩ ([n0, n1].zip [x, cu]) y kw
  nd : ∀ zs : List V, zs.length = ks.length → ((kV zs).map (·.1)).Nodup
  sz : ∀ zs : List V, zs.length = ks.length → (kV zs).length ≤ sizeLine
end
section
variable {X : Cx} {CX : CXT} {k n : Nat} {f C : Addr} {fd : FuncData} {n0 n1 y : Str} {ks : List Str} {cV : List V → List V → V} {kV : List V → List (Str × V)} {sp : Sp} {E : XK}
theorem run_makeD2 {pins : List (Addr × Obj)} {σ : St} {H : Hp} {s : Shared} {Q : VK} {us ws : List Value} {vs zs : List V} (M : Mk X.K C f) (F : FnB X.prog X.w X.K X.mg X.base CX k f fd ([n0, n1] ++ [y]) sp) (hr : Room (k + 1) X.A) (D : MkB X.K fd n0 n1 y n ks cV kV)
    (hx : Passes CX X E) (hU : StX.CXUp CX) (I : Inv X pins σ H s) (r : Vals vs us) (rz : Vals zs ws) (l1 : vs.length = n) (l2 : zs.length = ks.length)
    (h : ∀ x dx d, H x = none → H dx = none → H d = none → dx ≠ x → d ≠ x → d ≠ dx → sp [.ref x, cV vs zs, .ref d] (upd (upd (upd H dx (.own x)) x (.ins C dx [])) d (.dK (dkS (kV zs)))) (fun v H2 => v = .non ∧ Q (.ref x) H2) E) :
    wpAny (model X.prog X.w) X.A (call (.ref C) us (ks.zip ws)) (EP X pins σ Q) X.xe s := by
  have hq := h (s.heap.objs.size + 1) s.heap.objs.size
  have I2 := Inv.made (C := C) I
  obtain ⟨cu, kw, r1, rk, B⟩ := D.b r rz l1 l2
  have r3 : Vals [V.ref (s.heap.objs.size + 1), cV vs zs] [Value.ref (s.heap.objs.size + 1), cu] := .cons rfl (.cons r1 .nil)
  have h2 := hq (s.heap.objs.size + 2) (I.hok.fresh (Nat.le_succ _)) (I.hok.fresh (Nat.le_refl _)) (I.hok.fresh (Nat.le_add_right _ 2)) (Nat.ne_of_lt (Nat.lt_succ_self _)) (Nat.succ_ne_self _) (Nat.ne_of_gt (Nat.lt_add_of_pos_right (by decide)))
  refine wpAny_call (make_map (f := f) I.kIn M.makes M.init (beq_iff_eq.mp M.fn) (codeAny_mono (F.runB _ X.stack _ _ ⟨Value.ref (s.heap.objs.size + 1) :: us, ks.zip ws⟩ (fun v H2 => v = .non ∧ Q (.ref (s.heap.objs.size + 1)) H2) E _ (hr.make C us (ks.zip ws))
    (I2.env0.make C us (ks.zip ws)) (kw_bnd2 (N := [n0, n1]) (B _) hU (I2.env0.make C us (ks.zip ws)) r3 rfl rk (D.nd zs l2) (D.sz zs l2)) ⟨_, _, h2⟩ fun xs H2 ⟨d, hd, ex, eH⟩ => ?_) fun r s' hq' => ?_))
  · subst ex eH
    have e1 : d ≠ s.heap.objs.size + 1 := fun e => by rw [e, upd_same] at hd; cases hd
    have e2 : d ≠ s.heap.objs.size := fun e => by rw [upd_ne e1, e, upd_same] at hd; cases hd
    rw [upd_ne e1, upd_ne e2] at hd
    exact hq d (I.hok.fresh (Nat.le_succ _)) (I.hok.fresh (Nat.le_refl _)) hd (Nat.ne_of_lt (Nat.lt_succ_self _)) e1 e2
  cases r with
  | error e => exact hx pins σ _ _ e s' I2 hq'
  | ok fl =>
    cases fl with
    | ret u =>
      obtain ⟨v, H', I3, rv, ev, q3⟩ := I2.after hq'
      subst ev
      exact ⟨rv, ⟨V.ref (s.heap.objs.size + 1), H', I3, rfl, q3⟩⟩
    | next => exact False.elim hq'
    | brk => exact False.elim hq'
    | cont => exact False.elim hq'
noncomputable def tMakeE (C : Addr) (n m : Nat) (sp : Sp) (cV : List V → List V → V) (kV : List V → List (Str × V)) (E : XK) (t tk : TA) : TE := fun σ H Q => t σ H fun vs H1 => tk σ H1 fun zs H2 => vs.length = n ∧ zs.length = m ∧ ∀ x dx d, H2 x = none → H2 dx = none → H2 d = none → dx ≠ x → d ≠ x → d ≠ dx →
  sp [.ref x, cV vs zs, .ref d] (upd (upd (upd H2 dx (.own x)) x (.ins C dx [])) d (.dK (dkS (kV zs)))) (fun v H3 => v = .non ∧ Q (.ref x) H3) E
theorem pe_makeE {x : Str} {p pos : Pos} {e : Expr} {es : List Expr} {kws : List Keyword} {t tk : TA} (M : Mk X.K C f) (F : FnB X.prog X.w X.K X.mg X.base CX k f fd ([n0, n1] ++ [y]) sp) (hr : Room (k + 1) X.A) (hg : Gl X x) (hm : X.mg x = some (.ref C)) (D : MkB X.K fd n0 n1 y n ks cV kV)
    (hx : Passes CX X E) (hU : StX.CXUp CX) (ha : PA X (e :: es) t) (hkw : PK X kws tk) (hdb : (x == ("__debug__" : Str)) = false := by decide)
    (hall : (backToKw pos (keywordEach kws X.env)).all (·.1.isSome) = true := by rfl) (hks : (backToKw pos (keywordEach kws X.env)).filterMap (·.1) = ks := by rfl)
    (he : starEach (e :: es) X.env = (false, eval e X.env) :: starEach es X.env := by rfl) (hpl : ((backTo pos (starEach (e :: es) X.env)).any (·.1) || (backToKw pos (keywordEach kws X.env)).any (·.1.isNone)) = false := by rfl) :
    PE X (.Call (.Name x p) (e :: es) kws pos) (tMakeE C n ks.length sp cV kV E t tk) := by
  refine ⟨fun pins s σ H Q I h => ?_⟩
  refine wpAny_Call_Name_kw (ld_glob I hg hm ?_ hdb)
  refine PySem.W.callWith_KW (h₀ := X.base) I.ok.mod.kin M.kp hall (thn (ha.run pos pins s σ H _ I h) fun us s1 ⟨vs, H1, I1, r, q⟩ => thn (hkw.run pos pins s1 σ H1 _ I1 q) fun ws s2 ⟨zs, H2, I2, rz, l1, l2, q2⟩ => ⟨I2.kIn, ?_⟩) hpl he
  rw [hks]
  exact run_makeD2 M F hr D hx hU I2 r rz l1 l2 q2
end
section
variable {K : PySem.W.Frag} {fd : FuncData} {n0 n1 : Str} {a : Arg} {ks : List Str}
theorem kv_zip : ∀ {ks : List Str} {zs : List V} {ws : List Value}, Vals zs ws → KV (ks.zip zs) (ks.zip ws)
  | [], _, _, _ => by rw [List.zip_nil_left, List.zip_nil_left]; exact .nil
  | _ :: _, _, _, .nil => .nil
  | _ :: _, _, _, .cons a r => .cons ⟨rfl, a⟩ (kv_zip r)
theorem zip_keys {α : Type} : ∀ {ks : List Str} {zs : List α}, zs.length = ks.length → (ks.zip zs).map (·.1) = ks
  | [], _, _ => by rw [List.zip_nil_left]; rfl
  | k :: ks, [], h => by cases h
  | k :: ks, z :: zs, h => by rw [List.zip_cons_cons, List.map_cons, zip_keys (by simpa using h)]
theorem zip_in {α : Type} {N : List Str} {zs : List α} (h : ∀ k ∈ ks, N.contains k = false) : ∀ p ∈ ks.zip zs, N.contains p.1 = false := fun p hp => h _ (List.of_mem_zip hp).1
theorem mkb_A (D : KwD K fd [n0, n1] a) (hk : ∀ k ∈ ks, ([n0, n1] : List Str).contains k = false) (hn : ks.Nodup) (hz : ks.length ≤ 1000) : MkB K fd n0 n1 a.arg 1 ks (fun vs _ => vs.headD .non) (fun zs => ks.zip zs) where
  b := fun {vs us zs ws} r rz l1 l2 => by
    cases r with
    | nil => cases l1
    | cons r0 r =>
      cases r with
      | cons _ _ => cases l1
      | nil =>
        refine ⟨_, ks.zip ws, r0, kv_zip rz, fun x {M A E s Q} X h => ?_⟩
        obtain ⟨its, hits⟩ := D.dfl
        exact kw_bind D.po D.n D.ko D.va D.kw D.nd rfl (zip_in hk) (hits _ _ X) h (by
          rw [List.length_zip]
          exact Nat.le_trans (Nat.min_le_left _ _) (Nat.le_trans hz (by decide)))
  nd := fun zs l => by rw [zip_keys l]; exact hn
  sz := fun zs l => by
    rw [List.length_zip]
    exact Nat.le_trans (Nat.min_le_left _ _) (Nat.le_trans hz (by decide))
structure KwD1 (K : PySem.W.Frag) (fd : FuncData) (N : List Str) (a : Arg) (dv : V) : Prop where
  d : KwD K fd N a
  dfl : ∃ d0, RelV dv d0 ∧ ∀ (M : Model) (h : Heap), K.In h → PySem.W.Looks M h (seqItems? fd.defaults) (some #[d0])
end
end L2
set_option maxHeartbeats 1000000
namespace Mi
open PySem PySem.Spec PyProof.Rows L2
section
variable {C : Ct} {X : Cx} {k L : Nat} {cal : Nat → List Slot → CRes} {pos apos p1 p2 py kp : Pos}
theorem rds_flat {G : Gm} {w : Wd} {σ : St} : ∀ {ts : List T} {vs : List V}, ts.all flatT = true → RDs G w σ (ts.map Opd.t) vs → vs = ts.map vT
  | [], _, _, .nil => rfl
  | t :: ts, _, h, .cons a r => by
    rw [List.all_cons, Bool.and_eq_true] at h
    rw [List.map_cons, ← rds_flat h.2 r]
    have a : RF G w t _ := a
    cases t <;> first | (cases h.1; done) | (cases a; rfl)
noncomputable abbrev kvK (l : List (Str × T)) : List (Key × T) := l.map fun p => (Sum.inr p.1, p.2)
theorem rfk_kvK {G : Gm} {w : Wd} : ∀ {l : List (Str × T)}, l.all (fun p => flatT p.2) = true → RFk G w (kvK l) (dkS (l.map fun p => (p.1, vT p.2)))
  | [], _ => .nil
  | p :: l, h => by
    rw [List.all_cons, Bool.and_eq_true] at h
    exact .cons (rf_flat h.1) (rfk_kvK h.2)
theorem rd_mkC {c f n : Nat} {t0 : T} {l : List (Str × T)} {es kes : Es} {pts kts : List T} {ks : List Str} {cV : List V → List V → V} {kV : List V → List (Str × V)} (hes : ∀ m, evDs cal es m = .ok (pts.map Opd.t) m) (hkes : ∀ m, evDs cal kes m = .ok (kts.map Opd.t) m) (hpf : pts.all flatT = true) (hkf : kts.all flatT = true)
    (hn : pts.length = n) (hk : kts.length = ks.length) (hf0 : flatT t0 = true) (hl : l.all (fun p => flatT p.2) = true) (hc : cV (pts.map vT) (kts.map vT) = vT t0) (hkv : kV (kts.map vT) = l.map fun p => (p.1, vT p.2)) (h15 : l.length ≤ 15) (hp : putsT [] (kvK l) = kvK l) {σ : St} {H : Hp} {Q : VK}
    (q : rdE C (evE cal (.mk c f [] (.cons (.c t0) (.cons (.dsc (kvK l)) .nil)))) σ H Q) : tMakeE (C.G.cls c) n ks.length (spM C.G cal f) cV kV EF (rdDs C (evDs cal es)) (rdDs C (evDs cal kes)) σ H Q := by
  have q := rd_mk0 (pm := []) (pmv := fun vs => vs) (fun r => r) q
  obtain ⟨w, m, e, P, q⟩ := q
  have hg : (kvK l).all (fun kv => flatT kv.2) = true ∧ (kvK l).length ≤ 15 := ⟨by rw [List.all_map]; exact hl, by rw [List.length_map]; exact h15⟩
  have hev : evDs cal (.cons (.c t0) (.cons (.dsc (kvK l)) .nil)) m = .ok [.t t0, .t (.dic (kvK l))] m := by
    rw [evDs, evE]
    show (evDs cal (.cons (.dsc (kvK l)) .nil) m).bind (fun xs m2 => Res.ok (Opd.t t0 :: xs) m2) = _
    rw [evDs, evE, if_pos hg, hp]
    show ((evDs cal .nil m).bind fun xs m2 => Res.ok (Opd.t (.dic (kvK l)) :: xs) m2).bind (fun xs m2 => Res.ok (Opd.t t0 :: xs) m2) = _
    rw [evDs]
    rfl
  rw [hev] at q
  refine ⟨w, m, e, P, ?_⟩
  rw [hes]
  intro w1 vs S1 x1 r1
  cases rds_flat hpf r1
  refine ⟨w1, m, rfl, P.step S1 x1, ?_⟩
  rw [hkes]
  intro w2 zs S2 x2 r2
  cases rds_flat hkf r2
  refine ⟨by rw [List.length_map]; exact hn, by rw [List.length_map]; exact hk, fun x dx d hx hdx hd n1 n2 n3 => ?_⟩
  rw [hc, hkv]
  generalize hks : (l.map fun p => (p.1, vT p.2)) = lv
  have rk : RFk C.G w2 (kvK l) (dkS lv) := by rw [← hks]; exact rfk_kvK hl
  have S3 := S2.new (u := .dK (dkS lv)) hd
  have x3 := Ex.new (u := .dK (dkS lv)) S2.trk hd
  have rr : RR C.G (w2.new d (.dK (dkS lv))) m σ (.ow (.dic (kvK l))) (.ref d) := by
    refine ⟨d, rfl, .dic upd_same (RFk.mono x3.mo rk), .inr rfl, fun i o' h e => ?_⟩
    obtain ⟨a, e1, r1, _⟩ := S2.sl i _ h
    rw [e] at e1
    cases e1
    obtain ⟨u', hu⟩ := r1.trk
    rw [hd] at hu
    cases hu
  obtain ⟨w4, e4, S4, x4, d4⟩ := S3.opd rr
  have xx := x3.trans x4
  have eH : w4.H = upd w2.H d (.dK (dkS lv)) := e4
  have z := q w4 [vT t0, .ref d] S4 (x1.trans (x2.trans xx)) (.cons (show RD C.G w4 σ (.t t0) (vT t0) from rf_flat hf0) (.cons (show RD C.G w4 σ (.t (.dic (kvK l))) (.ref d) from d4) .nil)) x dx (by rw [eH, upd_ne (Ne.symm n2)]; exact hx) (by rw [eH, upd_ne (Ne.symm n3)]; exact hdx) n1
  rw [eH, upd_comm n3, upd_comm n2] at z
  exact z
theorem kwD1_of {K : PySem.W.Frag} {x qual : Str} {params : Arguments} {body : List Stmt} {scope : Scope} {dv : V} {kws : List (Str × V)} {f : Addr} {fd : FuncData} {N : List Str} {y : Str} (F : L2.FunD K x qual params body scope [dv] kws f fd) (hpo : params.posonlyargs = []) (hn : params.args.map (·.arg) = N) (hko : params.kwonlyargs = []) (hva : params.vararg = none) (hkw : params.kwarg.map (·.arg) = some y) (hN : N.Nodup) :
    ∃ a, a.arg = y ∧ KwD1 K fd N a dv := by
  obtain ⟨a, ea, D⟩ := kwD_of F hpo hn hko hva hkw hN
  obtain ⟨oc, od, dV, kV, doc, pm, an, cdv, ct, osl, rfl, lk, hcd, hD, hK⟩ := F.ex
  refine ⟨a, ea, D, ?_⟩
  rcases hD with ⟨z, _⟩ | ⟨_, T, o, its, m, rfl, lT, oT, rT⟩
  · cases z
  · cases rT with
    | cons r0 rT =>
      cases rT
      refine ⟨_, r0, fun M h X => ?_⟩
      have := L2.looks_items (M := M) (k := fun x => (pure x : Sem (Option (Array Value)))) X lT oT (PySem.W.Looks.of_pure rfl)
      rwa [bind_pure] at this
variable {tab : Nat → Option (He5.DefA × List Str)} {fx : List Fx} {gk : List (Str × T)} {cn : List Str}
noncomputable def KwI (d : He5.DefA) (n0 n1 y : Str) (t : T) : Prop := ∀ {K : PySem.W.Frag} {f : Addr} {fd : FuncData}, L2.FunD K d.name d.qual d.params d.body d.scope (d.dvs K) (d.kws K) f fd → ∃ a, a.arg = y ∧ KwD1 K fd [n0, n1] a (vT t)
theorem q_mkEA (c : XC C X k) (e : GX tab fx gk cn X k C.G cal) {cl f ig im : Nat} {nm : Str} {d : He5.DefA} {n0 n1 y : Str} {tD t0 : T} {kws : List Keyword} {e1 : Expr} {es kes : Es} {ks : List Str} {kts : List T} {l : List (Str × T)} (hcl : cn[cl]? = some nm) (hig : fx[ig]? = some (.glo nm)) (him : fx[im]? = some (.mkr nm)) (ht : tab f = some (d, [n0, n1] ++ [y]))
    (hat : d.at_ = fun K => He.ma K (He.ga K nm) "__init__") (D : KwI d n0 n1 y tD) (hnc : noCls ([n0, n1] ++ [y]) = true) (hl : l = ks.zip kts) (hkk : (ks.all fun k => !([n0, n1] : List Str).contains k) = true) (hnd : ks.Nodup) (hz : ks.length ≤ 15)
    (h : PA X [e1] (rdDs C (evDs cal es))) (hkw : PK X kws (rdDs C (evDs cal kes))) (hes : ∀ m, evDs cal es m = .ok ([t0].map Opd.t) m) (hkes : ∀ m, evDs cal kes m = .ok (kts.map Opd.t) m) (hf0 : flatT t0 = true := by rfl) (hkf : kts.all flatT = true := by rfl) (hlen : kts.length = ks.length := by rfl) (hp : putsT [] (kvK l) = kvK l := by rfl)
    (hg : Gl X nm := by rfl) (hdb : (nm == ("__debug__" : Str)) = false := by decide)
    (hall : (backToKw pos (keywordEach kws X.env)).all (·.1.isSome) = true := by rfl) (hks : (backToKw pos (keywordEach kws X.env)).filterMap (·.1) = ks := by rfl)
    (he : starEach [e1] X.env = (false, eval e1 X.env) :: starEach [] X.env := by rfl) (hpl : ((backTo pos (starEach [e1] X.env)).any (·.1) || (backToKw pos (keywordEach kws X.env)).any (·.1.isNone)) = false := by rfl) :
    PE X (.Call (.Name nm p1) [e1] kws pos) (rdE C (evE cal (.mk cl f [] (.cons (.c t0) (.cons (.dsc (kvK l)) .nil))))) := by
  obtain ⟨fd, F, ok⟩ := e.fnb f d _ ht
  replace ok := ok.imp (sp' := spM C.G cal f) fun vs H Q E h => ⟨fun z => (by rw [hnc] at z; cases z), h⟩
  obtain ⟨a, ea, hD⟩ := D F
  subst ea
  have ha' : d.at_ X.K = He.ma X.K (He.ga X.K nm) "__init__" := by rw [hat]
  rw [ha'] at ok
  have hkk' : ∀ k ∈ ks, ([n0, n1] : List Str).contains k = false := fun k hk => by
    have := List.all_eq_true.mp hkk k hk
    simpa using this
  subst hl
  refine PE.imp (pe_makeE (e.mkr hcl him) ok c.room hg (e.gloC hcl hig) (mkb_A hD.d hkk' hnd (Nat.le_trans hz (by decide))) passEF StX.cxUp h hkw hdb hall hks he hpl) fun σ H Q q => rd_mkC (pts := [t0]) (kts := kts) hes hkes (by rw [List.all_cons, hf0]; rfl) hkf rfl hlen hf0 ?_ rfl ?_ ?_ hp q
  · rw [List.all_eq_true] at hkf ⊢
    exact fun p hp => hkf _ (List.of_mem_zip hp).2
  · have : ∀ (ks : List Str) (kts : List T), ks.zip (kts.map vT) = (ks.zip kts).map fun p => (p.1, vT p.2) := fun ks => by
      induction ks with
      | nil => intro kts; rw [List.zip_nil_left, List.zip_nil_left]; rfl
      | cons a r ih =>
        intro kts
        cases kts with
        | nil => rw [List.map_nil, List.zip_nil_right, List.zip_nil_right]; rfl
        | cons b s => rw [List.map_cons, List.zip_cons_cons, List.zip_cons_cons, List.map_cons, ih]
    exact this ks kts
  · rw [List.length_zip]
    exact Nat.le_trans (Nat.min_le_left _ _) hz
end
end Mi
set_option maxHeartbeats 1000000
namespace MiP
open PySem PySem.Spec PyProof.Rows L2 PySem.SeqAt
end MiP
namespace Mi
open PySem PySem.Spec PyProof.Rows L2
/-! ### xs[::-1] -/
section
variable {G : Gm}
theorem RFs.rev {w : Wd} {ts : List T} {vs : List V} (r : RFs G w ts vs) : RFs G w ts.reverse vs.reverse := by
  have key : ∀ (ts : List T) (vs : List V), RFs G w ts vs → ∀ {as : List T} {us : List V}, RFs G w as us → RFs G w (ts.reverseAux as) (vs.reverseAux us) := by
    intro ts
    induction ts with
    | nil => intro vs r; cases r; exact fun r => r
    | cons a ts ih =>
      intro vs r
      cases r with
      | cons a r => exact fun r' => ih _ r (.cons a r')
  exact key ts vs r .nil
end
section
variable {C : Ct} {X : Cx} {k L : Nat} {cal : Nat → List Slot → CRes} {pos apos p1 p2 p3 : Pos}
/-! ### (number, dict) != (number, {}) -/
/-! ### static methods, defaults -/
variable {tab : Nat → Option (He5.DefA × List Str)} {fx : List Fx} {gk : List (Str × T)} {cn : List Str}
theorem q_smethD (c : XC C X k) (e : GX tab fx gk cn X k C.G cal) {pl : Sem Bool} {f n ig ic im : Nat} {nm m : Str} {d : He5.DefA} {ps : List Str} {dts : List T} {e1 : Expr} {es1 : List Expr} {io : List Bool} {es : Es} (hig : fx[ig]? = some (.glo nm)) (hic : fx[ic]? = some (.crd nm)) (him : fx[im]? = some (.smet nm m)) (ht : tab f = some (d, ps))
    (hat : d.at_ = fun K => He5.wf K (He.ga K nm) "staticmethod" m) (b : Bnd d ps fx n dts) (h : PA X (e1 :: es1) (rdDs C (evDs cal es))) (hg : Gl X nm := by rfl) (hdb : (nm == ("__debug__" : Str)) = false := by decide)
    (hst : starEach (e1 :: es1) X.env = (false, eval e1 X.env) :: starEach es1 X.env := by rfl) (hpl : (backTo pos (starEach es1 X.env)).any (·.1) = false := by rfl)
    (he : eval (.Call (.Attribute (.Name nm p1) m apos) (e1 :: es1) [] pos) X.env = (do
      let ov ← eval (.Name nm p1) X.env
      standAt apos.atName
      let (f, first) ← holding [ov] (getMethod ov m pl)
      callWith pos f first (backTo pos (starEach (e1 :: es1) X.env)) (backToKw pos (keywordEach [] X.env))) := by rfl) :
    PE X (.Call (.Attribute (.Name nm p1) m apos) (e1 :: es1) [] pos) (rdE C (evE cal (.call f io (es.app (Es.cs dts))))) := by
  obtain ⟨fd, dvs, ds, h1, h2, h3, ok⟩ := e.defA ht b
  obtain ⟨fd', F, _⟩ := e.fns f d ps ht
  have ha' : d.at_ X.K = He5.wf X.K (He.ga X.K nm) "staticmethod" m := by rw [hat]
  rw [ha'] at ok F
  obtain ⟨g1, rest, g2⟩ := Fx.smetT (e.fxs im _ him)
  refine PE.imp (t := fun σ H Q => rdDs C (evDs cal es) σ H fun vs H1 => spM C.G cal f (vs ++ dvs) H1 Q (WE (WM C) σ)) ⟨fun pins s σ H Q I h' => ?_⟩ fun σ H Q ⟨w, m, eH, P, q⟩ => ?_
  · refine PySem.W.methodCall_KW (pl := pl) (thn ((pe_glob (v := .ref (He.ga X.K nm)) hg (e.glo ig nm hig) rfl hdb).run pins s σ H (fun v H1 => v = .ref (He.ga X.K nm) ∧ H1 = H) I ⟨rfl, rfl⟩) fun u s1 ⟨x, H1, I1, rx, ex, eH⟩ => ?_) he
    subst ex eH
    obtain rfl : u = Value.ref (He.ga X.K nm) := rx
    refine getsm_ok I1 (Fx.crdT (e.fxs ic _ hic)) g1 g2 fun s2 I2 => ?_
    refine PySem.W.callWith_K (first := []) (h₀ := X.base) I.ok.mod.kin F.kp (thn (h.run pos pins s2 σ _ _ I2 h') fun us s3 ⟨vs, H2, I3, rv, q2⟩ => ⟨I3.kIn, ?_⟩) hst hpl
    exact run_fnSD ok c.low h2 h1 (passAt c.tk σ) I3 rv q2
  · rw [evE, Res.sat_bind, evDs_app, Res.sat_bind] at q
    refine ⟨w, m, eH, P, Res.sat_mono q fun ds m1 q1 w1 vs S1 x1 r1 => ?_⟩
    exact call_core (P.step S1 x1) (r1.app' (h3 w1)) (Res.sat_mono q1 fun r m2 k w' v S' x' rr => k w' v S' (x1.trans x') rr)
end
end Mi
set_option maxHeartbeats 1000000
namespace Mi
open PySem PySem.Spec PyProof.Rows L2
/-! ### lent lists; the result has no list within -/
noncomputable def Wd.thaw2 (w w1 : Wd) (is : List Nat) (m : List Slot) (σ : St) : Wd := ⟨fun a => w1.F a ∧ ¬ Lent is m σ a, fun a => (w.L a ∧ ∃ u, w.H a = some u) ∨ w1.L a, w1.H⟩
section
variable {G : Gm} {w w' w1 : Wd} {m m1 : List Slot} {σ σ1 : St} {is : List Nat}
theorem not_lent (S : SR G w m σ) {a : Addr} (f : w.F a) : ¬ Lent is m σ a := fun ⟨j, o, _, _, e1, e2⟩ => S.sep a (S.lent e1 e2).1 f
theorem Mo.thaw2 (S : SR G w m σ) (x : Ex (w.lend is m σ) w1) : Mo w (w.thaw2 w1 is m σ) := ⟨fun a h => ⟨x.fz a (.inl h), not_lent S h⟩, fun b hb => x.kp b (.inl hb)⟩
theorem Ex.thaw2 (S : SR G w m σ) (x : Ex (w.lend is m σ) w1) : Ex w (w.thaw2 w1 is m σ) := ⟨(Mo.thaw2 S x).fz, (Mo.thaw2 S x).kp, fun a u h1 h2 h3 => by
  obtain ⟨q1, q2, q3⟩ := x.ot a u h1 (fun q => q.elim h2 fun ⟨j, o, _, _, e1, e2⟩ => h3 (S.lent e1 e2).1) (fun q => q)
  exact ⟨q1, fun q => q2 q.1, fun q => q.elim (fun q => h3 q.1) q3⟩⟩
theorem SR.thaw2 (S : SR G w m σ) (x : Ex (w.lend is m σ) w1) (S1 : SR G w1 m1 σ1) : SR G (w.thaw2 w1 is m σ) m σ := by
  refine ⟨S.len, fun j s h => ?_, S.inj, fun a l f => ?_, fun a f => S1.trk a f.1⟩
  · have q := S.sl j s h
    cases s with
    | no => trivial
    | fz t => obtain ⟨v, e, r⟩ := q; exact ⟨v, e, r.mono (Mo.thaw2 S x)⟩
    | ow o =>
      obtain ⟨a, e, r, l⟩ := q
      exact ⟨a, e, (lent_same S x S1 h e).1.mono ⟨fun b hb => ⟨x.fz b (.inl hb), not_lent S hb⟩, fun b hb => .refl _⟩ rfl, .inl ⟨l, r.trk⟩⟩
  · rcases l with ⟨l, u, hu⟩ | l
    · obtain ⟨_, q2, _⟩ := x.ot a u hu (fun q => q.elim (S.sep a l) f.2) (fun q => q)
      exact q2 f.1
    · exact S1.sep a l f.1
end
section
variable {C : Ct} {X : Cx} {k : Nat} {cal : Nat → List Slot → CRes} {L : Nat} {pos p1 p2 p3 p4 : Pos}
/-! ### own [] -/
end
section
variable {prog : Program} {w : World} {A : Around} {E : Value → Shared → Prop} {s : Shared} {K : PySem.W.Frag} {x C f : Addr} {ox : Obj} {od : Option Obj}
theorem own_sub {oc : Value} {oa : Option Addr} {fd : FuncData} {osl : Array (Option Value)} {o sl : Expr} {i : Value} {Q : Value → Shared → Prop} (X : K.In s.heap) (I : PySem.W.InstAt s.heap x ox C od) (hs : PySem.W.findIn K (.ref C) "__getitem__" = some (some (.ref f))) (lk : K.lookup f = some ⟨oc, oa, .func fd, osl⟩)
    (hf : PySem.W.isFn K (.ref f) = true) (h : wpAny (model prog w) A.in1 (call (.ref f) [.ref x, i]) Q E s) (hsl : subscripted sl true (.ref x) i = runValue (.builtin "lifetime.subscript" ⟨[.ref x, i], []⟩)) : wpAny (model prog w) A (subscriptTail o sl (.ref x) i) Q E s := by
  unfold subscriptTail getitemInPython
  have L1 := PySem.W.looks_findIn (M := model prog w) X hs
  refine wpAny_bind (wpAny_bind (wpAny_bind (I.type.here (L1.here ?_))))
  show wpAny _ _ (load f >>= _) _ _ _
  refine wpAny_bind (wpAny_load (X f _ lk) ?_)
  refine wpAny_pure ?_
  show wpAny _ _ (subscripted sl true (.ref x) i >>= fun r => letTemporaryGo o (.ref x) r >>= fun _ => pure r) _ _ _
  rw [hsl]
  refine wpAny_bind (wpAny_runValue (codeAny_builtin PySem.W.entry_sub ?_))
  unfold Builtin.«lifetime.subscript»
  have z : wpAny (model prog w) A.in1 (call (.ref f) [.ref x, i]) (fun v s' => wpAny (model prog w) A (letTemporaryGo o (.ref x) v >>= fun _ => pure v) Q E s') E s := wpAny_mono h (fun v s' q => wpAny_bind (wpAny_letTemporaryGo (wpAny_pure q))) fun _ _ q => q
  exact wpAny_bind (PySem.W.special_fn X I hs (beq_iff_eq.mp hf) (wpAny_mono z (fun v s' q => wpAny_pure q) fun _ _ q => q))
end
section
variable {X : Cx} {k : Nat} {f C : Addr} {fd : FuncData} {ps : List Str} {sp : Sp}
noncomputable def rGti (C : Addr) (sp : Sp) : R2 := fun x y H Q => ∃ a dx fs, x = .ref a ∧ H a = some (.ins C dx fs) ∧ sp [x, y] H Q EF
theorem pe_gti {o i : Expr} {ta tb : TE} {pos : Pos} (hm : Meth X.K C "__getitem__" f) (lk : ∃ oc oa fd' osl, X.K.lookup f = some ⟨oc, oa, .func fd', osl⟩) (F : FnOk X.prog X.w X.K X.mg X.base (L2.CX X.prog X.w) k f fd ps sp) (hr : Room (k + 1) X.A) (hb : Binds X.K fd ps []) (ho : PE X o ta) (hi : PE X i tb)
    (hsl : ∀ x v, subscripted i true (.ref x) v = runValue (.builtin "lifetime.subscript" ⟨[.ref x, v], []⟩)) : PE X (.Subscript o i pos) (tOp (rGti C sp) ta tb) := by
  obtain ⟨oc, oa, fd', osl, lk⟩ := lk
  refine ⟨fun pins s σ H Q I h => ?_⟩
  refine Subscript_ (thn (ho.run pins s σ H _ I h) fun v s1 ⟨x, H1, I1, r1, q1⟩ => thn (hi.run pins s1 σ H1 _ I1 q1) fun u s2 ⟨y, H2, I2, r2, q2⟩ => ?_)
  obtain ⟨a, dx, fs, rfl, ea, q⟩ := q2
  obtain rfl : v = Value.ref a := r1
  obtain ⟨mA, O, _⟩ := ins_get I2.hok ea
  obtain ⟨od, J, _⟩ := O.look
  exact own_sub I2.kIn J hm.at_ lk hm.fn (run_fn1 F hr hb passEF I2 (.cons (show L2.RelV (.ref a) (.ref a) from rfl) (.cons r2 .nil)) q) (hsl a u)
end
section
variable {C : Ct} {X : Cx} {k : Nat} {cal : Nat → List Slot → CRes} {L : Nat} {pos p1 p2 p3 p4 : Pos}
theorem n_gti {ex ea eb : Expr} {c f : Nat} {a b : E} (hp : ∀ ta tb, PE X ea ta → PE X eb tb → PE X ex (tOp (rGti (C.G.cls c) (spM C.G cal f)) ta tb)) (ha : PE X ea (rdE C (evE cal a))) (hb : PE X eb (rdE C (evE cal b))) : PE X ex (rdE C (evE cal (.gti c f a b))) := PE.imp (hp _ _ (pe_opd ha) (pe_opd hb)) fun σ H Q ⟨w, m, e, P, q⟩ => by
  rw [evE, Res.sat_bind] at q
  refine ⟨w, m, e, P, ?_⟩
  rw [opdF, Res.sat_bind]
  refine Res.sat_mono q fun ra m1 q1 w1 v1 S1 x1 r1 => ?_
  rw [Res.sat_bind] at q1
  refine ⟨w1, m1, rfl, P.step S1 x1, ?_⟩
  rw [opdF, Res.sat_bind]
  refine Res.sat_mono q1 fun rb m2 q2 w2 v2 S2 x2 r2 => ?_
  split at q2
  · rename_i c1 fs hd1
    split at q2
    · rename_i hcc
      subst hcc
      obtain ⟨p, dx, us, rfl, h1, h2⟩ := (S2.der (r1.mono x2.mo) hd1).ins
      exact ⟨p, dx, us, rfl, h1, call_quiet ((P.step S1 x1).step S2 x2) (.cons (r1.mono x2.mo) (.cons r2 .nil)) (Res.sat_mono q2 fun r m3 q3 w3 v3 S3 x3 r3 => q3 w3 v3 S3 (x1.trans (x2.trans x3)) r3)⟩
    · exact q2.elim
  · exact q2.elim
variable {tab : Nat → Option (He5.DefA × List Str)} {fx : List Fx} {gk : List (Str × T)} {cn : List Str}
theorem q_gti (c : XC C X k) (e : GX tab fx gk cn X k C.G cal) {cl f im : Nat} {nm : Str} {d : He5.DefA} {ps : List Str} {o o' : Expr} {a a' : E} (hcl : cn[cl]? = some nm) (him : fx[im]? = some (.meth nm "__getitem__")) (ht : tab f = some (d, ps))
    (hat : d.at_ = fun K => He.ma K (He.ga K nm) "__getitem__") (b : Bnd d ps fx 2 []) (ha : PE X o (rdE C (evE cal a))) (hb : PE X o' (rdE C (evE cal a')))
    (hsl : ∀ x v, subscripted o' true (.ref x) v = runValue (.builtin "lifetime.subscript" ⟨[.ref x, v], []⟩) := by intro x v; with_unfolding_all rfl) : PE X (.Subscript o o' pos) (rdE C (evE cal (.gti cl f a a'))) := by
  obtain ⟨fd, dvs, ds, h1, h2, h3, ok⟩ := e.defA ht b
  obtain ⟨fd', F, _⟩ := e.fns f d ps ht
  cases h3 ⟨fun _ => True, fun _ => True, fun _ => none⟩
  cases h1
  have ha' : d.at_ X.K = He.ma X.K (He.ga X.K nm) "__getitem__" := by rw [hat]
  rw [ha'] at ok F
  have lk : ∃ oc oa fd' osl, X.K.lookup (He.ma X.K (He.ga X.K nm) "__getitem__") = some ⟨oc, oa, .func fd', osl⟩ := by
    obtain ⟨oc, od, dV, kV, doc, pm, an, cdv, ct, osl, _, lk, _⟩ := F.ex
    exact ⟨oc, od, fd', osl, lk⟩
  have hmm := e.meth hcl him
  exact n_gti (fun ta tb h h' => pe_gti hmm lk ok (by exact c.room.mono (by omega)) h2 h h' hsl) ha hb
end
end Mi
set_option maxHeartbeats 1000000
namespace Mi
open PySem PySem.Spec PyProof.Rows L2
/-! ### xs[1::2] -/
section
variable {G : Gm}
end
section
variable {C : Ct} {X : Cx} {k L : Nat} {cal : Nat → List Slot → CRes} {pos apos p1 p2 p3 : Pos}
variable {tab : Nat → Option (He5.DefA × List Str)} {fx : List Fx} {gk : List (Str × T)} {cn : List Str}
end
section
variable {C : Ct} {X : Cx} {k L : Nat} {cal : Nat → List Slot → CRes}
end
example (cal : Nat → List Slot → CRes) : ∀ m, evDs cal (.cons (.op .sub (.cons (.c (.int 0)) (.cons (.op .pow (.cons (.c (.int 10)) (.cons (.c (.int 60)) .nil))) .nil))) .nil) m = .ok ([T.int (-1000000000000000000000000000000000000000000000000000000000000)].map Opd.t) m := fun m => rfl
example (cal : Nat → List Slot → CRes) : ∀ m, evDs cal (.cons (.op .neg (.cons (.c (.int 5)) .nil)) .nil) m = .ok ([T.int (-5)].map Opd.t) m := fun m => rfl
example (cal : Nat → List Slot → CRes) : ∀ m, evDs cal .nil m = .ok ([].map Opd.t) m := fun m => rfl
end Mi
set_option maxHeartbeats 1000000
/-! equal things are the same, tuples too; rules for lent objects -/
namespace Mi
open PySem PySem.Spec PyProof.Rows L2
inductive Pq : Nat → T → Prop
  | flat {n : Nat} {t : T} : flatT t = true → Pq n t
  | lst {n : Nat} {xs : List T} : (∀ x ∈ xs, Pq n x) → xs.length ≤ sizeLine → Pq (n + 1) (.lst xs)
  | tup {n : Nat} {xs : List T} : (∀ x ∈ xs, Pq n x) → xs.length ≤ sizeLine → Pq (n + 1) (.tup xs)
theorem zip_self (xs : List T) : zipT xs xs = xs.map fun x => .tup [x, x] := by
  induction xs with
  | nil => rfl
  | cons a r ih => rw [zipT, ih]; rfl
theorem same_refl2 {Γ : Nat → Option Def} {L f : Nat} (hf : Γ f = some (dSame f)) : ∀ (n : Nat) (t : T) (k : Nat), Pq n t → n < k → callF Γ L k f [.fz t, .fz t] = .ok (.fz (.bl true)) [.no, .no] := by
  intro n
  induction n with
  | zero =>
    intro t k h hk
    obtain ⟨k, rfl⟩ := Nat.exists_eq_succ_of_ne_zero (show k ≠ 0 by omega)
    cases h with
    | flat h => rw [same_flat hf h h, sameT_refl h]
  | succ n ih =>
    intro t k h hk
    obtain ⟨k, rfl⟩ := Nat.exists_eq_succ_of_ne_zero (show k ≠ 0 by omega)
    have hc : ∀ (u : T) (xs : List T), (∀ x ∈ xs, Pq n x) → xs.length ≤ sizeLine → compGo [3, 4] (.tup (.cons (.nm 3) (.cons (.nm 4) .nil))) (fun m => evAll (callF Γ L k) .nil m) (fun m => evE (callF Γ L k) (sameE f) m) (zipT xs xs) [] [.fz u, .fz u, .no, .no, .no] = .ok (xs.map fun _ => T.bl true) [.fz u, .fz u, .no, .no, .no] := by
      intro u xs h hz
      have hzip := zip_self xs
      have hc := compP (own := [3, 4]) (p := .tup (.cons (.nm 3) (.cons (.nm 4) .nil))) (cond := fun m => evAll (callF Γ L k) .nil m) (elt := fun m => evE (callF Γ L k) (sameE f) m) (m0 := [.fz u, .fz u, .no, .no, .no]) (fun _ => true) (fun _ => .bl true) (zipT xs xs) [] (fun z hz => by
        rw [hzip] at hz
        obtain ⟨x, hx, rfl⟩ := List.mem_map.mp hz
        refine ⟨[.fz u, .fz u, .no, .fz x, .fz x], by simp [bindP, bindPs, wipeM], by simp [wipeM], by rw [evAll], fun _ => ⟨.fz (.bl true), ?_, rfl⟩⟩
        simp [sameE, evE, evDs, Res.bind, R.opd, callR, pass, esc, back, ih x k (h x hx) (by omega)]) (by rw [hzip]; simpa using hz)
      have hfl : ((zipT xs xs).filter fun _ => true).map (fun _ => T.bl true) = xs.map fun _ => T.bl true := by
        rw [hzip, List.filter_eq_self.mpr (fun _ _ => rfl), List.map_map]; rfl
      rw [hfl, List.nil_append] at hc
      exact hc
    have ha : ∀ xs : List T, allF (.lst (xs.map fun _ => T.bl true)) = fB true := fun xs => by rw [all_map (fun _ => true), show (xs.all fun _ => true) = true from List.all_eq_true.mpr fun _ _ => rfl]
    have fin : ∀ u : T, (∃ m, evSs (callF Γ L k) L (dSame f).body ([.fz u, .fz u] ++ List.replicate ((dSame f).ns - (dSame f).np) .no) = .rt (.fz (.bl true)) m) → callF Γ L (k + 1) f [.fz u, .fz u] = .ok (.fz (.bl true)) [.no, .no] := fun u ⟨m, hb⟩ => by
      rw [run_fz (args := [.fz u, .fz u]) hf rfl hb]
      rcases m with _ | ⟨a, _ | ⟨b, m⟩⟩ <;> rfl
    cases h with
    | flat h => rw [same_flat hf h h, sameT_refl h]
    | lst h hz =>
      rename_i xs
      refine fin _ ⟨[.fz (.lst xs), .fz (.lst xs), .no, .no, .no], ?_⟩
      unfold dSame same0 same1 same2 same3 same4 same5 same6
      simp [evSs, evS, evE, evDs, evSrc, Res.bind, ofR, R.opd, opR, ders, der, opF, op2, op1, O.frz, esc, escs, isnF, isNon, fB, isi1F, isiF, Ty.has, eqF, scalT, flatT, eqT, lenF, fI, zipO, noOw, wipeM, hc (.lst xs) xs h hz, Res.calm, restM, ha, outR]
    | tup h hz =>
      rename_i xs
      refine fin _ ⟨[.fz (.tup xs), .fz (.tup xs), .no, .no, .no], ?_⟩
      unfold dSame same0 same1 same2 same3 same4 same5 same6
      simp [evSs, evS, evE, evDs, evSrc, Res.bind, ofR, R.opd, opR, ders, der, opF, op2, op1, O.frz, esc, escs, isnF, isNon, fB, isi1F, isiF, Ty.has, eqF, scalT, flatT, eqT, lenF, fI, zipO, noOw, wipeM, hc (.tup xs) xs h hz, Res.calm, restM, ha, outR]
section
variable {cal : Nat → List Slot → CRes} {L : Nat} {m : List Slot}
end
end Mi
set_option maxHeartbeats 2000000
namespace MiP
open PySem PySem.Spec PyProof.Rows
section
variable {prog : Program} {w : World} {M : Model} {A : Around} {E : Value → Shared → Prop} {s : Shared} {K : PySem.W.Frag} {x C dx f g : Addr} {ox : Obj} {od : Option Obj} {v b : Value}
theorem sub_int {K : PySem.W.Frag} {C : Addr} : PySem.W.subIn K (.type "int") (.ref C) = some false := by
  show (PySem.fastBuiltinMro "int").map (fun l => l.contains (Value.ref C)) = some false
  have e : PySem.fastBuiltinMro "int" = some [.type "int", .type "object"] := by kernel_rfl
  rw [e]
  simp
theorem own_binI {op : Operator} {fo ro rc : Option Value} {n : Int} {t : Tok} {Q : Value → Shared → Prop} (X : K.In s.heap) (I : PySem.W.InstAt s.heap x ox C od) (hc : PySem.W.selfFirst K C = true)
    (hs : PySem.W.findIn K (.ref C) (PySem.dunder op.info.2) = some (some (.ref f))) (hf : PySem.W.isFn K (.ref f) = true) (hr : PySem.W.findIn K (.ref C) (dunderR op.info.2) = some rc) (hp : rc = none ∨ ∃ g : Addr, rc = some (.ref g))
    (h1 : PySem.W.findIn K (.type "int") (PySem.dunder op.info.2) = some fo) (h2 : PySem.W.findIn K (.type "int") (dunderR op.info.2) = some ro)
    (h : wpAny (model prog w) A (call (.ref f) [.ref x, .int n t]) (PySem.W.CmpBack Q) E s) : wpAny (model prog w) A (binaryOp op (.ref x) (.int n t)) Q E s := by
  obtain ⟨cd, rest, hcd, hm⟩ := PySem.W.ksp_first hc
  rcases hi : op.info with ⟨sym, nm'⟩
  rw [hi] at hs hr h1 h2
  dsimp only at hs hr h1 h2
  have one := PySem.W.ksp_try X I hs hf h
  have L1 : PySem.W.Looks (model prog w) s.heap (typeOf (.ref x)) (.ref C) := I.type
  have L2 : PySem.W.Looks (model prog w) s.heap (typeOf (.int n t)) (.type "int") := PySem.W.Looks.of_pure rfl
  have L3 : PySem.W.Looks (model prog w) s.heap (fillsNumberSlot (.ref C) nm') true := PySem.W.fills_K X hcd hm hs
  have L4 := PySem.W.ksp_fillsT (M := model prog w) X h1 h2
  have L5 : PySem.W.Looks (model prog w) s.heap (isSubtype (.type "int") (.ref C)) false := PySem.W.looks_subIn X sub_int
  have L6 : PySem.W.Looks (model prog w) s.heap (numberSlotInPython (.ref C) nm') true := PySem.W.ksp_inPy X hs hr hp
  have L7 : PySem.W.Looks (model prog w) s.heap (numberSlotInPython (.type "int") nm') false := PySem.W.Looks.of_pure rfl
  have L8 : PySem.W.Looks (model prog w) s.heap (typeLookup (.type "int") (dunderR nm')) ro := PySem.W.looks_findIn X h2
  obtain ⟨hh, g, d, tt, os⟩ := s
  generalize ((fo.isSome && !isSeqSlot fo) || (ro.isSome && !isSeqSlot ro)) = right at L4
  have hne : (Value.ref C == Value.type "int") = false := Bool.eq_false_iff.mpr fun q => by cases beq_iff_eq.mp q
  simp only [binaryOp, hi]
  refine wpAny_holding (wpAny_bind ?_)
  unfold binaryOp1
  refine wpAny_bind (L1.at (wpAny_bind (L2.at (wpAny_bind (L3.at ?_)))))
  simp only [hne, Bool.false_eq_true, if_false]
  cases right with
  | false =>
    ksp_lk
    refine wpAny_mono one (fun r s' hr' => ?_) fun _ _ e => e
    obtain ⟨v, rfl, hq⟩ := hr'
    ksp_lk
    exact hq
  | true =>
    ksp_lk
    refine wpAny_mono one (fun r s' hr' => ?_) fun _ _ e => e
    obtain ⟨v, rfl, hq⟩ := hr'
    ksp_lk
    exact hq
end
end MiP
set_option maxHeartbeats 2000000
namespace Mi
open PySem PySem.Spec PyProof.Rows L2
/-! ### own * number, number * own -/
section
variable {X : Cx} {k : Nat} {f g C : Addr} {fd : FuncData} {ps : List Str} {sp : Sp}
noncomputable def rBinI (C : Addr) (sp : Sp) : R2 := fun x y H Q => ∃ a dx fs n, x = .ref a ∧ y = .int n ∧ H a = some (.ins C dx fs) ∧ sp [x, y] H Q EF
theorem op_mulI (hc : PySem.W.selfFirst X.K C = true) (hm : Meth X.K C "__mul__" f) (hr2 : Meth X.K C "__rmul__" g) (F : FnOk X.prog X.w X.K X.mg X.base (L2.CX X.prog X.w) k f fd ps sp) (hr : Room k X.A) (hb : Binds X.K fd ps []) : OpR X (binaryOp .Mult) (rBinI C sp) := by
  intro pins s σ H x y v u Q I rx ry h
  obtain ⟨a, dx, fs, n, rfl, rfl, ea, q⟩ := h
  have rx' := rx
  have ry' := ry
  cases rx
  obtain ⟨t, rfl⟩ := ry
  obtain ⟨mA, O, _⟩ := ins_get I.hok ea
  obtain ⟨od, J, _⟩ := O.look
  exact MiP.own_binI (op := .Mult) (fo := some (.builtin "int.__mul__")) (ro := some (.builtin "int.__rmul__")) (rc := some (.ref g)) I.kIn J hc hm.at_ hm.fn hr2.at_ (.inr ⟨_, rfl⟩) (by kernel_rfl) (by kernel_rfl) (thn (run_fn (dvs := []) (ds := []) F hr hb .nil passEF I (.cons rx' (.cons ry' .nil)) (by rw [List.append_nil]; exact q)) fun r s' hh => by
    obtain ⟨v', H', I', rv, q'⟩ := hh
    exact relV_cb rv ⟨v', H', I', rv, q'⟩)
end
section
variable {C : Ct} {X : Cx} {cal : Nat → List Slot → CRes} {L k : Nat} {pos : Pos}
theorem n_bopi {ex ea eb : Expr} {c f : Nat} {a b : E} (hp : ∀ ta tb, PE X ea ta → PE X eb tb → PE X ex (tOp (rBinI (C.G.cls c) (spM C.G cal f)) ta tb)) (ha : PE X ea (rdE C (evE cal a))) (hb : PE X eb (rdE C (evE cal b))) : PE X ex (rdE C (evE cal (.bopi c f a b))) := PE.imp (hp _ _ (pe_opd ha) (pe_opd hb)) fun σ H Q ⟨w, m, e, P, q⟩ => by
  rw [evE, Res.sat_bind] at q
  refine ⟨w, m, e, P, ?_⟩
  rw [opdF, Res.sat_bind]
  refine Res.sat_mono q fun ra m1 q1 w1 v1 S1 x1 r1 => ?_
  rw [Res.sat_bind] at q1
  refine ⟨w1, m1, rfl, P.step S1 x1, ?_⟩
  rw [opdF, Res.sat_bind]
  refine Res.sat_mono q1 fun rb m2 q2 w2 v2 S2 x2 r2 => ?_
  split at q2
  · rename_i c1 fs n hd1 hd2
    split at q2
    · rename_i hcc
      subst hcc
      obtain ⟨p, dx, us, rfl, h1, h2⟩ := (S2.der (r1.mono x2.mo) hd1).ins
      exact ⟨p, dx, us, n, rfl, (S2.der r2 hd2).int, h1, call_quiet ((P.step S1 x1).step S2 x2) (.cons (r1.mono x2.mo) (.cons r2 .nil)) (Res.sat_mono q2 fun r m3 q3 w3 v3 S3 x3 r3 => q3 w3 v3 S3 (x1.trans (x2.trans x3)) r3)⟩
    · exact q2.elim
  · exact q2.elim
variable {tab : Nat → Option (He5.DefA × List Str)} {fx : List Fx} {gk : List (Str × T)} {cn : List Str}
theorem q_bopi (c : XC C X k) (e : GX tab fx gk cn X k C.G cal) {cl f is im ir : Nat} {nm : Str} {d : He5.DefA} {ps : List Str} {o o' : Expr} {a a' : E} (hcl : cn[cl]? = some nm) (his : fx[is]? = some (.self1 nm)) (him : fx[im]? = some (.meth nm "__mul__")) (hir : fx[ir]? = some (.meth nm "__rmul__")) (ht : tab f = some (d, ps))
    (hat : d.at_ = fun K => He.ma K (He.ga K nm) "__mul__") (b : Bnd d ps fx 2 []) (ha : PE X o (rdE C (evE cal a))) (hb : PE X o' (rdE C (evE cal a'))) : PE X (.BinOp o .Mult o' pos) (rdE C (evE cal (.bopi cl f a a'))) := by
  obtain ⟨fd, dvs, ds, h1, h2, h3, ok⟩ := e.defA ht b
  cases h3 ⟨fun _ => True, fun _ => True, fun _ => none⟩
  cases h1
  have ha' : d.at_ X.K = He.ma X.K (He.ga X.K nm) "__mul__" := by rw [hat]
  rw [ha'] at ok
  have hs : PySem.W.selfFirst X.K (C.G.cls cl) = true := by rw [e.cn cl nm hcl]; exact e.fxs is _ his
  exact n_bopi (fun ta tb h h' => pe_op (op_mulI hs (e.meth hcl him) (e.meth hcl hir) ok c.low h2) h h') ha hb
end
section
variable {cal : Nat → List Slot → CRes} {m : List Slot} {Q : R → List Slot → Prop}
theorem wp_bopi {c f : Nat} {a b : E} (h : wE cal a m fun ra m1 => wE cal b m1 fun rb m2 => ∃ fs n, der m2 ra.opd = some (.ins c fs) ∧ der m2 rb.opd = some (.int n) ∧ wK cal f [false, false] [ra.opd, rb.opd] m2 Q) : wE cal (.bopi c f a b) m Q := by
  (try unfold wE at *); (try unfold wD at *); (try unfold wS at *); (try unfold wA at *); (try unfold wT at *); (try unfold wB at *); (try unfold wC at *); (try unfold wO at *); (try unfold wJ at *); (try unfold wX at *)
  obtain ⟨ra, m1, h1, rb, m2, h2, fs, n, h3, h4, h5⟩ := h
  obtain ⟨r', m', h6, q⟩ := h5.run
  exact ⟨_, _, (by rw [evE, h1]; simp only [Res.bind]; rw [h2]; simp only [h3, h4, if_true, h6, Res.calm]), q⟩
theorem wp_ropi {c f : Nat} {a b : E} (h : wE cal a m fun ra m1 => wE cal b m1 fun rb m2 => ∃ n fs, der m2 ra.opd = some (.int n) ∧ der m2 rb.opd = some (.ins c fs) ∧ wK cal f [false, false] [rb.opd, ra.opd] m2 Q) : wE cal (.ropi c f a b) m Q := by
  (try unfold wE at *); (try unfold wD at *); (try unfold wS at *); (try unfold wA at *); (try unfold wT at *); (try unfold wB at *); (try unfold wC at *); (try unfold wO at *); (try unfold wJ at *); (try unfold wX at *)
  obtain ⟨ra, m1, h1, rb, m2, h2, n, fs, h3, h4, h5⟩ := h
  obtain ⟨r', m', h6, q⟩ := h5.run
  exact ⟨_, _, (by rw [evE, h1]; simp only [Res.bind]; rw [h2]; simp only [h3, h4, if_true, h6, Res.calm]), q⟩
end
end Mi
set_option maxHeartbeats 4000000
namespace MiP
open PySem PySem.Spec PyProof.Rows L2
/-! ### sets of texts, sorted -/
noncomputable def kT (e : Int × Value) : Str := match e.2 with | .str k _ => k | _ => Str.empty
noncomputable def OkE (w : World) (e : Int × Value) : Prop := ∃ k tk, e.2 = Value.str k tk ∧ e.1 = hashStr w k
noncomputable def SetT (w : World) (h : Heap) (a : Addr) (xs : List Str) (n : Nat) : Prop :=
  ∃ o es ep t, h.get? a = some o ∧ o.ExactSet ∧ o.data = .set es ep t ∧ ((∀ e ∈ es.toList, OkE w e) ∧ (es.toList.map kT).Nodup ∧ ∀ k, k ∈ xs ↔ k ∈ es.toList.map kT) ∧
    es.size ≤ n ∧ t.fits es.size = true ∧ Ris t.place.toList ∧ (w.params.followText "set-order" = true ∨ t.led = true)
section
variable {P : Program} {w : World} {h h' : Heap} {a : Addr} {xs : List Str} {n : Nat}
theorem SetT.at (R : SetT w h a xs n) (k : ∀ o, h.get? a = some o → h'.get? a = some o) : SetT w h' a xs n := by
  obtain ⟨o, es, ep, t, ho, r⟩ := R
  exact ⟨o, es, ep, t, k o ho, r⟩
end
section
variable {P : Program} {w : World} {A : Around} {E : Value → Shared → Prop} {s : Shared} {a : Addr} {xs : List Str} {n : Nat}
end
end MiP
set_option maxHeartbeats 8000000
namespace MiP
open PySem PySem.Spec PyProof.Rows L2
section
variable {P : Program} {w : World} {A : Around} {E : Value → Shared → Prop} {s : Shared}
set_option maxHeartbeats 8000000 in
end
section
variable {X : Cx}
end
end MiP
set_option maxHeartbeats 2000000
namespace Mi
open PySem PySem.Spec PyProof.Rows L2
/-! ### sorted(set(texts)) -/
section
variable {G : Gm}
end
section
variable {C : Ct} {X : Cx} {k : Nat} {cal : Nat → List Slot → CRes} {pos p1 p2 : Pos}
end
section
variable {P : R → Prop}
end
end Mi
set_option maxHeartbeats 4000000
/-! a draw out of more than 2^64 -/
namespace Mi
open PySem PySem.Spec PyProof.Rows L2
theorem tail_posW {cal : Nat → List Slot → CRes} {L : Nat} {ns : List Int} {i : Nat} {r x : Int} {c : Nat} {many : Int} {s2 s3 s4 : Slot} (hr : 0 < r) (hm : 0 < many) (hm2 : many < 2 ^ 200) :
    evSs cal L takeTail [bag ns i r x c, .fz (.int many), s2, s3, s4] = .rt (.fz (.int (r % many))) [bag ns i (r / many) x c, .fz (.int many), s2, .fz (.int (r % many)), s4] := by
  have q1 : fdivF (.int r) (.int many) = fI (r / many) := by
    have : many.natAbs.log2 ≤ 200 := Nat.le_of_lt ((Nat.log2_lt (by omega)).mpr (by omega))
    show (if _ then _ else _) = _
    rw [if_pos ⟨hm, by omega⟩]
  have q2 : modF (.int r) (.int many) = fI (r % many) := by
    show (if _ then _ else _) = _
    rw [if_pos hm]
  unfold takeTail bag
  simp [evSs, evS, evE, evDs, Res.bind, ofR, R.opd, opR, ders, der, opF, op2, op1, O.frz, idxF, esc, at4, at3, at2, at1, at0, ix4, ix3, ix2, ix1, fI, fB, cmpF, putR, intF, outR, q1, q2, hr]
theorem tail_zeroW {cal : Nat → List Slot → CRes} {L : Nat} {ns : List Int} {i : Nat} {x : Int} {c : Nat} {many : Int} {s2 s3 s4 : Slot} (x0 : 0 ≤ x) (x1 : x < 2147483647) (hc : c < 2 ^ 41) (hm : 0 < many) (hm2 : many < 2 ^ 200) :
    ∃ t x', evSs cal L takeTail [bag ns i 0 x c, .fz (.int many), s2, s3, s4] = .rt (.fz (.int (x' / 67 % many))) [bag ns i 0 x' c, .fz (.int many), s2, s3, .fz (.int t)] ∧ 0 ≤ x' ∧ x' < 2147483647 := by
  have b400 : (2 : Nat) ^ 64 < 2 ^ 200 := by decide
  have q1 : mulF (.int x) (.int x) = fI (x * x) := mulF_ok (by omega) (by omega)
  have q2 : mulF (.int c) (.int 8191) = fI (c * 8191) := mulF_ok (by omega) (by decide)
  have q3 : mulF (.int x) (.int 47969) = fI (x * 47969) := mulF_ok (by omega) (by decide)
  have m1 : ∀ y : Int, modF (.int y) (.int 2147483647) = fI (y % 2147483647) := fun y => rfl
  have m2 : ∀ y : Int, modF (.int y) (.int 2147483579) = fI (y % 2147483579) := fun y => rfl
  have m3 : ∀ y : Int, modF (.int y) (.int many) = fI (y % many) := fun y => by
    show (if _ then _ else _) = _
    rw [if_pos hm]
  have d1 : ∀ y : Int, fdivF (.int y) (.int 67) = fI (y / 67) := fun y => by
    show (if (0 : Int) < 67 ∧ (67 : Int).natAbs.log2 < 9000 then fI (y / 67) else none) = _
    rw [if_pos (by decide)]
  obtain ⟨t, ht⟩ : ∃ t, t = (x * x + c * 8191) % 2147483647 := ⟨_, rfl⟩
  have t0 : 0 ≤ t := by rw [ht]; exact Int.emod_nonneg _ (by decide)
  have t1 : t < 2147483647 := by rw [ht]; exact Int.emod_lt_of_pos _ (by decide)
  have q4 : mulF (.int t) (.int 16981) = fI (t * 16981) := mulF_ok (by omega) (by decide)
  refine ⟨t, (t * 16981 + x * 47969 + 70019) % 2147483579, ?_, Int.emod_nonneg _ (by decide), Int.lt_trans (Int.emod_lt_of_pos _ (by decide)) (by decide)⟩
  unfold takeTail bag
  simp [evSs, evS, evE, evDs, Res.bind, ofR, R.opd, opR, ders, der, opF, op2, op1, O.frz, idxF, esc, at4, at3, at2, at1, at0, ix4, ix3, ix2, ix1, fI, fB, cmpF, putR, intF, outR, addF, q1, q2, q3, m1, m2, m3, d1, ← ht, q4]
theorem take_bodyW {cal : Nat → List Slot → CRes} {L : Nat} {ns : List Int} {i : Nat} {r x : Int} {c : Nat} {many : Int} (B : BagS ns i r x c) (hc : c < 2 ^ 40) (hm : 0 < many) (hm2 : many < 2 ^ 200) :
    ∃ d s m, evSs cal L dTake.body [bag ns i r x c, .fz (.int many), .no, .no, .no] = .rt (.fz (.int d)) (s :: m) ∧ 0 ≤ d ∧ d < many ∧ Bag (c + 1) s := by
  obtain ⟨r0, x0, x1⟩ := B
  have key : ∀ {i' : Nat} {r' x' : Int} {s2 : Slot}, 0 ≤ r' → 0 ≤ x' → x' < 2147483647 → ∃ d s m, evSs cal L takeTail [bag ns i' r' x' (c + 1), .fz (.int many), s2, .no, .no] = .rt (.fz (.int d)) (s :: m) ∧ 0 ≤ d ∧ d < many ∧ Bag (c + 1) s := fun {i' r' x' s2} h1 h2 h3 => by
    by_cases hr : 0 < r'
    · exact ⟨_, _, _, tail_posW hr hm hm2, Int.emod_nonneg _ (by omega), Int.emod_lt_of_pos _ hm, ns, i', r' / many, x', rfl, Int.ediv_nonneg h1 (by omega), h2, h3⟩
    · have : r' = 0 := by omega
      subst this
      obtain ⟨t, x'', e, g1, g2⟩ := tail_zeroW (cal := cal) (L := L) (ns := ns) (i := i') (s2 := s2) (s3 := .no) (s4 := .no) h2 h3 (show c + 1 < 2 ^ 41 by omega) hm hm2
      exact ⟨_, _, _, e, Int.emod_nonneg _ (by omega), Int.emod_lt_of_pos _ hm, ns, i', 0, x'', rfl, Int.le_refl _, g1, g2⟩
  have s1 : ∀ rest, evSs cal L (.cons (.sto 0 (.c (.int 4)) (.op .add (.cons (.op .idx (.cons (.var 0) (.cons (.c (.int 4)) .nil))) (.cons (.c (.int 1)) .nil)))) rest) [bag ns i r x c, .fz (.int many), .no, .no, .no] = evSs cal L rest [bag ns i r x (c + 1), .fz (.int many), .no, .no, .no] := fun rest => by
    unfold bag
    simp [evSs, evS, evE, evDs, Res.bind, ofR, R.opd, opR, ders, der, opF, op2, op1, O.frz, idxF, esc, at4, ix4, fI, addF]
  unfold dTake
  rw [s1]
  by_cases hb : r = 0 ∧ i < ns.length
  · obtain ⟨rfl, hi⟩ := hb
    obtain ⟨n, hn⟩ : ∃ n, ns[i]? = some n := ⟨ns[i], List.getElem?_eq_getElem hi⟩
    have a1 : atI (ns.map T.int) (i : Int) = some (.int n) := atI_nat rfl (by rw [List.getElem?_map, hn]; rfl)
    have p1 : powF (.int 10) (.int 18) = fI 1000000000000000000 := rfl
    have m2 : ∀ y : Int, modF (.int y) (.int 2147483579) = fI (y % 2147483579) := fun y => rfl
    have m3 : ∀ y : Int, modF (.int y) (.int 1000211) = fI (y % 1000211) := fun y => rfl
    have n0 : 0 ≤ n % 1000211 := Int.emod_nonneg _ (by decide)
    have n1 : n % 1000211 < 1000211 := Int.emod_lt_of_pos _ (by decide)
    have b400 : (2 : Nat) ^ 64 < 2 ^ 200 := by decide
    have q1 : mulF (.int x) (.int 47303) = fI (x * 47303) := mulF_ok (by omega) (by decide)
    have q2 : mulF (.int (n % 1000211)) (.int 733) = fI (n % 1000211 * 733) := mulF_ok (by omega) (by decide)
    have e : ∃ r' x' s2, evSs cal L (.cons (.ife (.an (.op .eq (.cons (.op .idx (.cons (.var 0) (.cons (.c (.int 2)) .nil))) (.cons (.c (.int 0)) .nil))) (.op .lt (.cons (.op .idx (.cons (.var 0) (.cons (.c (.int 1)) .nil))) (.cons (.op .len (.cons (.op .idx (.cons (.var 0) (.cons (.c (.int 0)) .nil))) .nil)) .nil)))) (.cons (.set 2 (.op .idx (.cons (.op .idx (.cons (.var 0) (.cons (.c (.int 0)) .nil))) (.cons (.op .idx (.cons (.var 0) (.cons (.c (.int 1)) .nil))) .nil))))
  (.cons (.sto 0 (.c (.int 1)) (.op .add (.cons (.op .idx (.cons (.var 0) (.cons (.c (.int 1)) .nil))) (.cons (.c (.int 1)) .nil))))
  (.cons (.ife (.op .ge (.cons (.op .abs (.cons (.var 2) .nil)) (.cons (.op .pow (.cons (.c (.int 10)) (.cons (.c (.int 18)) .nil))) .nil))) (.cons (.sto 0 (.c (.int 2)) (.op .abs (.cons (.var 2) .nil)))
  .nil) (.cons (.sto 0 (.c (.int 3)) (.op .mod (.cons (.op .int (.cons (.op .add (.cons (.op .add (.cons (.op .mul (.cons (.op .idx (.cons (.var 0) (.cons (.c (.int 3)) .nil))) (.cons (.c (.int 47303)) .nil))) (.cons (.op .mul (.cons (.op .mod (.cons (.op .int (.cons (.var 2) .nil)) (.cons (.c (.int 1000211)) .nil))) (.cons (.c (.int 733)) .nil))) .nil))) (.cons (.c (.int 59)) .nil))) .nil)) (.cons (.c (.int 2147483579)) .nil))))
  .nil))
  .nil))) .nil) takeTail) [bag ns i 0 x (c + 1), .fz (.int many), .no, .no, .no] = evSs cal L takeTail [bag ns (i + 1) r' x' (c + 1), .fz (.int many), s2, .no, .no] ∧ 0 ≤ r' ∧ 0 ≤ x' ∧ x' < 2147483647 := by
      by_cases hg : (1000000000000000000 : Int) ≤ (if n < 0 then -n else n)
      · refine ⟨if n < 0 then -n else n, x, .fz (.int n), ?_, by omega, x0, x1⟩
        unfold bag
        simp [evSs, evS, evE, evDs, Res.bind, ofR, R.opd, opR, ders, der, opF, op2, op1, O.frz, idxF, esc, at4, at3, at2, at1, at0, ix1, ix2, ix3, fI, fB, cmpF, eqF, scalT, flatT, eqT, lenF, hi, a1, p1, absF, hg, addF, putR]
      · refine ⟨0, (x * 47303 + n % 1000211 * 733 + 59) % 2147483579, .fz (.int n), ?_, by omega, Int.emod_nonneg _ (by decide), Int.lt_trans (Int.emod_lt_of_pos _ (by decide)) (by decide)⟩
        unfold bag
        simp [evSs, evS, evE, evDs, Res.bind, ofR, R.opd, opR, ders, der, opF, op2, op1, O.frz, idxF, esc, at4, at3, at2, at1, at0, ix1, ix2, ix3, fI, fB, cmpF, eqF, scalT, flatT, eqT, lenF, hi, a1, p1, absF, hg, addF, intF, m2, m3, q1, q2, putR]
    obtain ⟨r', x', s2, e, g1, g2, g3⟩ := e
    exact e ▸ key g1 g2 g3
  · have e : evSs cal L (.cons (.ife (.an (.op .eq (.cons (.op .idx (.cons (.var 0) (.cons (.c (.int 2)) .nil))) (.cons (.c (.int 0)) .nil))) (.op .lt (.cons (.op .idx (.cons (.var 0) (.cons (.c (.int 1)) .nil))) (.cons (.op .len (.cons (.op .idx (.cons (.var 0) (.cons (.c (.int 0)) .nil))) .nil)) .nil)))) (.cons (.set 2 (.op .idx (.cons (.op .idx (.cons (.var 0) (.cons (.c (.int 0)) .nil))) (.cons (.op .idx (.cons (.var 0) (.cons (.c (.int 1)) .nil))) .nil))))
  (.cons (.sto 0 (.c (.int 1)) (.op .add (.cons (.op .idx (.cons (.var 0) (.cons (.c (.int 1)) .nil))) (.cons (.c (.int 1)) .nil))))
  (.cons (.ife (.op .ge (.cons (.op .abs (.cons (.var 2) .nil)) (.cons (.op .pow (.cons (.c (.int 10)) (.cons (.c (.int 18)) .nil))) .nil))) (.cons (.sto 0 (.c (.int 2)) (.op .abs (.cons (.var 2) .nil)))
  .nil) (.cons (.sto 0 (.c (.int 3)) (.op .mod (.cons (.op .int (.cons (.op .add (.cons (.op .add (.cons (.op .mul (.cons (.op .idx (.cons (.var 0) (.cons (.c (.int 3)) .nil))) (.cons (.c (.int 47303)) .nil))) (.cons (.op .mul (.cons (.op .mod (.cons (.op .int (.cons (.var 2) .nil)) (.cons (.c (.int 1000211)) .nil))) (.cons (.c (.int 733)) .nil))) .nil))) (.cons (.c (.int 59)) .nil))) .nil)) (.cons (.c (.int 2147483579)) .nil))))
  .nil))
  .nil))) .nil) takeTail) [bag ns i r x (c + 1), .fz (.int many), .no, .no, .no] = evSs cal L takeTail [bag ns i r x (c + 1), .fz (.int many), .no, .no, .no] := by
      unfold bag
      by_cases h0 : r = 0
      · have : ¬ i < ns.length := fun z => hb ⟨h0, z⟩
        simp [evSs, evS, evE, evDs, Res.bind, ofR, R.opd, opR, ders, der, opF, op2, op1, O.frz, idxF, esc, at2, at1, at0, fI, fB, cmpF, eqF, scalT, flatT, eqT, lenF, h0, this]
      · have : (r == 0) = false := by simpa using h0
        simp [evSs, evS, evE, evDs, Res.bind, ofR, R.opd, opR, ders, der, opF, op2, op1, O.frz, idxF, esc, at2, at1, at0, fI, fB, cmpF, eqF, scalT, flatT, eqT, lenF, this]
    exact e ▸ key r0 x0 x1
theorem take_okW {Γ : Nat → Option Def} {L k f : Nat} (hf : Γ f = some dTake) {s : Slot} {c : Nat} {many : Int} (B : Bag c s) (hc : c < 2 ^ 40) (hm : 0 < many) (hm2 : many < 2 ^ 200) :
    ∃ d s', callF Γ L (k + 1) f [s, .fz (.int many)] = .ok (.fz (.int d)) [s', .no] ∧ 0 ≤ d ∧ d < many ∧ Bag (c + 1) s' := by
  obtain ⟨ns, i, r, x, rfl, B⟩ := B
  obtain ⟨d, s', m, e, h0, h1, h2⟩ := take_bodyW (cal := callF Γ L k) (L := L) B hc hm hm2
  refine ⟨d, s', ?_, h0, h1, h2⟩
  rw [run_fz (args := [bag ns i r x c, .fz (.int many)]) hf rfl e]
  cases m <;> rfl
end Mi
set_option maxHeartbeats 1000000
/-! a def with a tuple of what is left over: its binding -/
namespace PySem
open Sem (wp)
section
variable {A : Around} {E : Value → Shared → Prop} {s : Shared} {M : Model}
theorem kw_look2 {α : Type} {N : List Str} {us rest : List α} (hl : us.length = N.length) : N.zip (us ++ rest) = N.zip us := by
  induction N generalizing us with
  | nil => rw [List.zip_nil_left, List.zip_nil_left]
  | cons n N ih =>
    cases us with
    | nil => cases hl
    | cons u us =>
      rw [List.cons_append, List.zip_cons_cons, List.zip_cons_cons, ih (by simpa using hl)]
theorem sv_bind {fd : FuncData} {us rest : List Value} {N : List Str} {a : Arg} {its : Option (Array Value)} {Q : List (Str × Value) → Shared → Prop} (hpo : fd.params.posonlyargs = []) (hn : fd.params.args.map (·.arg) = N) (hko : fd.params.kwonlyargs = []) (hva : fd.params.vararg = some a) (hkw : fd.params.kwarg = none)
    (hN : N.Nodup) (hl : us.length = N.length) (hd : PySem.W.Looks M s.heap (seqItems? fd.defaults) its)
    (h : wpAny M A (do
      let t ← newTuple rest
      return N.zip us ++ [(a.arg, t)]) Q E s) : wpAny M A (bindArgs fd ⟨us ++ rest, []⟩) Q E s := by
  unfold bindArgs
  simp only [hpo, hko, hva, hkw, hn, List.map_nil, List.nil_append, List.append_nil, List.forIn_nil]
  refine wpAny_bind (wpAny_pure ?_)
  refine wpAny_bind (hd.here ?_)
  rw [if_neg (by simp)]
  dsimp only
  rw [kw_look2 hl]
  have hfil : ∀ l : List Str, (∀ n ∈ l, n ∈ N) → l.filter (fun n => ((N.zip us).lookup n).isNone) = [] := fun l hh => List.filter_eq_nil_iff.mpr fun n hn => by rw [kw_look hl n (hh n hn)]; exact Bool.false_ne_true
  rw [hfil _ fun n hn => List.mem_of_mem_take hn]
  rw [if_neg (by exact Bool.false_ne_true)]
  refine wpAny_bind (kw_loop0 _ (fun x hx => ?_) ?_)
  · rw [if_neg (by rw [kw_look hl x.1 (List.mem_of_mem_drop (List.of_mem_zip hx).1)]; exact Bool.false_ne_true)]
  refine wpAny_bind (wpAny_pure ?_)
  rw [if_neg (by exact Bool.false_ne_true)]
  dsimp only
  rw [kw_fm hl hN, show (us ++ rest).drop N.length = rest by rw [← hl, List.drop_left]]
  exact h
end
end PySem
namespace L2
open PySem PySem.Spec PyProof.Rows
section
variable {P : Program} {w : World} {K : PySem.W.Frag} {mg : Str → Option Value} {base : Heap} {CX : CXT} {k : Nat} {f : Addr} {fd : FuncData} {ps N : List Str} {sp : Sp}
structure SvD (K : PySem.W.Frag) (fd : FuncData) (N : List Str) (a : Arg) : Prop where
  po : fd.params.posonlyargs = []
  n : fd.params.args.map (·.arg) = N
  ko : fd.params.kwonlyargs = []
  va : fd.params.vararg = some a
  kw : fd.params.kwarg = none
  nd : N.Nodup
  dfl : ∃ its, ∀ (M : Model) (h : Heap), K.In h → PySem.W.Looks M h (seqItems? fd.defaults) its
theorem sv_bnd {A : Around} {outer : List Env} {s : Shared} {H : Hp} {E : XK} {a : Arg} {vs zs : List V} {us ws : List Value} (D : SvD K fd N a) (hU : StX.CXUp CX) (e0 : Env0 P w K mg base A outer s H) (r : Vals vs us) (l1 : vs.length = N.length) (rz : Vals zs ws) (hz : zs.length ≤ sizeLine) :
    StX.Bnd CX P w K mg base fd ⟨us ++ ws, []⟩ (N ++ [a.arg]) A outer s H E (fun xs H2 => ∃ d, H d = none ∧ xs = vs ++ [.ref d] ∧ H2 = upd H d (.tup zs)) := by
  intro A' Ex Q' hQ
  have hl : us.length = N.length := r.length.symm.trans l1
  obtain ⟨its, hits⟩ := D.dfl
  have hkin : K.In s.heap := e0.mod.kin.keeps fun b x e => (e0.bs b x e).1
  have hfr : H s.heap.objs.size = none := e0.hok.fresh (Nat.le_refl _)
  refine sv_bind (M := model P w) D.po D.n D.ko D.va D.kw D.nd hl (hits _ _ hkin) (wpAny_bind (wpAny_newTuple (wpAny_pure ?_) (by rw [← rz.length]; exact hz)))
  have new : ObjOk P w (upd H s.heap.objs.size (.tup zs)) (s.heap.push ({ cls := .type "tuple", data := .seq ws.toArray } : Obj)) s.heap.objs.size (.tup zs) := ⟨hz, ws, rz, ⟨_, Heap.get?_push_size _ rfl, rfl, _, rfl⟩⟩
  have un := StX.un_laid (fs := frs outer) (s := s) (o := ({ cls := .type "tuple", data := .seq ws.toArray } : Obj)) (u := .tup zs) hfr
  have z := hQ _ _ (vs ++ [V.ref s.heap.objs.size]) (us ++ [Value.ref s.heap.objs.size]) (StX.env0_laid e0 new) un rfl (fun e s' => hU outer s H _ _ E e s' un (fun b o q => Heap.get?_push_of_some _ q) rfl) (r.append (.cons rfl .nil)) (by rw [List.length_append, List.length_append, l1] <;> rfl) ⟨_, hfr, rfl, rfl⟩
  rw [List.zip_append hl.symm] at z
  exact z
end
section
variable {X : Cx} {CX : CXT} {k : Nat} {f C : Addr} {fd : FuncData} {N : List Str} {a : Arg} {sp : Sp} {E : XK}
theorem run_makeS {pins : List (Addr × Obj)} {σ : L2.St} {H : Hp} {s : Shared} {Q : VK} {us ws : List Value} {vs zs : List V} (M : Mk X.K C f) (F : FnB X.prog X.w X.K X.mg X.base CX k f fd (N ++ [a.arg]) sp) (hr : Room (k + 1) X.A) (D : SvD X.K fd N a)
    (hx : Passes CX X E) (hU : StX.CXUp CX) (I : Inv X pins σ H s) (r : Vals vs us) (l1 : vs.length + 1 = N.length) (rz : Vals zs ws) (hz : zs.length ≤ sizeLine)
    (h : ∀ x dx d, H x = none → H dx = none → H d = none → dx ≠ x → d ≠ x → d ≠ dx → sp (.ref x :: (vs ++ [.ref d])) (upd (upd (upd H dx (.own x)) x (.ins C dx [])) d (.tup zs)) (fun v H2 => v = .non ∧ Q (.ref x) H2) E) :
    wpAny (model X.prog X.w) X.A (call (.ref C) (us ++ ws)) (EP X pins σ Q) X.xe s := by
  have hq := h (s.heap.objs.size + 1) s.heap.objs.size
  have I2 := Inv.made (C := C) I
  have r1 : Vals (V.ref (s.heap.objs.size + 1) :: vs) (Value.ref (s.heap.objs.size + 1) :: us) := .cons rfl r
  have h2 := hq (s.heap.objs.size + 2) (I.hok.fresh (Nat.le_succ _)) (I.hok.fresh (Nat.le_refl _)) (I.hok.fresh (Nat.le_add_right _ 2)) (Nat.ne_of_lt (Nat.lt_succ_self _)) (Nat.succ_ne_self _) (Nat.ne_of_gt (Nat.lt_add_of_pos_right (by decide)))
  refine wpAny_call (make_map (f := f) I.kIn M.makes M.init (beq_iff_eq.mp M.fn) (codeAny_mono (F.runB _ X.stack _ _ ⟨Value.ref (s.heap.objs.size + 1) :: (us ++ ws), []⟩ (fun v H2 => v = .non ∧ Q (.ref (s.heap.objs.size + 1)) H2) E _ (hr.make C (us ++ ws) [])
    (I2.env0.make C (us ++ ws) []) (sv_bnd (us := Value.ref (s.heap.objs.size + 1) :: us) (ws := ws) D hU (I2.env0.make C (us ++ ws) []) r1 (by simpa using l1) rz hz) ⟨_, _, h2⟩ fun xs H2 ⟨d, hd, ex, eH⟩ => ?_) fun r s' hq' => ?_))
  · subst ex eH
    have e1 : d ≠ s.heap.objs.size + 1 := fun e => by rw [e, upd_same] at hd; cases hd
    have e2 : d ≠ s.heap.objs.size := fun e => by rw [upd_ne e1, e, upd_same] at hd; cases hd
    rw [upd_ne e1, upd_ne e2] at hd
    exact hq d (I.hok.fresh (Nat.le_succ _)) (I.hok.fresh (Nat.le_refl _)) hd (Nat.ne_of_lt (Nat.lt_succ_self _)) e1 e2
  cases r with
  | error e => exact hx pins σ _ _ e s' I2 hq'
  | ok fl =>
    cases fl with
    | ret u =>
      obtain ⟨v, H', I3, rv, ev, q3⟩ := I2.after hq'
      subst ev
      exact ⟨rv, ⟨V.ref (s.heap.objs.size + 1), H', I3, rfl, q3⟩⟩
    | next => exact False.elim hq'
    | brk => exact False.elim hq'
    | cont => exact False.elim hq'
noncomputable def tMakeS (C : Addr) (n : Nat) (sp : Sp) (E : XK) (t : TA) : TE := fun σ H Q => t σ H fun vs H1 => ∃ xs zs, vs = xs ++ zs ∧ xs.length + 1 = n ∧ zs.length ≤ sizeLine ∧ ∀ x dx d, H1 x = none → H1 dx = none → H1 d = none → dx ≠ x → d ≠ x → d ≠ dx →
  sp (.ref x :: (xs ++ [.ref d])) (upd (upd (upd H1 dx (.own x)) x (.ins C dx [])) d (.tup zs)) (fun v H3 => v = .non ∧ Q (.ref x) H3) E
theorem pe_makeS {x : Str} {p pos : Pos} {e : Expr} {es : List Expr} {t : TA} (M : Mk X.K C f) (F : FnB X.prog X.w X.K X.mg X.base CX k f fd (N ++ [a.arg]) sp) (hr : Room (k + 1) X.A) (hg : Gl X x) (hm : X.mg x = some (.ref C)) (D : SvD X.K fd N a)
    (hx : Passes CX X E) (hU : StX.CXUp CX) (ha : PA X (e :: es) t) (hdb : (x == ("__debug__" : Str)) = false := by decide)
    (he : starEach (e :: es) X.env = (false, eval e X.env) :: starEach es X.env := by rfl) (hpl : (backTo pos (starEach es X.env)).any (·.1) = false := by rfl) :
    PE X (.Call (.Name x p) (e :: es) [] pos) (tMakeS C N.length sp E t) := by
  refine ⟨fun pins s σ H Q I h => ?_⟩
  refine wpAny_Call_Name_kw (ld_glob I hg hm ?_ hdb)
  refine PySem.W.callWith_K (h₀ := X.base) I.ok.mod.kin M.kp (thn (ha.run pos pins s σ H _ I h) fun us s1 ⟨vs, H1, I1, r, xs, zs, ev, l1, hz, q⟩ => ⟨I1.kIn, ?_⟩) he hpl
  subst ev
  obtain ⟨u1, u2, eu, r1, r2⟩ := StX.vals_split r
  subst eu
  exact run_makeS (us := u1) (ws := u2) M F hr D hx hU I1 r1 l1 r2 hz q
end
end L2
set_option maxHeartbeats 1000000
namespace Mi
open PySem PySem.Spec PyProof.Rows L2
/-! C(e, .., what is left over), read as `.mk` with the left ones in one tuple -/
section
variable {C : Ct} {X : Cx} {k L : Nat} {cal : Nat → List Slot → CRes} {pos apos p1 p2 py kp : Pos}
theorem RDs.split {G : Gm} {w : Wd} {σ : L2.St} : ∀ {ds es : List Opd} {vs : List V}, RDs G w σ (ds ++ es) vs → ∃ xs zs, vs = xs ++ zs ∧ RDs G w σ ds xs ∧ RDs G w σ es zs
  | [], _, vs, r => ⟨[], vs, rfl, .nil, r⟩
  | d :: ds, es, _, .cons a r => by
    obtain ⟨xs, zs, e, r1, r2⟩ := RDs.split (ds := ds) (es := es) r
    exact ⟨_ :: xs, zs, by rw [e]; rfl, .cons a r1, r2⟩
theorem rd_mkS {c f n : Nat} {es rs : Es} (hn : ∀ m ds m1, evDs cal es m = .ok ds m1 → ds.length + 1 = n) {σ : L2.St} {H : Hp} {Q : VK}
    (q : rdE C (evE cal (.mk c f [] (es.app (.cons (.tup rs) .nil)))) σ H Q) : tMakeS (C.G.cls c) n (spM C.G cal f) EF (rdDs C (evDs cal (es.app rs))) σ H Q := by
  have q := rd_mk0 (pm := []) (pmv := fun vs => vs) (fun r => r) q
  obtain ⟨w, m, e, P, q⟩ := q
  refine ⟨w, m, e, P, ?_⟩
  rw [evDs_app2, Res.sat_bind] at q ⊢
  cases he : evDs cal es m with
  | no => rw [he] at q; exact q.elim
  | ex x m1 => rw [he] at q; exact q
  | ok ds1 m1 =>
    rw [he] at q
    have len := hn _ _ _ he
    replace q : ((evDs cal (.cons (.tup rs) .nil) m1).bind fun ds2 m2 => Res.ok (ds1 ++ ds2) m2).sat _ _ := q
    show ((evDs cal rs m1).bind fun ds2 m2 => Res.ok (ds1 ++ ds2) m2).sat _ _
    rw [evDs, Res.sat_bind, Res.sat_bind, evE, Res.sat_bind] at q
    rw [Res.sat_bind]
    refine Res.sat_mono q fun ds2 m2 q2 w1 vs S1 x1 r1 => ?_
    obtain ⟨xs, zs, rfl, rx, rz⟩ := RDs.split r1
    cases h1 : escs m2 ds2 with
    | none => rw [h1] at q2; exact q2.elim
    | some pr =>
      obtain ⟨ts, m3⟩ := pr
      rw [h1] at q2
      simp only at q2
      split at q2
      · rename_i hl
        obtain ⟨w2, e2, S2, x2, r2⟩ := SR.escs S1 rz h1
        have hq : ∀ w' vs, SR C.G w' m3 σ → Ex w w' → RDs C.G w' σ (ds1 ++ [Opd.t (.tup ts)]) vs → ∀ x dx, w'.H x = none → w'.H dx = none → dx ≠ x → spM C.G cal f (.ref x :: vs) (upd (upd w'.H dx (.own x)) x (.ins (C.G.cls c) dx [])) (fun v H2 => v = .non ∧ Q (.ref x) H2) EF := q2
        refine ⟨xs, zs, rfl, by rw [← rx.len]; exact len, by rw [← r2.length]; exact hl, fun x dx d hx hdx hd n1 n2 n3 => ?_⟩
        have key := After.tup (Q := fun v H' => H' x = none → H' dx = none → spM C.G cal f (.ref x :: (xs ++ [v])) (upd (upd H' dx (.own x)) x (.ins (C.G.cls c) dx [])) (fun v H2 => v = .non ∧ Q (.ref x) H2) EF)
          (fun w' v S' x' r' hx' hdx' => hq w' (xs ++ [v]) S' (x1.trans (x2.trans x')) (RDs.app2 (rx.mono (x2.trans x').mo) (.cons r' .nil)) x dx hx' hdx' n1) S2 r2 d (by rw [e2]; exact hd)
        rw [e2] at key
        have z := key (by rw [upd_ne (Ne.symm n2)]; exact hx) (by rw [upd_ne (Ne.symm n3)]; exact hdx)
        rw [upd_comm n3, upd_comm n2] at z
        exact z
      · exact q2.elim
end
end Mi
namespace Mi
open PySem PySem.Spec PyProof.Rows L2
section
variable {C : Ct} {X : Cx} {k L : Nat} {cal : Nat → List Slot → CRes} {pos p1 : Pos}
theorem svD_of {K : PySem.W.Frag} {x qual : Str} {params : Arguments} {body : List Stmt} {scope : Scope} {dvs : List V} {kws : List (Str × V)} {f : Addr} {fd : FuncData} {N : List Str} {y : Str} (F : L2.FunD K x qual params body scope dvs kws f fd) (hpo : params.posonlyargs = []) (hn : params.args.map (·.arg) = N) (hko : params.kwonlyargs = []) (hva : params.vararg.map (·.arg) = some y) (hkw : params.kwarg = none) (hN : N.Nodup) :
    ∃ a, a.arg = y ∧ SvD K fd N a := by
  obtain ⟨oc, od, dV, kV, doc, pm, an, cdv, ct, osl, rfl, lk, hcd, hD, hK⟩ := F.ex
  cases hk : params.vararg with
  | none => rw [hk] at hva; cases hva
  | some a =>
    rw [hk] at hva
    refine ⟨a, Option.some.inj hva, hpo, hn, hko, hk, hkw, hN, ?_⟩
    rcases hD with ⟨_, rfl⟩ | ⟨_, T, o, its, m, rfl, lT, oT, rT⟩
    · exact ⟨none, fun M h X => PySem.W.Looks.of_pure rfl⟩
    · refine ⟨some its.toArray, fun M h X => ?_⟩
      have := L2.looks_items (M := M) (k := fun x => (pure x : Sem (Option (Array Value)))) X lT oT (PySem.W.Looks.of_pure rfl)
      rwa [bind_pure] at this
variable {tab : Nat → Option (He5.DefA × List Str)} {fx : List Fx} {gk : List (Str × T)} {cn : List Str}
theorem q_mkS (c : XC C X k) (e : GX tab fx gk cn X k C.G cal) {cl f ig im : Nat} {nm : Str} {N : List Str} {y0 : Str} {d : He5.DefA} {e1 : Expr} {es1 : List Expr} {es rs : Es} (hcl : cn[cl]? = some nm) (hig : fx[ig]? = some (.glo nm)) (him : fx[im]? = some (.mkr nm)) (ht : tab f = some (d, N ++ [y0]))
    (hat : d.at_ = fun K => He.ma K (He.ga K nm) "__init__") (hn : es.len + 1 = N.length) (D : ∀ {K : PySem.W.Frag} {f : Addr} {fd : FuncData}, L2.FunD K d.name d.qual d.params d.body d.scope (d.dvs K) (d.kws K) f fd → ∃ a, a.arg = y0 ∧ SvD K fd N a) (hnc : noCls (N ++ [y0]) = true) (h : PA X (e1 :: es1) (rdDs C (evDs cal (es.app rs))))
    (hg : Gl X nm := by rfl) (hdb : (nm == ("__debug__" : Str)) = false := by decide)
    (he : starEach (e1 :: es1) X.env = (false, eval e1 X.env) :: starEach es1 X.env := by rfl) (hpl : (backTo pos (starEach es1 X.env)).any (·.1) = false := by rfl) :
    PE X (.Call (.Name nm p1) (e1 :: es1) [] pos) (rdE C (evE cal (.mk cl f [] (es.app (.cons (.tup rs) .nil))))) := by
  obtain ⟨fd, F, ok⟩ := e.fnb f d _ ht
  replace ok := ok.imp (sp' := spM C.G cal f) fun vs H Q E h => ⟨fun z => (by rw [hnc] at z; cases z), h⟩
  obtain ⟨a, ea, hD⟩ := D F
  subst ea
  have ha' : d.at_ X.K = He.ma X.K (He.ga X.K nm) "__init__" := by rw [hat]
  rw [ha'] at ok
  exact PE.imp (pe_makeS (e.mkr hcl him) ok c.room hg (e.gloC hcl hig) hD passEF StX.cxUp h hdb he hpl) fun σ H Q q => rd_mkS (fun m ds m1 h => by rw [evDs_len es m ds m1 h]; exact hn) q
end
end Mi
set_option maxHeartbeats 1000000
namespace Mi
open PySem PySem.Spec PyProof.Rows L2
/-! sum(xs); C(e) where __init__ has a dict of keywords -/
section
variable {G : Gm}
theorem okSum : OpOk1 G .sum (fun x H Q => rSum G.K [x] H Q) := fun w m σ t1 v1 res Q S a h k => by
  replace h : sumF t1 = some res := h
  unfold sumF at h
  cases e : seqI t1 with
  | none => rw [e] at h; cases h
  | some ns =>
    rw [e] at h
    cases h
    obtain ⟨p, rfl, hp⟩ := seqI_v a e
    exact ⟨p, ns, rfl, hp, k.fz S (.int _)⟩
end
section
variable {C : Ct} {X : Cx} {k : Nat} {cal : Nat → List Slot → CRes} {pos p1 : Pos}
theorem x_sum (c : XC C X k) {a : Expr} {ea : E} (hm : Fr X "sum") (ha : PE X a (rdE C (evE cal ea))) (hg : Gl X "sum" := by rfl) (hs : starEach [a] X.env = (false, eval a X.env) :: starEach [] X.env := by rfl) : PE X (.Call (.Name "sum" p1) [a] [] pos) (rdE C (evE cal (.op .sum (.cons ea .nil)))) :=
  x_bi (r := rSum C.G.K) (by rw [c.K]; exact cr_sum c.calm) (by rfl) okSum hm hg (by decide) (by decide) hs ha
end
section
variable {P : R → Prop}
theorem wo_sumI {xs : List Int} (q : P (.fz (.int xs.sum))) : wO .sum [.lst (tI xs)] P := .of (by
  show sumF (.lst (tI xs)) = _
  unfold sumF
  rw [show seqI (.lst (tI xs)) = some xs from ints_tI' xs]
  rfl) q
end
end Mi
namespace L2
open PySem PySem.Spec PyProof.Rows
section
variable {X : Cx} {CX : CXT} {k n : Nat} {f C : Addr} {fd : FuncData} {n0 n1 y : Str} {cV : List V → List V → V} {kV : List V → List (Str × V)} {sp : Sp} {E : XK}
theorem pe_makeF {x : Str} {p pos : Pos} {e : Expr} {es : List Expr} {t : TA} (M : Mk X.K C f) (F : FnB X.prog X.w X.K X.mg X.base CX k f fd ([n0, n1] ++ [y]) sp) (hr : Room (k + 1) X.A) (hg : Gl X x) (hm : X.mg x = some (.ref C)) (D : MkB X.K fd n0 n1 y n [] cV kV)
    (hx : Passes CX X E) (hU : StX.CXUp CX) (ha : PA X (e :: es) t) (hdb : (x == ("__debug__" : Str)) = false := by decide)
    (he : starEach (e :: es) X.env = (false, eval e X.env) :: starEach es X.env := by rfl) (hpl : (backTo pos (starEach es X.env)).any (·.1) = false := by rfl) :
    PE X (.Call (.Name x p) (e :: es) [] pos) (fun σ H Q => t σ H fun vs H2 => vs.length = n ∧ ∀ x dx d, H2 x = none → H2 dx = none → H2 d = none → dx ≠ x → d ≠ x → d ≠ dx →
      sp [.ref x, cV vs [], .ref d] (upd (upd (upd H2 dx (.own x)) x (.ins C dx [])) d (.dK (dkS (kV [])))) (fun v H3 => v = .non ∧ Q (.ref x) H3) E) := by
  refine ⟨fun pins s σ H Q I h => ?_⟩
  refine wpAny_Call_Name_kw (ld_glob I hg hm ?_ hdb)
  refine PySem.W.callWith_K (h₀ := X.base) I.ok.mod.kin M.kp (thn (ha.run pos pins s σ H _ I h) fun us s1 ⟨vs, H1, I1, r, l1, q⟩ => ⟨I1.kIn, ?_⟩) he hpl
  exact run_makeD2 (ks := []) (ws := []) (zs := []) M F hr D hx hU I1 r .nil l1 rfl q
end
end L2
namespace Mi
open PySem PySem.Spec PyProof.Rows L2
section
variable {C : Ct} {X : Cx} {k : Nat} {cal : Nat → List Slot → CRes} {pos p1 : Pos}
theorem rd_mkF {c f : Nat} {a : E} {σ : L2.St} {H : Hp} {Q : VK}
    (q : rdE C (evE cal (.mk c f [] (.cons a (.cons .dic0 .nil)))) σ H Q) : rdDs C (evDs cal (.cons a .nil)) σ H fun vs H2 => vs.length = 1 ∧ ∀ x dx d, H2 x = none → H2 dx = none → H2 d = none → dx ≠ x → d ≠ x → d ≠ dx →
      spM C.G cal f [.ref x, vs.headD .non, .ref d] (upd (upd (upd H2 dx (.own x)) x (.ins (C.G.cls c) dx [])) d (.dK (dkS []))) (fun v H3 => v = .non ∧ Q (.ref x) H3) EF := by
  have q := rd_mk0 (pm := []) (pmv := fun vs => vs) (fun r => r) q
  obtain ⟨w, m, e, P, q⟩ := q
  refine ⟨w, m, e, P, ?_⟩
  rw [evDs, Res.sat_bind] at q ⊢
  refine Res.sat_mono q fun ra m1 q1 => ?_
  have hev : evDs cal (.cons .dic0 .nil) m1 = .ok [.t (.dic [])] m1 := by
    rw [evDs, evE]
    show (evDs cal .nil m1).bind (fun xs m2 => Res.ok (Opd.t (.dic []) :: xs) m2) = _
    rw [evDs]
    rfl
  rw [hev] at q1
  rw [evDs]
  intro w1 vs S1 x1 r1
  have hq : ∀ w' vs, SR C.G w' m1 σ → Ex w w' → RDs C.G w' σ [ra.opd, .t (.dic [])] vs → ∀ x dx, w'.H x = none → w'.H dx = none → dx ≠ x → spM C.G cal f (.ref x :: vs) (upd (upd w'.H dx (.own x)) x (.ins (C.G.cls c) dx [])) (fun v H2 => v = .non ∧ Q (.ref x) H2) EF := q1
  cases r1 with
  | cons r0 rn =>
    cases rn
    refine ⟨rfl, fun x dx d hx hdx hd n1 n2 n3 => ?_⟩
    have S3 := S1.new (u := .dK (dkS [])) hd
    have x3 := Ex.new (u := .dK (dkS [])) S1.trk hd
    have rr : RR C.G (w1.new d (.dK (dkS []))) m1 σ (.ow (.dic [])) (.ref d) := by
      refine ⟨d, rfl, .dic upd_same .nil, .inr rfl, fun i o' h e => ?_⟩
      obtain ⟨a, e1, r1, _⟩ := S1.sl i _ h
      rw [e] at e1
      cases e1
      obtain ⟨u', hu⟩ := r1.trk
      rw [hd] at hu
      cases hu
    obtain ⟨w4, e4, S4, x4, d4⟩ := S3.opd rr
    have xx := x3.trans x4
    have eH : w4.H = upd w1.H d (.dK (dkS [])) := e4
    have z := hq w4 _ S4 (x1.trans xx) (.cons (r0.mono xx.mo) (.cons (show RD C.G w4 σ (.t (.dic [])) (.ref d) from d4) .nil)) x dx (by rw [eH, upd_ne (Ne.symm n2)]; exact hx) (by rw [eH, upd_ne (Ne.symm n3)]; exact hdx) n1
    rw [eH, upd_comm n3, upd_comm n2] at z
    exact z
variable {tab : Nat → Option (He5.DefA × List Str)} {fx : List Fx} {gk : List (Str × T)} {cn : List Str}
theorem q_mkF (c : XC C X k) (e : GX tab fx gk cn X k C.G cal) {cl f ig im : Nat} {nm : Str} {d : He5.DefA} {n0 n1 y : Str} {tD : T} {e1 : Expr} {a : E} (hcl : cn[cl]? = some nm) (hig : fx[ig]? = some (.glo nm)) (him : fx[im]? = some (.mkr nm)) (ht : tab f = some (d, [n0, n1] ++ [y]))
    (hat : d.at_ = fun K => He.ma K (He.ga K nm) "__init__") (D : KwI d n0 n1 y tD) (hnc : noCls ([n0, n1] ++ [y]) = true) (h : PA X [e1] (rdDs C (evDs cal (.cons a .nil))))
    (hg : Gl X nm := by rfl) (hdb : (nm == ("__debug__" : Str)) = false := by decide)
    (he : starEach [e1] X.env = (false, eval e1 X.env) :: starEach [] X.env := by rfl) (hpl : (backTo pos (starEach [] X.env)).any (·.1) = false := by rfl) :
    PE X (.Call (.Name nm p1) [e1] [] pos) (rdE C (evE cal (.mk cl f [] (.cons a (.cons .dic0 .nil))))) := by
  obtain ⟨fd, F, ok⟩ := e.fnb f d _ ht
  replace ok := ok.imp (sp' := spM C.G cal f) fun vs H Q E h => ⟨fun z => (by rw [hnc] at z; cases z), h⟩
  obtain ⟨b, eb, hD⟩ := D F
  subst eb
  have ha' : d.at_ X.K = He.ma X.K (He.ga X.K nm) "__init__" := by rw [hat]
  rw [ha'] at ok
  exact PE.imp (pe_makeF (e.mkr hcl him) ok c.room hg (e.gloC hcl hig) (mkb_A (ks := []) hD.d (fun k hk => by cases hk) .nil (Nat.zero_le _)) passEF StX.cxUp h hdb he hpl) fun σ H Q q => rd_mkF q
end
end Mi
set_option maxHeartbeats 2000000
namespace L2
open PySem PySem.Spec PyProof.Rows
/-! dict(list(d.items())): a copy -/
theorem putK_out {κ : Type} [DecidableEq κ] {kvs : List (κ × V)} {k : κ} {v : V} (h : k ∉ kvs.map (·.1)) : putK kvs k v = kvs ++ [(k, v)] := by
  unfold putK
  rw [if_neg]
  intro z
  obtain ⟨x, hx, e⟩ := List.any_eq_true.mp z
  exact h (List.mem_map.mpr ⟨x, hx, of_decide_eq_true e⟩)
theorem mergeK_nodup : ∀ (more acc : List (Key × V)), ((acc ++ more).map (·.1)).Nodup → mergeK acc more = acc ++ more
  | [], acc, _ => by rw [List.append_nil]; rfl
  | p :: r, acc, h => by
    have hp : p.1 ∉ acc.map (·.1) := fun z => by
      rw [List.map_append, List.nodup_append] at h
      exact h.2.2 p.1 z p.1 (by simp) rfl
    show mergeK (putK acc p.1 p.2) r = _
    rw [putK_out hp, mergeK_nodup r (acc ++ [(p.1, p.2)]) (by rw [List.append_assoc]; exact h), List.append_assoc]
    rfl
theorem kvK_keys : ∀ {ks : List (Key × V)} {vs : List (Key × Value)}, KV ks vs → ks.map (·.1) = vs.map (·.1)
  | _, _, .nil => rfl
  | _, _, .cons ⟨a, _⟩ r => by rw [List.map_cons, List.map_cons, a, kvK_keys r]
section
variable {X : Cx}
noncomputable def rItm (td : TE) : TE := fun σ H Q => td σ H fun x H1 => ∃ (d : Addr) (kvs : List (Key × V)), x = V.ref d ∧ Rd H1 d (.dK kvs) ∧ ∀ p, H1 p = none → Q (.ref p) (upd H1 p (.dK kvs))
theorem pe_dictItems {e : Expr} {td : TE} {p1 p2 apos cpos pos2 pos : Pos} (hc : X.calm = true) (hg : Gl X "dict") (hm : X.mg "dict" = none) (hg2 : Gl X "list") (hm2 : X.mg "list" = none) (he : PE X e td)
    (hbase : attributeBase e "items" X.env (eval e X.env) = eval e X.env := by rfl) (hline : (apos.endLine == cpos.line) = true := by rfl)
    (na : starEach [.Call (.Attribute e "items" apos) [] [] cpos] X.env = (false, eval (.Call (.Attribute e "items" apos) [] [] cpos) X.env) :: starEach [] X.env := by rfl)
    (nb : starEach [.Call (.Name "list" p2) [.Call (.Attribute e "items" apos) [] [] cpos] [] pos2] X.env = (false, eval (.Call (.Name "list" p2) [.Call (.Attribute e "items" apos) [] [] cpos] [] pos2) X.env) :: starEach [] X.env := by rfl) :
    PE X (.Call (.Name "dict" p1) [.Call (.Name "list" p2) [.Call (.Attribute e "items" apos) [] [] cpos] [] pos2] [] pos) (rItm td) := by
  refine ⟨fun pins s σ H Q I h => ?_⟩
  refine Call_ (ld_blt I hg hm PyProof.Rows.boot_dict ?_)
  refine PyProof.Rows.callWith_type1 (PyProof.Rows.args_cons ?_ nb) nb rfl
  refine Call_ (ld_blt I hg2 hm2 PyProof.Rows.boot_list ?_)
  refine PyProof.Rows.callWith_type1 (PyProof.Rows.args_cons ?_ na) na rfl
  refine wpAny_Call_method (T := "dict") (id := "dict.items") hbase rfl hline F.plainAttrs_dict F.slot_dict_items F.type_dict_items (thn (he.run pins s σ H _ I h) fun u s1 ⟨x, H1, I1, rx, d, kvs, ex, hd, q⟩ => ?_)
  subst ex
  obtain rfl : u = Value.ref d := rx
  obtain ⟨hz, hs, vs, kv, hm0⟩ := dk_rd I1.hok hd
  obtain ⟨o, es, ep, hda⟩ := id hm0
  have hat : s1.heap.DictAt (mixKind X.prog X.w) d vs ep := ⟨o, es, hda⟩
  have hl : kvs.length = vs.length := Paired.length kv
  have hnd : (vs.map (·.1)).Nodup := hda.2.2.2.2.2
  refine ⟨hm0.typeIs, hm0.mapOf.noDict, ?_⟩
  show wpAny _ _ (callWith cpos (.builtin "dict.items") [.ref d] [] []) _ X.xe s1
  refine method_meetsIn F.slot_dict_items F.entry_dict_items rfl (PySem.evalArgs_none ⟨rfl, hm0.typeIs, F.args_dict_items_1 _, _, meets_dict_items (mixKind X.prog X.w) d hs, ⟨vs, hm0⟩, ?_⟩)
  refine PyProof.Rows.args_nil ?_
  refine PySem.W.kdx_call (knd := mixKind X.prog X.w) (kvs := vs) (ep := ep) (d := d) (I.ok.hd hc) ⟨_, Heap.get?_push_size _ rfl, rfl, rfl⟩ (hat.push _) (by omega) fun h' tk acc c as hk hL hlen hG hacc => ?_
  refine PyProof.Rows.args_nil ?_
  refine call_dict_pairs (prs := vs) (n := c) (items := acc) (I.ok.hd hc) hL rfl rfl rfl (by rw [← Array.length_toList, hacc, List.length_map]; exact hlen) (by omega) (fun j q' e => ?_) fun h2 tk2 hd2 k2 => ?_
  · have hj : j < as.length := by rw [hlen]; exact (List.getElem?_eq_some_iff.mp e).1
    have ha := List.getElem?_eq_getElem hj
    obtain ⟨key, k, x, e1, e2, e3⟩ := hG.pairs j _ ha
    rw [e] at e1
    cases e1
    refine ⟨as[j], key, ?_, ⟨_, e3, rfl, _, rfl⟩, e2⟩
    rw [← Array.getElem?_toList, hacc, List.getElem?_map, ha]
    rfl
  · have low : s1.heap.objs.size ≤ h'.objs.size := Nat.le_of_lt (Heap.lt_size (hk _ _ (Heap.get?_push_size _ rfl)))
    have fr : H1 h'.objs.size = none := I1.hok.fresh low
    have big : (h'.objs.size == sysModules) = false := beq_eq_false_iff_ne.mpr (Nat.ne_of_gt (Nat.lt_of_lt_of_le I1.big low))
    have kp : ∀ b u, s1.heap.get? b = some u → h2.get? b = some u := fun b u e => k2 b u (hk b u (Heap.get?_push_of_some _ e))
    have rel : KV (mergeK [] kvs) (merged [] vs) := KV.merge kv .nil
    rw [mergeK_nodup kvs [] (by rw [List.nil_append, kvK_keys kv]; exact hnd), List.nil_append] at rel
    exact ⟨.ref h'.objs.size, upd H1 h'.objs.size (.dK kvs), I1.laid (t' := tk2) kp low (show ObjOk X.prog X.w _ _ _ (.dK kvs) from ⟨hz, big, merged [] vs, rel, hd2⟩), rfl, q _ fr⟩
end
end L2
namespace Mi
open PySem PySem.Spec PyProof.Rows L2
section
variable {G : Gm}
noncomputable def rCpy : V → Hp → VK → Prop := fun x H Q => ∃ (d : Addr) (kvs : List (Key × V)), x = V.ref d ∧ Rd H d (.dK kvs) ∧ ∀ p, H p = none → Q (.ref p) (upd H p (.dK kvs))
theorem okCpy {ns : List Str} : OpOk1 G (.kwd ns) rCpy := fun w m σ t1 v1 res Q S a h k => by
  replace h : kwdF ns t1 = some res := h
  cases t1 <;> try (cases h; done)
  case dic kvs =>
    obtain ⟨p, ks, rfl, h1, r⟩ := a.dic
    unfold kwdF at h
    simp only at h
    split at h
    · cases h
      exact ⟨p, ks, rfl, h1, fun p hp => k.new S hp (.dic upd_same (RFk.mono (Mo.new S.trk hp) r))⟩
    · cases h
end
section
variable {C : Ct} {X : Cx} {k : Nat} {cal : Nat → List Slot → CRes} {pos p1 p2 pos2 apos cpos : Pos}
theorem x_ditems (c : XC C X k) {e : Expr} {ea : E} (hm : Fr X "dict") (hm2 : Fr X "list") (ha : PE X e (rdE C (evE cal ea))) (hg : Gl X "dict" := by rfl) (hg2 : Gl X "list" := by rfl)
    (hbase : attributeBase e "items" X.env (eval e X.env) = eval e X.env := by rfl) (hline : (apos.endLine == cpos.line) = true := by rfl)
    (na : starEach [.Call (.Attribute e "items" apos) [] [] cpos] X.env = (false, eval (.Call (.Attribute e "items" apos) [] [] cpos) X.env) :: starEach [] X.env := by rfl)
    (nb : starEach [.Call (.Name "list" p2) [.Call (.Attribute e "items" apos) [] [] cpos] [] pos2] X.env = (false, eval (.Call (.Name "list" p2) [.Call (.Attribute e "items" apos) [] [] cpos] [] pos2) X.env) :: starEach [] X.env := by rfl) :
    PE X (.Call (.Name "dict" p1) [.Call (.Name "list" p2) [.Call (.Attribute e "items" apos) [] [] cpos] [] pos2] [] pos) (rdE C (evE cal (.op (.kwd []) (.cons ea .nil)))) :=
  n_op1 (r := rCpy) (fun ta h => PE.imp (pe_dictItems c.calm hg hm hg2 hm2 h hbase hline na nb) fun _ _ _ q => q) okCpy ha
end
end Mi
set_option maxHeartbeats 2000000
namespace L2
open PySem PySem.Spec PyProof.Rows
section
variable {X : Cx}
theorem ps_setDc {i : Nat} {y : Str} {py : Pos} {kx vx tg iter : Expr} {ifs : List Expr} {scope : Scope} {own : List (Str × Nat)} {pos spos : Pos} {wi : TI} {g : TG} {tt : TT} {tk tv : TE} (hc : X.calm = true) (hN : X.N.Nodup) (hy : X.N[i]? = some y) (hyl : X.env.scope.names.lookup y = some .local)
    (hsw : swapsWith (.DictComp kx vx [⟨tg, iter, ifs, 0⟩] scope pos) (some (.Name y py)) spos.line X.env = pure true) (hi : PI X tg iter wi) (ok : BlkOk X.N X.env.scope scope own)
    (hg : ∀ (s : Shared) (H : Hp) (C : Addr) (cl : List (Str × Addr)) (fp : List Addr), PG (X.blk s H scope (compEnvC scope cl C X.env) fp) tg g) (ht : ∀ (s : Shared) (H : Hp) (C : Addr) (cl : List (Str × Addr)) (fp : List Addr), PTs (X.blk s H scope (compEnvC scope cl C X.env) fp) ifs tt)
    (hk : ∀ (s : Shared) (H : Hp) (C : Addr) (cl : List (Str × Addr)) (fp : List Addr), PE (X.blk s H scope (compEnvC scope cl C X.env) fp) kx tk)
    (he : ∀ (s : Shared) (H : Hp) (C : Addr) (cl : List (Str × Addr)) (fp : List Addr), PE (X.blk s H scope (compEnvC scope cl C X.env) fp) vx tv) (hs : ∀ x, foldedSetIterable iter X.env x = pure x := by intro _; rfl) :
    PS X (.Assign [.Name y py] (.DictComp kx vx [⟨tg, iter, ifs, 0⟩] scope pos) spos) (tAsg (tDc wi g tt tk tv (own.map (·.2))) (gName i)) := by
  refine ⟨fun pins s σ H D I h => ?_⟩
  rw [exec_Assign_Name_used _ _ _ _ hsw]
  refine wpAny_bind (wpAny_standAt (wpAny_bind ?_))
  show wpAny _ X.A (do let _ ← comprehension (.DictComp kx vx [⟨tg, iter, ifs, 0⟩] scope pos) scope X.env (firstIterPos [⟨tg, iter, ifs, 0⟩] pos) newDict false (eval iter X.env) (some (assign (.Name y py) X.env))) _ _ s
  replace h : tDc wi g tt tk tv (own.map (·.2)) σ H (fun x H1 => gName i x σ H1 D.nx) := h
  refine wpAny_bind (thn (dc_core (Qf := fun _ s' => SP X pins D .next s') hc hN I hi ok hg ht hk he hs h fun L C s' m H' I' q hn f => ?_) fun _ s' hq => wpAny_pure (wpAny_pure hq))
  show wpAny _ _ (assign (.Name y py) X.env (.ref L)) _ _ _
  refine wpAny_assign_Name (store_ok2 (v := V.ref L) I' hN hy (.inl hyl) rfl (fun s2 I2 ⟨a, sb, ha⟩ => ?_) (.inr hyl))
  obtain ⟨f0, f1, f2, f3, f4, f5⟩ := f
  have off : C ≠ a := by
    rcases ha with z | z
    · rw [z]; exact f1
    · exact fun e => f4 y a z e.symm
  refine ⟨m, hn.sameBut sb off, fun h3 sb3 => ?_⟩
  exact ⟨_, H', I2.turned (t' := s2.toks) (fun b o hb e => (sb3.2 b hb).trans e) f0 f1 f3 f4 f5, q⟩
end
end L2
namespace Mi
open PySem PySem.Spec PyProof.Rows L2
section
variable {C : Ct} {X : Cx} {k L : Nat} {cal : Nat → List Slot → CRes} {pos p1 p2 : Pos}
theorem w_setd (c : XC C X k) {i : Nat} {x : Str} {kx vx tg iter : Expr} {ifs : List Expr} {scope : Scope} {own : List (Str × Nat)} {ow : List Nat} {p : Pt} {s : Src} {cs : Es} {ke e : E} {g : TG} (nfx : C.fx i = false) (gp : GP C.G p g) (ok : BlkOk X.N X.env.scope scope own) (hi : PI X tg iter (rdS C (evSrc cal s)))
    (hg : ∀ (s : Shared) (H : Hp) (D : Addr) (cl : List (Str × Addr)) (fp : List Addr), PG (X.blk s H scope (compEnvC scope cl D X.env) fp) tg g)
    (ht : ∀ (s : Shared) (H : Hp) (D : Addr) (cl : List (Str × Addr)) (fp : List Addr), XC C.inn (X.blk s H scope (compEnvC scope cl D X.env) fp) k → PTs (X.blk s H scope (compEnvC scope cl D X.env) fp) ifs (rdB C.inn (evAll cal cs)))
    (hk : ∀ (s : Shared) (H : Hp) (D : Addr) (cl : List (Str × Addr)) (fp : List Addr), XC C.inn (X.blk s H scope (compEnvC scope cl D X.env) fp) k → PE (X.blk s H scope (compEnvC scope cl D X.env) fp) kx (rdE C.inn (evE cal ke)))
    (he : ∀ (s : Shared) (H : Hp) (D : Addr) (cl : List (Str × Addr)) (fp : List Addr), XC C.inn (X.blk s H scope (compEnvC scope cl D X.env) fp) k → PE (X.blk s H scope (compEnvC scope cl D X.env) fp) vx (rdE C.inn (evE cal e)))
    (hN : X.N[i]? = some x := by rfl) (hx : X.env.scope.names.lookup x = some .local := by rfl) (hsw : swapsWith (.DictComp kx vx [⟨tg, iter, ifs, 0⟩] scope p2) (some (.Name x p1)) pos.line X.env = pure true := by rfl)
    (how : own.map (·.2) = ow := by rfl) (hsub : ∀ j ∈ p.sl, j ∈ ow := by decide) (hs : ∀ x, foldedSetIterable iter X.env x = pure x := by intro _; rfl) :
    PS X (.Assign [.Name x p1] (.DictComp kx vx [⟨tg, iter, ifs, 0⟩] scope p2) pos) (rdSt C (evS cal L (.set i (.dcm ow p s cs ke e)))) := by
  subst how
  exact st_set nfx (PS.imp (ps_setDc c.calm c.nd hN hx hsw hi ok hg (fun s H D cl fp => ht s H D cl fp c.blk) (fun s H D cl fp => hk s H D cl fp c.blk) (fun s H D cl fp => he s H D cl fp c.blk) hs) fun D σ H q => rd_dcm gp hsub q)
end
end Mi
set_option maxHeartbeats 1000000
namespace MiP
open PySem PySem.Spec PyProof.Rows L2 PySem.SeqAt
open AutoSeq1 (wpAny_loadPart')
open MeetsSeq MeetsSeq2 MeetsSeq3 SeqRoads2
theorem list_eq_nil {prog : Program} {w : World} (l b : Addr) (items : Array Value) (n n2 : Nat) (dd dd2 : Option Addr) (sl sl2 : Array (Option Value)) :
    MeetsIn prog w (Builtin.«list.__eq__» ⟨[.ref l, .ref b], []⟩)
      (fun A R s => s.heap.get? l = some { cls := .type "list", dict := dd, data := .seq items n, slots := sl } ∧ s.heap.get? b = some { cls := .type "list", dict := dd2, data := .seq #[] n2, slots := sl2 } ∧
        R (.ok (.ret (.bool items.toList.isEmpty))) s) := by
  by_cases hz : items.size = 0
  · have e : items = #[] := Array.size_eq_zero_iff.mp hz
    subst e
    intro A R s h
    obtain ⟨hl, hb, h⟩ := h
    exact handS_list_eqIn l b #[] #[] n n2 dd dd2 sl sl2 rfl (fun _ => true) A R s ⟨hl, hb, (fun j h1 => absurd h1 (by simp)), h⟩
  · intro A R s h
    obtain ⟨hp, g, d, tk, os⟩ := s; obtain ⟨hl, hb, h⟩ := h
    have f3 := AutoSeq1.sub_list_list
    have hne : (items.size != (#[] : Array Value).size) = true := by simpa using hz
    have he : items.toList.isEmpty = false := by
      cases h2 : items.toList with
      | nil => exact absurd (by rw [← Array.length_toList, h2]; rfl) hz
      | cons _ _ => rfl
    rw [he] at h
    wp_walk using wpAny_loadPart' hl, wpAny_loadPart' hb
    exact h
end MiP
namespace Mi
open PySem PySem.Spec PyProof.Rows L2
noncomputable def rEqL (K : PySem.W.Frag) : R2 := fun x y H Q => ∃ (a b : Addr) (xs : List V), x = .ref a ∧ y = .ref b ∧ SqL K H a xs ∧ SqL K H b [] ∧ Q (.bl xs.isEmpty) H
section
variable {C : Ct} {X : Cx} {k L : Nat} {cal : Nat → List Slot → CRes}
theorem op_eqL (hu : X.A.units + 64 < cLine) : OpR X (compareOp .Eq) (rEqL X.K) := by
  intro pins s σ H x y v u Q I rx ry h
  obtain ⟨a, b, xs, rfl, rfl, ha, hb, q⟩ := h
  obtain rfl : v = Value.ref a := rx
  obtain rfl : u = Value.ref b := ry
  obtain ⟨i1, r1, ⟨⟨cls, dd, data, sl⟩, n, ho, hc, hd0, hd⟩, _⟩ := I.list ha
  obtain ⟨i2, r2, ⟨⟨cls2, dd2, data2, sl2⟩, n2, ho2, hc2, hd02, hd2⟩, _⟩ := I.list hb
  simp only at hc hd hc2 hd2 hd0 hd02
  subst hc hd hc2 hd2
  cases r2
  have ev : i1.toArray.toList.isEmpty = xs.isEmpty := by
    cases r1 with
    | nil => rfl
    | cons _ _ => rfl
  exact wpAny_richCompare_same_room (T := "list") (op := .Eq) ⟨_, ho, rfl⟩ ⟨_, ho2, rfl⟩ F.slot_list_eq (call_meetsIn F.slot_list_eq ⟨_, ho, rfl⟩ F.entry_list_eq (F.args_list_eq_2 _ _) (MiP.list_eq_nil a b i1.toArray n n2 dd dd2 sl sl2)
    ⟨ho, ho2, (fun x => nomatch x), fin_bl I (by rw [ev]; exact q) rfl⟩) (by omega)
theorem okEqL {G : Gm} : OpOk2 G .eqL (rEqL G.K) := fun w m σ t1 t2 v1 v2 res Q S a b h k => by
  replace h : eqLF t1 t2 = some res := h
  unfold eqLF at h
  split at h
  · rename_i xs
    cases h
    obtain ⟨p, vs, rfl, h1, r1⟩ := a.lst
    obtain ⟨q, us, rfl, h2, r2⟩ := b.lst
    cases r2
    refine ⟨p, q, vs, rfl, rfl, .inl (.inl h1), .inl (.inl h2), ?_⟩
    have ev : vs.isEmpty = xs.isEmpty := by
      cases r1 with
      | nil => rfl
      | cons _ _ => rfl
    rw [ev]
    exact k.fz S (.bl _)
  · cases h
theorem c_eqL (c : XC C X k) : CP C X .Eq .eqL := ⟨_, by rw [c.K]; exact op_eqL c.hu, okEqL⟩
end
end Mi
set_option maxHeartbeats 0
namespace MiDF
open PySem PySem.Spec Mi
/-! _law_bag ['_law_script', '_law_mixed', '_law_cell'] -/
noncomputable def l2_0 : Ss := (.cons (.set 1 (.op .mod (.cons (.op .int (.cons (.op .add (.cons (.op .add (.cons (.op .mul (.cons (.var 1) (.cons (.c (.int 46337)) .nil))) (.cons (.op .mul (.cons (.op .mod (.cons (.op .int (.cons (.var 2) .nil)) (.cons (.c (.int 1000211)) .nil))) (.cons (.c (.int 919)) .nil))) .nil))) (.cons (.c (.int 41)) .nil))) .nil)) (.cons (.c (.int 2147483563)) .nil))))
  .nil)
noncomputable def t2_0 : S := (.set 1 (.c (.int 12006)))
noncomputable def t2_1 : S := (.fr (.nm 2) (.it (.op (.sl false true) (.cons (.var 0) (.cons (.c (.int 63)) .nil)))) l2_0)
noncomputable def t2_2 : S := (.ret (.lst (.cons (.op .list (.cons (.op (.sl false true) (.cons (.var 0) (.cons (.c (.int 63)) .nil))) .nil)) (.cons (.c (.int 0)) (.cons (.c (.int 0)) (.cons (.var 1) (.cons (.c (.int 0)) .nil)))))))
noncomputable def d2 : Def := ⟨1, 3, [false],
  (.cons t2_0 (.cons t2_1 (.cons t2_2 .nil)))⟩
/-! _law_some_form ['_law_bag_here', '_law_names_here', '_law_most', '_law_pairs', '_law_name', '_law_pair'] -/
noncomputable def e51_0 : E := (.tup (.cons (.var 4) (.cons (.call 26 [true, false] (.cons (.var 0) (.cons (.var 2) .nil))) .nil)))
noncomputable def e51_1 : E := (.var 5)
noncomputable def t51_0 : S := (.set 3 (.comp [4] (.nm 4) (.it (.op .srt (.cons (.var 1) .nil))) (.cons (.op .gt (.cons (.call 15 [true, false] (.cons (.var 0) (.cons (.c (.int 4)) .nil))) (.cons (.c (.int 0)) .nil))) .nil) e51_0))
noncomputable def t51_1 : S := (.ret (.tup (.cons (.call 26 [true, false] (.cons (.var 0) (.cons (.var 2) .nil))) (.cons (.op .dict (.cons (.comp [5] (.nm 5) (.it (.var 3)) (.cons (.op .ne (.cons (.op .idx (.cons (.var 5) (.cons (.c (.int 1)) .nil))) (.cons (.c (.int 0)) .nil))) .nil) e51_1) .nil)) .nil))))
noncomputable def d51 : Def := ⟨3, 6, [true, false, false],
  (.cons t51_0 (.cons t51_1 .nil))⟩
/-! _law_names ['_law_bag_here', '_law_many', '_law_abc', '_law_found', '_law_k', '_law_word', '_law_j', '_law_ways', '_law_letter', '_law_one'] -/
noncomputable def e50_0 : E := (.call 17 [true, false] (.cons (.var 0) (.cons (.var 2) .nil)))
noncomputable def e50_1 : E := (.op .add (.cons (.op (.sl false true) (.cons (.var 5) (.cons (.c (.int 5)) .nil))) (.cons (.var 8) .nil)))
noncomputable def e50_2 : E := (.var 9)
noncomputable def l50_0 : Ss := (.cons (.set 5 (.jn (.c (.str "")) (.comp [6] (.nm 6) (.rng1 (.op .add (.cons (.c (.int 1)) (.cons (.call 15 [true, false] (.cons (.var 0) (.cons (.call 17 [true, false] (.cons (.var 0) (.cons (.lst (.cons (.c (.int 1)) (.cons (.c (.int 2)) (.cons (.c (.int 6)) .nil)))) .nil))) .nil))) .nil)))) .nil e50_0)))
  (.cons (.set 7 (.op .add (.cons (.lst (.cons (.var 5) .nil)) (.cons (.comp [8] (.nm 8) (.it (.var 2)) .nil e50_1) .nil))))
  (.cons (.app 3 (.op .idx (.cons (.comp [9] (.nm 9) (.it (.var 7)) (.cons (.an (.op .notin (.cons (.var 9) (.cons (.var 3) .nil))) (.op .notin (.cons (.var 9) (.cons (.call 54 [] .nil) .nil)))) .nil) e50_2) (.cons (.c (.int 0)) .nil))))
  .nil)))
noncomputable def t50_0 : S := (.parf 2 3 (.c (.str "abcdefghijklmnopqrstuvwxyz")) (.lst .nil))
noncomputable def t50_1 : S := (.fr (.nm 4) (.rng1 (.var 1)) l50_0)
noncomputable def t50_2 : S := (.ret (.var 3))
noncomputable def d50 : Def := ⟨2, 10, [true, false],
  (.cons t50_0 (.cons t50_1 (.cons t50_2 .nil)))⟩
/-! _law_take ['_law_bag_here', '_law_many', '_law_cell', '_law_digit', '_law_twice'] -/
noncomputable def t15_0 : S := (.sto 0 (.c (.int 4)) (.op .add (.cons (.op .idx (.cons (.var 0) (.cons (.c (.int 4)) .nil))) (.cons (.c (.int 1)) .nil))))
noncomputable def t15_1 : S := (.ife (.an (.op .eq (.cons (.op .idx (.cons (.var 0) (.cons (.c (.int 2)) .nil))) (.cons (.c (.int 0)) .nil))) (.op .lt (.cons (.op .idx (.cons (.var 0) (.cons (.c (.int 1)) .nil))) (.cons (.op .len (.cons (.op .idx (.cons (.var 0) (.cons (.c (.int 0)) .nil))) .nil)) .nil)))) (.cons (.set 2 (.op .idx (.cons (.op .idx (.cons (.var 0) (.cons (.c (.int 0)) .nil))) (.cons (.op .idx (.cons (.var 0) (.cons (.c (.int 1)) .nil))) .nil))))
  (.cons (.sto 0 (.c (.int 1)) (.op .add (.cons (.op .idx (.cons (.var 0) (.cons (.c (.int 1)) .nil))) (.cons (.c (.int 1)) .nil))))
  (.cons (.ife (.op .ge (.cons (.op .abs (.cons (.var 2) .nil)) (.cons (.op .pow (.cons (.c (.int 10)) (.cons (.c (.int 18)) .nil))) .nil))) (.cons (.sto 0 (.c (.int 2)) (.op .abs (.cons (.var 2) .nil)))
  .nil) (.cons (.sto 0 (.c (.int 3)) (.op .mod (.cons (.op .int (.cons (.op .add (.cons (.op .add (.cons (.op .mul (.cons (.op .idx (.cons (.var 0) (.cons (.c (.int 3)) .nil))) (.cons (.c (.int 47303)) .nil))) (.cons (.op .mul (.cons (.op .mod (.cons (.op .int (.cons (.var 2) .nil)) (.cons (.c (.int 1000211)) .nil))) (.cons (.c (.int 733)) .nil))) .nil))) (.cons (.c (.int 59)) .nil))) .nil)) (.cons (.c (.int 2147483579)) .nil))))
  .nil))
  .nil))) .nil)
noncomputable def t15_2 : S := (.ife (.op .gt (.cons (.op .idx (.cons (.var 0) (.cons (.c (.int 2)) .nil))) (.cons (.c (.int 0)) .nil))) (.cons (.set 3 (.op .mod (.cons (.op .int (.cons (.op .idx (.cons (.var 0) (.cons (.c (.int 2)) .nil))) .nil)) (.cons (.var 1) .nil))))
  (.cons (.sto 0 (.c (.int 2)) (.op .fdiv (.cons (.op .idx (.cons (.var 0) (.cons (.c (.int 2)) .nil))) (.cons (.var 1) .nil))))
  (.cons (.ret (.var 3))
  .nil))) .nil)
noncomputable def t15_3 : S := (.set 4 (.op .mod (.cons (.op .int (.cons (.op .add (.cons (.op .mul (.cons (.op .idx (.cons (.var 0) (.cons (.c (.int 3)) .nil))) (.cons (.op .idx (.cons (.var 0) (.cons (.c (.int 3)) .nil))) .nil))) (.cons (.op .mul (.cons (.op .idx (.cons (.var 0) (.cons (.c (.int 4)) .nil))) (.cons (.c (.int 8191)) .nil))) .nil))) .nil)) (.cons (.c (.int 2147483647)) .nil))))
noncomputable def t15_4 : S := (.sto 0 (.c (.int 3)) (.op .mod (.cons (.op .int (.cons (.op .add (.cons (.op .add (.cons (.op .mul (.cons (.var 4) (.cons (.c (.int 16981)) .nil))) (.cons (.op .mul (.cons (.op .idx (.cons (.var 0) (.cons (.c (.int 3)) .nil))) (.cons (.c (.int 47969)) .nil))) .nil))) (.cons (.c (.int 70019)) .nil))) .nil)) (.cons (.c (.int 2147483579)) .nil))))
noncomputable def t15_5 : S := (.ret (.op .mod (.cons (.op .int (.cons (.op .fdiv (.cons (.op .idx (.cons (.var 0) (.cons (.c (.int 3)) .nil))) (.cons (.c (.int 67)) .nil))) .nil)) (.cons (.var 1) .nil))))
noncomputable def d15 : Def := ⟨2, 5, [true, false],
  (.cons t15_0 (.cons t15_1 (.cons t15_2 (.cons t15_3 (.cons t15_4 (.cons t15_5 .nil))))))⟩
/-! _law_form ['_law_spec', '_law_name'] -/
noncomputable def e52_0 : E := (.tup (.cons (.var 1) (.cons (.op .idx (.cons (.op .idx (.cons (.var 0) (.cons (.c (.int 1)) .nil))) (.cons (.var 1) .nil))) .nil)))
noncomputable def t52_0 : S := (.ret (.call 147 [false, false] (.cons (.comp [1] (.nm 1) (.it (.op .idx (.cons (.var 0) (.cons (.c (.int 1)) .nil)))) .nil e52_0) (.cons (.op .idx (.cons (.var 0) (.cons (.c (.int 0)) .nil))) .nil))))
noncomputable def d52 : Def := ⟨1, 2, [false],
  (.cons t52_0 .nil)⟩
/-! _law_form_text ['_law_spec', '_law_terms', '_law_name', '_law_words', '_law_number_here'] -/
noncomputable def e126_0 : E := (.tup (.cons (.op .idx (.cons (.op .idx (.cons (.var 0) (.cons (.c (.int 1)) .nil))) (.cons (.var 2) .nil))) (.cons (.var 2) .nil)))
noncomputable def l126_0 : Ss := (.cons (.ife (.or (.op .lt (.cons (.var 4) (.cons (.c (.int 0)) .nil))) (.op .ne (.cons (.var 3) (.cons (.lst .nil) .nil)))) (.cons (.app 3 (.ite (.op .lt (.cons (.var 4) (.cons (.c (.int 0)) .nil))) (.c (.str "-")) (.c (.str "+"))))
  .nil) .nil)
  (.cons (.ife (.or (.op .eq (.cons (.var 2) (.cons (.c (.str "")) .nil))) (.op .ne (.cons (.op .abs (.cons (.var 4) .nil)) (.cons (.c (.int 1)) .nil)))) (.cons (.app 3 (.op .str (.cons (.op .abs (.cons (.var 4) .nil)) .nil)))
  .nil) .nil)
  (.cons (.ife (.op .ne (.cons (.var 2) (.cons (.c (.str "")) .nil))) (.cons (.app 3 (.var 2))
  .nil) .nil)
  .nil)))
noncomputable def t126_0 : S := (.set 1 (.comp [2] (.nm 2) (.it (.op .srt (.cons (.op .list (.cons (.op .idx (.cons (.var 0) (.cons (.c (.int 1)) .nil))) .nil)) .nil))) .nil e126_0))
noncomputable def t126_1 : S := (.ife (.or (.op .ne (.cons (.op .idx (.cons (.var 0) (.cons (.c (.int 0)) .nil))) (.cons (.c (.int 0)) .nil))) (.op .eq (.cons (.var 1) (.cons (.lst .nil) .nil)))) (.cons (.app 1 (.tup (.cons (.op .idx (.cons (.var 0) (.cons (.c (.int 0)) .nil))) (.cons (.c (.str "")) .nil))))
  .nil) .nil)
noncomputable def t126_2 : S := (.set 3 (.lst .nil))
noncomputable def t126_3 : S := (.fr (.tup (.cons (.nm 4) (.cons (.nm 2) .nil))) (.it (.var 1)) l126_0)
noncomputable def t126_4 : S := (.ret (.jn (.c (.str " ")) (.var 3)))
noncomputable def d126 : Def := ⟨1, 5, [false],
  (.cons t126_0 (.cons t126_1 (.cons t126_2 (.cons t126_3 (.cons t126_4 .nil)))))⟩
/-! _law_same ['_law_found', '_law_due', '_law_key', '_law_a', '_law_b'] -/
noncomputable def e13_0 : E := (.call 13 [false, false] (.cons (.op .idx (.cons (.var 0) (.cons (.var 2) .nil))) (.cons (.op .idx (.cons (.var 1) (.cons (.var 2) .nil))) .nil)))
noncomputable def e13_1 : E := (.call 13 [false, false] (.cons (.var 3) (.cons (.var 4) .nil)))
noncomputable def t13_0 : S := (.ife (.or (.op .isn (.cons (.var 1) (.cons (.c .non) .nil))) (.op .isn (.cons (.var 0) (.cons (.c .non) .nil)))) (.cons (.ret (.an (.op .isn (.cons (.var 1) (.cons (.c .non) .nil))) (.op .isn (.cons (.var 0) (.cons (.c .non) .nil)))))
  .nil) .nil)
noncomputable def t13_1 : S := (.ife (.op (.isi1 .dict) (.cons (.var 1) .nil)) (.cons (.ife (.or (.nt (.op (.isi1 .dict) (.cons (.var 0) .nil))) (.op .ne (.cons (.op .list (.cons (.var 0) .nil)) (.cons (.op .list (.cons (.var 1) .nil)) .nil)))) (.cons (.ret (.c (.bl false)))
  .nil) .nil)
  (.cons (.ret (.op .all (.cons (.comp [2] (.nm 2) (.it (.var 1)) .nil e13_0) .nil)))
  .nil)) .nil)
noncomputable def t13_2 : S := (.ife (.op (.isi [.list, .tuple]) (.cons (.var 1) .nil)) (.cons (.ife (.op .ne (.cons (.op (.isi1 .list) (.cons (.var 0) .nil)) (.cons (.op (.isi1 .list) (.cons (.var 1) .nil)) .nil))) (.cons (.ret (.c (.bl false)))
  .nil) .nil)
  (.cons (.ife (.or (.op .ne (.cons (.op (.isi1 .tuple) (.cons (.var 0) .nil)) (.cons (.op (.isi1 .tuple) (.cons (.var 1) .nil)) .nil))) (.op .ne (.cons (.op .len (.cons (.var 0) .nil)) (.cons (.op .len (.cons (.var 1) .nil)) .nil)))) (.cons (.ret (.c (.bl false)))
  .nil) .nil)
  (.cons (.ret (.op .all (.cons (.comp [3, 4] (.tup (.cons (.nm 3) (.cons (.nm 4) .nil))) (.zip (.var 0) (.var 1)) .nil e13_1) .nil)))
  .nil))) .nil)
noncomputable def t13_3 : S := (.ife (.op (.isi [.list, .tuple, .dict]) (.cons (.var 0) .nil)) (.cons (.ret (.c (.bl false)))
  .nil) .nil)
noncomputable def t13_4 : S := (.ife (.op .ne (.cons (.op (.isi1 .bool) (.cons (.var 0) .nil)) (.cons (.op (.isi1 .bool) (.cons (.var 1) .nil)) .nil))) (.cons (.ret (.c (.bl false)))
  .nil) .nil)
noncomputable def t13_5 : S := (.ife (.op .ne (.cons (.op (.isi1 .int) (.cons (.var 0) .nil)) (.cons (.op (.isi1 .int) (.cons (.var 1) .nil)) .nil))) (.cons (.ret (.c (.bl false)))
  .nil) .nil)
noncomputable def t13_6 : S := (.ret (.an (.op .eq (.cons (.op (.isi1 .str) (.cons (.var 0) .nil)) (.cons (.op (.isi1 .str) (.cons (.var 1) .nil)) .nil))) (.op .eq (.cons (.var 0) (.cons (.var 1) .nil)))))
noncomputable def d13 : Def := ⟨2, 5, [false, false],
  (.cons t13_0 (.cons t13_1 (.cons t13_2 (.cons t13_3 (.cons t13_4 (.cons t13_5 (.cons t13_6 .nil)))))))⟩
/-! Form.text ['self', 'terms', 'name', 'first', 'rest', 'number'] -/
noncomputable def e140_0 : E := (.tup (.cons (.op .idx (.cons (.fld 46 (.var 0) "own_factors") (.cons (.var 2) .nil))) (.cons (.var 2) .nil)))
noncomputable def e140_1 : E := (.fst (.cons (.c (.str " ")) (.cons (.ite (.op .lt (.cons (.var 5) (.cons (.c (.int 0)) .nil))) (.c (.str "-")) (.c (.str "+"))) (.cons (.c (.str " ")) (.cons (.call 148 [false, false] (.cons (.op .abs (.cons (.var 5) .nil)) (.cons (.var 2) .nil))) .nil)))))
noncomputable def t140_0 : S := (.set 1 (.comp [2] (.nm 2) (.it (.fld 46 (.var 0) "own_factors")) .nil e140_0))
noncomputable def t140_1 : S := (.ife (.or (.op .ne (.cons (.fld 46 (.var 0) "own_constant") (.cons (.c (.int 0)) .nil))) (.op .eq (.cons (.var 1) (.cons (.lst .nil) .nil)))) (.cons (.app 1 (.tup (.cons (.fld 46 (.var 0) "own_constant") (.cons (.c (.str "")) .nil))))
  .nil) .nil)
noncomputable def t140_2 : S := (.set 3 (.ite (.op .lt (.cons (.op .idx (.cons (.op .idx (.cons (.var 1) (.cons (.c (.int 0)) .nil))) (.cons (.c (.int 0)) .nil))) (.cons (.c (.int 0)) .nil))) (.c (.str "- ")) (.c (.str ""))))
noncomputable def t140_3 : S := (.set 4 (.comp [5, 2] (.tup (.cons (.nm 5) (.cons (.nm 2) .nil))) (.it (.op (.sl true false) (.cons (.var 1) (.cons (.c (.int 1)) .nil)))) .nil e140_1))
noncomputable def t140_4 : S := (.ret (.jn (.c (.str "")) (.lsx [false, false, true] (.cons (.var 3) (.cons (.call 148 [false, false] (.cons (.op .abs (.cons (.op .idx (.cons (.op .idx (.cons (.var 1) (.cons (.c (.int 0)) .nil))) (.cons (.c (.int 0)) .nil))) .nil)) (.cons (.op .idx (.cons (.op .idx (.cons (.var 1) (.cons (.c (.int 0)) .nil))) (.cons (.c (.int 1)) .nil))) .nil))) (.cons (.var 4) .nil))))))
noncomputable def d140 : Def := ⟨1, 6, [false],
  (.cons t140_0 (.cons t140_1 (.cons t140_2 (.cons t140_3 (.cons t140_4 .nil)))))⟩
/-! Form.read ['text', 'words', 'form', 'at'] -/
noncomputable def t141_0 : S := (.ife (.nt (.op (.isi1 .str) (.cons (.var 0) .nil))) (.cons .nev
  .nil) .nil)
noncomputable def t141_1 : S := (.set 1 (.op (.split " ") (.cons (.var 0) .nil)))
noncomputable def t141_2 : S := (.unp (.tup (.cons (.nm 2) (.cons (.nm 3) .nil))) (.call 149 [false, false] (.cons (.var 1) (.cons (.c (.int 0)) .nil))))
noncomputable def t141_3 : S := (.ife (.op .lt (.cons (.var 3) (.cons (.op .len (.cons (.var 1) .nil)) .nil))) (.cons .nev
  .nil) .nil)
noncomputable def t141_4 : S := (.ret (.var 2))
noncomputable def d141 : Def := ⟨1, 4, [false],
  (.cons t141_0 (.cons t141_1 (.cons t141_2 (.cons t141_3 (.cons t141_4 .nil)))))⟩
/-! Form.__eq__ ['self', 'other'] -/
noncomputable def t142_0 : S := (.ife (.nt (.isc [46] [] (.var 1))) (.cons (.ret (.c (.bl false)))
  .nil) .nil)
noncomputable def t142_1 : S := (.ret (.an (.op .eq (.cons (.fld 46 (.var 0) "own_constant") (.cons (.fld 46 (.var 1) "own_constant") .nil))) (.op .eq (.cons (.fld 46 (.var 0) "own_factors") (.cons (.fld 46 (.var 1) "own_factors") .nil)))))
noncomputable def d142 : Def := ⟨2, 2, [false, false],
  (.cons t142_0 (.cons t142_1 .nil))⟩
/-! _law_spare_text ['_law_bag_here', '_law_spec', '_law_terms', '_law_name', '_law_k', '_law_number_here', '_law_rows', '_law_words', '_law_term'] -/
noncomputable def e143_0 : E := (.tup (.cons (.op .idx (.cons (.op .idx (.cons (.var 1) (.cons (.c (.int 1)) .nil))) (.cons (.var 3) .nil))) (.cons (.var 3) .nil)))
noncomputable def l143_0 : Ss := (.cons (.par 3 5 (.call 17 [true, false] (.cons (.var 0) (.cons (.op .add (.cons (.op .add (.cons (.lst (.cons (.c (.str "")) .nil)) (.cons (.op .list (.cons (.op .idx (.cons (.var 1) (.cons (.c (.int 1)) .nil))) .nil)) .nil))) (.cons (.lst (.cons (.c (.str "q")) .nil)) .nil))) .nil))) (.call 15 [true, false] (.cons (.var 0) (.cons (.op .pow (.cons (.c (.int 10)) (.cons (.c (.int 6)) .nil))) .nil))))
  (.cons (.set 2 (.op .add (.cons (.var 2) (.cons (.lst (.cons (.tup (.cons (.var 5) (.cons (.var 3) .nil))) (.cons (.tup (.cons (.op .sub (.cons (.c (.int 0)) (.cons (.var 5) .nil))) (.cons (.var 3) .nil))) .nil))) .nil))))
  .nil))
noncomputable def l143_1 : Ss := (.cons (.insr 6 (.call 15 [true, false] (.cons (.var 0) (.cons (.op .add (.cons (.op .len (.cons (.var 6) .nil)) (.cons (.c (.int 1)) .nil))) .nil))) (.var 8))
  .nil)
noncomputable def l143_2 : Ss := (.cons (.ife (.or (.op .ne (.cons (.var 7) (.cons (.lst .nil) .nil))) (.op .lt (.cons (.var 5) (.cons (.c (.int 0)) .nil)))) (.cons (.app 7 (.ite (.op .lt (.cons (.var 5) (.cons (.c (.int 0)) .nil))) (.c (.str "-")) (.c (.str "+"))))
  .nil) .nil)
  (.cons (.ife (.or (.op .eq (.cons (.var 3) (.cons (.c (.str "")) .nil))) (.or (.op .ne (.cons (.op .abs (.cons (.var 5) .nil)) (.cons (.c (.int 1)) .nil))) (.op .eq (.cons (.call 15 [true, false] (.cons (.var 0) (.cons (.c (.int 2)) .nil))) (.cons (.c (.int 0)) .nil))))) (.cons (.app 7 (.op .str (.cons (.op .abs (.cons (.var 5) .nil)) .nil)))
  .nil) .nil)
  (.cons (.ife (.op .ne (.cons (.var 3) (.cons (.c (.str "")) .nil))) (.cons (.app 7 (.var 3))
  .nil) .nil)
  .nil)))
noncomputable def t143_0 : S := (.set 2 (.op .add (.cons (.comp [3] (.nm 3) (.it (.op .idx (.cons (.var 1) (.cons (.c (.int 1)) .nil)))) .nil e143_0) (.cons (.lst (.cons (.tup (.cons (.op .idx (.cons (.var 1) (.cons (.c (.int 0)) .nil))) (.cons (.c (.str "")) .nil))) .nil)) .nil))))
noncomputable def t143_1 : S := (.fr (.nm 4) (.rng1 (.call 15 [true, false] (.cons (.var 0) (.cons (.c (.int 4)) .nil)))) l143_0)
noncomputable def t143_2 : S := (.paro 6 7 (.lst .nil) (.lst .nil))
noncomputable def t143_3 : S := (.fr (.nm 8) (.it (.var 2)) l143_1)
noncomputable def t143_4 : S := (.fr (.tup (.cons (.nm 5) (.cons (.nm 3) .nil))) (.it (.var 6)) l143_2)
noncomputable def t143_5 : S := (.ret (.jn (.c (.str " ")) (.var 7)))
noncomputable def d143 : Def := ⟨2, 9, [true, false],
  (.cons t143_0 (.cons t143_1 (.cons t143_2 (.cons t143_3 (.cons t143_4 (.cons t143_5 .nil))))))⟩
/-! Form.constant ['self'] -/
noncomputable def t144_0 : S := (.ret (.fld 46 (.var 0) "own_constant"))
noncomputable def d144 : Def := ⟨1, 1, [false],
  (.cons t144_0 .nil)⟩
/-! Form.names ['self'] -/
noncomputable def t145_0 : S := (.ret (.op .list (.cons (.fld 46 (.var 0) "own_factors") .nil)))
noncomputable def d145 : Def := ⟨1, 1, [false],
  (.cons t145_0 .nil)⟩
/-! Form.__bool__ ['self'] -/
noncomputable def t146_0 : S := (.ret (.or (.op .boo (.cons (.op .ne (.cons (.fld 46 (.var 0) "own_constant") (.cons (.c (.int 0)) .nil))) .nil)) (.op .gt (.cons (.op .len (.cons (.fld 46 (.var 0) "own_factors") .nil)) (.cons (.c (.int 0)) .nil)))))
noncomputable def d146 : Def := ⟨1, 1, [false],
  (.cons t146_0 .nil)⟩
/-! _law_number ['_law_bag_here', '_law_most', '_law_top'] -/
noncomputable def t26_0 : S := (.set 2 (.call 17 [true, false] (.cons (.var 0) (.cons (.lst (.cons (.c (.int 1)) (.cons (.c (.int 3)) (.cons (.c (.int 9)) (.cons (.var 1) .nil))))) .nil))))
noncomputable def t26_1 : S := (.ret (.op .sub (.cons (.call 15 [true, false] (.cons (.var 0) (.cons (.op .add (.cons (.op .mul (.cons (.c (.int 2)) (.cons (.var 2) .nil))) (.cons (.c (.int 1)) .nil))) .nil))) (.cons (.var 2) .nil))))
noncomputable def d26 : Def := ⟨2, 3, [true, false],
  (.cons t26_0 (.cons t26_1 .nil))⟩
/-! _law_of ['_law_bag_here', '_law_things'] -/
noncomputable def t17_0 : S := (.ret (.op .idx (.cons (.var 1) (.cons (.call 15 [true, false] (.cons (.var 0) (.cons (.op .len (.cons (.var 1) .nil)) .nil))) .nil))))
noncomputable def d17 : Def := ⟨2, 2, [true, false],
  (.cons t17_0 .nil)⟩
/-! _law_kept [] -/
noncomputable def t54_0 : S := (.ret (.lst (.cons (.c (.str "and")) (.cons (.c (.str "or")) (.cons (.c (.str "not")) (.cons (.c (.str "of")) (.cons (.c (.str "let")) (.cons (.c (.str "none")) (.cons (.c (.str "odd")) (.cons (.c (.str "open")) (.cons (.c (.str "phase")) (.cons (.c (.str "round")) (.cons (.c (.str "self")) .nil)))))))))))))
noncomputable def d54 : Def := ⟨0, 0, [],
  (.cons t54_0 .nil)⟩
/-! Form.of ['pairs', 'constant', 'found', 'at', 'pair'] -/
noncomputable def l147_0 : Ss := (.cons (.ife (.or (.nt (.op (.isi1 .tuple) (.cons (.var 4) .nil))) (.or (.op .ne (.cons (.op .len (.cons (.var 4) .nil)) (.cons (.c (.int 2)) .nil))) (.or (.nt (.call 150 [false] (.cons (.op .idx (.cons (.var 4) (.cons (.c (.int 0)) .nil))) .nil))) (.nt (.call 22 [false] (.cons (.op .idx (.cons (.var 4) (.cons (.c (.int 1)) .nil))) .nil)))))) (.cons .nev
  .nil) .nil)
  (.cons (.sto 2 (.op .idx (.cons (.var 4) (.cons (.c (.int 0)) .nil))) (.op .add (.cons (.dgt (.var 2) (.op .idx (.cons (.var 4) (.cons (.c (.int 0)) .nil))) (.c (.int 0))) (.cons (.op .idx (.cons (.var 4) (.cons (.c (.int 1)) .nil))) .nil))))
  .nil))
noncomputable def t147_0 : S := (.ife (.nt (.call 19 [false] (.cons (.var 0) .nil))) (.cons .nev
  .nil) .nil)
noncomputable def t147_1 : S := (.set 2 .dic0)
noncomputable def t147_2 : S := (.fr (.tup (.cons (.nm 3) (.cons (.nm 4) .nil))) (.enum (.var 0)) l147_0)
noncomputable def t147_3 : S := (.ife (.nt (.call 22 [false] (.cons (.var 1) .nil))) (.cons .nev
  .nil) .nil)
noncomputable def t147_4 : S := (.ret (.call 151 [false, false] (.cons (.var 1) (.cons (.var 2) .nil))))
noncomputable def d147 : Def := ⟨2, 5, [false, false],
  (.cons t147_0 (.cons t147_1 (.cons t147_2 (.cons t147_3 (.cons t147_4 .nil)))))⟩
/-! term_text ['number', 'name'] -/
noncomputable def t148_0 : S := (.ife (.op .eq (.cons (.var 1) (.cons (.c (.str "")) .nil))) (.cons (.ret (.op .str (.cons (.var 0) .nil)))
  .nil) .nil)
noncomputable def t148_1 : S := (.ret (.ite (.op .eq (.cons (.var 0) (.cons (.c (.int 1)) .nil))) (.var 1) (.fst (.cons (.var 0) (.cons (.c (.str " ")) (.cons (.var 1) .nil))))))
noncomputable def d148 : Def := ⟨2, 2, [false, false],
  (.cons t148_0 (.cons t148_1 .nil))⟩
/-! read_words ['words', 'at', 'constant', 'factors', 'sign', 'number', 'name'] -/
noncomputable def l149_0 : Ss := (.cons (.unp (.tup (.cons (.nm 5) (.cons (.nm 6) (.cons (.nm 1) .nil)))) (.call 152 [false, false] (.cons (.var 0) (.cons (.var 1) .nil))))
  (.cons (.ife (.op .eq (.cons (.var 6) (.cons (.c (.str "")) .nil))) (.cons (.aug 2 .add (.op .mul (.cons (.var 4) (.cons (.var 5) .nil))))
  .nil) (.cons (.sto 3 (.var 6) (.op .add (.cons (.dgt (.var 3) (.var 6) (.c (.int 0))) (.cons (.op .mul (.cons (.var 4) (.cons (.var 5) .nil))) .nil))))
  .nil))
  (.cons (.ife (.or (.op .ge (.cons (.var 1) (.cons (.op .len (.cons (.var 0) .nil)) .nil))) (.op .notin (.cons (.op .idx (.cons (.var 0) (.cons (.var 1) .nil))) (.cons (.tup (.cons (.c (.str "+")) (.cons (.c (.str "-")) .nil))) .nil)))) (.cons (.ret (.tup (.cons (.call 151 [false, false] (.cons (.var 2) (.cons (.var 3) .nil))) (.cons (.var 1) .nil))))
  .nil) .nil)
  (.cons (.par 4 1 (.ite (.op .eq (.cons (.op .idx (.cons (.var 0) (.cons (.var 1) .nil))) (.cons (.c (.str "+")) .nil))) (.c (.int 1)) (.op .neg (.cons (.c (.int 1)) .nil))) (.op .add (.cons (.var 1) (.cons (.c (.int 1)) .nil))))
  .nil))))
noncomputable def t149_0 : S := (.par3 2 3 4 (.c (.int 0)) .dic0 (.int 1))
noncomputable def t149_1 : S := (.ife (.an (.op .lt (.cons (.var 1) (.cons (.op .len (.cons (.var 0) .nil)) .nil))) (.op .eq (.cons (.op .idx (.cons (.var 0) (.cons (.var 1) .nil))) (.cons (.c (.str "-")) .nil)))) (.cons (.par 4 1 (.op .neg (.cons (.c (.int 1)) .nil)) (.op .add (.cons (.var 1) (.cons (.c (.int 1)) .nil))))
  .nil) .nil)
noncomputable def t149_2 : S := (.wh (.c (.bl true)) l149_0)
noncomputable def d149 : Def := ⟨2, 7, [false, false],
  (.cons t149_0 (.cons t149_1 (.cons t149_2 .nil)))⟩
/-! is_list ['value'] -/
noncomputable def t19_0 : S := (.ret (.op (.isi [.list, .tuple]) (.cons (.var 0) .nil)))
noncomputable def d19 : Def := ⟨1, 1, [false],
  (.cons t19_0 .nil)⟩
/-! is_name ['value', 'letter'] -/
noncomputable def e150_0 : E := (.op .isin (.cons (.var 1) (.cons (.c (.str "abcdefghijklmnopqrstuvwxyz")) .nil)))
noncomputable def t150_0 : S := (.ife (.or (.nt (.op (.isi1 .str) (.cons (.var 0) .nil))) (.or (.nt (.ch .le .le (.c (.int 1)) (.op .len (.cons (.var 0) .nil)) (.c (.int 6)))) (.op .isin (.cons (.var 0) (.cons (.c (.tup [(.str "and"), (.str "or"), (.str "not"), (.str "of"), (.str "let"), (.str "none"), (.str "odd"), (.str "open"), (.str "phase"), (.str "round"), (.str "self")])) .nil))))) (.cons (.ret (.c (.bl false)))
  .nil) .nil)
noncomputable def t150_1 : S := (.ret (.op .all (.cons (.comp [1] (.nm 1) (.it (.var 0)) .nil e150_0) .nil)))
noncomputable def d150 : Def := ⟨1, 2, [false],
  (.cons t150_0 (.cons t150_1 .nil))⟩
/-! is_whole ['value'] -/
noncomputable def t22_0 : S := (.ret (.an (.op (.isi1 .int) (.cons (.var 0) .nil)) (.nt (.op (.isi1 .bool) (.cons (.var 0) .nil)))))
noncomputable def d22 : Def := ⟨1, 1, [false],
  (.cons t22_0 .nil)⟩
/-! form_of ['constant', 'factors', 'kept'] -/
noncomputable def t151_0 : S := (.set 2 (.call 153 [false] (.cons (.var 1) .nil)))
noncomputable def t151_1 : S := (.ret (.mk 46 154 [] (.cons (.var 0) (.cons (.op (.kwd ["self", "constant"]) (.cons (.var 2) .nil)) .nil))))
noncomputable def d151 : Def := ⟨2, 3, [false, false],
  (.cons t151_0 (.cons t151_1 .nil))⟩
/-! read_term ['words', 'at'] -/
noncomputable def t152_0 : S := (.ife (.an (.op .lt (.cons (.var 1) (.cons (.op .len (.cons (.var 0) .nil)) .nil))) (.call 150 [false] (.cons (.op .idx (.cons (.var 0) (.cons (.var 1) .nil))) .nil))) (.cons (.ret (.tup (.cons (.c (.int 1)) (.cons (.op .idx (.cons (.var 0) (.cons (.var 1) .nil))) (.cons (.op .add (.cons (.var 1) (.cons (.c (.int 1)) .nil))) .nil)))))
  .nil) .nil)
noncomputable def t152_1 : S := (.ife (.or (.op .ge (.cons (.var 1) (.cons (.op .len (.cons (.var 0) .nil)) .nil))) (.nt (.call 155 [false] (.cons (.op .idx (.cons (.var 0) (.cons (.var 1) .nil))) .nil)))) (.cons .nev
  .nil) .nil)
noncomputable def t152_2 : S := (.ife (.an (.op .lt (.cons (.op .add (.cons (.var 1) (.cons (.c (.int 1)) .nil))) (.cons (.op .len (.cons (.var 0) .nil)) .nil))) (.call 150 [false] (.cons (.op .idx (.cons (.var 0) (.cons (.op .add (.cons (.var 1) (.cons (.c (.int 1)) .nil))) .nil))) .nil))) (.cons (.ret (.tup (.cons (.op .int (.cons (.op .idx (.cons (.var 0) (.cons (.var 1) .nil))) .nil)) (.cons (.op .idx (.cons (.var 0) (.cons (.op .add (.cons (.var 1) (.cons (.c (.int 1)) .nil))) .nil))) (.cons (.op .add (.cons (.var 1) (.cons (.c (.int 2)) .nil))) .nil)))))
  .nil) .nil)
noncomputable def t152_3 : S := (.ret (.tup (.cons (.op .int (.cons (.op .idx (.cons (.var 0) (.cons (.var 1) .nil))) .nil)) (.cons (.c (.str "")) (.cons (.op .add (.cons (.var 1) (.cons (.c (.int 1)) .nil))) .nil)))))
noncomputable def d152 : Def := ⟨2, 2, [false, false],
  (.cons t152_0 (.cons t152_1 (.cons t152_2 (.cons t152_3 .nil))))⟩
/-! kept_factors ['factors', 'name'] -/
noncomputable def t153_0 : S := (.ret (.dcm [1] (.nm 1) (.it (.op .srt (.cons (.op .list (.cons (.var 0) .nil)) .nil))) (.cons (.op .ne (.cons (.op .idx (.cons (.var 0) (.cons (.var 1) .nil))) (.cons (.c (.int 0)) .nil))) .nil) (.var 1) (.op .idx (.cons (.var 0) (.cons (.var 1) .nil)))))
noncomputable def d153 : Def := ⟨1, 2, [false],
  (.cons t153_0 .nil)⟩
/-! Form.__init__ ['self', 'constant', 'factors', 'name'] -/
noncomputable def l154_0 : Ss := (.cons (.ife (.nt (.call 150 [false] (.cons (.var 3) .nil))) (.cons .nev
  .nil) .nil)
  .nil)
noncomputable def l154_1 : Ss := (.cons (.ife (.nt (.call 22 [false] (.cons (.op .idx (.cons (.var 2) (.cons (.var 3) .nil))) .nil))) (.cons .nev
  .nil) .nil)
  .nil)
noncomputable def t154_0 : S := (.ife (.nt (.call 22 [false] (.cons (.var 1) .nil))) (.cons .nev
  .nil) .nil)
noncomputable def t154_1 : S := (.fr (.nm 3) (.it (.op .list (.cons (.var 2) .nil))) l154_0)
noncomputable def t154_2 : S := (.fr (.nm 3) (.it (.op .list (.cons (.var 2) .nil))) l154_1)
noncomputable def t154_3 : S := (.stf 0 46 "own_constant" (.var 1))
noncomputable def t154_4 : S := (.stf 0 46 "own_factors" (.call 153 [false] (.cons (.var 2) .nil)))
noncomputable def d154 : Def := ⟨3, 4, [true, false, false],
  (.cons t154_0 (.cons t154_1 (.cons t154_2 (.cons t154_3 (.cons t154_4 .nil)))))⟩
/-! is_numeral ['value', 'digit'] -/
noncomputable def e155_0 : E := (.op .isin (.cons (.var 1) (.cons (.c (.str "0123456789")) .nil)))
noncomputable def t155_0 : S := (.ife (.or (.nt (.op (.isi1 .str) (.cons (.var 0) .nil))) (.nt (.ch .le .le (.c (.int 1)) (.op .len (.cons (.var 0) .nil)) (.c (.int 18))))) (.cons (.ret (.c (.bl false)))
  .nil) .nil)
noncomputable def t155_1 : S := (.ret (.an (.op .all (.cons (.comp [1] (.nm 1) (.it (.var 0)) .nil e155_0) .nil)) (.or (.op .eq (.cons (.var 0) (.cons (.c (.str "0")) .nil))) (.op .ne (.cons (.op .idx (.cons (.var 0) (.cons (.c (.int 0)) .nil))) (.cons (.c (.str "0")) .nil))))))
noncomputable def d155 : Def := ⟨1, 2, [false],
  (.cons t155_0 (.cons t155_1 .nil))⟩
/-! Form.__getitem__ ['self', 'name'] -/
noncomputable def t156_0 : S := (.ife (.nt (.call 150 [false] (.cons (.var 1) .nil))) (.cons .nev
  .nil) .nil)
noncomputable def t156_1 : S := (.ret (.dgt (.fld 46 (.var 0) "own_factors") (.var 1) (.c (.int 0))))
noncomputable def d156 : Def := ⟨2, 2, [false, false],
  (.cons t156_0 (.cons t156_1 .nil))⟩
/-! Form.__repr__ ['self'] -/
noncomputable def t157_0 : S := (.ret (.fst (.cons (.c (.str "Form(")) (.cons (.meth 46 140 "text" [] (.var 0) .nil) (.cons (.c (.str ")")) .nil)))))
noncomputable def d157 : Def := ⟨1, 1, [false],
  (.cons t157_0 .nil)⟩
/-! Form.__add__ ['self', 'other', 'found', 'name'] -/
noncomputable def l160_0 : Ss := (.cons (.sto 2 (.var 3) (.op .add (.cons (.dgt (.var 2) (.var 3) (.c (.int 0))) (.cons (.op .idx (.cons (.fld 46 (.var 1) "own_factors") (.cons (.var 3) .nil))) .nil))))
  .nil)
noncomputable def t160_0 : S := (.set 2 (.op .dict (.cons (.fld 46 (.var 0) "own_factors") .nil)))
noncomputable def t160_1 : S := (.fr (.nm 3) (.it (.fld 46 (.var 1) "own_factors")) l160_0)
noncomputable def t160_2 : S := (.ret (.call 151 [false, false] (.cons (.op .add (.cons (.fld 46 (.var 0) "own_constant") (.cons (.fld 46 (.var 1) "own_constant") .nil))) (.cons (.var 2) .nil))))
noncomputable def d160 : Def := ⟨2, 4, [false, false],
  (.cons t160_0 (.cons t160_1 (.cons t160_2 .nil)))⟩
/-! _law_form_sum ['_law_one', '_law_other', '_law_times', '_law_found', '_law_name'] -/
noncomputable def e53_0 : E := (.tup (.cons (.var 4) (.cons (.op .add (.cons (.dgt (.op .idx (.cons (.var 0) (.cons (.c (.int 1)) .nil))) (.var 4) (.c (.int 0))) (.cons (.op .mul (.cons (.var 2) (.cons (.dgt (.op .idx (.cons (.var 1) (.cons (.c (.int 1)) .nil))) (.var 4) (.c (.int 0))) .nil))) .nil))) .nil)))
noncomputable def e53_1 : E := (.tup (.cons (.var 4) (.cons (.op .idx (.cons (.var 3) (.cons (.var 4) .nil))) .nil)))
noncomputable def t53_0 : S := (.set 3 (.op .dict (.cons (.comp [4] (.nm 4) (.it (.op .uniT (.cons (.op .add (.cons (.op .list (.cons (.op .idx (.cons (.var 0) (.cons (.c (.int 1)) .nil))) .nil)) (.cons (.op .list (.cons (.op .idx (.cons (.var 1) (.cons (.c (.int 1)) .nil))) .nil)) .nil))) .nil))) .nil e53_0) .nil)))
noncomputable def t53_1 : S := (.ret (.tup (.cons (.op .add (.cons (.op .idx (.cons (.var 0) (.cons (.c (.int 0)) .nil))) (.cons (.op .mul (.cons (.var 2) (.cons (.op .idx (.cons (.var 1) (.cons (.c (.int 0)) .nil))) .nil))) .nil))) (.cons (.op .dict (.cons (.comp [4] (.nm 4) (.it (.var 3)) (.cons (.op .ne (.cons (.op .idx (.cons (.var 3) (.cons (.var 4) .nil))) (.cons (.c (.int 0)) .nil))) .nil) e53_1) .nil)) .nil))))
noncomputable def d53 : Def := ⟨3, 5, [false, false, false],
  (.cons t53_0 (.cons t53_1 .nil))⟩
/-! Form.__sub__ ['self', 'other'] -/
noncomputable def t161_0 : S := (.ret (.bop 46 160 (.var 0) (.bopi 46 163 (.var 1) (.op .neg (.cons (.c (.int 1)) .nil)))))
noncomputable def d161 : Def := ⟨2, 2, [false, false],
  (.cons t161_0 .nil)⟩
/-! Form.__neg__ ['self'] -/
noncomputable def t162_0 : S := (.ret (.bopi 46 163 (.var 0) (.op .neg (.cons (.c (.int 1)) .nil))))
noncomputable def d162 : Def := ⟨1, 1, [false],
  (.cons t162_0 .nil)⟩
/-! Form.__mul__ ['self', 'number', 'name'] -/
noncomputable def t163_0 : S := (.ret (.call 151 [false, false] (.cons (.op .mul (.cons (.fld 46 (.var 0) "own_constant") (.cons (.var 1) .nil))) (.cons (.dcm [2] (.nm 2) (.it (.fld 46 (.var 0) "own_factors")) .nil (.var 2) (.op .mul (.cons (.op .idx (.cons (.fld 46 (.var 0) "own_factors") (.cons (.var 2) .nil))) (.cons (.var 1) .nil)))) .nil))))
noncomputable def d163 : Def := ⟨2, 3, [false, false],
  (.cons t163_0 .nil)⟩
/-! Form.__rmul__ ['self', 'number'] -/
noncomputable def t164_0 : S := (.ret (.bopi 46 163 (.var 0) (.var 1)))
noncomputable def d164 : Def := ⟨2, 2, [false, false],
  (.cons t164_0 .nil)⟩
/-! _law_some_loop ['_law_bag_here', '_law_sizes', '_law_names_here', '_law_starts', '_law_name', '_law_phases', '_law_most', '_law_k', '_law_deeds', '_law_j', '_law_spec'] -/
noncomputable def e57_0 : E := (.tup (.cons (.var 4) (.cons (.call 17 [true, false] (.cons (.var 0) (.cons (.lst (.cons (.c (.int 0)) (.cons (.c (.int 1)) (.cons (.op .neg (.cons (.c (.int 1)) .nil)) (.cons (.c (.int 2)) (.cons (.c (.int 3)) (.cons (.c (.int 7)) (.cons (.call 26 [true, false] (.cons (.var 0) (.cons (.op .pow (.cons (.c (.int 10)) (.cons (.c (.int 6)) .nil))) .nil))) .nil)))))))) .nil))) .nil)))
noncomputable def l57_0 : Ss := (.cons (.set 10 (.call 51 [true, false, false] (.cons (.var 0) (.cons (.var 2) (.cons (.var 6) .nil)))))
  (.cons (.app 8 (.tup (.cons (.call 17 [true, false] (.cons (.var 0) (.cons (.var 2) .nil))) (.cons (.tup (.cons (.call 17 [true, false] (.cons (.var 0) (.cons (.lst (.cons (.c (.int 0)) (.cons (.c (.int 0)) (.cons (.c (.int 1)) (.cons (.op .neg (.cons (.c (.int 1)) .nil)) (.cons (.op .idx (.cons (.var 10) (.cons (.c (.int 0)) .nil))) .nil)))))) .nil))) (.cons (.op .idx (.cons (.var 10) (.cons (.c (.int 1)) .nil))) .nil))) .nil))))
  .nil))
noncomputable def l57_1 : Ss := (.cons (.set 8 (.lst .nil))
  (.cons (.fr (.nm 9) (.rng1 (.call 15 [true, false] (.cons (.var 0) (.cons (.op .add (.cons (.op .idx (.cons (.var 1) (.cons (.c (.int 2)) .nil))) (.cons (.c (.int 1)) .nil))) .nil)))) l57_0)
  (.cons (.app 5 (.var 8))
  .nil)))
noncomputable def t57_0 : S := (.set 2 (.call 50 [true, false] (.cons (.var 0) (.cons (.op .add (.cons (.c (.int 1)) (.cons (.call 15 [true, false] (.cons (.var 0) (.cons (.op .idx (.cons (.var 1) (.cons (.c (.int 0)) .nil))) .nil))) .nil))) .nil))))
noncomputable def t57_1 : S := (.set 3 (.comp [4] (.nm 4) (.it (.var 2)) .nil e57_0))
noncomputable def t57_2 : S := (.paro 5 6 (.lst .nil) (.call 17 [true, false] (.cons (.var 0) (.cons (.lst (.cons (.c (.int 1)) (.cons (.c (.int 2)) (.cons (.c (.int 3)) (.cons (.c (.int 3)) (.cons (.op .idx (.cons (.var 1) (.cons (.c (.int 3)) .nil))) .nil)))))) .nil))))
noncomputable def t57_3 : S := (.fr (.nm 7) (.rng1 (.op .add (.cons (.c (.int 1)) (.cons (.call 15 [true, false] (.cons (.var 0) (.cons (.op .idx (.cons (.var 1) (.cons (.c (.int 1)) .nil))) .nil))) .nil)))) l57_1)
noncomputable def t57_4 : S := (.ret (.lst (.cons (.var 3) (.cons (.var 5) .nil))))
noncomputable def d57 : Def := ⟨2, 11, [true, false],
  (.cons t57_0 (.cons t57_1 (.cons t57_2 (.cons t57_3 (.cons t57_4 .nil)))))⟩
/-! _law_loop ['_law_spec', '_law_parts', '_law_phase_z', '_law_name', '_law_form_here'] -/
noncomputable def e58_0 : E := (.tup (.cons (.var 3) (.cons (.call 52 [false] (.cons (.var 4) .nil)) .nil)))
noncomputable def e58_1 : E := (.comp [3, 4] (.tup (.cons (.nm 3) (.cons (.nm 4) .nil))) (.it (.var 2)) .nil e58_0)
noncomputable def t58_0 : S := (.set 1 (.comp [2] (.nm 2) (.it (.op .idx (.cons (.var 0) (.cons (.c (.int 1)) .nil)))) .nil e58_1))
noncomputable def t58_1 : S := (.ife (.op .eq (.cons (.op .len (.cons (.var 1) .nil)) (.cons (.c (.int 1)) .nil))) (.cons (.ret (.mk 16 168 [] (.cons (.op .idx (.cons (.var 0) (.cons (.c (.int 0)) .nil))) (.cons (.tup (.cons (.op .idx (.cons (.var 1) (.cons (.c (.int 0)) .nil))) .nil)) .nil))))
  .nil) .nil)
noncomputable def t58_2 : S := (.ret (.ite (.op .eq (.cons (.op .len (.cons (.var 1) .nil)) (.cons (.c (.int 2)) .nil))) (.mk 16 168 [] (.cons (.op .idx (.cons (.var 0) (.cons (.c (.int 0)) .nil))) (.cons (.tup (.cons (.op .idx (.cons (.var 1) (.cons (.c (.int 0)) .nil))) (.cons (.op .idx (.cons (.var 1) (.cons (.c (.int 1)) .nil))) .nil))) .nil))) (.mk 16 168 [] (.cons (.op .idx (.cons (.var 0) (.cons (.c (.int 0)) .nil))) (.cons (.tup (.cons (.op .idx (.cons (.var 1) (.cons (.c (.int 0)) .nil))) (.cons (.op .idx (.cons (.var 1) (.cons (.c (.int 1)) .nil))) (.cons (.op .idx (.cons (.var 1) (.cons (.c (.int 2)) .nil))) .nil)))) .nil)))))
noncomputable def d58 : Def := ⟨1, 5, [false],
  (.cons t58_0 (.cons t58_1 (.cons t58_2 .nil)))⟩
/-! Loop.forms ['self', 'phase', 'found', 'name', 'form', 'late', 'one'] -/
noncomputable def l165_0 : Ss := (.cons (.set 5 (.bop 46 160 (.var 5) (.bopi 46 163 (.op .idx (.cons (.var 2) (.cons (.var 6) .nil))) (.gti 46 156 (.var 4) (.var 6)))))
  .nil)
noncomputable def l165_1 : Ss := (.cons (.set 5 (.mk 46 154 [] (.cons (.prop 46 144 (.var 4)) (.cons .dic0 .nil))))
  (.cons (.fr (.nm 6) (.it (.meth 46 145 "names" [] (.var 4) .nil)) l165_0)
  (.cons (.sto 2 (.var 3) (.var 5))
  .nil)))
noncomputable def t165_0 : S := (.ife (.nt (.call 18 [false, false, false] (.cons (.var 1) (.cons (.c (.int 0)) (.cons (.op .sub (.cons (.op .len (.cons (.fld 16 (.var 0) "own_phases") .nil)) (.cons (.c (.int 1)) .nil))) .nil))))) (.cons .nev
  .nil) .nil)
noncomputable def t165_1 : S := (.set 2 (.dcm [3] (.nm 3) (.it (.fld 16 (.var 0) "own_starts")) .nil (.var 3) (.meth 16 169 "unit" [false] (.var 0) (.cons (.var 3) .nil))))
noncomputable def t165_2 : S := (.fr (.tup (.cons (.nm 3) (.cons (.nm 4) .nil))) (.it (.op .idx (.cons (.fld 16 (.var 0) "own_phases") (.cons (.var 1) .nil)))) l165_1)
noncomputable def t165_3 : S := (.ret (.var 2))
noncomputable def d165 : Def := ⟨2, 7, [false, false],
  (.cons t165_0 (.cons t165_1 (.cons t165_2 (.cons t165_3 .nil))))⟩
/-! Loop.period ['self'] -/
noncomputable def t166_0 : S := (.ret (.op .len (.cons (.fld 16 (.var 0) "own_phases") .nil)))
noncomputable def d166 : Def := ⟨1, 1, [false],
  (.cons t166_0 .nil)⟩
/-! _law_behind ['_law_values', '_law_phase_z', '_law_found', '_law_name', '_law_form_here'] -/
noncomputable def l139_0 : Ss := (.cons (.sto 2 (.var 3) (.call 170 [false, true] (.cons (.var 4) (.cons (.var 2) .nil))))
  .nil)
noncomputable def t139_0 : S := (.set 2 (.op (.kwd []) (.cons (.var 0) .nil)))
noncomputable def t139_1 : S := (.fr (.tup (.cons (.nm 3) (.cons (.nm 4) .nil))) (.it (.var 1)) l139_0)
noncomputable def t139_2 : S := (.ret (.var 2))
noncomputable def d139 : Def := ⟨2, 5, [false, false],
  (.cons t139_0 (.cons t139_1 (.cons t139_2 .nil)))⟩
/-! Form.value ['self', 'values', 'total', 'name'] -/
noncomputable def l167_0 : Ss := (.cons (.ife (.op .notin (.cons (.var 3) (.cons (.var 1) .nil))) (.cons .nev
  .nil) .nil)
  (.cons (.aug 2 .add (.op .mul (.cons (.op .idx (.cons (.fld 46 (.var 0) "own_factors") (.cons (.var 3) .nil))) (.cons (.op .idx (.cons (.var 1) (.cons (.var 3) .nil))) .nil))))
  .nil))
noncomputable def t167_0 : S := (.set 2 (.fld 46 (.var 0) "own_constant"))
noncomputable def t167_1 : S := (.fr (.nm 3) (.it (.fld 46 (.var 0) "own_factors")) l167_0)
noncomputable def t167_2 : S := (.ret (.var 2))
noncomputable def d167 : Def := ⟨2, 4, [false, false],
  (.cons t167_0 (.cons t167_1 (.cons t167_2 .nil)))⟩
/-! Loop.__init__ ['self', 'starts', 'phases', 'at', 'pair', 'names', 'name', 'number', 'phase', 'deed'] -/
noncomputable def l168_0 : Ss := (.cons (.ife (.nt (.call 171 [false] (.cons (.var 4) .nil))) (.cons .nev
  .nil) .nil)
  .nil)
noncomputable def e168_0 : E := (.var 6)
noncomputable def l168_1 : Ss := (.cons (.ife (.op .isin (.cons (.var 6) (.cons (.op (.sl false true) (.cons (.var 5) (.cons (.var 3) .nil))) .nil))) (.cons .nev
  .nil) .nil)
  .nil)
noncomputable def e168_1 : E := (.call 172 [false, false] (.cons (.var 9) (.cons (.var 5) .nil)))
noncomputable def l168_2 : Ss := (.cons (.ife (.or (.nt (.call 19 [false] (.cons (.var 8) .nil))) (.or (.op .gt (.cons (.op .len (.cons (.var 8) .nil)) (.cons (.c (.int 6)) .nil))) (.nt (.op .all (.cons (.comp [9] (.nm 9) (.it (.var 8)) .nil e168_1) .nil))))) (.cons .nev
  .nil) .nil)
  .nil)
noncomputable def e168_2 : E := (.op .list (.cons (.var 8) .nil))
noncomputable def t168_0 : S := (.ife (.or (.nt (.call 19 [false] (.cons (.var 1) .nil))) (.nt (.ch .le .le (.c (.int 1)) (.op .len (.cons (.var 1) .nil)) (.c (.int 3))))) (.cons .nev
  .nil) .nil)
noncomputable def t168_1 : S := (.fr (.tup (.cons (.nm 3) (.cons (.nm 4) .nil))) (.enum (.var 1)) l168_0)
noncomputable def t168_2 : S := (.set 5 (.comp [6, 7] (.tup (.cons (.nm 6) (.cons (.nm 7) .nil))) (.it (.var 1)) .nil e168_0))
noncomputable def t168_3 : S := (.fr (.tup (.cons (.nm 3) (.cons (.nm 6) .nil))) (.enum (.var 5)) l168_1)
noncomputable def t168_4 : S := (.ife (.nt (.ch .le .le (.c (.int 1)) (.op .len (.cons (.var 2) .nil)) (.c (.int 3)))) (.cons .nev
  .nil) .nil)
noncomputable def t168_5 : S := (.fr (.tup (.cons (.nm 3) (.cons (.nm 8) .nil))) (.enum (.var 2)) l168_2)
noncomputable def t168_6 : S := (.stf 0 16 "own_starts" (.dcm [6, 7] (.tup (.cons (.nm 6) (.cons (.nm 7) .nil))) (.it (.var 1)) .nil (.var 6) (.var 7)))
noncomputable def t168_7 : S := (.stf 0 16 "own_phases" (.comp [8] (.nm 8) (.it (.var 2)) .nil e168_2))
noncomputable def d168 : Def := ⟨3, 10, [true, false, false],
  (.cons t168_0 (.cons t168_1 (.cons t168_2 (.cons t168_3 (.cons t168_4 (.cons t168_5 (.cons t168_6 (.cons t168_7 .nil))))))))⟩
/-! is_number ['value', 'least', 'most'] -/
noncomputable def t18_0 : S := (.ret (.an (.call 22 [false] (.cons (.var 0) .nil)) (.ch .le .le (.var 1) (.var 0) (.var 2))))
noncomputable def d18 : Def := ⟨3, 3, [false, false, false],
  (.cons t18_0 .nil)⟩
/-! Loop.unit ['self', 'name'] -/
noncomputable def t169_0 : S := (.ret (.call 147 [false, false] (.cons (.lst (.cons (.tup (.cons (.var 1) (.cons (.c (.int 1)) .nil))) .nil)) (.cons (.c (.int 0)) .nil))))
noncomputable def d169 : Def := ⟨2, 2, [false, false],
  (.cons t169_0 .nil)⟩
/-! _law_value ['_law_spec', '_law_values', '_law_name'] -/
noncomputable def e170_0 : E := (.op .mul (.cons (.op .idx (.cons (.op .idx (.cons (.var 0) (.cons (.c (.int 1)) .nil))) (.cons (.var 2) .nil))) (.cons (.op .idx (.cons (.var 1) (.cons (.var 2) .nil))) .nil)))
noncomputable def t170_0 : S := (.ret (.op .add (.cons (.op .idx (.cons (.var 0) (.cons (.c (.int 0)) .nil))) (.cons (.op .sum (.cons (.comp [2] (.nm 2) (.it (.op .idx (.cons (.var 0) (.cons (.c (.int 1)) .nil)))) .nil e170_0) .nil)) .nil))))
noncomputable def d170 : Def := ⟨2, 3, [false, true],
  (.cons t170_0 .nil)⟩
/-! is_start ['value'] -/
noncomputable def t171_0 : S := (.ife (.or (.nt (.op (.isi1 .tuple) (.cons (.var 0) .nil))) (.op .ne (.cons (.op .len (.cons (.var 0) .nil)) (.cons (.c (.int 2)) .nil)))) (.cons (.ret (.c (.bl false)))
  .nil) .nil)
noncomputable def t171_1 : S := (.ret (.an (.call 150 [false] (.cons (.op .idx (.cons (.var 0) (.cons (.c (.int 0)) .nil))) .nil)) (.call 18 [false, false, false] (.cons (.op .idx (.cons (.var 0) (.cons (.c (.int 1)) .nil))) (.cons (.op .neg (.cons (.c (.int 1000000)) .nil)) (.cons (.c (.int 1000000)) .nil))))))
noncomputable def d171 : Def := ⟨1, 1, [false],
  (.cons t171_0 (.cons t171_1 .nil))⟩
/-! is_deed ['value', 'names', 'form', 'name'] -/
noncomputable def e172_0 : E := (.an (.op .isin (.cons (.var 3) (.cons (.var 1) .nil))) (.call 18 [false, false, false] (.cons (.gti 46 156 (.var 2) (.var 3)) (.cons (.op .neg (.cons (.c (.int 99)) .nil)) (.cons (.c (.int 99)) .nil)))))
noncomputable def t172_0 : S := (.ife (.or (.nt (.op (.isi1 .tuple) (.cons (.var 0) .nil))) (.or (.op .ne (.cons (.op .len (.cons (.var 0) .nil)) (.cons (.c (.int 2)) .nil))) (.or (.nt (.call 150 [false] (.cons (.op .idx (.cons (.var 0) (.cons (.c (.int 0)) .nil))) .nil))) (.nt (.isc [46] [16, 48] (.op .idx (.cons (.var 0) (.cons (.c (.int 1)) .nil)))))))) (.cons (.ret (.c (.bl false)))
  .nil) .nil)
noncomputable def t172_1 : S := (.set 2 (.op .idx (.cons (.var 0) (.cons (.c (.int 1)) .nil))))
noncomputable def t172_2 : S := (.ife (.or (.op .notin (.cons (.op .idx (.cons (.var 0) (.cons (.c (.int 0)) .nil))) (.cons (.var 1) .nil))) (.nt (.call 18 [false, false, false] (.cons (.prop 46 144 (.var 2)) (.cons (.op .neg (.cons (.c (.int 1000000)) .nil)) (.cons (.c (.int 1000000)) .nil)))))) (.cons (.ret (.c (.bl false)))
  .nil) .nil)
noncomputable def t172_3 : S := (.ret (.op .all (.cons (.comp [3] (.nm 3) (.it (.meth 46 145 "names" [] (.var 2) .nil)) .nil e172_0) .nil)))
noncomputable def d172 : Def := ⟨2, 4, [false, false],
  (.cons t172_0 (.cons t172_1 (.cons t172_2 (.cons t172_3 .nil))))⟩
noncomputable def pgL : List (Nat × Def) := [(2, d2), (13, d13), (15, d15), (17, d17), (18, d18), (19, d19), (22, d22), (26, d26), (50, d50), (51, d51), (52, d52), (53, d53), (54, d54), (57, d57), (58, d58), (126, d126), (139, d139), (140, d140), (141, d141), (142, d142), (143, d143), (144, d144), (145, d145), (146, d146), (147, d147), (148, d148), (149, d149), (150, d150), (151, d151), (152, d152), (153, d153), (154, d154), (155, d155), (156, d156), (157, d157), (160, d160), (161, d161), (162, d162), (163, d163), (164, d164), (165, d165), (166, d166), (167, d167), (168, d168), (169, d169), (170, d170), (171, d171), (172, d172)]
noncomputable def pg (f : Nat) : Option Def := pgL.lookup f
end MiDF
set_option maxHeartbeats 0
namespace K46
open PySem PySem.Spec PyProof.Rows L2 Mi MiDF
noncomputable def e56_0 : E := (.var 5)
noncomputable def e56_1 : E := (.tup (.cons (.var 5) (.cons (.call 17 [true, false] (.cons (.var 1) (.cons (.lst (.cons (.c (.int 0)) (.cons (.c (.int 1)) (.cons (.call 26 [true, false] (.cons (.var 1) (.cons (.op .pow (.cons (.c (.int 10)) (.cons (.c (.int 30)) .nil))) .nil))) .nil)))) .nil))) .nil)))
noncomputable def e56_2 : E := (.meth 46 167 "value" [false] (.op .idx (.cons (.var 8) (.cons (.var 5) .nil))) (.cons (.var 10) .nil))
noncomputable def e56_3 : E := (.op .idx (.cons (.var 11) (.cons (.var 5) .nil)))
noncomputable def l56_0 : Ss := (.cons (.set 10 (.op .dict (.cons (.comp [5] (.nm 5) (.it (.var 4)) .nil e56_1) .nil)))
  (.cons (.set 11 (.call 139 [false, false] (.cons (.var 10) (.cons (.op .idx (.cons (.op .idx (.cons (.var 2) (.cons (.c (.int 1)) .nil))) (.cons (.var 7) .nil))) .nil))))
  (.cons (.ife (.nt (.call 13 [false, false] (.cons (.comp [5] (.nm 5) (.it (.var 4)) .nil e56_2) (.cons (.comp [5] (.nm 5) (.it (.var 4)) .nil e56_3) .nil)))) (.cons (.ret (.c (.bl false)))
  .nil) .nil)
  .nil)))
noncomputable def e56_4 : E := (.op .isin (.cons (.var 12) (.cons (.var 4) .nil)))
noncomputable def l56_1 : Ss := (.cons (.set 8 (.meth 16 165 "forms" [false] (.var 3) (.cons (.var 7) .nil)))
  (.cons (.ife (.or (.nt (.op (.isi1 .dict) (.cons (.var 8) .nil))) (.or (.op .ne (.cons (.op .list (.cons (.var 8) .nil)) (.cons (.var 4) .nil))) (.nt (.call 13 [false, false] (.cons (.prop 16 166 (.var 3)) (.cons (.op .len (.cons (.op .idx (.cons (.var 2) (.cons (.c (.int 1)) .nil))) .nil)) .nil)))))) (.cons (.ret (.c (.bl false)))
  .nil) .nil)
  (.cons (.fr (.nm 9) (.rng1 (.c (.int 3))) l56_0)
  (.cons (.sto 8 (.c (.str "q")) (.c .non))
  (.cons (.ife (.or (.op .ne (.cons (.op .list (.cons (.meth 16 165 "forms" [false] (.var 3) (.cons (.var 7) .nil)) .nil)) (.cons (.var 4) .nil))) (.nt (.op .all (.cons (.comp [12] (.nm 12) (.it (.meth 46 145 "names" [] (.op .idx (.cons (.meth 16 165 "forms" [false] (.var 3) (.cons (.var 7) .nil)) (.cons (.op .idx (.cons (.var 4) (.cons (.c (.int 0)) .nil))) .nil))) .nil)) .nil e56_4) .nil)))) (.cons (.ret (.c (.bl false)))
  .nil) .nil)
  (.cons (.ife (.an (.op .eqL (.cons (.op .idx (.cons (.op .idx (.cons (.var 2) (.cons (.c (.int 1)) .nil))) (.cons (.var 7) .nil))) (.cons (.lst .nil) .nil))) (.ceq true 46 142 (.op .idx (.cons (.meth 16 165 "forms" [false] (.var 3) (.cons (.var 7) .nil)) (.cons (.op .idx (.cons (.var 4) (.cons (.op .neg (.cons (.c (.int 1)) .nil)) .nil))) .nil))) (.call 147 [false, false] (.cons (.lst (.cons (.tup (.cons (.op .idx (.cons (.var 4) (.cons (.op .neg (.cons (.c (.int 1)) .nil)) .nil))) (.cons (.c (.int 1)) .nil))) .nil)) (.cons (.c (.int 0)) .nil))))) (.cons (.ret (.c (.bl false)))
  .nil) .nil)
  .nil))))))
noncomputable def t56_0 : S := (.set 1 (.call 2 [false] (.cons (.var 0) .nil)))
noncomputable def t56_1 : S := (.set 2 (.call 57 [true, false] (.cons (.var 1) (.cons (.lst (.cons (.c (.int 3)) (.cons (.c (.int 3)) (.cons (.c (.int 6)) (.cons (.c (.int 99)) .nil))))) .nil))))
noncomputable def t56_2 : S := (.unp (.tup (.cons (.nm 3) (.cons (.nm 4) .nil))) (.tup (.cons (.call 58 [false] (.cons (.var 2) .nil)) (.cons (.comp [5, 6] (.tup (.cons (.nm 5) (.cons (.nm 6) .nil))) (.it (.op .idx (.cons (.var 2) (.cons (.c (.int 0)) .nil)))) .nil e56_0) .nil))))
noncomputable def t56_3 : S := (.fr (.nm 7) (.rng1 (.op .len (.cons (.op .idx (.cons (.var 2) (.cons (.c (.int 1)) .nil))) .nil))) l56_1)
noncomputable def t56_4 : S := (.set 13 (.mk 16 168 [] (.cons (.lst (.cons (.tup (.cons (.c (.str "x")) (.cons (.c (.int 1)) .nil))) (.cons (.tup (.cons (.c (.str "y")) (.cons (.c (.int 2)) .nil))) .nil))) (.cons (.tup (.cons (.lst (.cons (.tup (.cons (.c (.str "x")) (.cons (.mk 46 154 [] (.cons (.c (.int 0)) (.cons (.dsc [(.inr "x", (.int 1)), (.inr "y", (.int 1))]) .nil))) .nil))) (.cons (.tup (.cons (.c (.str "y")) (.cons (.mk 46 154 [] (.cons (.c (.int 5)) (.cons (.dsc [(.inr "x", (.int 2))]) .nil))) .nil))) .nil))) .nil)) .nil))))
noncomputable def t56_5 : S := (.set 8 (.meth 16 165 "forms" [false] (.var 13) (.cons (.c (.int 0)) .nil)))
noncomputable def t56_6 : S := (.ret (.call 13 [false, false] (.cons (.lst (.cons (.meth 46 140 "text" [] (.op .idx (.cons (.var 8) (.cons (.c (.str "x")) .nil))) .nil) (.cons (.meth 46 140 "text" [] (.op .idx (.cons (.var 8) (.cons (.c (.str "y")) .nil))) .nil) .nil))) (.cons (.lst (.cons (.c (.str "x + y")) (.cons (.c (.str "2 x + 2 y + 5")) .nil))) .nil))))
noncomputable def d56 : Def := ⟨1, 14, [false],
  (.cons t56_0 (.cons t56_1 (.cons t56_2 (.cons t56_3 (.cons t56_4 (.cons t56_5 (.cons t56_6 .nil)))))))⟩
noncomputable def Γ (f : Nat) : Option Def := if f = 56 then some d56 else pg f
noncomputable def cn0 : List PySem.Str := ["Rounds", "RoundError", "InvalidText", "InvalidPeriod", "InvalidClass", "InvalidOdd", "InvalidRound", "TooLong", "Missing", "UnknownRound", "Paper", "Whole", "Open", "Barred", "Lone", "Answer"]
noncomputable def cn1 : List PySem.Str := ["Loop", "InvalidNumber", "InvalidName", "InvalidPairs", "InvalidRow", "NoRow", "InvalidModulus", "InvalidPaper", "NotHeld", "InvalidAnswer", "InvalidStart", "InvalidPhase", "InvalidLoop", "InvalidBlock", "InvalidDeed", "InvalidPage"]
noncomputable def cn2 : List PySem.Str := ["DuplicateName", "DifferentNames", "Unsettled", "NeverTrue", "TooFar", "NothingLeft", "Equal", "At", "Not", "And", "Or", "Pair", "Book", "UnknownName", "Form", "Formula"]
noncomputable def cn3 : List PySem.Str := ["Draft"]
noncomputable def cn : List PySem.Str := cn0 ++ cn1 ++ cn2 ++ cn3
theorem bn2_1 : Bnd D2 p2 fx 1 [] := bnd_all rfl fun _ _ _ _ _ _ us hl => match us, hl with | [_], _ => rfl
theorem bn57_2 : Bnd D57 p57 fx 2 [] := bnd_all rfl fun _ _ _ _ _ _ us hl => match us, hl with | [_, _], _ => rfl
theorem bn58_1 : Bnd D58 p58 fx 1 [] := bnd_all rfl fun _ _ _ _ _ _ us hl => match us, hl with | [_], _ => rfl
theorem bn165_2 : Bnd D165 p165 fx 2 [] := bnd_all rfl fun _ _ _ _ _ _ us hl => match us, hl with | [_, _], _ => rfl
theorem bn166_1 : Bnd D166 p166 fx 1 [] := bnd_all rfl fun _ _ _ _ _ _ us hl => match us, hl with | [_], _ => rfl
theorem bn13_2 : Bnd D13 p13 fx 2 [] := bnd_all rfl fun _ _ _ _ _ _ us hl => match us, hl with | [_, _], _ => rfl
theorem bn26_2 : Bnd D26 p26 fx 2 [] := bnd_all rfl fun _ _ _ _ _ _ us hl => match us, hl with | [_, _], _ => rfl
theorem bn17_2 : Bnd D17 p17 fx 2 [] := bnd_all rfl fun _ _ _ _ _ _ us hl => match us, hl with | [_, _], _ => rfl
theorem bn139_2 : Bnd D139 p139 fx 2 [] := bnd_all rfl fun _ _ _ _ _ _ us hl => match us, hl with | [_, _], _ => rfl
theorem bn167_2 : Bnd D167 p167 fx 2 [] := bnd_all rfl fun _ _ _ _ _ _ us hl => match us, hl with | [_, _], _ => rfl
theorem bn145_1 : Bnd D145 p145 fx 1 [] := bnd_all rfl fun _ _ _ _ _ _ us hl => match us, hl with | [_], _ => rfl
theorem bn147_1 : Bnd D147 p147 fx 1 [(.int 0)] := bnd_dfl (j := 0) (by intro h; cases h) rfl (fun G hf w => .cons (.int _) (.nil)) fun T kV doc pm an cdv ct us its hu hi => match us, its, hu, hi with | [_], [_], _, _ => ⟨_, rfl, rfl⟩
theorem bn142_2 : Bnd D142 p142 fx 2 [] := bnd_all rfl fun _ _ _ _ _ _ us hl => match us, hl with | [_, _], _ => rfl
theorem bn140_1 : Bnd D140 p140 fx 1 [] := bnd_all rfl fun _ _ _ _ _ _ us hl => match us, hl with | [_], _ => rfl
theorem bn15_2 : Bnd D15 p15 fx 2 [] := bnd_all rfl fun _ _ _ _ _ _ us hl => match us, hl with | [_, _], _ => rfl
theorem bn50_2 : Bnd D50 p50 fx 2 [] := bnd_all rfl fun _ _ _ _ _ _ us hl => match us, hl with | [_, _], _ => rfl
theorem bn51_3 : Bnd D51 p51 fx 3 [] := bnd_all rfl fun _ _ _ _ _ _ us hl => match us, hl with | [_, _, _], _ => rfl
theorem bn52_1 : Bnd D52 p52 fx 1 [] := bnd_all rfl fun _ _ _ _ _ _ us hl => match us, hl with | [_], _ => rfl
theorem bn18_3 : Bnd D18 p18 fx 3 [] := bnd_all rfl fun _ _ _ _ _ _ us hl => match us, hl with | [_, _, _], _ => rfl
theorem bn169_2 : Bnd D169 p169 fx 2 [] := bnd_all rfl fun _ _ _ _ _ _ us hl => match us, hl with | [_, _], _ => rfl
theorem bn144_1 : Bnd D144 p144 fx 1 [] := bnd_all rfl fun _ _ _ _ _ _ us hl => match us, hl with | [_], _ => rfl
theorem bn156_2 : Bnd D156 p156 fx 2 [] := bnd_all rfl fun _ _ _ _ _ _ us hl => match us, hl with | [_, _], _ => rfl
theorem bn163_2 : Bnd D163 p163 fx 2 [] := bnd_all rfl fun _ _ _ _ _ _ us hl => match us, hl with | [_, _], _ => rfl
theorem bn160_2 : Bnd D160 p160 fx 2 [] := bnd_all rfl fun _ _ _ _ _ _ us hl => match us, hl with | [_, _], _ => rfl
theorem bn170_2 : Bnd D170 p170 fx 2 [] := bnd_all rfl fun _ _ _ _ _ _ us hl => match us, hl with | [_, _], _ => rfl
theorem bn19_1 : Bnd D19 p19 fx 1 [] := bnd_all rfl fun _ _ _ _ _ _ us hl => match us, hl with | [_], _ => rfl
theorem bn150_1 : Bnd D150 p150 fx 1 [] := bnd_all rfl fun _ _ _ _ _ _ us hl => match us, hl with | [_], _ => rfl
theorem bn22_1 : Bnd D22 p22 fx 1 [] := bnd_all rfl fun _ _ _ _ _ _ us hl => match us, hl with | [_], _ => rfl
theorem bn151_2 : Bnd D151 p151 fx 2 [] := bnd_all rfl fun _ _ _ _ _ _ us hl => match us, hl with | [_, _], _ => rfl
theorem bn171_1 : Bnd D171 p171 fx 1 [] := bnd_all rfl fun _ _ _ _ _ _ us hl => match us, hl with | [_], _ => rfl
theorem bn172_2 : Bnd D172 p172 fx 2 [] := bnd_all rfl fun _ _ _ _ _ _ us hl => match us, hl with | [_, _], _ => rfl
theorem bn153_1 : Bnd D153 p153 fx 1 [] := bnd_all rfl fun _ _ _ _ _ _ us hl => match us, hl with | [_], _ => rfl
theorem bn148_2 : Bnd D148 p148 fx 2 [] := bnd_all rfl fun _ _ _ _ _ _ us hl => match us, hl with | [_, _], _ => rfl
theorem bn54_0 : Bnd D54 p54 fx 0 [] := bnd_all rfl fun _ _ _ _ _ _ us hl => match us, hl with | [], _ => rfl
theorem bn147_2 : Bnd D147 p147 fx 2 [] := bnd_dfl (j := 1) (by intro h; cases h) rfl (fun G hf w => .nil) fun T kV doc pm an cdv ct us its hu hi => match us, its, hu, hi with | [_, _], [_], _, _ => ⟨_, rfl, rfl⟩
theorem kb165_ : KBnd D165 p165 ["phase"] [] := ⟨rfl, fun F => ⟨_, _, kbindsN F 1 ["phase"] (fun {_} us ws => match ws with | [a0] => us ++ [a0] | _ => us) (fun {vs zs us ws} r1 r3 => by
    match zs, ws, r3 with
    | [_], [_], .cons a0 (.nil) => exact r1.append (.cons a0 (.nil))
    | [], [], _ => exact r1
    | _ :: _ :: _, _ :: _ :: _, _ => exact r1)
    (fun kV doc pm an cdv ct us ws hu hw => match us, ws, hu, hw with | [_], [_], _, _ => by kernel_rfl), fun x zs hz => match zs, hz with | [_], _ => rfl⟩⟩
theorem kwi154 : KwI D154 "self" "constant" "factors" (.int 0) := fun {K f fd} F => kwD1_of (dv := vT (.int 0)) F rfl rfl rfl rfl rfl (by decide)
theorem sd168 {K : PySem.W.Frag} {f : Addr} {fd : FuncData} (F : L2.FunD K D168.name D168.qual D168.params D168.body D168.scope (D168.dvs K) (D168.kws K) f fd) : ∃ a, a.arg = ("phases" : PySem.Str) ∧ SvD K fd (["self", "starts"] : List PySem.Str) a := svD_of F rfl rfl rfl rfl rfl (by decide)
theorem kd154 {K : PySem.W.Frag} {f : Addr} {fd : FuncData} (F : L2.FunD K D154.name D154.qual D154.params D154.body D154.scope (D154.dvs K) (D154.kws K) f fd) : ∃ a, a.arg = ("factors" : PySem.Str) ∧ KwD K fd (["self", "constant"] : List PySem.Str) a := kwD_of F rfl rfl rfl rfl rfl (by decide)
theorem ki46_ : KitI fx cn 46 "Form" [46] [] := ⟨⟨50, rfl⟩,
  fun c h => by
    simp only [List.mem_cons, List.not_mem_nil, or_false] at h
    rcases h with rfl
    · exact ⟨"Form", 51, 15, rfl, rfl, rfl⟩,
  fun _ h => absurd h (by simp)⟩
theorem ki46_16_48 : KitI fx cn 46 "Form" [46] [16, 48] := ⟨⟨50, rfl⟩,
  fun c h => by
    simp only [List.mem_cons, List.not_mem_nil, or_false] at h
    rcases h with rfl
    · exact ⟨"Form", 51, 15, rfl, rfl, rfl⟩,
  fun c h => by
    simp only [List.mem_cons, List.not_mem_nil, or_false] at h
    rcases h with rfl | rfl
    · exact ⟨"Loop", 65, 5, rfl, rfl, rfl⟩
    · exact ⟨"Draft", 66, 67, rfl, rfl, rfl⟩⟩
section
variable {P : Program} {w : World} {mg : PySem.Str → Option Value} {base : Heap} {k : Nat} {G : Gm} {cal : Nat → List Slot → CRes} {L : Nat} {fa : Addr}
theorem b56 (e : GQ tab fx gk cn P w G.K mg base k G cal) : BodyOk G P w G.K mg base n56 d56.io "law" (defScope s56) fa (defBody s56) k cal L d56.body := fun cdv A outer s H E C hG hfx c hp => by
  subst hG
  exact (st_cons (w_set c (nf hfx) (x_call c (q_fn e (f := 2) (i := 0) rfl rfl rfl bn2_1) (a_cons x_var a_nil)))
  (st_cons (w_set c (nf hfx) (x_call c (q_fn e (f := 57) (i := 1) rfl rfl rfl bn57_2) (a_cons x_var (a_cons (x_lst (a_cons x_int (a_cons x_int (a_cons x_int (a_cons x_int a_nil))))) a_nil))))
  (st_cons (w_unp c (gp_tup rfl (gps_cons gp_name (gps_cons gp_name gps_nil))) (nfs hfx) (pg_tup c.calm (pgs_cons (pg_name c.nd rfl (by first | exact Or.inl rfl | exact Or.inr rfl)) (pgs_cons (pg_name c.nd rfl (by first | exact Or.inl rfl | exact Or.inr rfl)) pgs_nil))) (x_tup (a_cons (x_call c (q_fn e (f := 58) (i := 2) rfl rfl rfl bn58_1) (a_cons x_var a_nil)) (a_cons (x_comp c (gp_tup rfl (gps_cons gp_name (gps_cons gp_name gps_nil))) (blkOk_by (own := [("_law_name", 5), ("_law_number_here", 6)]) (by rfl)) (i_any c (x_idx c x_var x_int)) (fun _ _ _ _ _ => (pg_tup c.calm (pgs_cons (pg_name c.nd rfl (by first | exact Or.inl rfl | exact Or.inr rfl)) (pgs_cons (pg_name c.nd rfl (by first | exact Or.inl rfl | exact Or.inr rfl)) pgs_nil)))) (fun _ _ _ _ _ c1 => f_nil) (fun _ _ _ _ _ c1 => x_var)) a_nil))))
  (st_cons (w_fr c hp gp_name (nfs hfx) (pg_name c.nd rfl (by first | exact Or.inl rfl | exact Or.inr rfl)) (i_rng1 c (q_fr e 4 rfl) (x_len c (q_fr e 3 rfl) (x_idx c x_var x_int))) (st_cons (w_set c (nf hfx) (q_meth c e (cl := 16) rfl (ic := 5) rfl (im := 6) rfl (f := 165) rfl rfl bn165_2 x_var (a_cons x_var a_nil)))
  (st_cons (w_ife (PW.pt (z_or (y_not (y_val (x_isi1 c .dict (q_fr e 7 rfl) (x_cls .dict (by rfl) (q_fr e 8 rfl) rfl) x_var))) (z_or (y_cmp (c_ne c) (x_toList c (q_fr e 9 rfl) x_var) x_var) (z_or1 (y_not (y_val (x_call c (q_fn e (f := 13) (i := 11) rfl rfl rfl bn13_2) (a_cons (q_prop c e (cl := 16) rfl (ic := 5) rfl (i := 10) rfl (f := 166) rfl rfl bn166_1 x_var) (a_cons (x_len c (q_fr e 3 rfl) (x_idx c x_var x_int)) a_nil))))))))) (st_cons (w_ret x_bl)
  st_nil) st_nil)
  (st_cons (w_fr c hp gp_name (nfs hfx) (pg_name c.nd rfl (by first | exact Or.inl rfl | exact Or.inr rfl)) (i_rng1 c (q_fr e 4 rfl) x_int) (st_cons (w_set c (nf hfx) (x_dict c (q_fr e 8 rfl) (x_comp c gp_name (blkOk_by (own := [("_law_name", 5)]) (by rfl)) (i_any c x_var) (fun _ _ _ _ _ => (pg_name c.nd rfl (by first | exact Or.inl rfl | exact Or.inr rfl))) (fun _ _ _ _ _ c1 => f_nil) (fun _ _ _ _ _ c1 => (x_tup (a_cons x_var (a_cons (x_call c1 (q_fn e (f := 17) (i := 13) rfl rfl rfl bn17_2) (a_cons x_var (a_cons (x_lst (a_cons x_int (a_cons x_int (a_cons (x_call c1 (q_fn e (f := 26) (i := 12) rfl rfl rfl bn26_2) (a_cons x_var (a_cons (x_bin b_pow x_int x_int) a_nil))) a_nil)))) a_nil))) a_nil)))))))
  (st_cons (w_set c (nf hfx) (x_call c (q_fn e (f := 139) (i := 14) rfl rfl rfl bn139_2) (a_cons x_var (a_cons (x_idx c (x_idx c x_var x_int) x_var) a_nil))))
  (st_cons (w_ife (y_not (y_val (x_call c (q_fn e (f := 13) (i := 11) rfl rfl rfl bn13_2) (a_cons (x_comp c gp_name (blkOk_by (own := [("_law_name", 5)]) (by rfl)) (i_any c x_var) (fun _ _ _ _ _ => (pg_name c.nd rfl (by first | exact Or.inl rfl | exact Or.inr rfl))) (fun _ _ _ _ _ c1 => f_nil) (fun _ _ _ _ _ c1 => (q_meth c1 e (cl := 46) rfl (ic := 15) rfl (im := 16) rfl (f := 167) rfl rfl bn167_2 (x_idx c1 x_var x_var) (a_cons x_var a_nil)))) (a_cons (x_comp c gp_name (blkOk_by (own := [("_law_name", 5)]) (by rfl)) (i_any c x_var) (fun _ _ _ _ _ => (pg_name c.nd rfl (by first | exact Or.inl rfl | exact Or.inr rfl))) (fun _ _ _ _ _ c1 => f_nil) (fun _ _ _ _ _ c1 => (x_idx c1 x_var x_var))) a_nil))))) (st_cons (w_ret x_bl)
  st_nil) st_nil)
  st_nil))))
  (st_cons (w_sto c (pv 8) x_str x_non)
  (st_cons (w_ife (PW.pt (z_or (y_cmp (c_ne c) (x_toList c (q_fr e 9 rfl) (q_methK c e (cl := 16) rfl (ic := 5) rfl (im := 6) rfl (f := 165) rfl rfl kb165_ rfl x_var (k_cons x_var k_nil))) x_var) (z_or1 (y_not (y_val (x_all c (q_fr e 18 rfl) (x_comp c gp_name (blkOk_by (own := [("_law_one", 12)]) (by rfl)) (i_any c (q_meth0 c e (cl := 46) rfl (ic := 15) rfl (im := 17) rfl (f := 145) rfl rfl bn145_1 (x_idx c (q_meth c e (cl := 16) rfl (ic := 5) rfl (im := 6) rfl (f := 165) rfl rfl bn165_2 x_var (a_cons x_var a_nil)) (x_idx c x_var x_int)))) (fun _ _ _ _ _ => (pg_name c.nd rfl (by first | exact Or.inl rfl | exact Or.inr rfl))) (fun _ _ _ _ _ c1 => f_nil) (fun _ _ _ _ _ c1 => (x_cmp (c_in c1) x_var x_var))))))))) (st_cons (w_ret x_bl)
  st_nil) st_nil)
  (st_cons (w_ife (PW.pt (z_and (y_cmp (c_eqL c) (x_idx c (x_idx c x_var x_int) x_var) (x_lst a_nil)) (z_and1 (q_cneT c e (cl := 46) rfl (ic := 15) rfl (im := 22) rfl (ine := 23) rfl (f := 142) rfl rfl bn142_2 (x_idx c (q_meth c e (cl := 16) rfl (ic := 5) rfl (im := 6) rfl (f := 165) rfl rfl bn165_2 x_var (a_cons x_var a_nil)) (x_idx c x_var (x_neg x_int))) (q_smethD c e (ig := 19) rfl (ic := 20) rfl (im := 21) rfl (f := 147) rfl rfl bn147_1 (a_cons (x_lst (a_cons (x_tup (a_cons (x_idx c x_var (x_neg x_int)) (a_cons x_int a_nil))) a_nil)) a_nil)))))) (st_cons (w_ret x_bl)
  st_nil) st_nil)
  st_nil)))))))
  (st_cons (w_set c (nf hfx) (q_mkS c e (N := (["self", "starts"] : List PySem.Str)) (y0 := ("phases" : PySem.Str)) (es := (.cons (.lst (.cons (.tup (.cons (.c (.str "x")) (.cons (.c (.int 1)) .nil))) (.cons (.tup (.cons (.c (.str "y")) (.cons (.c (.int 2)) .nil))) .nil))) .nil)) (rs := (.cons (.lst (.cons (.tup (.cons (.c (.str "x")) (.cons (.mk 46 154 [] (.cons (.c (.int 0)) (.cons (.dsc [(.inr "x", (.int 1)), (.inr "y", (.int 1))]) .nil))) .nil))) (.cons (.tup (.cons (.c (.str "y")) (.cons (.mk 46 154 [] (.cons (.c (.int 5)) (.cons (.dsc [(.inr "x", (.int 2))]) .nil))) .nil))) .nil))) .nil)) (cl := 16) rfl (ig := 24) rfl (im := 25) rfl (f := 168) rfl rfl rfl sd168 rfl (a_cons (x_lst (a_cons (x_tup (a_cons x_str (a_cons x_int a_nil))) (a_cons (x_tup (a_cons x_str (a_cons x_int a_nil))) a_nil))) (a_cons (x_lst (a_cons (x_tup (a_cons x_str (a_cons (q_mkEA c e (ks := (["x", "y"] : List PySem.Str)) (kts := [(.int 1), (.int 1)]) (l := [("x", (.int 1)), ("y", (.int 1))]) (cl := 46) rfl (ig := 19) rfl (im := 26) rfl (f := 154) rfl rfl kwi154 rfl rfl rfl (by decide) (by decide) (a_cons x_int a_nil) (k_cons x_int (k_cons x_int k_nil)) (t0 := (.int 0)) (fun m => rfl) (fun m => rfl)) a_nil))) (a_cons (x_tup (a_cons x_str (a_cons (q_mkEA c e (ks := (["x"] : List PySem.Str)) (kts := [(.int 2)]) (l := [("x", (.int 2))]) (cl := 46) rfl (ig := 19) rfl (im := 26) rfl (f := 154) rfl rfl kwi154 rfl rfl rfl (by decide) (by decide) (a_cons x_int a_nil) (k_cons x_int k_nil) (t0 := (.int 5)) (fun m => rfl) (fun m => rfl)) a_nil))) a_nil))) a_nil))))
  (st_cons (w_set c (nf hfx) (q_meth c e (cl := 16) rfl (ic := 5) rfl (im := 6) rfl (f := 165) rfl rfl bn165_2 x_var (a_cons x_int a_nil)))
  (st_cons (w_ret (x_call c (q_fn e (f := 13) (i := 11) rfl rfl rfl bn13_2) (a_cons (x_lst (a_cons (q_meth0 c e (cl := 46) rfl (ic := 15) rfl (im := 27) rfl (f := 140) rfl rfl bn140_1 (x_idx c x_var x_str)) (a_cons (q_meth0 c e (cl := 46) rfl (ic := 15) rfl (im := 27) rfl (f := 140) rfl rfl bn140_1 (x_idx c x_var x_str)) a_nil))) (a_cons (x_lst (a_cons x_str (a_cons x_str a_nil))) a_nil))))
  st_nil)))))))
theorem b2 (e : GQ tab fx gk cn P w G.K mg base k G cal) : BodyOk G P w G.K mg base n2 d2.io "_law_bag" (defScope s2) fa (defBody s2) k cal L d2.body := fun cdv A outer s H E C hG hfx c hp => by
  subst hG
  exact (st_cons (w_set c (nf hfx) x_int)
  (st_cons (w_fr c hp gp_name (nfs hfx) (pg_name c.nd rfl (by first | exact Or.inl rfl | exact Or.inr rfl)) (i_any c (x_slHi c x_var x_int)) (st_cons (w_set c (nf hfx) (x_bin b_mod (x_toInt c (q_fr e 28 rfl) (x_bin b_add (x_bin b_add (x_bin b_mul x_var x_int) (x_bin b_mul (x_bin b_mod (x_toInt c (q_fr e 28 rfl) x_var) x_int) x_int)) x_int)) x_int))
  st_nil))
  (st_cons (w_ret (x_lst (a_cons (x_toList c (q_fr e 9 rfl) (x_slHi c x_var x_int)) (a_cons x_int (a_cons x_int (a_cons x_var (a_cons x_int a_nil)))))))
  st_nil)))
theorem b57 (e : GQ tab fx gk cn P w G.K mg base k G cal) : BodyOk G P w G.K mg base n57 d57.io "_law_some_loop" (defScope s57) fa (defBody s57) k cal L d57.body := fun cdv A outer s H E C hG hfx c hp => by
  subst hG
  exact (st_cons (w_set c (nf hfx) (x_call c (q_fn e (f := 50) (i := 30) rfl rfl rfl bn50_2) (a_cons x_var (a_cons (x_bin b_add x_int (x_call c (q_fn e (f := 15) (i := 29) rfl rfl rfl bn15_2) (a_cons x_var (a_cons (x_idx c x_var x_int) a_nil)))) a_nil))))
  (st_cons (w_setc c (nf hfx) gp_name (blkOk_by (own := [("_law_name", 4)]) (by rfl)) (i_any c x_var) (fun _ _ _ _ _ => (pg_name c.nd rfl (by first | exact Or.inl rfl | exact Or.inr rfl))) (fun _ _ _ _ _ c1 => f_nil) (fun _ _ _ _ _ c1 => (x_tup (a_cons x_var (a_cons (x_call c1 (q_fn e (f := 17) (i := 13) rfl rfl rfl bn17_2) (a_cons x_var (a_cons (x_lst (a_cons x_int (a_cons x_int (a_cons (x_neg x_int) (a_cons x_int (a_cons x_int (a_cons x_int (a_cons (x_call c1 (q_fn e (f := 26) (i := 12) rfl rfl rfl bn26_2) (a_cons x_var (a_cons (x_bin b_pow x_int x_int) a_nil))) a_nil)))))))) a_nil))) a_nil)))))
  (st_cons (w_paro c ⟨nf hfx, nf hfx⟩ (x_lst a_nil) (x_call c (q_fn e (f := 17) (i := 13) rfl rfl rfl bn17_2) (a_cons x_var (a_cons (x_lst (a_cons x_int (a_cons x_int (a_cons x_int (a_cons x_int (a_cons (x_idx c x_var x_int) a_nil)))))) a_nil))))
  (st_cons (w_fr c hp gp_name (nfs hfx) (pg_name c.nd rfl (by first | exact Or.inl rfl | exact Or.inr rfl)) (i_rng1 c (q_fr e 4 rfl) (x_bin b_add x_int (x_call c (q_fn e (f := 15) (i := 29) rfl rfl rfl bn15_2) (a_cons x_var (a_cons (x_idx c x_var x_int) a_nil))))) (st_cons (w_set c (nf hfx) (x_lst a_nil))
  (st_cons (w_fr c hp gp_name (nfs hfx) (pg_name c.nd rfl (by first | exact Or.inl rfl | exact Or.inr rfl)) (i_rng1 c (q_fr e 4 rfl) (x_call c (q_fn e (f := 15) (i := 29) rfl rfl rfl bn15_2) (a_cons x_var (a_cons (x_bin b_add (x_idx c x_var x_int) x_int) a_nil)))) (st_cons (w_set c (nf hfx) (x_call c (q_fn e (f := 51) (i := 31) rfl rfl rfl bn51_3) (a_cons x_var (a_cons x_var (a_cons x_var a_nil)))))
  (st_cons (w_app c (x_tup (a_cons (x_call c (q_fn e (f := 17) (i := 13) rfl rfl rfl bn17_2) (a_cons x_var (a_cons x_var a_nil))) (a_cons (x_tup (a_cons (x_call c (q_fn e (f := 17) (i := 13) rfl rfl rfl bn17_2) (a_cons x_var (a_cons (x_lst (a_cons x_int (a_cons x_int (a_cons x_int (a_cons (x_neg x_int) (a_cons (x_idx c x_var x_int) a_nil)))))) a_nil))) (a_cons (x_idx c x_var x_int) a_nil))) a_nil))) (pv 8))
  st_nil)))
  (st_cons (w_app c x_var (pv 5))
  st_nil))))
  (st_cons (w_ret (x_lst (a_cons x_var (a_cons x_var a_nil))))
  st_nil)))))
theorem b58 (e : GQ tab fx gk cn P w G.K mg base k G cal) : BodyOk G P w G.K mg base n58 d58.io "_law_loop" (defScope s58) fa (defBody s58) k cal L d58.body := fun cdv A outer s H E C hG hfx c hp => by
  subst hG
  exact (st_cons (w_setc c (nf hfx) gp_name (blkOk_by (own := [("_law_phase_z", 2)]) (by rfl)) (i_any c (x_idx c x_var x_int)) (fun _ _ _ _ _ => (pg_name c.nd rfl (by first | exact Or.inl rfl | exact Or.inr rfl))) (fun _ _ _ _ _ c1 => f_nil) (fun _ _ _ _ _ c1 => (x_comp c1 (gp_tup rfl (gps_cons gp_name (gps_cons gp_name gps_nil))) (blkOk_by (own := [("_law_name", 3), ("_law_form_here", 4)]) (by rfl)) (i_any c1 x_var) (fun _ _ _ _ _ => (pg_tup c1.calm (pgs_cons (pg_name c1.nd rfl (by first | exact Or.inl rfl | exact Or.inr rfl)) (pgs_cons (pg_name c1.nd rfl (by first | exact Or.inl rfl | exact Or.inr rfl)) pgs_nil)))) (fun _ _ _ _ _ c2 => f_nil) (fun _ _ _ _ _ c2 => (x_tup (a_cons x_var (a_cons (x_call c2 (q_fn e (f := 52) (i := 32) rfl rfl rfl bn52_1) (a_cons x_var a_nil)) a_nil)))))))
  (st_cons (w_ife (y_cmp (c_eq c) (x_len c (q_fr e 3 rfl) x_var) x_int) (st_cons (w_ret (q_mkS c e (N := (["self", "starts"] : List PySem.Str)) (y0 := ("phases" : PySem.Str)) (es := (.cons (.op .idx (.cons (.var 0) (.cons (.c (.int 0)) .nil))) .nil)) (rs := (.cons (.op .idx (.cons (.var 1) (.cons (.c (.int 0)) .nil))) .nil)) (cl := 16) rfl (ig := 24) rfl (im := 25) rfl (f := 168) rfl rfl rfl sd168 rfl (a_cons (x_idx c x_var x_int) (a_cons (x_idx c x_var x_int) a_nil))))
  st_nil) st_nil)
  (st_cons (w_ret (x_ite (y_cmp (c_eq c) (x_len c (q_fr e 3 rfl) x_var) x_int) (q_mkS c e (N := (["self", "starts"] : List PySem.Str)) (y0 := ("phases" : PySem.Str)) (es := (.cons (.op .idx (.cons (.var 0) (.cons (.c (.int 0)) .nil))) .nil)) (rs := (.cons (.op .idx (.cons (.var 1) (.cons (.c (.int 0)) .nil))) (.cons (.op .idx (.cons (.var 1) (.cons (.c (.int 1)) .nil))) .nil))) (cl := 16) rfl (ig := 24) rfl (im := 25) rfl (f := 168) rfl rfl rfl sd168 rfl (a_cons (x_idx c x_var x_int) (a_cons (x_idx c x_var x_int) (a_cons (x_idx c x_var x_int) a_nil)))) (q_mkS c e (N := (["self", "starts"] : List PySem.Str)) (y0 := ("phases" : PySem.Str)) (es := (.cons (.op .idx (.cons (.var 0) (.cons (.c (.int 0)) .nil))) .nil)) (rs := (.cons (.op .idx (.cons (.var 1) (.cons (.c (.int 0)) .nil))) (.cons (.op .idx (.cons (.var 1) (.cons (.c (.int 1)) .nil))) (.cons (.op .idx (.cons (.var 1) (.cons (.c (.int 2)) .nil))) .nil)))) (cl := 16) rfl (ig := 24) rfl (im := 25) rfl (f := 168) rfl rfl rfl sd168 rfl (a_cons (x_idx c x_var x_int) (a_cons (x_idx c x_var x_int) (a_cons (x_idx c x_var x_int) (a_cons (x_idx c x_var x_int) a_nil)))))))
  st_nil)))
theorem b165 (e : GQ tab fx gk cn P w G.K mg base k G cal) : BodyOk G P w G.K mg base n165 d165.io "Loop.forms" (defScope s165) fa (defBody s165) k cal L d165.body := fun cdv A outer s H E C hG hfx c hp => by
  subst hG
  exact (st_cons (w_ife (y_not (y_val (x_call c (q_fn e (f := 18) (i := 34) rfl rfl rfl bn18_3) (a_cons x_var (a_cons x_int (a_cons (x_bin b_sub (x_len c (q_fr e 3 rfl) (q_fld c e (cl := 16) rfl (ic := 5) rfl (i := 33) rfl x_var)) x_int) a_nil)))))) (st_cons st_nev
  st_nil) st_nil)
  (st_cons (w_setd c (nf hfx) gp_name (blkOk_by (own := [("name", 3)]) (by rfl)) (i_any c (q_fld c e (cl := 16) rfl (ic := 5) rfl (i := 35) rfl x_var)) (fun _ _ _ _ _ => (pg_name c.nd rfl (by first | exact Or.inl rfl | exact Or.inr rfl))) (fun _ _ _ _ _ c1 => f_nil) (fun _ _ _ _ _ c1 => x_var) (fun _ _ _ _ _ c1 => (q_meth c1 e (cl := 16) rfl (ic := 5) rfl (im := 36) rfl (f := 169) rfl rfl bn169_2 x_var (a_cons x_var a_nil))))
  (st_cons (w_fr c hp (gp_tup rfl (gps_cons gp_name (gps_cons gp_name gps_nil))) (nfs hfx) (pg_tup c.calm (pgs_cons (pg_name c.nd rfl (by first | exact Or.inl rfl | exact Or.inr rfl)) (pgs_cons (pg_name c.nd rfl (by first | exact Or.inl rfl | exact Or.inr rfl)) pgs_nil))) (i_any c (x_idx c (q_fld c e (cl := 16) rfl (ic := 5) rfl (i := 33) rfl x_var) x_var)) (st_cons (w_set c (nf hfx) (q_mkF c e (n0 := "self") (n1 := "constant") (y := "factors") (tD := (.int 0)) (cl := 46) rfl (ig := 19) rfl (im := 26) rfl (f := 154) rfl rfl kwi154 rfl (a_cons (q_prop c e (cl := 46) rfl (ic := 15) rfl (i := 37) rfl (f := 144) rfl rfl bn144_1 x_var) a_nil)))
  (st_cons (w_fr c hp gp_name (nfs hfx) (pg_name c.nd rfl (by first | exact Or.inl rfl | exact Or.inr rfl)) (i_any c (q_meth0 c e (cl := 46) rfl (ic := 15) rfl (im := 17) rfl (f := 145) rfl rfl bn145_1 x_var)) (st_cons (w_set c (nf hfx) (q_bop c e (m := "__add__") rfl (cl := 46) rfl (is := 39) rfl (im := 42) rfl (f := 160) rfl rfl bn160_2 x_var (q_bopi c e (cl := 46) rfl (is := 39) rfl (im := 40) rfl (ir := 41) rfl (f := 163) rfl rfl bn163_2 (x_idx c x_var x_var) (q_gti c e (cl := 46) rfl (im := 38) rfl (f := 156) rfl rfl bn156_2 x_var x_var))))
  st_nil))
  (st_cons (w_sto c (pv 2) x_var x_var)
  st_nil))))
  (st_cons (w_ret x_var)
  st_nil))))
theorem b13 (e : GQ tab fx gk cn P w G.K mg base k G cal) : BodyOk G P w G.K mg base n13 d13.io "_law_same" (defScope s13) fa (defBody s13) k cal L d13.body := fun cdv A outer s H E C hG hfx c hp => by
  subst hG
  exact (st_cons (w_ife (PW.pt (z_or (y_cmp (c_is c) x_var x_non) (z_or1 (y_cmp (c_is c) x_var x_non)))) (st_cons (w_ret (x_and (x_cmp (c_is c) x_var x_non) (x_one (x_cmp (c_is c) x_var x_non))))
  st_nil) st_nil)
  (st_cons (w_ife (y_val (x_isi1 c .dict (q_fr e 7 rfl) (x_cls .dict (by rfl) (q_fr e 8 rfl) rfl) x_var)) (st_cons (w_ife (PW.pt (z_or (y_not (y_val (x_isi1 c .dict (q_fr e 7 rfl) (x_cls .dict (by rfl) (q_fr e 8 rfl) rfl) x_var))) (z_or1 (y_cmp (c_ne c) (x_toList c (q_fr e 9 rfl) x_var) (x_toList c (q_fr e 9 rfl) x_var))))) (st_cons (w_ret x_bl)
  st_nil) st_nil)
  (st_cons (w_ret (x_all c (q_fr e 18 rfl) (x_comp c gp_name (blkOk_by (own := [("_law_key", 2)]) (by rfl)) (i_any c x_var) (fun _ _ _ _ _ => (pg_name c.nd rfl (by first | exact Or.inl rfl | exact Or.inr rfl))) (fun _ _ _ _ _ c1 => f_nil) (fun _ _ _ _ _ c1 => (x_call c1 (q_fn e (f := 13) (i := 11) rfl rfl rfl bn13_2) (a_cons (x_idx c1 x_var x_var) (a_cons (x_idx c1 x_var x_var) a_nil)))))))
  st_nil)) st_nil)
  (st_cons (w_ife (y_val (x_isi2 c .list .tuple (q_fr e 7 rfl) (x_cls .list (by rfl) (q_fr e 9 rfl) rfl) (x_cls .tuple (by rfl) (q_fr e 43 rfl) rfl) x_var)) (st_cons (w_ife (y_cmp (c_ne c) (x_isi1 c .list (q_fr e 7 rfl) (x_cls .list (by rfl) (q_fr e 9 rfl) rfl) x_var) (x_isi1 c .list (q_fr e 7 rfl) (x_cls .list (by rfl) (q_fr e 9 rfl) rfl) x_var)) (st_cons (w_ret x_bl)
  st_nil) st_nil)
  (st_cons (w_ife (PW.pt (z_or (y_cmp (c_ne c) (x_isi1 c .tuple (q_fr e 7 rfl) (x_cls .tuple (by rfl) (q_fr e 43 rfl) rfl) x_var) (x_isi1 c .tuple (q_fr e 7 rfl) (x_cls .tuple (by rfl) (q_fr e 43 rfl) rfl) x_var)) (z_or1 (y_cmp (c_ne c) (x_len c (q_fr e 3 rfl) x_var) (x_len c (q_fr e 3 rfl) x_var))))) (st_cons (w_ret x_bl)
  st_nil) st_nil)
  (st_cons (w_ret (x_all c (q_fr e 18 rfl) (x_comp c (gp_tup rfl (gps_cons gp_name (gps_cons gp_name gps_nil))) (blkOk_by (own := [("_law_a", 3), ("_law_b", 4)]) (by rfl)) (i_zip c (q_fr e 44 rfl) x_var x_var) (fun _ _ _ _ _ => (pg_tup c.calm (pgs_cons (pg_name c.nd rfl (by first | exact Or.inl rfl | exact Or.inr rfl)) (pgs_cons (pg_name c.nd rfl (by first | exact Or.inl rfl | exact Or.inr rfl)) pgs_nil)))) (fun _ _ _ _ _ c1 => f_nil) (fun _ _ _ _ _ c1 => (x_call c1 (q_fn e (f := 13) (i := 11) rfl rfl rfl bn13_2) (a_cons x_var (a_cons x_var a_nil)))))))
  st_nil))) st_nil)
  (st_cons (w_ife (y_val (x_isi3 c .list .tuple .dict (q_fr e 7 rfl) (x_cls .list (by rfl) (q_fr e 9 rfl) rfl) (x_cls .tuple (by rfl) (q_fr e 43 rfl) rfl) (x_cls .dict (by rfl) (q_fr e 8 rfl) rfl) x_var)) (st_cons (w_ret x_bl)
  st_nil) st_nil)
  (st_cons (w_ife (y_cmp (c_ne c) (x_isi1 c .bool (q_fr e 7 rfl) (x_cls .bool (by rfl) (q_fr e 45 rfl) rfl) x_var) (x_isi1 c .bool (q_fr e 7 rfl) (x_cls .bool (by rfl) (q_fr e 45 rfl) rfl) x_var)) (st_cons (w_ret x_bl)
  st_nil) st_nil)
  (st_cons (w_ife (y_cmp (c_ne c) (x_isi1 c .int (q_fr e 7 rfl) (x_cls .int (by rfl) (q_fr e 28 rfl) rfl) x_var) (x_isi1 c .int (q_fr e 7 rfl) (x_cls .int (by rfl) (q_fr e 28 rfl) rfl) x_var)) (st_cons (w_ret x_bl)
  st_nil) st_nil)
  (st_cons (w_ret (x_and (x_cmp (c_eq c) (x_isi1 c .str (q_fr e 7 rfl) (x_cls .str (by rfl) (q_fr e 46 rfl) rfl) x_var) (x_isi1 c .str (q_fr e 7 rfl) (x_cls .str (by rfl) (q_fr e 46 rfl) rfl) x_var)) (x_one (x_cmp (c_eq c) x_var x_var))))
  st_nil)))))))
theorem b166 (e : GQ tab fx gk cn P w G.K mg base k G cal) : BodyOk G P w G.K mg base n166 d166.io "Loop.period" (defScope s166) fa (defBody s166) k cal L d166.body := fun cdv A outer s H E C hG hfx c hp => by
  subst hG
  exact (st_cons (w_ret (x_len c (q_fr e 3 rfl) (q_fld c e (cl := 16) rfl (ic := 5) rfl (i := 33) rfl x_var)))
  st_nil)
theorem b17 (e : GQ tab fx gk cn P w G.K mg base k G cal) : BodyOk G P w G.K mg base n17 d17.io "_law_of" (defScope s17) fa (defBody s17) k cal L d17.body := fun cdv A outer s H E C hG hfx c hp => by
  subst hG
  exact (st_cons (w_ret (x_idx c x_var (x_call c (q_fn e (f := 15) (i := 29) rfl rfl rfl bn15_2) (a_cons x_var (a_cons (x_len c (q_fr e 3 rfl) x_var) a_nil)))))
  st_nil)
theorem b26 (e : GQ tab fx gk cn P w G.K mg base k G cal) : BodyOk G P w G.K mg base n26 d26.io "_law_number" (defScope s26) fa (defBody s26) k cal L d26.body := fun cdv A outer s H E C hG hfx c hp => by
  subst hG
  exact (st_cons (w_set c (nf hfx) (x_call c (q_fn e (f := 17) (i := 13) rfl rfl rfl bn17_2) (a_cons x_var (a_cons (x_lst (a_cons x_int (a_cons x_int (a_cons x_int (a_cons x_var a_nil))))) a_nil))))
  (st_cons (w_ret (x_bin b_sub (x_call c (q_fn e (f := 15) (i := 29) rfl rfl rfl bn15_2) (a_cons x_var (a_cons (x_bin b_add (x_bin b_mul x_int x_var) x_int) a_nil))) x_var))
  st_nil))
theorem b139 (e : GQ tab fx gk cn P w G.K mg base k G cal) : BodyOk G P w G.K mg base n139 d139.io "_law_behind" (defScope s139) fa (defBody s139) k cal L d139.body := fun cdv A outer s H E C hG hfx c hp => by
  subst hG
  exact (st_cons (w_set c (nf hfx) (x_ditems c (q_fr e 8 rfl) (q_fr e 9 rfl) x_var))
  (st_cons (w_fr c hp (gp_tup rfl (gps_cons gp_name (gps_cons gp_name gps_nil))) (nfs hfx) (pg_tup c.calm (pgs_cons (pg_name c.nd rfl (by first | exact Or.inl rfl | exact Or.inr rfl)) (pgs_cons (pg_name c.nd rfl (by first | exact Or.inl rfl | exact Or.inr rfl)) pgs_nil))) (i_any c x_var) (st_cons (w_sto c (pv 2) x_var (x_call c (q_fn e (f := 170) (i := 47) rfl rfl rfl bn170_2) (a_cons x_var (a_cons x_var a_nil))))
  st_nil))
  (st_cons (w_ret x_var)
  st_nil)))
theorem b167 (e : GQ tab fx gk cn P w G.K mg base k G cal) : BodyOk G P w G.K mg base n167 d167.io "Form.value" (defScope s167) fa (defBody s167) k cal L d167.body := fun cdv A outer s H E C hG hfx c hp => by
  subst hG
  exact (st_cons (w_set c (nf hfx) (q_fld c e (cl := 46) rfl (ic := 15) rfl (i := 48) rfl x_var))
  (st_cons (w_fr c hp gp_name (nfs hfx) (pg_name c.nd rfl (by first | exact Or.inl rfl | exact Or.inr rfl)) (i_any c (q_fld c e (cl := 46) rfl (ic := 15) rfl (i := 49) rfl x_var)) (st_cons (w_ife (y_cmp (c_notin c) x_var x_var) (st_cons st_nev
  st_nil) st_nil)
  (st_cons (w_augAdd c (nf hfx) (x_bin b_mul (x_idx c (q_fld c e (cl := 46) rfl (ic := 15) rfl (i := 49) rfl x_var) x_var) (x_idx c x_var x_var)))
  st_nil)))
  (st_cons (w_ret x_var)
  st_nil)))
theorem b145 (e : GQ tab fx gk cn P w G.K mg base k G cal) : BodyOk G P w G.K mg base n145 d145.io "Form.names" (defScope s145) fa (defBody s145) k cal L d145.body := fun cdv A outer s H E C hG hfx c hp => by
  subst hG
  exact (st_cons (w_ret (x_toList c (q_fr e 9 rfl) (q_fld c e (cl := 46) rfl (ic := 15) rfl (i := 49) rfl x_var)))
  st_nil)
theorem b142 (e : GQ tab fx gk cn P w G.K mg base k G cal) : BodyOk G P w G.K mg base n142 d142.io "Form.__eq__" (defScope s142) fa (defBody s142) k cal L d142.body := fun cdv A outer s H E C hG hfx c hp => by
  subst hG
  exact (st_cons (w_ife (y_not (y_val (q_isc c e (cl := 46) rfl (ig := 19) rfl (ib := 7) rfl ki46_ x_var))) (st_cons (w_ret x_bl)
  st_nil) st_nil)
  (st_cons (w_ret (x_and (x_cmp (c_eq c) (q_fld c e (cl := 46) rfl (ic := 15) rfl (i := 48) rfl x_var) (q_fld c e (cl := 46) rfl (ic := 15) rfl (i := 48) rfl x_var)) (x_one (x_cmp (c_eq c) (q_fld c e (cl := 46) rfl (ic := 15) rfl (i := 49) rfl x_var) (q_fld c e (cl := 46) rfl (ic := 15) rfl (i := 49) rfl x_var)))))
  st_nil))
theorem b147 (e : GQ tab fx gk cn P w G.K mg base k G cal) : BodyOk G P w G.K mg base n147 d147.io "Form.of" (defScope s147) fa (defBody s147) k cal L d147.body := fun cdv A outer s H E C hG hfx c hp => by
  subst hG
  exact (st_cons (w_ife (y_not (y_val (x_call c (q_fn e (f := 19) (i := 52) rfl rfl rfl bn19_1) (a_cons x_var a_nil)))) (st_cons st_nev
  st_nil) st_nil)
  (st_cons (w_set c (nf hfx) x_dic0)
  (st_cons (w_fr c hp (gp_tup rfl (gps_cons gp_name (gps_cons gp_name gps_nil))) (nfs hfx) (pg_tup c.calm (pgs_cons (pg_name c.nd rfl (by first | exact Or.inl rfl | exact Or.inr rfl)) (pgs_cons (pg_name c.nd rfl (by first | exact Or.inl rfl | exact Or.inr rfl)) pgs_nil))) (i_enum c (q_fr e 53 rfl) x_var) (st_cons (w_ife (PW.pt (z_or (y_not (y_val (x_isi1 c .tuple (q_fr e 7 rfl) (x_cls .tuple (by rfl) (q_fr e 43 rfl) rfl) x_var))) (z_or (y_cmp (c_ne c) (x_len c (q_fr e 3 rfl) x_var) x_int) (z_or (y_not (y_val (x_call c (q_fn e (f := 150) (i := 54) rfl rfl rfl bn150_1) (a_cons (x_idx c x_var x_int) a_nil)))) (z_or1 (y_not (y_val (x_call c (q_fn e (f := 22) (i := 55) rfl rfl rfl bn22_1) (a_cons (x_idx c x_var x_int) a_nil))))))))) (st_cons st_nev
  st_nil) st_nil)
  (st_cons (w_sto c (pv 2) (x_idx c x_var x_int) (x_bin b_add (x_dgt c x_var (x_idx c x_var x_int) x_int) (x_idx c x_var x_int)))
  st_nil)))
  (st_cons (w_ife (y_not (y_val (x_call c (q_fn e (f := 22) (i := 55) rfl rfl rfl bn22_1) (a_cons x_var a_nil)))) (st_cons st_nev
  st_nil) st_nil)
  (st_cons (w_ret (x_call c (q_fn e (f := 151) (i := 56) rfl rfl rfl bn151_2) (a_cons x_var (a_cons x_var a_nil))))
  st_nil)))))
theorem b168 (e : GQ tab fx gk cn P w G.K mg base k G cal) : BodyOk G P w G.K mg base n168 d168.io "Loop.__init__" (defScope s168) fa (defBody s168) k cal L d168.body := fun cdv A outer s H E C hG hfx c hp => by
  subst hG
  exact (st_cons (w_ife (PW.pt (z_or (y_not (y_val (x_call c (q_fn e (f := 19) (i := 52) rfl rfl rfl bn19_1) (a_cons x_var a_nil)))) (z_or1 (y_not (y_chain (c_le c) (c_le c) x_int (x_len c (q_fr e 3 rfl) x_var) (x_glob (q_glob e 0 rfl))))))) (st_cons st_nev
  st_nil) st_nil)
  (st_cons (w_fr c hp (gp_tup rfl (gps_cons gp_name (gps_cons gp_name gps_nil))) (nfs hfx) (pg_tup c.calm (pgs_cons (pg_name c.nd rfl (by first | exact Or.inl rfl | exact Or.inr rfl)) (pgs_cons (pg_name c.nd rfl (by first | exact Or.inl rfl | exact Or.inr rfl)) pgs_nil))) (i_enum c (q_fr e 53 rfl) x_var) (st_cons (w_ife (y_not (y_val (x_call c (q_fn e (f := 171) (i := 57) rfl rfl rfl bn171_1) (a_cons x_var a_nil)))) (st_cons st_nev
  st_nil) st_nil)
  st_nil))
  (st_cons (w_set c (nf hfx) (x_comp c (gp_tup rfl (gps_cons gp_name (gps_cons gp_name gps_nil))) (blkOk_by (own := [("name", 6), ("number", 7)]) (by rfl)) (i_any c x_var) (fun _ _ _ _ _ => (pg_tup c.calm (pgs_cons (pg_name c.nd rfl (by first | exact Or.inl rfl | exact Or.inr rfl)) (pgs_cons (pg_name c.nd rfl (by first | exact Or.inl rfl | exact Or.inr rfl)) pgs_nil)))) (fun _ _ _ _ _ c1 => f_nil) (fun _ _ _ _ _ c1 => x_var)))
  (st_cons (w_fr c hp (gp_tup rfl (gps_cons gp_name (gps_cons gp_name gps_nil))) (nfs hfx) (pg_tup c.calm (pgs_cons (pg_name c.nd rfl (by first | exact Or.inl rfl | exact Or.inr rfl)) (pgs_cons (pg_name c.nd rfl (by first | exact Or.inl rfl | exact Or.inr rfl)) pgs_nil))) (i_enum c (q_fr e 53 rfl) x_var) (st_cons (w_ife (y_cmp (c_in c) x_var (x_slHi c x_var x_var)) (st_cons st_nev
  st_nil) st_nil)
  st_nil))
  (st_cons (w_ife (y_not (y_chain (c_le c) (c_le c) x_int (x_len c (q_fr e 3 rfl) x_var) (x_glob (q_glob e 1 rfl)))) (st_cons st_nev
  st_nil) st_nil)
  (st_cons (w_fr c hp (gp_tup rfl (gps_cons gp_name (gps_cons gp_name gps_nil))) (nfs hfx) (pg_tup c.calm (pgs_cons (pg_name c.nd rfl (by first | exact Or.inl rfl | exact Or.inr rfl)) (pgs_cons (pg_name c.nd rfl (by first | exact Or.inl rfl | exact Or.inr rfl)) pgs_nil))) (i_enum c (q_fr e 53 rfl) x_var) (st_cons (w_ife (PW.pt (z_or (y_not (y_val (x_call c (q_fn e (f := 19) (i := 52) rfl rfl rfl bn19_1) (a_cons x_var a_nil)))) (z_or (y_cmp (c_gt c) (x_len c (q_fr e 3 rfl) x_var) (x_glob (q_glob e 2 rfl))) (z_or1 (y_not (y_val (x_all c (q_fr e 18 rfl) (x_comp c gp_name (blkOk_by (own := [("deed", 9)]) (by rfl)) (i_any c x_var) (fun _ _ _ _ _ => (pg_name c.nd rfl (by first | exact Or.inl rfl | exact Or.inr rfl))) (fun _ _ _ _ _ c1 => f_nil) (fun _ _ _ _ _ c1 => (x_call c1 (q_fn e (f := 172) (i := 58) rfl rfl rfl bn172_2) (a_cons x_var (a_cons x_var a_nil)))))))))))) (st_cons st_nev
  st_nil) st_nil)
  st_nil))
  (st_cons (q_stf c e (cl := 16) rfl (ic := 5) rfl (i := 35) rfl (pv 0) (x_dcm c (gp_tup rfl (gps_cons gp_name (gps_cons gp_name gps_nil))) (blkOk_by (own := [("name", 6), ("number", 7)]) (by rfl)) (i_any c x_var) (fun _ _ _ _ _ => (pg_tup c.calm (pgs_cons (pg_name c.nd rfl (by first | exact Or.inl rfl | exact Or.inr rfl)) (pgs_cons (pg_name c.nd rfl (by first | exact Or.inl rfl | exact Or.inr rfl)) pgs_nil)))) (fun _ _ _ _ _ c1 => f_nil) (fun _ _ _ _ _ c1 => x_var) (fun _ _ _ _ _ c1 => x_var)))
  (st_cons (q_stf c e (cl := 16) rfl (ic := 5) rfl (i := 33) rfl (pv 0) (x_comp c gp_name (blkOk_by (own := [("phase", 8)]) (by rfl)) (i_any c x_var) (fun _ _ _ _ _ => (pg_name c.nd rfl (by first | exact Or.inl rfl | exact Or.inr rfl))) (fun _ _ _ _ _ c1 => f_nil) (fun _ _ _ _ _ c1 => (x_toList c1 (q_fr e 9 rfl) x_var))))
  st_nil))))))))
theorem b154 (e : GQ tab fx gk cn P w G.K mg base k G cal) : BodyOk G P w G.K mg base n154 d154.io "Form.__init__" (defScope s154) fa (defBody s154) k cal L d154.body := fun cdv A outer s H E C hG hfx c hp => by
  subst hG
  exact (st_cons (w_ife (y_not (y_val (x_call c (q_fn e (f := 22) (i := 55) rfl rfl rfl bn22_1) (a_cons x_var a_nil)))) (st_cons st_nev
  st_nil) st_nil)
  (st_cons (w_fr c hp gp_name (nfs hfx) (pg_name c.nd rfl (by first | exact Or.inl rfl | exact Or.inr rfl)) (i_any c (x_toList c (q_fr e 9 rfl) x_var)) (st_cons (w_ife (y_not (y_val (x_call c (q_fn e (f := 150) (i := 54) rfl rfl rfl bn150_1) (a_cons x_var a_nil)))) (st_cons st_nev
  st_nil) st_nil)
  st_nil))
  (st_cons (w_fr c hp gp_name (nfs hfx) (pg_name c.nd rfl (by first | exact Or.inl rfl | exact Or.inr rfl)) (i_any c (x_toList c (q_fr e 9 rfl) x_var)) (st_cons (w_ife (y_not (y_val (x_call c (q_fn e (f := 22) (i := 55) rfl rfl rfl bn22_1) (a_cons (x_idx c x_var x_var) a_nil)))) (st_cons st_nev
  st_nil) st_nil)
  st_nil))
  (st_cons (q_stf c e (cl := 46) rfl (ic := 15) rfl (i := 48) rfl (pv 0) x_var)
  (st_cons (q_stf c e (cl := 46) rfl (ic := 15) rfl (i := 49) rfl (pv 0) (x_call c (q_fn e (f := 153) (i := 59) rfl rfl rfl bn153_1) (a_cons x_var a_nil)))
  st_nil)))))
theorem b140 (e : GQ tab fx gk cn P w G.K mg base k G cal) : BodyOk G P w G.K mg base n140 d140.io "Form.text" (defScope s140) fa (defBody s140) k cal L d140.body := fun cdv A outer s H E C hG hfx c hp => by
  subst hG
  exact (st_cons (w_setc c (nf hfx) gp_name (blkOk_by (own := [("name", 2)]) (by rfl)) (i_any c (q_fld c e (cl := 46) rfl (ic := 15) rfl (i := 49) rfl x_var)) (fun _ _ _ _ _ => (pg_name c.nd rfl (by first | exact Or.inl rfl | exact Or.inr rfl))) (fun _ _ _ _ _ c1 => f_nil) (fun _ _ _ _ _ c1 => (x_tup (a_cons (x_idx c1 (q_fld c1 e (cl := 46) rfl (ic := 15) rfl (i := 49) rfl x_var) x_var) (a_cons x_var a_nil)))))
  (st_cons (w_ife (PW.pt (z_or (y_cmp (c_ne c) (q_fld c e (cl := 46) rfl (ic := 15) rfl (i := 48) rfl x_var) x_int) (z_or1 (y_cmp (c_eq c) x_var (x_lst a_nil))))) (st_cons (w_app c (x_tup (a_cons (q_fld c e (cl := 46) rfl (ic := 15) rfl (i := 48) rfl x_var) (a_cons x_str a_nil))) (pv 1))
  st_nil) st_nil)
  (st_cons (w_set c (nf hfx) (x_ite (y_cmp (c_lt c) (x_idx c (x_idx c x_var x_int) x_int) x_int) x_str x_str))
  (st_cons (w_setc c (nf hfx) (gp_tup rfl (gps_cons gp_name (gps_cons gp_name gps_nil))) (blkOk_by (own := [("number", 5), ("name", 2)]) (by rfl)) (i_any c (x_slLo c x_var x_int)) (fun _ _ _ _ _ => (pg_tup c.calm (pgs_cons (pg_name c.nd rfl (by first | exact Or.inl rfl | exact Or.inr rfl)) (pgs_cons (pg_name c.nd rfl (by first | exact Or.inl rfl | exact Or.inr rfl)) pgs_nil)))) (fun _ _ _ _ _ c1 => f_nil) (fun _ _ _ _ _ c1 => (x_fst (j_cons (j_txt (by decide)) (j_cons (j_fmt (x_ite (y_cmp (c_lt c1) x_var x_int) x_str x_str)) (j_cons (j_txt (by decide)) (j_cons (j_fmt (x_call c1 (q_fn e (f := 148) (i := 61) rfl rfl rfl bn148_2) (a_cons (x_abs c1 (q_fr e 60 rfl) x_var) (a_cons x_var a_nil)))) j_nil)))))))
  (st_cons (w_ret (x_join c x_str (x_lsx (ax_cons x_var (ax_cons (x_call c (q_fn e (f := 148) (i := 61) rfl rfl rfl bn148_2) (a_cons (x_abs c (q_fr e 60 rfl) (x_idx c (x_idx c x_var x_int) x_int)) (a_cons (x_idx c (x_idx c x_var x_int) x_int) a_nil))) (ax_star c x_var ax_nil))))))
  st_nil)))))
theorem b50 (e : GQ tab fx gk cn P w G.K mg base k G cal) : BodyOk G P w G.K mg base n50 d50.io "_law_names" (defScope s50) fa (defBody s50) k cal L d50.body := fun cdv A outer s H E C hG hfx c hp => by
  subst hG
  exact (st_cons (w_parfN c ⟨nf hfx, nf hfx⟩ x_str (x_lst a_nil) (pg_name c.nd rfl (by first | exact Or.inl rfl | exact Or.inr rfl)) (pg_name c.nd rfl (by first | exact Or.inl rfl | exact Or.inr rfl)))
  (st_cons (w_fr c hp gp_name (nfs hfx) (pg_name c.nd rfl (by first | exact Or.inl rfl | exact Or.inr rfl)) (i_rng1 c (q_fr e 4 rfl) x_var) (st_cons (w_set c (nf hfx) (x_join c x_str (x_comp c gp_name (blkOk_by (own := [("_law_j", 6)]) (by rfl)) (i_rng1 c (q_fr e 4 rfl) (x_bin b_add x_int (x_call c (q_fn e (f := 15) (i := 29) rfl rfl rfl bn15_2) (a_cons x_var (a_cons (x_call c (q_fn e (f := 17) (i := 13) rfl rfl rfl bn17_2) (a_cons x_var (a_cons (x_lst (a_cons x_int (a_cons x_int (a_cons x_int a_nil)))) a_nil))) a_nil))))) (fun _ _ _ _ _ => (pg_name c.nd rfl (by first | exact Or.inl rfl | exact Or.inr rfl))) (fun _ _ _ _ _ c1 => f_nil) (fun _ _ _ _ _ c1 => (x_call c1 (q_fn e (f := 17) (i := 13) rfl rfl rfl bn17_2) (a_cons x_var (a_cons x_var a_nil)))))))
  (st_cons (w_set c (nf hfx) (x_bin b_add (x_lst (a_cons x_var a_nil)) (x_comp c gp_name (blkOk_by (own := [("_law_letter", 8)]) (by rfl)) (i_any c x_var) (fun _ _ _ _ _ => (pg_name c.nd rfl (by first | exact Or.inl rfl | exact Or.inr rfl))) (fun _ _ _ _ _ c1 => f_nil) (fun _ _ _ _ _ c1 => (x_bin b_add (x_slHi c1 x_var x_int) x_var)))))
  (st_cons (w_app c (x_idx c (x_comp c gp_name (blkOk_by (own := [("_law_one", 9)]) (by rfl)) (i_any c x_var) (fun _ _ _ _ _ => (pg_name c.nd rfl (by first | exact Or.inl rfl | exact Or.inr rfl))) (fun _ _ _ _ _ c1 => (f_one (PW.pt (z_and (y_cmp (c_notin c1) x_var x_var) (z_and1 (y_cmp (c_notin c1) x_var (x_call0 c1 (q_fn e (f := 54) (i := 62) rfl rfl rfl bn54_0)))))))) (fun _ _ _ _ _ c1 => x_var)) x_int) (pv 3))
  st_nil))))
  (st_cons (w_ret x_var)
  st_nil)))
theorem b15 (e : GQ tab fx gk cn P w G.K mg base k G cal) : BodyOk G P w G.K mg base n15 d15.io "_law_take" (defScope s15) fa (defBody s15) k cal L d15.body := fun cdv A outer s H E C hG hfx c hp => by
  subst hG
  exact (st_cons (w_sto c (pv 0) x_int (x_bin b_add (x_idx c x_var x_int) x_int))
  (st_cons (w_ife (PW.pt (z_and (y_cmp (c_eq c) (x_idx c x_var x_int) x_int) (z_and1 (y_cmp (c_lt c) (x_idx c x_var x_int) (x_len c (q_fr e 3 rfl) (x_idx c x_var x_int)))))) (st_cons (w_set c (nf hfx) (x_idx c (x_idx c x_var x_int) (x_idx c x_var x_int)))
  (st_cons (w_sto c (pv 0) x_int (x_bin b_add (x_idx c x_var x_int) x_int))
  (st_cons (w_ife (y_cmp (c_ge c) (x_abs c (q_fr e 60 rfl) x_var) (x_bin b_pow x_int x_int)) (st_cons (w_sto c (pv 0) x_int (x_abs c (q_fr e 60 rfl) x_var))
  st_nil) (st_cons (w_sto c (pv 0) x_int (x_bin b_mod (x_toInt c (q_fr e 28 rfl) (x_bin b_add (x_bin b_add (x_bin b_mul (x_idx c x_var x_int) x_int) (x_bin b_mul (x_bin b_mod (x_toInt c (q_fr e 28 rfl) x_var) x_int) x_int)) x_int)) x_int))
  st_nil))
  st_nil))) st_nil)
  (st_cons (w_ife (y_cmp (c_gt c) (x_idx c x_var x_int) x_int) (st_cons (w_set c (nf hfx) (x_bin b_mod (x_toInt c (q_fr e 28 rfl) (x_idx c x_var x_int)) x_var))
  (st_cons (w_sto c (pv 0) x_int (x_bin b_fdiv (x_idx c x_var x_int) x_var))
  (st_cons (w_ret x_var)
  st_nil))) st_nil)
  (st_cons (w_set c (nf hfx) (x_bin b_mod (x_toInt c (q_fr e 28 rfl) (x_bin b_add (x_bin b_mul (x_idx c x_var x_int) (x_idx c x_var x_int)) (x_bin b_mul (x_idx c x_var x_int) x_int))) x_int))
  (st_cons (w_sto c (pv 0) x_int (x_bin b_mod (x_toInt c (q_fr e 28 rfl) (x_bin b_add (x_bin b_add (x_bin b_mul x_var x_int) (x_bin b_mul (x_idx c x_var x_int) x_int)) x_int)) x_int))
  (st_cons (w_ret (x_bin b_mod (x_toInt c (q_fr e 28 rfl) (x_bin b_fdiv (x_idx c x_var x_int) x_int)) x_var))
  st_nil))))))
theorem b51 (e : GQ tab fx gk cn P w G.K mg base k G cal) : BodyOk G P w G.K mg base n51 d51.io "_law_some_form" (defScope s51) fa (defBody s51) k cal L d51.body := fun cdv A outer s H E C hG hfx c hp => by
  subst hG
  exact (st_cons (w_setc c (nf hfx) gp_name (blkOk_by (own := [("_law_name", 4)]) (by rfl)) (i_any c (x_sorted c (q_fr e 63 rfl) x_var)) (fun _ _ _ _ _ => (pg_name c.nd rfl (by first | exact Or.inl rfl | exact Or.inr rfl))) (fun _ _ _ _ _ c1 => (f_one (y_cmp (c_gt c1) (x_call c1 (q_fn e (f := 15) (i := 29) rfl rfl rfl bn15_2) (a_cons x_var (a_cons x_int a_nil))) x_int))) (fun _ _ _ _ _ c1 => (x_tup (a_cons x_var (a_cons (x_call c1 (q_fn e (f := 26) (i := 12) rfl rfl rfl bn26_2) (a_cons x_var (a_cons x_var a_nil))) a_nil)))))
  (st_cons (w_ret (x_tup (a_cons (x_call c (q_fn e (f := 26) (i := 12) rfl rfl rfl bn26_2) (a_cons x_var (a_cons x_var a_nil))) (a_cons (x_dict c (q_fr e 8 rfl) (x_comp c gp_name (blkOk_by (own := [("_law_pair", 5)]) (by rfl)) (i_any c x_var) (fun _ _ _ _ _ => (pg_name c.nd rfl (by first | exact Or.inl rfl | exact Or.inr rfl))) (fun _ _ _ _ _ c1 => (f_one (y_cmp (c_ne c1) (x_idx c1 x_var x_int) x_int))) (fun _ _ _ _ _ c1 => x_var))) a_nil))))
  st_nil))
theorem b52 (e : GQ tab fx gk cn P w G.K mg base k G cal) : BodyOk G P w G.K mg base n52 d52.io "_law_form" (defScope s52) fa (defBody s52) k cal L d52.body := fun cdv A outer s H E C hG hfx c hp => by
  subst hG
  exact (st_cons (w_ret (q_smeth c e (ig := 19) rfl (ic := 20) rfl (im := 21) rfl (f := 147) rfl rfl bn147_2 (a_cons (x_comp c gp_name (blkOk_by (own := [("_law_name", 1)]) (by rfl)) (i_any c (x_idx c x_var x_int)) (fun _ _ _ _ _ => (pg_name c.nd rfl (by first | exact Or.inl rfl | exact Or.inr rfl))) (fun _ _ _ _ _ c1 => f_nil) (fun _ _ _ _ _ c1 => (x_tup (a_cons x_var (a_cons (x_idx c1 (x_idx c1 x_var x_int) x_var) a_nil))))) (a_cons (x_idx c x_var x_int) a_nil))))
  st_nil)
theorem b18 (e : GQ tab fx gk cn P w G.K mg base k G cal) : BodyOk G P w G.K mg base n18 d18.io "is_number" (defScope s18) fa (defBody s18) k cal L d18.body := fun cdv A outer s H E C hG hfx c hp => by
  subst hG
  exact (st_cons (w_ret (x_and (x_call c (q_fn e (f := 22) (i := 55) rfl rfl rfl bn22_1) (a_cons x_var a_nil)) (x_one (x_chain (c_le c) (c_le c) x_var x_var x_var))))
  st_nil)
theorem b169 (e : GQ tab fx gk cn P w G.K mg base k G cal) : BodyOk G P w G.K mg base n169 d169.io "Loop.unit" (defScope s169) fa (defBody s169) k cal L d169.body := fun cdv A outer s H E C hG hfx c hp => by
  subst hG
  exact (st_cons (w_ret (q_smethD c e (ig := 19) rfl (ic := 20) rfl (im := 21) rfl (f := 147) rfl rfl bn147_1 (a_cons (x_lst (a_cons (x_tup (a_cons x_var (a_cons x_int a_nil))) a_nil)) a_nil)))
  st_nil)
theorem b144 (e : GQ tab fx gk cn P w G.K mg base k G cal) : BodyOk G P w G.K mg base n144 d144.io "Form.constant" (defScope s144) fa (defBody s144) k cal L d144.body := fun cdv A outer s H E C hG hfx c hp => by
  subst hG
  exact (st_cons (w_ret (q_fld c e (cl := 46) rfl (ic := 15) rfl (i := 48) rfl x_var))
  st_nil)
theorem b156 (e : GQ tab fx gk cn P w G.K mg base k G cal) : BodyOk G P w G.K mg base n156 d156.io "Form.__getitem__" (defScope s156) fa (defBody s156) k cal L d156.body := fun cdv A outer s H E C hG hfx c hp => by
  subst hG
  exact (st_cons (w_ife (y_not (y_val (x_call c (q_fn e (f := 150) (i := 54) rfl rfl rfl bn150_1) (a_cons x_var a_nil)))) (st_cons st_nev
  st_nil) st_nil)
  (st_cons (w_ret (x_dgt c (q_fld c e (cl := 46) rfl (ic := 15) rfl (i := 49) rfl x_var) x_var x_int))
  st_nil))
theorem b163 (e : GQ tab fx gk cn P w G.K mg base k G cal) : BodyOk G P w G.K mg base n163 d163.io "Form.__mul__" (defScope s163) fa (defBody s163) k cal L d163.body := fun cdv A outer s H E C hG hfx c hp => by
  subst hG
  exact (st_cons (w_ret (x_call c (q_fn e (f := 151) (i := 56) rfl rfl rfl bn151_2) (a_cons (x_bin b_mul (q_fld c e (cl := 46) rfl (ic := 15) rfl (i := 48) rfl x_var) x_var) (a_cons (x_dcm c gp_name (blkOk_by (own := [("name", 2)]) (by rfl)) (i_any c (q_fld c e (cl := 46) rfl (ic := 15) rfl (i := 49) rfl x_var)) (fun _ _ _ _ _ => (pg_name c.nd rfl (by first | exact Or.inl rfl | exact Or.inr rfl))) (fun _ _ _ _ _ c1 => f_nil) (fun _ _ _ _ _ c1 => x_var) (fun _ _ _ _ _ c1 => (x_bin b_mul (x_idx c1 (q_fld c1 e (cl := 46) rfl (ic := 15) rfl (i := 49) rfl x_var) x_var) x_var))) a_nil))))
  st_nil)
theorem b160 (e : GQ tab fx gk cn P w G.K mg base k G cal) : BodyOk G P w G.K mg base n160 d160.io "Form.__add__" (defScope s160) fa (defBody s160) k cal L d160.body := fun cdv A outer s H E C hG hfx c hp => by
  subst hG
  exact (st_cons (w_set c (nf hfx) (x_dict c (q_fr e 8 rfl) (q_fld c e (cl := 46) rfl (ic := 15) rfl (i := 49) rfl x_var)))
  (st_cons (w_fr c hp gp_name (nfs hfx) (pg_name c.nd rfl (by first | exact Or.inl rfl | exact Or.inr rfl)) (i_any c (q_fld c e (cl := 46) rfl (ic := 15) rfl (i := 49) rfl x_var)) (st_cons (w_sto c (pv 2) x_var (x_bin b_add (x_dgt c x_var x_var x_int) (x_idx c (q_fld c e (cl := 46) rfl (ic := 15) rfl (i := 49) rfl x_var) x_var)))
  st_nil))
  (st_cons (w_ret (x_call c (q_fn e (f := 151) (i := 56) rfl rfl rfl bn151_2) (a_cons (x_bin b_add (q_fld c e (cl := 46) rfl (ic := 15) rfl (i := 48) rfl x_var) (q_fld c e (cl := 46) rfl (ic := 15) rfl (i := 48) rfl x_var)) (a_cons x_var a_nil))))
  st_nil)))
theorem b170 (e : GQ tab fx gk cn P w G.K mg base k G cal) : BodyOk G P w G.K mg base n170 d170.io "_law_value" (defScope s170) fa (defBody s170) k cal L d170.body := fun cdv A outer s H E C hG hfx c hp => by
  subst hG
  exact (st_cons (w_ret (x_bin b_add (x_idx c x_var x_int) (x_sum c (q_fr e 64 rfl) (x_comp c gp_name (blkOk_by (own := [("_law_name", 2)]) (by rfl)) (i_any c (x_idx c x_var x_int)) (fun _ _ _ _ _ => (pg_name c.nd rfl (by first | exact Or.inl rfl | exact Or.inr rfl))) (fun _ _ _ _ _ c1 => f_nil) (fun _ _ _ _ _ c1 => (x_bin b_mul (x_idx c1 (x_idx c1 x_var x_int) x_var) (x_idx c1 x_var x_var)))))))
  st_nil)
theorem b19 (e : GQ tab fx gk cn P w G.K mg base k G cal) : BodyOk G P w G.K mg base n19 d19.io "is_list" (defScope s19) fa (defBody s19) k cal L d19.body := fun cdv A outer s H E C hG hfx c hp => by
  subst hG
  exact (st_cons (w_ret (x_isi2 c .list .tuple (q_fr e 7 rfl) (x_cls .list (by rfl) (q_fr e 9 rfl) rfl) (x_cls .tuple (by rfl) (q_fr e 43 rfl) rfl) x_var))
  st_nil)
theorem b150 (e : GQ tab fx gk cn P w G.K mg base k G cal) : BodyOk G P w G.K mg base n150 d150.io "is_name" (defScope s150) fa (defBody s150) k cal L d150.body := fun cdv A outer s H E C hG hfx c hp => by
  subst hG
  exact (st_cons (w_ife (PW.pt (z_or (y_not (y_val (x_isi1 c .str (q_fr e 7 rfl) (x_cls .str (by rfl) (q_fr e 46 rfl) rfl) x_var))) (z_or (y_not (y_chain (c_le c) (c_le c) x_int (x_len c (q_fr e 3 rfl) x_var) (x_glob (q_glob e 3 rfl)))) (z_or1 (y_cmp (c_in c) x_var (x_glob (q_glob e 4 rfl))))))) (st_cons (w_ret x_bl)
  st_nil) st_nil)
  (st_cons (w_ret (x_all c (q_fr e 18 rfl) (x_comp c gp_name (blkOk_by (own := [("letter", 1)]) (by rfl)) (i_any c x_var) (fun _ _ _ _ _ => (pg_name c.nd rfl (by first | exact Or.inl rfl | exact Or.inr rfl))) (fun _ _ _ _ _ c1 => f_nil) (fun _ _ _ _ _ c1 => (x_cmp (c_in c1) x_var (x_glob (q_glob e 5 rfl)))))))
  st_nil))
theorem b22 (e : GQ tab fx gk cn P w G.K mg base k G cal) : BodyOk G P w G.K mg base n22 d22.io "is_whole" (defScope s22) fa (defBody s22) k cal L d22.body := fun cdv A outer s H E C hG hfx c hp => by
  subst hG
  exact (st_cons (w_ret (x_and (x_isi1 c .int (q_fr e 7 rfl) (x_cls .int (by rfl) (q_fr e 28 rfl) rfl) x_var) (x_one (x_not (x_isi1 c .bool (q_fr e 7 rfl) (x_cls .bool (by rfl) (q_fr e 45 rfl) rfl) x_var)))))
  st_nil)
theorem b151 (e : GQ tab fx gk cn P w G.K mg base k G cal) : BodyOk G P w G.K mg base n151 d151.io "form_of" (defScope s151) fa (defBody s151) k cal L d151.body := fun cdv A outer s H E C hG hfx c hp => by
  subst hG
  exact (st_cons (w_set c (nf hfx) (x_call c (q_fn e (f := 153) (i := 59) rfl rfl rfl bn153_1) (a_cons x_var a_nil)))
  (st_cons (w_ret (q_mkW c e (i := 2) (N := (["self", "constant"] : List PySem.Str)) (y0 := ("factors" : PySem.Str)) (cl := 46) rfl (ig := 19) rfl (im := 26) rfl (f := 154) rfl rfl rfl kd154 rfl (a_cons x_var a_nil) rfl (by first | exact Or.inl rfl | exact Or.inr rfl)))
  st_nil))
theorem b171 (e : GQ tab fx gk cn P w G.K mg base k G cal) : BodyOk G P w G.K mg base n171 d171.io "is_start" (defScope s171) fa (defBody s171) k cal L d171.body := fun cdv A outer s H E C hG hfx c hp => by
  subst hG
  exact (st_cons (w_ife (PW.pt (z_or (y_not (y_val (x_isi1 c .tuple (q_fr e 7 rfl) (x_cls .tuple (by rfl) (q_fr e 43 rfl) rfl) x_var))) (z_or1 (y_cmp (c_ne c) (x_len c (q_fr e 3 rfl) x_var) x_int)))) (st_cons (w_ret x_bl)
  st_nil) st_nil)
  (st_cons (w_ret (x_and (x_call c (q_fn e (f := 150) (i := 54) rfl rfl rfl bn150_1) (a_cons (x_idx c x_var x_int) a_nil)) (x_one (x_call c (q_fn e (f := 18) (i := 34) rfl rfl rfl bn18_3) (a_cons (x_idx c x_var x_int) (a_cons (x_neg (x_glob (q_glob e 6 rfl))) (a_cons (x_glob (q_glob e 6 rfl)) a_nil)))))))
  st_nil))
theorem b172 (e : GQ tab fx gk cn P w G.K mg base k G cal) : BodyOk G P w G.K mg base n172 d172.io "is_deed" (defScope s172) fa (defBody s172) k cal L d172.body := fun cdv A outer s H E C hG hfx c hp => by
  subst hG
  exact (st_cons (w_ife (PW.pt (z_or (y_not (y_val (x_isi1 c .tuple (q_fr e 7 rfl) (x_cls .tuple (by rfl) (q_fr e 43 rfl) rfl) x_var))) (z_or (y_cmp (c_ne c) (x_len c (q_fr e 3 rfl) x_var) x_int) (z_or (y_not (y_val (x_call c (q_fn e (f := 150) (i := 54) rfl rfl rfl bn150_1) (a_cons (x_idx c x_var x_int) a_nil)))) (z_or1 (y_not (y_val (q_isc c e (cl := 46) rfl (ig := 19) rfl (ib := 7) rfl ki46_16_48 (x_idx c x_var x_int))))))))) (st_cons (w_ret x_bl)
  st_nil) st_nil)
  (st_cons (w_set c (nf hfx) (x_idx c x_var x_int))
  (st_cons (w_ife (PW.pt (z_or (y_cmp (c_notin c) (x_idx c x_var x_int) x_var) (z_or1 (y_not (y_val (x_call c (q_fn e (f := 18) (i := 34) rfl rfl rfl bn18_3) (a_cons (q_prop c e (cl := 46) rfl (ic := 15) rfl (i := 37) rfl (f := 144) rfl rfl bn144_1 x_var) (a_cons (x_neg (x_glob (q_glob e 6 rfl))) (a_cons (x_glob (q_glob e 6 rfl)) a_nil))))))))) (st_cons (w_ret x_bl)
  st_nil) st_nil)
  (st_cons (w_ret (x_all c (q_fr e 18 rfl) (x_comp c gp_name (blkOk_by (own := [("name", 3)]) (by rfl)) (i_any c (q_meth0 c e (cl := 46) rfl (ic := 15) rfl (im := 17) rfl (f := 145) rfl rfl bn145_1 x_var)) (fun _ _ _ _ _ => (pg_name c.nd rfl (by first | exact Or.inl rfl | exact Or.inr rfl))) (fun _ _ _ _ _ c1 => f_nil) (fun _ _ _ _ _ c1 => (x_and (x_cmp (c_in c1) x_var x_var) (x_one (x_call c1 (q_fn e (f := 18) (i := 34) rfl rfl rfl bn18_3) (a_cons (q_gti c1 e (cl := 46) rfl (im := 38) rfl (f := 156) rfl rfl bn156_2 x_var x_var) (a_cons (x_neg (x_glob (q_glob e 7 rfl))) (a_cons (x_glob (q_glob e 7 rfl)) a_nil))))))))))
  st_nil))))
theorem b153 (e : GQ tab fx gk cn P w G.K mg base k G cal) : BodyOk G P w G.K mg base n153 d153.io "kept_factors" (defScope s153) fa (defBody s153) k cal L d153.body := fun cdv A outer s H E C hG hfx c hp => by
  subst hG
  exact (st_cons (w_ret (x_dcm c gp_name (blkOk_by (own := [("name", 1)]) (by rfl)) (i_any c (x_sorted c (q_fr e 63 rfl) (x_toList c (q_fr e 9 rfl) x_var))) (fun _ _ _ _ _ => (pg_name c.nd rfl (by first | exact Or.inl rfl | exact Or.inr rfl))) (fun _ _ _ _ _ c1 => (f_one (y_cmp (c_ne c1) (x_idx c1 x_var x_var) x_int))) (fun _ _ _ _ _ c1 => x_var) (fun _ _ _ _ _ c1 => (x_idx c1 x_var x_var))))
  st_nil)
theorem b148 (e : GQ tab fx gk cn P w G.K mg base k G cal) : BodyOk G P w G.K mg base n148 d148.io "term_text" (defScope s148) fa (defBody s148) k cal L d148.body := fun cdv A outer s H E C hG hfx c hp => by
  subst hG
  exact (st_cons (w_ife (y_cmp (c_eq c) x_var x_str) (st_cons (w_ret (x_toStr c (q_fr e 46 rfl) x_var))
  st_nil) st_nil)
  (st_cons (w_ret (x_ite (y_cmp (c_eq c) x_var x_int) x_var (x_fst (j_cons (j_fmt x_var) (j_cons (j_txt (by decide)) (j_cons (j_fmt x_var) j_nil))))))
  st_nil))
theorem b54 (e : GQ tab fx gk cn P w G.K mg base k G cal) : BodyOk G P w G.K mg base n54 d54.io "_law_kept" (defScope s54) fa (defBody s54) k cal L d54.body := fun cdv A outer s H E C hG hfx c hp => by
  subst hG
  exact (st_cons (w_ret (x_lst (a_cons x_str (a_cons x_str (a_cons x_str (a_cons x_str (a_cons x_str (a_cons x_str (a_cons x_str (a_cons x_str (a_cons x_str (a_cons x_str (a_cons x_str a_nil)))))))))))))
  st_nil)
end
theorem sc56 : FnScope n56 p56 (defScope s56) := ⟨rfl, rfl, rfl, by decide +kernel, rfl, by decide +kernel, by decide +kernel⟩
theorem sc2 : FnScope n2 p2 (defScope s2) := ⟨rfl, rfl, rfl, by decide +kernel, rfl, by decide +kernel, by decide +kernel⟩
theorem sc57 : FnScope n57 p57 (defScope s57) := ⟨rfl, rfl, rfl, by decide +kernel, rfl, by decide +kernel, by decide +kernel⟩
theorem sc58 : FnScope n58 p58 (defScope s58) := ⟨rfl, rfl, rfl, by decide +kernel, rfl, by decide +kernel, by decide +kernel⟩
theorem sc165 : FnScope n165 p165 (defScope s165) := ⟨rfl, rfl, rfl, by decide +kernel, rfl, by decide +kernel, by decide +kernel⟩
theorem sc13 : FnScope n13 p13 (defScope s13) := ⟨rfl, rfl, rfl, by decide +kernel, rfl, by decide +kernel, by decide +kernel⟩
theorem sc166 : FnScope n166 p166 (defScope s166) := ⟨rfl, rfl, rfl, by decide +kernel, rfl, by decide +kernel, by decide +kernel⟩
theorem sc17 : FnScope n17 p17 (defScope s17) := ⟨rfl, rfl, rfl, by decide +kernel, rfl, by decide +kernel, by decide +kernel⟩
theorem sc26 : FnScope n26 p26 (defScope s26) := ⟨rfl, rfl, rfl, by decide +kernel, rfl, by decide +kernel, by decide +kernel⟩
theorem sc139 : FnScope n139 p139 (defScope s139) := ⟨rfl, rfl, rfl, by decide +kernel, rfl, by decide +kernel, by decide +kernel⟩
theorem sc167 : FnScope n167 p167 (defScope s167) := ⟨rfl, rfl, rfl, by decide +kernel, rfl, by decide +kernel, by decide +kernel⟩
theorem sc145 : FnScope n145 p145 (defScope s145) := ⟨rfl, rfl, rfl, by decide +kernel, rfl, by decide +kernel, by decide +kernel⟩
theorem sc142 : FnScope n142 p142 (defScope s142) := ⟨rfl, rfl, rfl, by decide +kernel, rfl, by decide +kernel, by decide +kernel⟩
theorem sc147 : FnScope n147 p147 (defScope s147) := ⟨rfl, rfl, rfl, by decide +kernel, rfl, by decide +kernel, by decide +kernel⟩
theorem sc168 : FnScope n168 p168 (defScope s168) := ⟨rfl, rfl, rfl, by decide +kernel, rfl, by decide +kernel, by decide +kernel⟩
theorem sc154 : FnScope n154 p154 (defScope s154) := ⟨rfl, rfl, rfl, by decide +kernel, rfl, by decide +kernel, by decide +kernel⟩
theorem sc140 : FnScope n140 p140 (defScope s140) := ⟨rfl, rfl, rfl, by decide +kernel, rfl, by decide +kernel, by decide +kernel⟩
theorem sc50 : FnScope n50 p50 (defScope s50) := ⟨rfl, rfl, rfl, by decide +kernel, rfl, by decide +kernel, by decide +kernel⟩
theorem sc15 : FnScope n15 p15 (defScope s15) := ⟨rfl, rfl, rfl, by decide +kernel, rfl, by decide +kernel, by decide +kernel⟩
theorem sc51 : FnScope n51 p51 (defScope s51) := ⟨rfl, rfl, rfl, by decide +kernel, rfl, by decide +kernel, by decide +kernel⟩
theorem sc52 : FnScope n52 p52 (defScope s52) := ⟨rfl, rfl, rfl, by decide +kernel, rfl, by decide +kernel, by decide +kernel⟩
theorem sc18 : FnScope n18 p18 (defScope s18) := ⟨rfl, rfl, rfl, by decide +kernel, rfl, by decide +kernel, by decide +kernel⟩
theorem sc169 : FnScope n169 p169 (defScope s169) := ⟨rfl, rfl, rfl, by decide +kernel, rfl, by decide +kernel, by decide +kernel⟩
theorem sc144 : FnScope n144 p144 (defScope s144) := ⟨rfl, rfl, rfl, by decide +kernel, rfl, by decide +kernel, by decide +kernel⟩
theorem sc156 : FnScope n156 p156 (defScope s156) := ⟨rfl, rfl, rfl, by decide +kernel, rfl, by decide +kernel, by decide +kernel⟩
theorem sc163 : FnScope n163 p163 (defScope s163) := ⟨rfl, rfl, rfl, by decide +kernel, rfl, by decide +kernel, by decide +kernel⟩
theorem sc160 : FnScope n160 p160 (defScope s160) := ⟨rfl, rfl, rfl, by decide +kernel, rfl, by decide +kernel, by decide +kernel⟩
theorem sc170 : FnScope n170 p170 (defScope s170) := ⟨rfl, rfl, rfl, by decide +kernel, rfl, by decide +kernel, by decide +kernel⟩
theorem sc19 : FnScope n19 p19 (defScope s19) := ⟨rfl, rfl, rfl, by decide +kernel, rfl, by decide +kernel, by decide +kernel⟩
theorem sc150 : FnScope n150 p150 (defScope s150) := ⟨rfl, rfl, rfl, by decide +kernel, rfl, by decide +kernel, by decide +kernel⟩
theorem sc22 : FnScope n22 p22 (defScope s22) := ⟨rfl, rfl, rfl, by decide +kernel, rfl, by decide +kernel, by decide +kernel⟩
theorem sc151 : FnScope n151 p151 (defScope s151) := ⟨rfl, rfl, rfl, by decide +kernel, rfl, by decide +kernel, by decide +kernel⟩
theorem sc171 : FnScope n171 p171 (defScope s171) := ⟨rfl, rfl, rfl, by decide +kernel, rfl, by decide +kernel, by decide +kernel⟩
theorem sc172 : FnScope n172 p172 (defScope s172) := ⟨rfl, rfl, rfl, by decide +kernel, rfl, by decide +kernel, by decide +kernel⟩
theorem sc153 : FnScope n153 p153 (defScope s153) := ⟨rfl, rfl, rfl, by decide +kernel, rfl, by decide +kernel, by decide +kernel⟩
theorem sc148 : FnScope n148 p148 (defScope s148) := ⟨rfl, rfl, rfl, by decide +kernel, rfl, by decide +kernel, by decide +kernel⟩
theorem sc54 : FnScope n54 p54 (defScope s54) := ⟨rfl, rfl, rfl, by decide +kernel, rfl, by decide +kernel, by decide +kernel⟩
inductive All {α : Type} (P : α → Prop) : List α → Prop
  | nil : All P []
  | cons {a : α} {l : List α} : P a → All P l → All P (a :: l)
theorem All.mem {α : Type} {P : α → Prop} {l : List α} (h : All P l) : ∀ a ∈ l, P a := by
  induction h with
  | nil => intro a h; cases h
  | cons x _ ih =>
    intro a h
    cases h with
    | head => exact x
    | tail _ h => exact ih a h
theorem lookup_mem {β : Type} {f : Nat} {x : β} : ∀ {l : List (Nat × β)}, l.lookup f = some x → (f, x) ∈ l
  | [], h => by cases h
  | (g, y) :: r, h => by
    rw [List.lookup_cons] at h
    cases e : f == g with
    | true => rw [e] at h; cases h; rw [beq_iff_eq.mp e]; exact List.mem_cons_self ..
    | false => rw [e] at h; exact List.mem_cons_of_mem _ (lookup_mem h)
structure Top (K : PySem.W.Frag) (mg : PySem.Str → Option Value) (G : Gm) : Prop where
  eK : G.K = K
  fd : All (fun e : Nat × (He5.DefA × List PySem.Str) => ∃ fd, FunD K e.2.1.name e.2.1.qual e.2.1.params e.2.1.body e.2.1.scope (e.2.1.dvs K) (e.2.1.kws K) (e.2.1.at_ K) fd) tabL
  fxs : ∀ (i : Nat) (f : Fx), fx[i]? = some f → f.ok K = true
  gs : ∀ (i : Nat) (x : PySem.Str) (t : T), gk[i]? = some (x, t) → ∃ u v, mg x = some u ∧ RelV v u ∧ ∀ w, RF G w t v
  glo : ∀ (i : Nat) (x : PySem.Str), fx[i]? = some (.glo x) → mg x = some (.ref (He.ga K x))
  fre : ∀ (i : Nat) (x : PySem.Str), fx[i]? = some (.free x) → mg x = none
  bf : ∀ (i : Nat) (x : PySem.Str) (id : String), fx[i]? = some (.bfun x id) → mg x = some (.builtin id)
  cn : ∀ (c : Nat) (x : PySem.Str), cn[c]? = some x → G.cls c = He.ga K x
theorem all {P : Program} {w : World} {mg : PySem.Str → Option Value} {base : Heap} {G : Gm} {L : Nat} (t : Top G.K mg G) : ∀ k, GQ tab fx gk cn P w G.K mg base k G (callF Γ L k)
  | 0 => ⟨fun f d ps h => by
      obtain ⟨fd, F⟩ := t.fd.mem _ (lookup_mem h)
      exact ⟨fd, F, fn_zeroB.imp fun _ _ _ _ h => h.2⟩, t.fxs, t.gs, t.glo, t.fre, t.bf, t.cn, t.eK⟩
  | k + 1 => by
    have ih := all (P := P) (w := w) (base := base) (L := L) t k
    refine ⟨fun f d ps h => ?_, t.fxs, t.gs, t.glo, t.fre, t.bf, t.cn, t.eK⟩
    refine (All.mem (P := fun e : Nat × (He5.DefA × List PySem.Str) => ∀ fd, FunD G.K e.2.1.name e.2.1.qual e.2.1.params e.2.1.body e.2.1.scope (e.2.1.dvs G.K) (e.2.1.kws G.K) (e.2.1.at_ G.K) fd → ∃ fd, FunD G.K e.2.1.name e.2.1.qual e.2.1.params e.2.1.body e.2.1.scope (e.2.1.dvs G.K) (e.2.1.kws G.K) (e.2.1.at_ G.K) fd ∧ FnB P w G.K mg base (L2.CX P w) (2 * (k + 1)) (e.2.1.at_ G.K) fd e.2.2 (spQ G (callF Γ L (k + 1)) e.1 e.2.1 e.2.2)) ?_ (f, (d, ps)) (lookup_mem h)) _ (t.fd.mem _ (lookup_mem h)).choose_spec
    exact .cons (fun fd F => ⟨fd, F, (Mi.fn_okB F sc56 rfl (d := d56) rfl rfl rfl rfl (by decide) (b56 ih)).imp fun _ _ _ _ h => h.2⟩) (
      .cons (fun fd F => ⟨fd, F, (Mi.fn_okB F sc2 rfl (d := d2) rfl rfl rfl rfl (by decide) (b2 ih)).imp fun _ _ _ _ h => h.2⟩) (
      .cons (fun fd F => ⟨fd, F, (Mi.fn_okB F sc57 rfl (d := d57) rfl rfl rfl rfl (by decide) (b57 ih)).imp fun _ _ _ _ h => h.2⟩) (
      .cons (fun fd F => ⟨fd, F, (Mi.fn_okB F sc58 rfl (d := d58) rfl rfl rfl rfl (by decide) (b58 ih)).imp fun _ _ _ _ h => h.2⟩) (
      .cons (fun fd F => ⟨fd, F, (Mi.fn_okB F sc165 rfl (d := d165) rfl rfl rfl rfl (by decide) (b165 ih)).imp fun _ _ _ _ h => h.2⟩) (
      .cons (fun fd F => ⟨fd, F, (Mi.fn_okB F sc13 rfl (d := d13) rfl rfl rfl rfl (by decide) (b13 ih)).imp fun _ _ _ _ h => h.2⟩) (
      .cons (fun fd F => ⟨fd, F, (Mi.fn_okB F sc166 rfl (d := d166) rfl rfl rfl rfl (by decide) (b166 ih)).imp fun _ _ _ _ h => h.2⟩) (
      .cons (fun fd F => ⟨fd, F, (Mi.fn_okB F sc17 rfl (d := d17) rfl rfl rfl rfl (by decide) (b17 ih)).imp fun _ _ _ _ h => h.2⟩) (
      .cons (fun fd F => ⟨fd, F, (Mi.fn_okB F sc26 rfl (d := d26) rfl rfl rfl rfl (by decide) (b26 ih)).imp fun _ _ _ _ h => h.2⟩) (
      .cons (fun fd F => ⟨fd, F, (Mi.fn_okB F sc139 rfl (d := d139) rfl rfl rfl rfl (by decide) (b139 ih)).imp fun _ _ _ _ h => h.2⟩) (
      .cons (fun fd F => ⟨fd, F, (Mi.fn_okB F sc167 rfl (d := d167) rfl rfl rfl rfl (by decide) (b167 ih)).imp fun _ _ _ _ h => h.2⟩) (
      .cons (fun fd F => ⟨fd, F, (Mi.fn_okB F sc145 rfl (d := d145) rfl rfl rfl rfl (by decide) (b145 ih)).imp fun _ _ _ _ h => h.2⟩) (
      .cons (fun fd F => ⟨fd, F, (Mi.fn_okB F sc142 rfl (d := d142) rfl rfl rfl rfl (by decide) (b142 ih)).imp fun _ _ _ _ h => h.2⟩) (
      .cons (fun fd F => ⟨fd, F, (Mi.fn_okB F sc147 rfl (d := d147) rfl rfl rfl rfl (by decide) (b147 ih)).imp fun _ _ _ _ h => h.2⟩) (
      .cons (fun fd F => ⟨fd, F, (Mi.fn_okB F sc168 rfl (d := d168) rfl rfl rfl rfl (by decide) (b168 ih)).imp fun _ _ _ _ h => h.2⟩) (
      .cons (fun fd F => ⟨fd, F, (Mi.fn_okB F sc154 rfl (d := d154) rfl rfl rfl rfl (by decide) (b154 ih)).imp fun _ _ _ _ h => h.2⟩) (
      .cons (fun fd F => ⟨fd, F, (Mi.fn_okB F sc140 rfl (d := d140) rfl rfl rfl rfl (by decide) (b140 ih)).imp fun _ _ _ _ h => h.2⟩) (
      .cons (fun fd F => ⟨fd, F, (Mi.fn_okB F sc50 rfl (d := d50) rfl rfl rfl rfl (by decide) (b50 ih)).imp fun _ _ _ _ h => h.2⟩) (
      .cons (fun fd F => ⟨fd, F, (Mi.fn_okB F sc15 rfl (d := d15) rfl rfl rfl rfl (by decide) (b15 ih)).imp fun _ _ _ _ h => h.2⟩) (
      .cons (fun fd F => ⟨fd, F, (Mi.fn_okB F sc51 rfl (d := d51) rfl rfl rfl rfl (by decide) (b51 ih)).imp fun _ _ _ _ h => h.2⟩) (
      .cons (fun fd F => ⟨fd, F, (Mi.fn_okB F sc52 rfl (d := d52) rfl rfl rfl rfl (by decide) (b52 ih)).imp fun _ _ _ _ h => h.2⟩) (
      .cons (fun fd F => ⟨fd, F, (Mi.fn_okB F sc18 rfl (d := d18) rfl rfl rfl rfl (by decide) (b18 ih)).imp fun _ _ _ _ h => h.2⟩) (
      .cons (fun fd F => ⟨fd, F, (Mi.fn_okB F sc169 rfl (d := d169) rfl rfl rfl rfl (by decide) (b169 ih)).imp fun _ _ _ _ h => h.2⟩) (
      .cons (fun fd F => ⟨fd, F, (Mi.fn_okB F sc144 rfl (d := d144) rfl rfl rfl rfl (by decide) (b144 ih)).imp fun _ _ _ _ h => h.2⟩) (
      .cons (fun fd F => ⟨fd, F, (Mi.fn_okB F sc156 rfl (d := d156) rfl rfl rfl rfl (by decide) (b156 ih)).imp fun _ _ _ _ h => h.2⟩) (
      .cons (fun fd F => ⟨fd, F, (Mi.fn_okB F sc163 rfl (d := d163) rfl rfl rfl rfl (by decide) (b163 ih)).imp fun _ _ _ _ h => h.2⟩) (
      .cons (fun fd F => ⟨fd, F, (Mi.fn_okB F sc160 rfl (d := d160) rfl rfl rfl rfl (by decide) (b160 ih)).imp fun _ _ _ _ h => h.2⟩) (
      .cons (fun fd F => ⟨fd, F, (Mi.fn_okB F sc170 rfl (d := d170) rfl rfl rfl rfl (by decide) (b170 ih)).imp fun _ _ _ _ h => h.2⟩) (
      .cons (fun fd F => ⟨fd, F, (Mi.fn_okB F sc19 rfl (d := d19) rfl rfl rfl rfl (by decide) (b19 ih)).imp fun _ _ _ _ h => h.2⟩) (
      .cons (fun fd F => ⟨fd, F, (Mi.fn_okB F sc150 rfl (d := d150) rfl rfl rfl rfl (by decide) (b150 ih)).imp fun _ _ _ _ h => h.2⟩) (
      .cons (fun fd F => ⟨fd, F, (Mi.fn_okB F sc22 rfl (d := d22) rfl rfl rfl rfl (by decide) (b22 ih)).imp fun _ _ _ _ h => h.2⟩) (
      .cons (fun fd F => ⟨fd, F, (Mi.fn_okB F sc151 rfl (d := d151) rfl rfl rfl rfl (by decide) (b151 ih)).imp fun _ _ _ _ h => h.2⟩) (
      .cons (fun fd F => ⟨fd, F, (Mi.fn_okB F sc171 rfl (d := d171) rfl rfl rfl rfl (by decide) (b171 ih)).imp fun _ _ _ _ h => h.2⟩) (
      .cons (fun fd F => ⟨fd, F, (Mi.fn_okB F sc172 rfl (d := d172) rfl rfl rfl rfl (by decide) (b172 ih)).imp fun _ _ _ _ h => h.2⟩) (
      .cons (fun fd F => ⟨fd, F, (Mi.fn_okB F sc153 rfl (d := d153) rfl rfl rfl rfl (by decide) (b153 ih)).imp fun _ _ _ _ h => h.2⟩) (
      .cons (fun fd F => ⟨fd, F, (Mi.fn_okB F sc148 rfl (d := d148) rfl rfl rfl rfl (by decide) (b148 ih)).imp fun _ _ _ _ h => h.2⟩) (
      .cons (fun fd F => ⟨fd, F, (Mi.fn_okB F sc54 rfl (d := d54) rfl rfl rfl rfl (by decide) (b54 ih)).imp fun _ _ _ _ h => h.2⟩) (
      .nil)))))))))))))))))))))))))))))))))))))
end K46
set_option maxHeartbeats 0
namespace K46
open PySem PySem.Spec PyProof.Rows L2 Mi MiDF
theorem top_of {K : PySem.W.Frag} {h : Heap} {mg : PySem.Str → Option Value} (X : K.In h) (Gn : h.Ns mainGlobals mg) (c : SaysQ fx fn gk K) : Top K mg ⟨K, clsOf K cn⟩ where
  eK := rfl
  fd := .cons (c.def_ 0 rfl) (.cons (c.def_ 1 rfl) (.cons (c.def_ 2 rfl) (.cons (c.def_ 3 rfl) (.cons (c.def_ 4 rfl) (.cons (c.def_ 5 rfl) (.cons (c.def_ 6 rfl) (.cons (c.def_ 7 rfl) (.cons (c.def_ 8 rfl) (.cons (c.def_ 9 rfl) (.cons (c.def_ 10 rfl) (.cons (c.def_ 11 rfl) (.cons (c.def_ 12 rfl) (.cons (c.def_ 13 rfl) (.cons (c.def_ 14 rfl) (.cons (c.def_ 15 rfl) (.cons (c.def_ 16 rfl) (.cons (c.def_ 17 rfl) (.cons (c.def_ 18 rfl) (.cons (c.def_ 19 rfl) (.cons (c.def_ 20 rfl) (.cons (c.def_ 21 rfl) (.cons (c.def_ 22 rfl) (.cons (c.def_ 23 rfl) (.cons (c.def_ 24 rfl) (.cons (c.def_ 25 rfl) (.cons (c.def_ 26 rfl) (.cons (c.def_ 27 rfl) (.cons (c.def_ 28 rfl) (.cons (c.def_ 29 rfl) (.cons (c.def_ 30 rfl) (.cons (c.def_ 31 rfl) (.cons (c.def_ 32 rfl) (.cons (c.def_ 33 rfl) (.cons (c.def_ 34 rfl) (.cons (c.def_ 35 rfl) (.cons (c.def_ 36 rfl) (.nil)))))))))))))))))))))))))))))))))))))
  fxs := fun i f h => c.fact f (List.mem_of_getElem? h)
  gs := fun i x t h => globK_ok (G := ⟨K, clsOf K cn⟩) X Gn (c.g _ (List.mem_of_getElem? h))
  glo := fun i x h => He.glo_ok X Gn (c.fact _ (List.mem_of_getElem? h))
  fre := fun i x h => He.free_ok X Gn (c.fact _ (List.mem_of_getElem? h))
  bf := fun i x id h => PySem.W.mg_of X Gn (eqv_ok (c.fact _ (List.mem_of_getElem? h)))
  cn := fun c x h => by show clsOf K cn c = _; unfold clsOf; rw [h]
end K46
set_option maxHeartbeats 1000000
/-! rows of names and whole numbers -/
namespace Mi
open PySem PySem.Spec PyProof.Rows L2
noncomputable abbrev SD := List (PySem.Str × Int)
noncomputable abbrev dS (l : SD) : List (Key × T) := l.map fun q => (.inr q.1, .int q.2)
noncomputable def lookS (l : SD) (a : PySem.Str) : Option Int := (l.find? fun q => decide (q.1 = a)).map (·.2)
noncomputable def putA (l : SD) (a : PySem.Str) (b : Int) : SD := if (l.any fun q => decide (q.1 = a)) = true then l.map fun q => if q.1 = a then (q.1, b) else q else l ++ [(a, b)]
theorem inr_dec (a b : PySem.Str) : decide ((Sum.inr a : Key) = Sum.inr b) = decide (a = b) := by
  by_cases e : a = b
  · subst e; simp
  · rw [decide_eq_false e, decide_eq_false fun z => e (Sum.inr.inj z)]
theorem any_dS (l : SD) (a : PySem.Str) : ((dS l).any fun kv => decide (kv.1 = (Sum.inr a : Key))) = l.any fun q => decide (q.1 = a) := by
  rw [List.any_map]
  congr 1
  funext q
  exact inr_dec q.1 a
theorem valT_dS (l : SD) (a : PySem.Str) : valT (dS l) (.inr a) = (lookS l a).map T.int := by
  unfold valT lookS
  induction l with
  | nil => rfl
  | cons q r ih =>
    show Option.map _ (List.find? _ ((Sum.inr q.1, T.int q.2) :: dS r)) = _
    rw [List.find?_cons, List.find?_cons, inr_dec]
    cases decide (q.1 = a) with
    | true => rfl
    | false => exact ih
theorem putT_dS (l : SD) (a : PySem.Str) (b : Int) : putT (dS l) (.inr a) (.int b) = dS (putA l a b) := by
  unfold putT putA
  rw [any_dS]
  split
  · unfold dS
    rw [List.map_map, List.map_map]
    apply List.map_congr_left
    intro q _
    show (if decide ((Sum.inr q.1 : Key) = Sum.inr a) = true then _ else _) = _
    rw [inr_dec]
    by_cases e : q.1 = a
    · rw [if_pos (by simpa using e)]
      show _ = ((Sum.inr (if q.1 = a then (q.1, b) else q).1, T.int (if q.1 = a then (q.1, b) else q).2) : Key × T)
      rw [if_pos e]
    · rw [if_neg (by simpa using e)]
      show _ = ((Sum.inr (if q.1 = a then (q.1, b) else q).1, T.int (if q.1 = a then (q.1, b) else q).2) : Key × T)
      rw [if_neg e]
  · unfold dS; rw [List.map_append]; rfl
noncomputable abbrev keysS (l : SD) : List PySem.Str := l.map (·.1)
noncomputable def atS (l : SD) (a : PySem.Str) : Int := (lookS l a).getD 0
theorem lookS_none {l : SD} {a : PySem.Str} : lookS l a = none ↔ a ∉ keysS l := by
  unfold lookS
  rw [Option.map_eq_none_iff, List.find?_eq_none]
  constructor
  · intro h hm
    obtain ⟨q, h1, h2⟩ := List.mem_map.mp hm
    exact h q h1 (by simpa using h2)
  · intro h q hq z
    exact h (List.mem_map.mpr ⟨q, hq, by simpa using z⟩)
theorem lookS_some {l : SD} {a : PySem.Str} (h : a ∈ keysS l) : ∃ b, lookS l a = some b := by
  cases e : lookS l a with
  | none => exact absurd h (lookS_none.mp e)
  | some b => exact ⟨b, rfl⟩
theorem lookS_mem {l : SD} (hn : (keysS l).Nodup) {a : PySem.Str} {b : Int} (h : (a, b) ∈ l) : lookS l a = some b := by
  unfold lookS
  induction l with
  | nil => cases h
  | cons q r ih =>
    rw [List.find?_cons]
    have h1 := List.nodup_cons.mp hn
    rcases List.mem_cons.mp h with rfl | h
    · rw [decide_eq_true rfl]; rfl
    · have : q.1 ≠ a := fun e => h1.1 (List.mem_map.mpr ⟨_, h, e.symm⟩)
      rw [decide_eq_false this]
      exact ih h1.2 h
theorem keys_putA (l : SD) (a : PySem.Str) (b : Int) : keysS (putA l a b) = if a ∈ keysS l then keysS l else keysS l ++ [a] := by
  unfold putA
  by_cases e : a ∈ keysS l
  · have : (l.any fun q => decide (q.1 = a)) = true := by
      obtain ⟨q, h1, h2⟩ := List.mem_map.mp e
      exact List.any_eq_true.mpr ⟨q, h1, by simpa using h2⟩
    rw [if_pos this, if_pos e]
    unfold keysS
    rw [List.map_map]
    apply List.map_congr_left
    intro q _
    show (if q.1 = a then (q.1, b) else q).1 = q.1
    split <;> rfl
  · have : ¬ (l.any fun q => decide (q.1 = a)) = true := fun z => by
      obtain ⟨q, h1, h2⟩ := List.any_eq_true.mp z
      exact e (List.mem_map.mpr ⟨q, h1, by simpa using h2⟩)
    rw [if_neg this, if_neg e]
    unfold keysS
    rw [List.map_append]
    rfl
theorem nodup_putA {l : SD} (h : (keysS l).Nodup) (a : PySem.Str) (b : Int) : (keysS (putA l a b)).Nodup := by
  rw [keys_putA]
  split
  · exact h
  · rename_i hn
    rw [List.nodup_append]
    refine ⟨h, by simp, fun x hx y hy => ?_⟩
    simp only [List.mem_singleton] at hy
    subst hy
    exact fun e => hn (e ▸ hx)
theorem lookS_cons (q : PySem.Str × Int) (r : SD) (a : PySem.Str) : lookS (q :: r) a = if q.1 = a then some q.2 else lookS r a := by
  unfold lookS
  rw [List.find?_cons]
  by_cases e : q.1 = a
  · rw [decide_eq_true e, if_pos e]; rfl
  · rw [decide_eq_false e, if_neg e]
theorem lookS_app (l r : SD) (a : PySem.Str) : lookS (l ++ r) a = (lookS l a).or (lookS r a) := by
  induction l with
  | nil => rfl
  | cons q l ih =>
    rw [List.cons_append, lookS_cons, lookS_cons, ih]
    split <;> rfl
theorem look_putA (l : SD) (a : PySem.Str) (b : Int) (x : PySem.Str) : lookS (putA l a b) x = if x = a then some b else lookS l x := by
  unfold putA
  split
  · rename_i h
    induction l with
    | nil => cases h
    | cons q r ih =>
      rw [List.map_cons, lookS_cons, lookS_cons]
      by_cases e : q.1 = a
      · rw [if_pos e]
        by_cases e2 : x = a
        · subst e2
          rw [if_pos rfl, if_pos e]
        · rw [if_neg e2, if_neg (by rw [e]; exact fun z => e2 z.symm), if_neg (fun z : q.1 = x => e2 (z.symm.trans e))]
          cases hr : r.any fun q => decide (q.1 = a) with
          | true =>
            have := ih hr
            rw [if_neg e2] at this
            exact this
          | false =>
            have hh : ∀ l : SD, (l.any fun q => decide (q.1 = a)) = false → (l.map fun q => if q.1 = a then (q.1, b) else q) = l := by
              intro l hl
              induction l with
              | nil => rfl
              | cons p l ih2 =>
                rw [List.any_cons, Bool.or_eq_false_iff] at hl
                rw [List.map_cons, ih2 hl.2, if_neg (by simpa using hl.1)]
            rw [hh r hr]
      · rw [if_neg e]
        have h' : (r.any fun q => decide (q.1 = a)) = true := by
          rw [List.any_cons, decide_eq_false e, Bool.false_or] at h
          exact h
        by_cases e3 : q.1 = x
        · rw [if_pos e3, if_pos e3, if_neg (fun z => e (e3.trans z))]
        · rw [if_neg e3, if_neg e3]
          exact ih h'
  · rename_i h
    rw [lookS_app]
    by_cases e : x = a
    · subst e
      have : lookS l x = none := lookS_none.mpr fun hm => h (by
        obtain ⟨q, h1, h2⟩ := List.mem_map.mp hm
        exact List.any_eq_true.mpr ⟨q, h1, by simpa using h2⟩)
      rw [this, if_pos rfl, lookS_cons, if_pos rfl]
      rfl
    · rw [if_neg e, lookS_cons, if_neg (fun z => e z.symm)]
      cases lookS l x <;> rfl
theorem at_putA (l : SD) (a : PySem.Str) (b : Int) (x : PySem.Str) : atS (putA l a b) x = if x = a then b else atS l x := by
  unfold atS
  rw [look_putA]
  split <;> rfl
noncomputable def keptS (l : SD) : SD := ((sortT (keysS l)).filter fun a => decide (atS l a ≠ 0)).map fun a => (a, atS l a)
structure CanS (l : SD) : Prop where
  asc : (keysS l).Pairwise fun x y => leT x y = true ∧ x ≠ y
  nz : ∀ q ∈ l, q.2 ≠ 0
theorem CanS.nodup {l : SD} (h : CanS l) : (keysS l).Nodup := h.asc.imp fun z => z.2
theorem CanS.at {l : SD} (h : CanS l) {q : PySem.Str × Int} (hq : q ∈ l) : atS l q.1 = q.2 := by
  unfold atS
  rw [lookS_mem h.nodup (a := q.1) (b := q.2) hq]
  rfl
theorem sortT_asc {l : List PySem.Str} (h : l.Nodup) : (sortT l).Pairwise fun x y => leT x y = true ∧ x ≠ y := by
  have h1 := sortT_srt l
  have h2 : (sortT l).Nodup := (sortT_perm l).nodup_iff.mpr h
  exact List.Pairwise.and h1 h2
theorem sortT_same {l : List PySem.Str} (h : l.Pairwise fun x y => leT x y = true) : sortT l = l := srtT_one (sortT_perm l) (sortT_srt l) h
theorem keptS_can {l : SD} (h : (keysS l).Nodup) : CanS (keptS l) := by
  have e : keysS (keptS l) = (sortT (keysS l)).filter fun a => decide (atS l a ≠ 0) := by
    unfold keptS keysS
    rw [List.map_map]
    exact List.map_id _
  refine ⟨?_, fun q hq => ?_⟩
  · rw [e]
    exact (sortT_asc h).filter _
  · obtain ⟨a, h1, rfl⟩ := List.mem_map.mp hq
    simpa using (List.mem_filter.mp h1).2
theorem keptS_same {l : SD} (h : CanS l) : keptS l = l := by
  unfold keptS
  rw [sortT_same (h.asc.imp fun z => z.1)]
  have : (keysS l).filter (fun a => decide (atS l a ≠ 0)) = keysS l := by
    rw [List.filter_eq_self]
    intro a ha
    obtain ⟨q, h1, h2⟩ := List.mem_map.mp ha
    subst h2
    rw [h.at h1]
    simpa using h.nz q h1
  rw [this]
  unfold keysS
  rw [List.map_map]
  conv => rhs; rw [← List.map_id l]
  apply List.map_congr_left
  intro q hq
  show (q.1, atS l q.1) = q
  rw [h.at hq]
theorem atS_none {l : SD} {a : PySem.Str} (h : a ∉ keysS l) : atS l a = 0 := by
  unfold atS
  rw [lookS_none.mpr h]
  rfl
theorem at_keptS {l : SD} (h : (keysS l).Nodup) (x : PySem.Str) : atS (keptS l) x = atS l x := by
  by_cases hx : x ∈ keysS (keptS l)
  · obtain ⟨q, h1, h2⟩ := List.mem_map.mp hx
    subst h2
    rw [(keptS_can h).at h1]
    obtain ⟨a, h3, rfl⟩ := List.mem_map.mp h1
    rfl
  · rw [atS_none hx]
    by_cases hz : atS l x = 0
    · exact hz.symm
    · refine absurd ?_ hx
      have hk : x ∈ keysS l := Decidable.byContradiction fun z => hz (atS_none z)
      exact List.mem_map.mpr ⟨(x, atS l x), List.mem_map.mpr ⟨x, List.mem_filter.mpr ⟨(sortT_perm _).mem_iff.mpr hk, by simpa using hz⟩, rfl⟩, rfl⟩
theorem can_ext {l k : SD} (hl : CanS l) (hk : CanS k) (h : ∀ x, atS l x = atS k x) : l = k := by
  have mem : ∀ {l k : SD}, CanS l → CanS k → (∀ x, atS l x = atS k x) → ∀ x, x ∈ keysS l → x ∈ keysS k := by
    intro l k hl hk h x hx
    refine Decidable.byContradiction fun z => ?_
    obtain ⟨q, h1, h2⟩ := List.mem_map.mp hx
    subst h2
    have := h q.1
    rw [hl.at h1, atS_none z] at this
    exact hl.nz q h1 this
  have hp : (keysS l).Perm (keysS k) := (List.perm_ext_iff_of_nodup hl.nodup hk.nodup).mpr fun x => ⟨mem hl hk h x, mem hk hl (fun x => (h x).symm) x⟩
  have e : keysS l = keysS k := srtT_one hp (hl.asc.imp fun z => z.1) (hk.asc.imp fun z => z.1)
  have r : ∀ {l : SD}, CanS l → l = (keysS l).map fun a => (a, atS l a) := by
    intro l h
    unfold keysS
    rw [List.map_map]
    conv => lhs; rw [← List.map_id l]
    apply List.map_congr_left
    intro q hq
    show q = (q.1, atS l q.1)
    rw [h.at hq]
  rw [r hl, r hk, e]
  apply List.map_congr_left
  intro a _
  rw [h a]
noncomputable def addS (l : SD) (q : PySem.Str × Int) : SD := putA l q.1 (atS l q.1 + q.2)
noncomputable def sumS (acc : SD) (ts : SD) : SD := ts.foldl addS acc
theorem at_addS (l : SD) (q : PySem.Str × Int) (x : PySem.Str) : atS (addS l q) x = atS l x + if q.1 = x then q.2 else 0 := by
  unfold addS
  rw [at_putA]
  by_cases e : x = q.1
  · subst e; rw [if_pos rfl, if_pos rfl]
  · rw [if_neg e, if_neg (fun z => e z.symm), Int.add_zero]
theorem nodup_sumS : ∀ (ts : SD) {acc : SD}, (keysS acc).Nodup → (keysS (sumS acc ts)).Nodup
  | [], _, h => h
  | q :: r, acc, h => nodup_sumS r (nodup_putA h _ _)
noncomputable def totS (ts : SD) (x : PySem.Str) : Int := match ts with
  | [] => 0
  | q :: r => (if q.1 = x then q.2 else 0) + totS r x
theorem at_sumS : ∀ (ts : SD) (acc : SD) (x : PySem.Str), atS (sumS acc ts) x = atS acc x + totS ts x
  | [], acc, x => by rw [totS, Int.add_zero]; rfl
  | q :: r, acc, x => by
    show atS (sumS (addS acc q) r) x = _
    rw [at_sumS r, at_addS, totS, Int.add_assoc]
theorem totS_can {l : SD} (h : CanS l) (x : PySem.Str) : totS l x = atS l x := by
  obtain ⟨h1, h2⟩ := h
  induction l with
  | nil => rfl
  | cons q r ih =>
    have h3 := List.pairwise_cons.mp h1
    rw [totS, ih h3.2 fun p hp => h2 p (List.mem_cons_of_mem _ hp)]
    unfold atS
    rw [lookS_cons]
    by_cases e : q.1 = x
    · subst e
      rw [if_pos rfl, if_pos rfl, lookS_none.mpr fun z => (h3.1 _ z).2 rfl]
      show q.2 + 0 = q.2
      omega
    · rw [if_neg e, if_neg e, Int.zero_add]
theorem kept_sum {l ts : SD} (h : CanS l) (e : ∀ x, totS ts x = atS l x) : keptS (sumS [] ts) = l := by
  have hn : (keysS (sumS [] ts)).Nodup := nodup_sumS ts (acc := []) (by show ([] : List PySem.Str).Nodup; exact List.Pairwise.nil)
  refine can_ext (keptS_can hn) h fun x => ?_
  rw [at_keptS hn, at_sumS, e x]
  show (0 : Int) + _ = _
  rw [Int.zero_add]
/-! names -/
noncomputable abbrev keptT : List T := [.str "and", .str "or", .str "not", .str "of", .str "let", .str "none", .str "odd", .str "open", .str "phase", .str "round", .str "self"]
noncomputable abbrev abcS : PySem.Str := "abcdefghijklmnopqrstuvwxyz"
structure NameOk (s : PySem.Str) : Prop where
  l1 : 1 ≤ s.length
  l6 : s.length ≤ 6
  kept : (keptT.any fun y => eqT y (.str s)) = false
  low : ∀ c ∈ s.cps.toList, c ∈ abcS.cps.toList
section
variable {P : R → Prop}
theorem wo_lenS {s : PySem.Str} (h : s.length ≤ sizeLine) (q : P (.fz (.int s.length))) : wO .len [.str s] P := .of (if_pos h) q
theorem bools_mapF {α : Type} (g : α → Bool) : ∀ l : List α, bools (l.map fun a => T.bl (g a)) = some (l.map g)
  | [] => rfl
  | a :: l => by show (bools (l.map fun a => T.bl (g a))).map _ = _; rw [bools_mapF g l]; rfl
theorem wo_all {α : Type} {g : α → Bool} {l : List α} (q : P (.fz (.bl (l.all g)))) : wO .all [.lst (l.map fun a => T.bl (g a))] P := .of (by
  show (bools (l.map fun a => T.bl (g a))).bind _ = _
  rw [bools_mapF]
  show fB ((l.map g).all id) = fB (l.all g)
  rw [List.all_map]
  rfl) q
theorem wo_idxS {l : SD} {a : PySem.Str} (h : a ∈ keysS l) (q : P (.fz (.int (atS l a)))) : wO .idx [.dic (dS l), .str a] P := .of (by
  show (valT (dS l) (.inr a)).map R.fz = _
  rw [valT_dS]
  obtain ⟨b, hb⟩ := lookS_some h
  unfold atS
  rw [hb]
  rfl) q
theorem wo_listS {l : SD} (q : P (.ow (.lst ((keysS l).map T.str)))) : wO .list [.dic (dS l)] P := .of (by
  show some (R.ow (.lst ((dS l).map fun kv => unkey kv.1))) = _
  unfold dS keysS
  rw [List.map_map, List.map_map]
  rfl) q
theorem puts_dS : ∀ (l acc : SD), (keysS (acc ++ l)).Nodup → putsT (dS acc) (dS l) = dS (acc ++ l)
  | [], acc, _ => by rw [List.append_nil]; rfl
  | q :: r, acc, h => by
    show putsT (putT (dS acc) (.inr q.1) (.int q.2)) (dS r) = _
    have e : putA acc q.1 q.2 = acc ++ [q] := by
      unfold putA
      rw [if_neg]
      intro z
      obtain ⟨p, h1, h2⟩ := List.any_eq_true.mp z
      unfold keysS at h
      rw [List.map_append, List.nodup_append] at h
      exact h.2.2 p.1 (List.mem_map.mpr ⟨p, h1, rfl⟩) q.1 (by simp) (by simpa using h2)
    rw [putT_dS, e, puts_dS r (acc ++ [q]) (by rw [List.append_assoc]; exact h), List.append_assoc]
    rfl
theorem name_ne {s : PySem.Str} (h : NameOk s) : (["self", "constant"] : List PySem.Str).contains s = false := by
  have h1 := h.kept
  have h6 := h.l6
  rw [List.contains_cons, List.contains_cons, List.contains_nil, Bool.or_false, Bool.or_eq_false_iff]
  constructor
  · rw [beq_eq_false_iff_ne]
    rintro rfl
    revert h1
    decide
  · rw [beq_eq_false_iff_ne]
    rintro rfl
    revert h6
    decide
theorem wo_kwd {l : SD} (h : ∀ a ∈ keysS l, NameOk a) (q : P (.ow (.dic (dS l)))) : wO (.kwd ["self", "constant"]) [.dic (dS l)] P := .of (by
  show (if _ then _ else _) = _
  refine if_pos (List.all_eq_true.mpr fun kv hkv => ?_)
  obtain ⟨p, h1, rfl⟩ := List.mem_map.mp hkv
  show (!(["self", "constant"] : List PySem.Str).contains p.1) = true
  rw [name_ne (h p.1 (List.mem_map.mpr ⟨p, h1, rfl⟩))]
  rfl) q
end
theorem kept_names {l : SD} (h : ∀ a ∈ keysS l, NameOk a) : ∀ a ∈ keysS (keptS l), NameOk a := fun a ha => by
  obtain ⟨q, h1, rfl⟩ := List.mem_map.mp ha
  obtain ⟨b, h2, rfl⟩ := List.mem_map.mp h1
  exact h b ((sortT_perm _).mem_iff.mp (List.mem_filter.mp h2).1)
theorem kept_len (l : SD) : (keptS l).length ≤ l.length := by
  unfold keptS
  rw [List.length_map]
  refine Nat.le_trans (List.length_filter_le _ _) ?_
  rw [(sortT_perm _).length_eq]
  unfold keysS
  rw [List.length_map]
  exact Nat.le_refl _
theorem dgt_dS (l : SD) (a : PySem.Str) : (valT (dS l) (.inr a)).getD (.int 0) = .int (atS l a) := by
  rw [valT_dS]
  unfold atS
  cases lookS l a <;> rfl
noncomputable abbrev prT (q : PySem.Str × Int) : T := .tup [.str q.1, .int q.2]
noncomputable abbrev prsT (ts : SD) : List T := ts.map prT
theorem sum_keys : ∀ (ts acc : SD) (a : PySem.Str), a ∈ keysS (sumS acc ts) → a ∈ keysS acc ∨ a ∈ keysS ts
  | [], _, _, h => .inl h
  | q :: r, acc, a, h => by
    rcases sum_keys r (addS acc q) a h with h | h
    · unfold addS at h
      rw [keys_putA] at h
      split at h
      · exact .inl h
      · rcases List.mem_append.mp h with h | h
        · exact .inl h
        · exact .inr (by rw [List.mem_singleton.mp h]; exact List.mem_cons_self)
    · exact .inr (List.mem_cons_of_mem _ h)
theorem putA_len (l : SD) (a : PySem.Str) (b : Int) : (putA l a b).length ≤ l.length + 1 := by
  unfold putA
  split
  · rw [List.length_map]; omega
  · rw [List.length_append]; exact Nat.le_refl _
theorem sum_len : ∀ (ts acc : SD), (sumS acc ts).length ≤ acc.length + ts.length
  | [], acc => Nat.le_refl _
  | q :: r, acc => by
    have h1 := sum_len r (addS acc q)
    have h2 := putA_len acc q.1 (atS acc q.1 + q.2)
    show (sumS (addS acc q) r).length ≤ _
    unfold addS at h1 ⊢
    rw [List.length_cons]
    omega
theorem sum_app (ts us acc : SD) : sumS acc (ts ++ us) = sumS (sumS acc ts) us := List.foldl_append ..
section
variable {cal : Nat → List Slot → CRes} {L : Nat} {m : List Slot} {D : En}
theorem wp_stoS {i : Nat} {k v : E} (h : wE cal v m fun rv m1 => ∃ o, m1[i]? = some (.ow o) ∧ wE cal k m1 fun rk m2 => ∃ t m3 a kvs, esc m2 rv.opd = some (t, m3) ∧ der m3 rk.opd = some (.str a) ∧ m3[i]? = some (.ow (.dic kvs)) ∧ kvs.length < sizeLine ∧ D.nx (m3.set i (.ow (.dic (putT kvs (.inr a) t))))) : wT cal L (.sto i k v) m D := by
  unfold wE at h
  unfold wT
  obtain ⟨rv, m1, h1, o, h2, h⟩ := h
  (try unfold wE at h)
  obtain ⟨rk, m2, h3, t, m3, a, kvs, h4, h5, h6, h7, q⟩ := h
  rw [evS, h1]
  simp only [ofR, h2]
  rw [h3]
  simp only [ofR, h4, h5, h6, keyT, if_pos h7]
  exact q
end
theorem hits_dS (k : SD) : ∀ l : SD, hitsT (dS k) (dS l) = some (l.all fun q => decide (lookS k q.1 = some q.2))
  | [] => rfl
  | q :: r => by
    show (match valT (dS k) (.inr q.1) with
      | none => some false
      | some u => if sameK (.int q.2) u = true then (hitsT (dS k) (dS r)).map fun b => eqT (.int q.2) u && b else none) = _
    rw [valT_dS, hits_dS k r, List.all_cons]
    cases e : lookS k q.1 with
    | none =>
      show some false = _
      rw [decide_eq_false (by intro z; cases z), Bool.false_and]
    | some b =>
      show some ((q.2 == b) && _) = _
      by_cases e2 : b = q.2
      · subst e2
        rw [decide_eq_true rfl, beq_self_eq_true]
      · rw [decide_eq_false (fun z => e2 (Option.some.inj z)), beq_eq_false_iff_ne.mpr fun z => e2 z.symm]
theorem sub_all {α : Type} [DecidableEq α] : ∀ (l k : List α), l.Nodup → (∀ x ∈ l, x ∈ k) → k.length ≤ l.length → ∀ x ∈ k, x ∈ l
  | [], k, _, _, h, x, hx => by
    have : k = [] := List.length_eq_zero_iff.mp (by simpa using h)
    rw [this] at hx
    cases hx
  | a :: r, k, hn, hs, h, x, hx => by
    have h1 := List.nodup_cons.mp hn
    have ha := hs a List.mem_cons_self
    by_cases e : x = a
    · subst e; exact List.mem_cons_self
    · refine List.mem_cons_of_mem _ (sub_all r (k.erase a) h1.2 (fun y hy => ?_) ?_ x ((List.mem_erase_of_ne e).mpr hx))
      · exact (List.mem_erase_of_ne (fun z => h1.1 (by rw [← z]; exact hy))).mpr (hs y (List.mem_cons_of_mem _ hy))
      · rw [List.length_erase_of_mem ha]
        simp only [List.length_cons] at h
        omega
theorem eq_dS (f : Bool → Bool) {l k : SD} (hl : CanS l) (hk : CanS k) : eqF (.dic (dS l)) (.dic (dS k)) f = fB (f (decide (l = k))) := by
  show eqD f (dS l) (dS k) = _
  unfold eqD
  have e1 : (dS l).length = l.length := List.length_map ..
  have e2 : (dS k).length = k.length := List.length_map ..
  rw [e1, e2]
  by_cases hlen : l.length = k.length
  · rw [if_pos hlen, hits_dS]
    simp only
    congr 2
    rw [Bool.eq_iff_iff, decide_eq_true_iff]
    constructor
    · intro h
      have h := List.all_eq_true.mp h
      have sub : ∀ x ∈ keysS l, x ∈ keysS k := fun x hx => by
        obtain ⟨q, h1, rfl⟩ := List.mem_map.mp hx
        refine Decidable.byContradiction fun z => ?_
        have h2 := of_decide_eq_true (h q h1)
        rw [lookS_none.mpr z] at h2
        cases h2
      have hp := sub_all (keysS l) (keysS k) hl.nodup sub (by unfold keysS; rw [List.length_map, List.length_map]; omega)
      refine can_ext hl hk fun x => ?_
      by_cases hx : x ∈ keysS l
      · obtain ⟨q, h1, rfl⟩ := List.mem_map.mp hx
        have h2 := of_decide_eq_true (h q h1)
        rw [hl.at h1]
        unfold atS
        rw [h2]
        rfl
      · rw [atS_none hx, atS_none fun z => hx (hp x z)]
    · rintro rfl
      exact List.all_eq_true.mpr fun q hq => decide_eq_true (lookS_mem hl.nodup hq)
  · rw [if_neg hlen, decide_eq_false (fun z => hlen (by rw [z]))]
theorem wo_eqS {P : R → Prop} {l k : SD} (hl : CanS l) (hk : CanS k) (q : P (.fz (.bl (decide (l = k))))) : wO .eq [.dic (dS l), .dic (dS k)] P := .of (eq_dS id hl hk) q
theorem keys_dS (l : SD) : (dS l).map (fun kv => unkey kv.1) = l.map fun q => T.str q.1 := by
  unfold dS
  rw [List.map_map]
  rfl
end Mi
set_option maxHeartbeats 2000000
namespace FrmP
open PySem PySem.Spec PyProof.Rows L2 Mi MiDF
local macro_rules
  | `(tactic| infer_instance) => `(tactic| first
    | refine dp_nil ?_ | refine dp_cons ?_ | refine wp_var rfl ?_ | refine wp_bo rfl ?_ | refine wp_c ?_ | refine wp_op ?_ | refine wp_lst ?_ | refine wp_tup ?_
    | refine wp_call ?_ | refine wp_prop ?_ | refine wp_meth ?_ | refine wp_mk ?_ | refine wp_bop ?_ | refine wp_uop ?_ | refine wp_fld ?_ | refine wp_spc ?_ | refine wp_ceq ?_ | refine wp_inn ?_ | refine wp_nt ?_ | refine wp_fst ?_ | refine jp_cons ?_ | refine jp_nil ?_ | refine wp_isc ?_ | refine wp_dsc rfl rfl ?_ | refine wp_dic0 ?_ | refine wp_dgt ?_ | refine wp_ccm ?_ | refine wp_anP ?_ | refine wp_orP ?_ | refine wp_ite ?_
    | refine sp_it ?_ | refine sp_rng1 ?_ | refine sp_enum ?_ | refine sp_zip ?_ | refine wp_lr ?_
    | refine bp_nil ?_ | refine bp_cons ?_ | refine wp_set ?_ | refine wp_ret ?_ | refine wp_stf ?_ | refine wp_par ?_ | refine wp_ife ?_ | refine wp_ex ?_
    | refine wk_go rfl ?_ | refine wC.fz (by assumption) ?_ | refine wC.ow (by assumption) ?_ | refine wp_stoS ?_ | refine wo_all ?_ | refine wo_idxS (by assumption) ?_ | refine wo_neI ?_ | refine ap_one ?_ | refine wo_listS ?_ | exact ⟨rfl, rfl⟩ | refine ⟨rfl, ?_⟩ | refine wO.of rfl ?_ | refine ap_nil ?_
    | refine ⟨_, _, _, _, _, rfl, rfl, rfl, ?_⟩ | refine ⟨_, _, _, rfl, rfl, ?_⟩ | refine ⟨_, _, _, rfl, rfl, rfl, ?_⟩ | refine ⟨_, _, rfl, rfl, ?_⟩ | refine ⟨_, _, rfl, ?_⟩ | refine ⟨_, rfl, rfl, ?_⟩ | refine ⟨_, rfl, ?_⟩ | refine ⟨rfl, _, _, rfl, ?_⟩ | refine ⟨⟨_, rfl⟩, ?_⟩ | refine And.intro (fun _ z => nomatch z) ?_ | exact rfl)
noncomputable abbrev frmT (c : Int) (l : SD) : T := .ins 46 [("own_constant", .int c), ("own_factors", .dic (dS l))]
noncomputable abbrev frmO (c : Int) (l : SD) : O := .ins 46 [("own_constant", .int c), ("own_factors", .dic (dS l))]
section
variable {Γ : Nat → Option Def} {L k : Nat} (hΓ : ∀ f d, pg f = some d → Γ f = some d)
include hΓ
theorem whole_ok {i : Int} : callF Γ L (k + 1) 22 [.fz (.int i)] = .ok (.fz (.bl true)) [.no] := by
  refine wC.eq_fz (wp_run (d := d22) (hΓ _ _ rfl) rfl ?_)
  generalize callF Γ L k = cal at *
  unfold d22
  repeat infer_instance
theorem isname_ok {s : PySem.Str} (h : NameOk s) : callF Γ L (k + 1) 150 [.fz (.str s)] = .ok (.fz (.bl true)) [.no] := by
  refine wC.eq_fz (wp_run (d := d150) (hΓ _ _ rfl) rfl ?_)
  generalize callF Γ L k = cal at *
  unfold d150
  repeat infer_instance
  have l1 := h.l1
  have l6 := h.l6
  have hz : s.length ≤ sizeLine := by rw [sizeLine_eq]; omega
  refine wp_ch ?_
  repeat infer_instance
  refine wo_lenS hz ?_
  repeat infer_instance
  refine wif1 (decide_eq_true (by omega)) ?_
  repeat infer_instance
  refine wif0 (by
    show (!true || (!(decide ((s.length : Int) ≤ 6)) || (keptT.any fun y => eqT y (.str s)))) = false
    rw [h.kept, decide_eq_true (by omega)]
    rfl) ?_
  repeat infer_instance
  refine wp_comp (α := Nat) ?_
  refine sp_it (wp_var rfl ⟨_, _, _, rfl, if_pos hz, ?_⟩)
  refine ⟨s.cps.toList, fun c => .str ⟨#[c]⟩, fun _ => true, fun c => .bl (decide (c ∈ abcS.cps.toList)), rfl, rfl, rfl, fun c hc => ⟨_, rfl, rfl, ap_nil ⟨rfl, rfl⟩, fun _ => ?_⟩, by show s.cps.toList.length ≤ sizeLine; rw [Array.length_toList]; exact hz, ?_⟩
  · unfold e150_0
    repeat infer_instance
  · rw [List.filter_eq_self.mpr fun _ _ => rfl]
    repeat infer_instance
    have e : (s.cps.toList.all fun c => decide (c ∈ abcS.cps.toList)) = true := List.all_eq_true.mpr fun c hc => decide_eq_true (h.low c hc)
    rw [e]
    repeat infer_instance
theorem kept_ok {l : SD} (hn : (keysS l).Nodup) (hl : l.length < 64) : callF Γ L (k + 1) 153 [.fz (.dic (dS l))] = .ok (.ow (.dic (dS (keptS l)))) [.no] := by
  have hl2 : (keysS l).length < 64 := by unfold keysS; rw [List.length_map]; exact hl
  refine wC.eq_ow (wp_run (d := d153) (hΓ _ _ rfl) rfl ?_)
  generalize callF Γ L k = cal at *
  unfold d153
  refine bp_cons (wp_ret (wp_dcm (α := PySem.Str) ?_))
  repeat infer_instance
  refine wo_srtS hl2 ?_
  repeat infer_instance
  refine ⟨sortT (keysS l), T.str, fun a => decide (atS l a ≠ 0), fun a => .inr a, fun a => .int (atS l a), rfl, rfl, rfl, fun a ha => ⟨_, rfl, rfl, ?_, fun _ => ⟨?_, ?_⟩⟩, ?_, ?_⟩
  · have hk : a ∈ keysS l := (sortT_perm _).mem_iff.mp ha
    repeat infer_instance
    refine ⟨?_, rfl⟩
    show R.fz (.bl (!(atS l a == 0))) = R.fz (.bl (decide (atS l a ≠ 0)))
    by_cases e : atS l a = 0
    · rw [e]; rfl
    · rw [decide_eq_true e, beq_eq_false_iff_ne.mpr e]; rfl
  · repeat infer_instance
  · have hk : a ∈ keysS l := (sortT_perm _).mem_iff.mp ha
    repeat infer_instance
  · rw [(sortT_perm _).length_eq, sizeLine_eq]; omega
  · have e : ((sortT (keysS l)).filter fun a => decide (atS l a ≠ 0)).map (fun a => ((Sum.inr a : Key), T.int (atS l a))) = dS (keptS l) := by
      unfold dS keptS
      rw [List.map_map]
      rfl
    rw [e]
    have e2 : putsT [] (dS (keptS l)) = dS (keptS l) := puts_dS (keptS l) [] (keptS_can hn).nodup
    rw [e2]
    repeat infer_instance
theorem init_ok {c : Int} {l : SD} (hn : (keysS l).Nodup) (hl : l.length < 64) (hk : ∀ a ∈ keysS l, NameOk a) :
    callF Γ L (k + 2) 154 [.ow (.ins 46 []), .fz (.int c), .fz (.dic (dS l))] = .ok (.fz .non) [.ow (frmO c (keptS l)), .no, .no] := by
  have c1 : ∀ i : Int, callF Γ L (k + 1) 22 [.fz (.int i)] = .ok (.fz (.bl true)) [.no] := fun i => whole_ok hΓ
  have c2 : ∀ a, NameOk a → callF Γ L (k + 1) 150 [.fz (.str a)] = .ok (.fz (.bl true)) [.no] := fun a h => isname_ok hΓ h
  have c3 := kept_ok hΓ (L := L) (k := k) hn hl
  refine wC.eq_fz (wp_run (d := d154) (hΓ _ _ rfl) rfl ?_)
  generalize callF Γ L (k + 1) = cal at *
  unfold d154
  have c4 := c1 c
  repeat infer_instance
  refine wif0 rfl ?_
  repeat infer_instance
  have mk : ∀ a ∈ keysS l, a ∈ keysS l := fun _ h => h
  refine wp_fr ?_
  repeat infer_instance
  refine ⟨fun xs m => ∃ s, m = [.ow (.ins 46 []), .fz (.int c), .fz (.dic (dS l)), s] ∧ ∃ as : List PySem.Str, xs = as.map T.str ∧ ∀ a ∈ as, a ∈ keysS l, ⟨_, rfl, _, rfl, mk⟩, ?_, ?_⟩
  · rintro x xs m2 ⟨s, rfl, as, e, h⟩
    cases as with
    | nil => cases e
    | cons a as =>
      cases e
      have ha := h a List.mem_cons_self
      have c5 := c2 a (hk a ha)
      refine ⟨_, rfl, ?_⟩
      unfold l154_0
      repeat infer_instance
      refine wif0 rfl ?_
      repeat infer_instance
      exact fun b hb => h b (List.mem_cons_of_mem _ hb)
  rintro m2 ⟨s, rfl, _⟩
  repeat infer_instance
  refine wp_fr ?_
  repeat infer_instance
  refine ⟨fun xs m => ∃ s, m = [.ow (.ins 46 []), .fz (.int c), .fz (.dic (dS l)), s] ∧ ∃ as : List PySem.Str, xs = as.map T.str ∧ ∀ a ∈ as, a ∈ keysS l, ⟨_, rfl, _, rfl, mk⟩, ?_, ?_⟩
  · rintro x xs m2 ⟨s, rfl, as, e, h⟩
    cases as with
    | nil => cases e
    | cons a as =>
      cases e
      have ha := h a List.mem_cons_self
      have c5 := c1 (atS l a)
      refine ⟨_, rfl, ?_⟩
      unfold l154_1
      repeat infer_instance
      refine wif0 rfl ?_
      repeat infer_instance
      exact fun b hb => h b (List.mem_cons_of_mem _ hb)
  rintro m2 ⟨s, rfl, _⟩
  repeat infer_instance
theorem formof_ok {c : Int} {l : SD} (hn : (keysS l).Nodup) (hl : l.length < 64) (hk : ∀ a ∈ keysS l, NameOk a) :
    callF Γ L (k + 3) 151 [.fz (.int c), .fz (.dic (dS l))] = .ok (.ow (frmO c (keptS l))) [.no, .no] := by
  have c1 := kept_ok hΓ (L := L) (k := k + 1) hn hl
  have hc := keptS_can hn
  have c2 := init_ok hΓ (L := L) (k := k) (c := c) hc.nodup (Nat.lt_of_le_of_lt (kept_len l) hl) (kept_names hk)
  rw [keptS_same hc] at c2
  refine wC.eq_ow (wp_run (d := d151) (hΓ _ _ rfl) rfl ?_)
  generalize callF Γ L (k + 2) = cal at *
  unfold d151
  repeat infer_instance
  refine wo_kwd (kept_names hk) ?_
  repeat infer_instance
theorem islist_ok {xs : List T} : callF Γ L (k + 1) 19 [.fz (.lst xs)] = .ok (.fz (.bl true)) [.no] := by
  refine wC.eq_fz (wp_run (d := d19) (hΓ _ _ rfl) rfl ?_)
  generalize callF Γ L k = cal at *
  unfold d19
  repeat infer_instance
theorem of_ok {c : Int} {ts : SD} (hl : ts.length < 64) (hk : ∀ a ∈ keysS ts, NameOk a) :
    callF Γ L (k + 4) 147 [.fz (.lst (prsT ts)), .fz (.int c)] = .ok (.ow (frmO c (keptS (sumS [] ts)))) [.no, .no] := by
  have c1 : ∀ i : Int, callF Γ L (k + 3) 22 [.fz (.int i)] = .ok (.fz (.bl true)) [.no] := fun i => whole_ok hΓ
  have c2 : ∀ a, NameOk a → callF Γ L (k + 3) 150 [.fz (.str a)] = .ok (.fz (.bl true)) [.no] := fun a h => isname_ok hΓ h
  have c3 : callF Γ L (k + 3) 19 [.fz (.lst (prsT ts))] = .ok (.fz (.bl true)) [.no] := islist_ok hΓ
  have hs : (keysS ([] : SD)).Nodup := by show ([] : List PySem.Str).Nodup; exact List.Pairwise.nil
  have hsl := sum_len ts []
  have c4 := formof_ok hΓ (L := L) (k := k) (c := c) (l := sumS [] ts) (nodup_sumS ts hs) (by simp only [List.length_nil] at hsl; omega) (fun a ha => hk a ((sum_keys ts [] a ha).resolve_left fun z => by cases z))
  refine wC.eq_ow (wp_run (d := d147) (hΓ _ _ rfl) rfl ?_)
  generalize callF Γ L (k + 3) = cal at *
  unfold d147
  have c5 := c1 c
  repeat infer_instance
  refine wif0 rfl ?_
  repeat infer_instance
  refine wp_fr ?_
  repeat infer_instance
  refine ⟨fun xs m => ∃ (n : Nat) (dn as : SD) (x y : Mi.Slot), xs = enumT n (prsT as) ∧ m = [.fz (.lst (prsT ts)), .fz (.int c), .ow (.dic (dS (sumS [] dn))), x, y] ∧ dn ++ as = ts, ⟨0, [], ts, _, _, rfl, rfl, rfl⟩, ?_, ?_⟩
  · rintro x xs m2 ⟨n, dn, as, x3, x4, e, rfl, hd⟩
    cases as with
    | nil => cases e
    | cons q as =>
      cases e
      have hq : q.1 ∈ keysS ts := by rw [← hd]; exact List.mem_map.mpr ⟨q, by simp, rfl⟩
      have c6 := c2 q.1 (hk q.1 hq)
      have c7 := c1 q.2
      refine ⟨_, rfl, ?_⟩
      unfold l147_0
      repeat infer_instance
      refine wif0 rfl ?_
      repeat infer_instance
      refine ⟨_, _, _, _, rfl, rfl, rfl, rfl, rfl, ?_⟩
      rw [dgt_dS]
      repeat infer_instance
      have hlen : (dS (sumS [] dn)).length < sizeLine := by
        have h1 := sum_len dn []
        have h2 : ts.length = dn.length + (as.length + 1) := by rw [← hd, List.length_append]; rfl
        unfold dS
        rw [List.length_map, sizeLine_eq]
        simp only [List.length_nil] at h1
        omega
      refine ⟨_, _, _, _, rfl, rfl, rfl, hlen, ?_⟩
      repeat infer_instance
      refine ⟨n + 1, dn ++ [q], as, .fz (.int n), .fz (prT q), rfl, ?_, by rw [List.append_assoc]; exact hd⟩
      rw [putT_dS, sum_app]
      rfl
  rintro m2 ⟨n, dn, as, x3, x4, e, rfl, hd⟩
  have has : as = [] := by
    cases as with
    | nil => rfl
    | cons q as => cases e
  subst has
  rw [List.append_nil] at hd
  subst hd
  repeat infer_instance
  refine wif0 rfl ?_
  repeat infer_instance
end
end FrmP
set_option maxHeartbeats 2000000
namespace FrmP
open PySem PySem.Spec PyProof.Rows L2 Mi MiDF
local macro_rules
  | `(tactic| infer_instance) => `(tactic| first
    | refine dp_nil ?_ | refine dp_cons ?_ | refine wp_var rfl ?_ | refine wp_bo rfl ?_ | refine wp_c ?_ | refine wp_op ?_ | refine wp_lst ?_ | refine wp_tup ?_
    | refine wp_call ?_ | refine wp_prop ?_ | refine wp_meth ?_ | refine wp_mk ?_ | refine wp_bop ?_ | refine wp_uop ?_ | refine wp_fld ?_ | refine wp_spc ?_ | refine wp_ceq ?_ | refine wp_inn ?_ | refine wp_nt ?_ | refine wp_fst ?_ | refine jp_cons ?_ | refine jp_nil ?_ | refine wp_isc ?_ | refine wp_dsc rfl rfl ?_ | refine wp_dic0 ?_ | refine wp_dgt ?_ | refine wp_ccm ?_ | refine wp_anP ?_ | refine wp_orP ?_ | refine wp_ite ?_
    | refine sp_it ?_ | refine sp_rng1 ?_ | refine sp_enum ?_ | refine sp_zip ?_ | refine wp_lr ?_
    | refine bp_nil ?_ | refine bp_cons ?_ | refine wp_set ?_ | refine wp_ret ?_ | refine wp_stf ?_ | refine wp_par ?_ | refine wp_ife ?_ | refine wp_ex ?_
    | refine wk_go rfl ?_ | refine wC.fz (by assumption) ?_ | refine wC.ow (by assumption) ?_ | refine wp_stoS ?_ | refine wo_all ?_ | refine wo_idxS (by assumption) ?_ | refine wo_listS ?_ | refine wo_eqS (by assumption) (by assumption) ?_ | exact ⟨rfl, rfl⟩ | refine ⟨rfl, ?_⟩ | refine wO.of rfl ?_ | refine ap_nil ?_ | refine ap_one ?_
    | refine ⟨_, _, _, _, _, rfl, rfl, rfl, ?_⟩ | refine ⟨_, _, _, rfl, rfl, ?_⟩ | refine ⟨_, _, _, rfl, rfl, rfl, ?_⟩ | refine ⟨_, _, rfl, rfl, ?_⟩ | refine ⟨_, _, rfl, ?_⟩ | refine ⟨_, rfl, rfl, ?_⟩ | refine ⟨_, rfl, ?_⟩ | refine ⟨rfl, _, _, rfl, ?_⟩ | refine ⟨⟨_, rfl⟩, ?_⟩ | refine And.intro (fun _ z => nomatch z) ?_ | exact rfl)
noncomputable abbrev spT (c : Int) (l : SD) : T := .tup [.int c, .dic (dS l)]
section
variable {Γ : Nat → Option Def} {L k : Nat} (hΓ : ∀ f d, pg f = some d → Γ f = some d)
include hΓ
theorem const_ok {c : Int} {l : SD} : callF Γ L (k + 1) 144 [.fz (frmT c l)] = .ok (.fz (.int c)) [.no] := by
  refine wC.eq_fz (wp_run (d := d144) (hΓ _ _ rfl) rfl ?_)
  generalize callF Γ L k = cal at *
  unfold d144
  repeat infer_instance
theorem names_ok {c : Int} {l : SD} : callF Γ L (k + 1) 145 [.fz (frmT c l)] = .ok (.ow (.lst ((keysS l).map .str))) [.no] := by
  refine wC.eq_ow (wp_run (d := d145) (hΓ _ _ rfl) rfl ?_)
  generalize callF Γ L k = cal at *
  unfold d145
  repeat infer_instance
theorem eq_ok {c c' : Int} {l l' : SD} (h : CanS l) (h' : CanS l') : callF Γ L (k + 1) 142 [.fz (frmT c l), .fz (frmT c' l')] = .ok (.fz (.bl (decide (c = c') && decide (l = l')))) [.no, .no] := by
  refine wC.eq_fz (wp_run (d := d142) (hΓ _ _ rfl) rfl ?_)
  generalize callF Γ L k = cal at *
  unfold d142
  repeat infer_instance
  refine wif0 rfl ?_
  repeat infer_instance
theorem lform_ok {c : Int} {l : SD} (h : CanS l) (hl : l.length < 64) (hk : ∀ a ∈ keysS l, NameOk a) : callF Γ L (k + 5) 52 [.fz (spT c l)] = .ok (.ow (frmO c l)) [.no] := by
  have c1 := of_ok hΓ (L := L) (k := k) (c := c) hl hk
  rw [kept_sum h (totS_can h)] at c1
  refine wC.eq_ow (wp_run (d := d52) (hΓ _ _ rfl) rfl ?_)
  generalize callF Γ L (k + 4) = cal at *
  unfold d52
  refine bp_cons (wp_ret (wp_call ?_))
  refine dp_cons (wp_comp (α := PySem.Str × Int) ?_)
  repeat infer_instance
  refine ⟨l, fun q => .str q.1, fun _ => true, fun q => .tup [.str q.1, .int (atS l q.1)], keys_dS l, rfl, rfl, fun q hq => ⟨_, rfl, rfl, ap_nil ⟨rfl, rfl⟩, fun _ => ?_⟩, by rw [sizeLine_eq]; omega, ?_⟩
  · have hm : q.1 ∈ keysS l := List.mem_map.mpr ⟨q, hq, rfl⟩
    unfold e52_0
    repeat infer_instance
  · have e : (l.filter fun _ => true).map (fun q : PySem.Str × Int => T.tup [.str q.1, .int (atS l q.1)]) = prsT l := by
      rw [List.filter_eq_self.mpr fun _ _ => rfl]
      exact List.map_congr_left fun q hq => by rw [h.at hq]
    rw [e]
    repeat infer_instance
end
end FrmP
set_option maxHeartbeats 2000000
namespace FrmP
open PySem PySem.Spec PyProof.Rows L2 Mi MiDF
local macro_rules
  | `(tactic| infer_instance) => `(tactic| first
    | refine dp_nil ?_ | refine dp_cons ?_ | refine wp_var rfl ?_ | refine wp_bo rfl ?_ | refine wp_c ?_ | refine wp_op ?_ | refine wp_lst ?_ | refine wp_tup ?_
    | refine wp_call ?_ | refine wp_prop ?_ | refine wp_meth ?_ | refine wp_mk ?_ | refine wp_bop ?_ | refine wp_uop ?_ | refine wp_fld ?_ | refine wp_spc ?_ | refine wp_ceq ?_ | refine wp_inn ?_ | refine wp_nt ?_ | refine wp_fst ?_ | refine jp_nil ?_ | refine wp_isc ?_ | refine wp_dsc rfl rfl ?_ | refine wp_dic0 ?_ | refine wp_dgt ?_ | refine wp_ccm ?_ | refine wp_anP ?_ | refine wp_orP ?_ | refine wp_ite ?_
    | refine sp_it ?_ | refine sp_rng1 ?_ | refine sp_enum ?_ | refine sp_zip ?_ | refine wp_lr ?_
    | refine bp_nil ?_ | refine bp_cons ?_ | refine wp_set ?_ | refine wp_ret ?_ | refine wp_stf ?_ | refine wp_par ?_ | refine wp_ife ?_ | refine wp_ex ?_
    | refine wk_go rfl ?_ | refine wC.fz (by assumption) ?_ | refine wC.ow (by assumption) ?_ | refine wp_stoS ?_ | refine wo_all ?_ | refine wo_idxS (by assumption) ?_ | refine wo_listS ?_ | refine wo_eqS (by assumption) (by assumption) ?_ | exact ⟨rfl, rfl⟩ | refine ⟨rfl, ?_⟩ | refine wO.of rfl ?_ | refine ap_nil ?_ | refine ap_one ?_
    | refine ⟨_, _, _, _, _, rfl, rfl, rfl, ?_⟩ | refine ⟨_, _, _, rfl, rfl, ?_⟩ | refine ⟨_, _, _, rfl, rfl, rfl, ?_⟩ | refine ⟨_, _, rfl, rfl, ?_⟩ | refine ⟨_, _, rfl, ?_⟩ | refine ⟨_, rfl, rfl, ?_⟩ | refine ⟨_, rfl, ?_⟩ | refine ⟨rfl, _, _, rfl, ?_⟩ | refine ⟨⟨_, rfl⟩, ?_⟩ | refine And.intro (fun _ z => nomatch z) ?_ | exact rfl)
theorem bp_via {cal : Nat → List Mi.Slot → CRes} {L : Nat} {s : S} {r : Ss} {m X : List Mi.Slot} {D : En} (h1 : wT cal L s m (D.seq fun m1 => m1 = X)) (h2 : wB cal L r X D) : wB cal L (.cons s r) m D := by
  refine bp_cons ?_
  unfold wT at *
  exact Fl.sat_mono h1 (fun m e => by subst e; exact h2) (fun _ _ q => q) (fun _ q => q) (fun _ q => q)
theorem jp_int {cal : Nat → List Mi.Slot → CRes} {m : List Mi.Slot} {e : E} {r : Es} {acc : PySem.Str} {Q : PySem.Str → List Mi.Slot → Prop} (h : wE cal e m fun x m1 => ∃ i : Int, x = .fz (.int i) ∧ ((acc ++ istr i).length ≤ sizeLine ∧ Small i) ∧ wJ cal r (acc ++ istr i) m1 Q) : wJ cal (.cons e r) acc m Q := by
  unfold wE at h
  unfold wJ at *
  obtain ⟨x, m1, h1, i, rfl, h2, z, m2, h3, q⟩ := h
  refine ⟨z, m2, ?_, q⟩
  rw [evJs, h1]
  exact (if_pos h2).trans h3
noncomputable abbrev spc : PySem.Str := " "
noncomputable def ttS (n : Int) (a : PySem.Str) : PySem.Str := if a = "" then istr n else if n = 1 then a else ((PySem.Str.empty ++ istr n) ++ spc) ++ a
noncomputable def absI (n : Int) : Int := if n < 0 then -n else n
section
variable {Γ : Nat → Option Def} {L k : Nat} (hΓ : ∀ f d, pg f = some d → Γ f = some d)
include hΓ
theorem term_ok {n : Int} {a : PySem.Str} (hn : Small n) (hl : (istr n).length ≤ 1000) (ha : a.length ≤ 1000) : callF Γ L (k + 1) 148 [.fz (.int n), .fz (.str a)] = .ok (.fz (.str (ttS n a))) [.no, .no] := by
  refine wC.eq_fz (wp_run (d := d148) (hΓ _ _ rfl) rfl ?_)
  generalize callF Γ L k = cal at *
  unfold d148
  repeat infer_instance
  by_cases e : a = ""
  · refine wif1 (by rw [e]; rfl) ?_
    repeat infer_instance
    refine wO.of (str_int hn) ?_
    have h1 : ttS n a = istr n := if_pos e
    rw [h1]
    repeat infer_instance
  · refine wif0 (beq_eq_false_iff_ne.mpr e) ?_
    repeat infer_instance
    by_cases e1 : n = 1
    · refine wif1 (by rw [e1]; rfl) ?_
      have h1 : ttS n a = a := by unfold ttS; rw [if_neg e, if_pos e1]
      rw [h1]
      repeat infer_instance
    · refine wif0 (beq_eq_false_iff_ne.mpr e1) ?_
      have h1 : ttS n a = ((PySem.Str.empty ++ istr n) ++ spc) ++ a := by unfold ttS; rw [if_neg e, if_neg e1]
      rw [h1]
      have z0 : (PySem.Str.empty ++ istr n).length = (istr n).length := by rw [PySem.Str.length_append]; exact Nat.zero_add _
      have z1 : ((PySem.Str.empty ++ istr n) ++ spc).length = (istr n).length + 1 := by rw [PySem.Str.length_append, z0]; rfl
      have z2 : (((PySem.Str.empty ++ istr n) ++ spc) ++ a).length = (istr n).length + 1 + a.length := by rw [PySem.Str.length_append, z1]
      repeat infer_instance
      refine jp_int (wp_var rfl ⟨_, rfl, ⟨by rw [z0, sizeLine_eq]; omega, hn⟩, ?_⟩)
      refine jp_cons (wp_c ⟨_, rfl, by rw [z1, sizeLine_eq]; omega, ?_⟩)
      refine jp_cons (wp_var rfl ⟨_, rfl, by rw [z2, sizeLine_eq]; omega, ?_⟩)
      repeat infer_instance
end
noncomputable abbrev tmT (t : Int × PySem.Str) : T := .tup [.int t.1, .str t.2]
theorem tms_py : ∀ ts : List (Int × PySem.Str), (∀ t ∈ ts, PyData.canLay0 (.str t.2) = true) → ∃ ds, pyTs (ts.map tmT) = some ds ∧ PyData.canLayAll0 ds = true ∧ PyData.depthAll ds ≤ 2 ∧ (ds = [] ↔ ts = [])
  | [], _ => ⟨[], rfl, rfl, by decide, by simp⟩
  | t :: r, h => by
    obtain ⟨ds, f1, f2, f3, _⟩ := tms_py r fun x hx => h x (List.mem_cons_of_mem _ hx)
    refine ⟨.tuple [.int t.1, .str t.2] :: ds, ?_, ?_, ?_, by simp⟩
    · rw [List.map_cons, pyTs, f1]
      rfl
    · rw [PyData.canLayAll0, f2, PyData.canLay0, PyData.canLayAll0, PyData.canLayAll0, PyData.canLayAll0, h t List.mem_cons_self]
      rfl
    · rw [PyData.depthAll]
      have : PyData.depth (.tuple [.int t.1, .str t.2]) ≤ 2 := by
        rw [PyData.depth, PyData.depthAll, PyData.depthAll, PyData.depthAll]
        simp [PyData.depth]
      omega
theorem eq_tms (k : Bool → Bool) {ts : List (Int × PySem.Str)} (h : ∀ t ∈ ts, PyData.canLay0 (.str t.2) = true) : eqF (.lst (ts.map tmT)) (.lst []) k = fB (k (decide (ts = []))) := by
  obtain ⟨ds, f1, f2, f3, f4⟩ := tms_py ts h
  show (match (pyTs (ts.map tmT)).map PyData.list, pyT (.lst []) with
    | some d, some e => if SeqAt.shaped d = true ∧ SeqAt.shaped e = true then fB (k (PyData.eqv d e)) else none
    | _, _ => _) = _
  have s : SeqAt.shaped (.list ds) = true := by
    show (PyData.canLay0 (.list ds) && decide (PyData.depth (.list ds) ≤ 64)) = true
    rw [PyData.canLay0, f2, Bool.true_and, decide_eq_true_eq, PyData.depth]
    omega
  have s0 : SeqAt.shaped (.list []) = true := by decide
  have e0 : pyT (.lst []) = some (.list []) := rfl
  rw [f1, e0]
  simp only [Option.map_some]
  rw [if_pos ⟨s, s0⟩]
  congr 2
  cases ds with
  | nil =>
    rw [decide_eq_true (f4.mp rfl)]
    rfl
  | cons d r =>
    rw [decide_eq_false fun z => by cases f4.mpr z]
    rfl
theorem wo_eqT {P : R → Prop} {ts : List (Int × PySem.Str)} (h : ∀ t ∈ ts, PyData.canLay0 (.str t.2) = true) (q : P (.fz (.bl (decide (ts = []))))) : wO .eq [.lst (ts.map tmT), .lst []] P := .of (eq_tms id h) q
theorem wo_idx0 {P : R → Prop} {x : T} {xs : List T} (q : P (.fz x)) : wO .idx [.lst (x :: xs), .int 0] P := .of (by
  show (atI (x :: xs) 0).map R.fz = _
  rw [atI_nat (x := x) (n := 0) (by omega) rfl]
  rfl) q
theorem cut_tail {x : T} {xs : List T} : cutT (x :: xs) (some 1) none = xs := by
  show ((x :: xs).drop (min 1 (x :: xs).length)).take ((x :: xs).length - min 1 (x :: xs).length) = xs
  rw [show min 1 (x :: xs).length = 1 from by simp only [List.length_cons]; omega]
  show xs.take (xs.length + 1 - 1) = xs
  rw [Nat.add_sub_cancel, List.take_length]
noncomputable def termsS (c : Int) (l : SD) : List (Int × PySem.Str) := l.map (fun q => (q.2, q.1)) ++ (if (!decide (c = 0) || decide (l = [])) = true then [(c, ("" : PySem.Str))] else [])
noncomputable def sgnS (n : Int) : PySem.Str := if n < 0 then "-" else "+"
noncomputable def ptS (t : Int × PySem.Str) : PySem.Str := (((PySem.Str.empty ++ spc) ++ sgnS t.1) ++ spc) ++ ttS (absI t.1) t.2
noncomputable def ftS (ts : List (Int × PySem.Str)) : PySem.Str := match ts with
  | [] => ""
  | t :: r => Txt.join "" ([(if t.1 < 0 then ("- " : PySem.Str) else ""), ttS (absI t.1) t.2] ++ r.map ptS)
theorem tt_len (n : Int) (a : PySem.Str) : (ttS n a).length ≤ (istr n).length + 1 + a.length := by
  unfold ttS
  split
  · omega
  · split
    · omega
    · rw [PySem.Str.length_append, PySem.Str.length_append, PySem.Str.length_append]
      show 0 + (istr n).length + 1 + a.length ≤ _
      omega
theorem sgn_len (n : Int) : (((PySem.Str.empty ++ spc) ++ sgnS n) ++ spc).length = 3 := by
  unfold sgnS
  split <;> decide
theorem sum_le {B : Nat} : ∀ ys : List PySem.Str, (∀ y ∈ ys, y.length ≤ B) → (ys.map (·.length)).sum ≤ ys.length * B
  | [], _ => Nat.zero_le _
  | a :: r, h => by
    have h1 := sum_le r fun y hy => h y (List.mem_cons_of_mem _ hy)
    have h2 := h a List.mem_cons_self
    rw [List.map_cons, List.sum_cons, List.length_cons, Nat.succ_mul]
    omega
theorem join0_ok {ys : List PySem.Str} (h1 : ys.length ≤ 100) (h2 : ∀ y ∈ ys, y.length ≤ 5000) : joinF (.str "") (.lst (tS ys)) = some (.fz (.str (Txt.join "" ys))) := by
  show (strsT (tS ys)).bind (fun ys => if (ys.map (·.length)).sum + ys.length * PySem.Str.length "" ≤ 16777216 then fS (Txt.join "" ys) else none) = _
  rw [strs_tS]
  refine if_pos ?_
  have h3 := sum_le ys h2
  have h4 : ys.length * 5000 ≤ 100 * 5000 := Nat.mul_le_mul_right _ h1
  have h5 : ys.length * PySem.Str.length "" = 0 := Nat.mul_zero _
  omega
theorem escs_ts {m : List Mi.Slot} : ∀ ts : List T, escs m (ts.map Opd.t) = some (ts, m)
  | [] => rfl
  | t :: r => by
    show (match (some (t, m) : Option (T × List Mi.Slot)) with
      | some (t, m1) => (match escs m1 (r.map Opd.t) with
        | some (ts, m2) => some (t :: ts, m2)
        | none => none)
      | none => none) = _
    simp only
    rw [escs_ts r]
structure TmsOk (ts : List (Int × PySem.Str)) : Prop where
  len : ts.length < 64
  sm : ∀ t ∈ ts, Small (absI t.1) ∧ (istr (absI t.1)).length ≤ 1000 ∧ t.2.length ≤ 1000 ∧ PyData.canLay0 (.str t.2) = true
section
variable {Γ : Nat → Option Def} {L k : Nat} (hΓ : ∀ f d, pg f = some d → Γ f = some d)
include hΓ
theorem text_ok {c : Int} {l : SD} (h : CanS l) (ht : TmsOk (termsS c l)) : callF Γ L (k + 2) 140 [.fz (frmT c l)] = .ok (.fz (.str (ftS (termsS c l)))) [.no] := by
  have c1 : ∀ t ∈ termsS c l, callF Γ L (k + 1) 148 [.fz (.int (absI t.1)), .fz (.str t.2)] = .ok (.fz (.str (ttS (absI t.1) t.2))) [.no, .no] := fun t hm => term_ok hΓ (ht.sm t hm).1 (ht.sm t hm).2.1 (ht.sm t hm).2.2.1
  have hl : l.length < 64 := by
    have := ht.len
    unfold termsS at this
    rw [List.length_append, List.length_map] at this
    omega
  have hL : ∀ t ∈ l.map (fun q : PySem.Str × Int => (q.2, q.1)), PyData.canLay0 (.str t.2) = true := fun t hm => (ht.sm t (by unfold termsS; exact List.mem_append_left _ hm)).2.2.2
  refine wC.eq_fz (wp_run (d := d140) (hΓ _ _ rfl) rfl ?_)
  generalize callF Γ L (k + 1) = cal at *
  unfold d140
  refine bp_via (X := [.fz (frmT c l), .ow (.lst ((l.map fun q : PySem.Str × Int => (q.2, q.1)).map tmT)), .no, .no, .no, .no]) (wp_set (wp_comp (α := PySem.Str × Int) ?_)) ?_
  repeat infer_instance
  refine ⟨l, fun q => .str q.1, fun _ => true, fun q => .tup [.int (atS l q.1), .str q.1], keys_dS l, rfl, rfl, fun q hq => ⟨_, rfl, rfl, ap_nil ⟨rfl, rfl⟩, fun _ => ?_⟩, by rw [sizeLine_eq]; omega, ?_⟩
  · have hm : q.1 ∈ keysS l := List.mem_map.mpr ⟨q, hq, rfl⟩
    unfold e140_0
    repeat infer_instance
  · have e : (l.filter fun _ => true).map (fun q : PySem.Str × Int => T.tup [.int (atS l q.1), .str q.1]) = (l.map fun q : PySem.Str × Int => (q.2, q.1)).map tmT := by
      rw [List.filter_eq_self.mpr fun _ _ => rfl, List.map_map]
      exact List.map_congr_left fun q hq => by rw [h.at hq]; rfl
    rw [e]
    repeat infer_instance
  refine bp_via (X := [.fz (frmT c l), .ow (.lst ((termsS c l).map tmT)), .no, .no, .no, .no]) ?_ ?_
  · repeat infer_instance
    refine wo_eqT hL ?_
    repeat infer_instance
    have ec : (!eqT (.int c) (.int 0) || decide (l.map (fun q : PySem.Str × Int => (q.2, q.1)) = [])) = (!decide (c = 0) || decide (l = [])) := by
      congr 1
      rw [decide_eq_decide]
      exact List.map_eq_nil_iff
    rw [ec]
    by_cases hb : (!decide (c = 0) || decide (l = [])) = true
    · refine wif1 hb ?_
      refine bp_cons (wp_app ⟨_, rfl, ?_⟩)
      repeat infer_instance
      refine ⟨by rw [List.length_map, List.length_map, sizeLine_eq]; omega, ?_⟩
      repeat infer_instance
      have e2 : termsS c l = l.map (fun q : PySem.Str × Int => (q.2, q.1)) ++ [(c, ("" : PySem.Str))] := by unfold termsS; rw [if_pos hb]
      rw [e2, List.map_append]
      rfl
    · refine wif0 (Bool.eq_false_iff.mpr hb) ?_
      repeat infer_instance
      have e2 : termsS c l = l.map (fun q => (q.2, q.1)) := by unfold termsS; rw [if_neg hb, List.append_nil]
      rw [e2]
  obtain ⟨t, r, et⟩ : ∃ t r, termsS c l = t :: r := by
    cases e : termsS c l with
    | cons t r => exact ⟨t, r, rfl⟩
    | nil =>
      unfold termsS at e
      obtain ⟨e1, e2⟩ := List.append_eq_nil_iff.mp e
      have hl0 : l = [] := List.map_eq_nil_iff.mp e1
      subst hl0
      rw [if_pos (by simp)] at e2
      cases e2
  rw [et] at c1 ht ⊢
  have c2 := c1 t List.mem_cons_self
  refine bp_via (X := [.fz (frmT c l), .ow (.lst ((t :: r).map tmT)), .no, .fz (.str (if t.1 < 0 then ("- " : PySem.Str) else "")), .no, .no]) ?_ ?_
  · repeat infer_instance
    refine wo_idx0 ?_
    repeat infer_instance
    by_cases hn : t.1 < 0
    · refine wif1 (decide_eq_true hn) ?_
      rw [if_pos hn]
      repeat infer_instance
    · refine wif0 (decide_eq_false hn) ?_
      rw [if_neg hn]
      repeat infer_instance
  refine bp_via (X := [.fz (frmT c l), .ow (.lst ((t :: r).map tmT)), .no, .fz (.str (if t.1 < 0 then ("- " : PySem.Str) else "")), .ow (.lst (r.map fun t => .str (ptS t))), .no]) ?_ ?_
  · refine wp_set (wp_comp (α := Int × PySem.Str) ?_)
    repeat infer_instance
    refine ⟨r, tmT, fun _ => true, fun t => .str (ptS t), cut_tail, rfl, rfl, fun u hu => ⟨_, rfl, rfl, ap_nil ⟨rfl, rfl⟩, fun _ => ?_⟩, ?_, ?_⟩
    · have c3 := c1 u (List.mem_cons_of_mem _ hu)
      unfold e140_1
      have hs := ht.sm u (List.mem_cons_of_mem _ hu)
      have tl := tt_len (absI u.1) u.2
      have fin : ((((PySem.Str.empty ++ spc) ++ sgnS u.1) ++ spc) ++ ttS (absI u.1) u.2).length ≤ sizeLine := by
        rw [PySem.Str.length_append, sgn_len, sizeLine_eq]
        have h1 := hs.2.1
        have h2 := hs.2.2.1
        omega
      refine wp_fst (jp_cons (wp_c ⟨_, rfl, by decide, jp_cons (wp_ite ?_)⟩))
      repeat infer_instance
      have rest : ∀ (D : PySem.Str → List Mi.Slot → Prop) (m : List Mi.Slot), m[5]? = some (.fz (.int u.1)) → m[2]? = some (.fz (.str u.2)) → D (ptS u) m → wJ cal (.cons (.c (.str " ")) (.cons (.call 148 [false, false] (.cons (.op .abs (.cons (.var 5) .nil)) (.cons (.var 2) .nil))) .nil)) ((PySem.Str.empty ++ spc) ++ sgnS u.1) m D := by
        intro D m m5 m2 q
        refine jp_cons (wp_c ⟨_, rfl, ?_, jp_cons (wp_call (dp_cons (wp_op (dp_cons (wp_var m5 (dp_nil ⟨_, rfl, wO.of rfl ?_⟩))))))⟩)
        · show ((((PySem.Str.empty ++ spc) ++ sgnS u.1) ++ spc)).length ≤ sizeLine
          rw [sgn_len, sizeLine_eq]; decide
        refine dp_cons (wp_var m2 (dp_nil (wk_go rfl (wC.fz c3 ⟨_, rfl, _, rfl, fin, jp_nil q⟩))))
      by_cases hn : u.1 < 0
      · refine wif1 (decide_eq_true hn) (wp_c ⟨_, rfl, by decide, ?_⟩)
        have e1 : sgnS u.1 = "-" := if_pos hn
        rw [e1] at rest
        exact rest _ _ rfl rfl ⟨rfl, rfl⟩
      · refine wif0 (decide_eq_false hn) (wp_c ⟨_, rfl, by decide, ?_⟩)
        have e1 : sgnS u.1 = "+" := if_neg hn
        rw [e1] at rest
        exact rest _ _ rfl rfl ⟨rfl, rfl⟩
    · have := ht.len
      simp only [List.length_cons] at this
      rw [sizeLine_eq]; omega
    · rw [List.filter_eq_self.mpr fun _ _ => rfl]
      repeat infer_instance
  have hlen := ht.len
  simp only [List.length_cons] at hlen
  have hs := ht.sm t List.mem_cons_self
  refine bp_cons (wp_ret (wp_jn (wp_c ⟨_, rfl, wp_lsx (xp_one (wp_var rfl (xp_one (wp_call ?_))))⟩)))
  repeat infer_instance
  refine wo_idx0 ?_
  repeat infer_instance
  refine wo_idx0 ?_
  repeat infer_instance
  refine xp_star (wp_bo rfl ⟨_, rfl, xp_nil ?_⟩)
  refine ⟨_, _, by
    rw [List.append_nil]
    exact escs_ts (.str (if t.1 < 0 then ("- " : PySem.Str) else "") :: .str (ttS (absI t.1) t.2) :: r.map fun t => T.str (ptS t)), ?_, _, .fz (.str (ftS (t :: r))), rfl, ?_, ?_⟩
  · simp only [List.length_cons, List.length_map]
    rw [sizeLine_eq]; omega
  · have e3 : (T.str (if t.1 < 0 then ("- " : PySem.Str) else "") :: T.str (ttS (absI t.1) t.2) :: r.map fun t => T.str (ptS t)) = tS ((if t.1 < 0 then ("- " : PySem.Str) else "") :: ttS (absI t.1) t.2 :: r.map ptS) := by
      unfold tS
      rw [List.map_cons, List.map_cons, List.map_map]
      rfl
    show joinF (.str "") (.lst _) = _
    rw [e3]
    refine join0_ok ?_ ?_
    · simp only [List.length_cons, List.length_map]
      omega
    · intro y hy
      rcases List.mem_cons.mp hy with rfl | hy
      · split <;> decide
      rcases List.mem_cons.mp hy with rfl | hy
      · have := tt_len (absI t.1) t.2
        have h1 := hs.2.1
        have h2 := hs.2.2.1
        omega
      · obtain ⟨u, hu, rfl⟩ := List.mem_map.mp hy
        have hs2 := ht.sm u (List.mem_cons_of_mem _ hu)
        have := tt_len (absI u.1) u.2
        have h1 := hs2.2.1
        have h2 := hs2.2.2.1
        unfold ptS
        rw [PySem.Str.length_append, sgn_len]
        omega
  · repeat infer_instance
end
end FrmP
set_option maxHeartbeats 2000000
namespace FrmP
open PySem PySem.Spec PyProof.Rows L2 Mi MiDF
local macro_rules
  | `(tactic| infer_instance) => `(tactic| first
    | refine dp_nil ?_ | refine dp_cons ?_ | refine wp_var rfl ?_ | refine wp_bo rfl ?_ | refine wp_c ?_ | refine wp_op ?_ | refine wp_lst ?_ | refine wp_tup ?_
    | refine wp_call ?_ | refine wp_prop ?_ | refine wp_meth ?_ | refine wp_mk ?_ | refine wp_bop ?_ | refine wp_uop ?_ | refine wp_fld ?_ | refine wp_spc ?_ | refine wp_ceq ?_ | refine wp_inn ?_ | refine wp_nt ?_ | refine wp_fst ?_ | refine jp_nil ?_ | refine wp_isc ?_ | refine wp_dsc rfl rfl ?_ | refine wp_dic0 ?_ | refine wp_dgt ?_ | refine wp_ccm ?_ | refine wp_anP ?_ | refine wp_orP ?_ | refine wp_ite ?_
    | refine sp_it ?_ | refine sp_rng1 ?_ | refine sp_enum ?_ | refine sp_zip ?_ | refine wp_lr ?_
    | refine bp_nil ?_ | refine bp_cons ?_ | refine wp_set ?_ | refine wp_ret ?_ | refine wp_stf ?_ | refine wp_par ?_ | refine wp_ife ?_ | refine wp_ex ?_
    | refine wk_go rfl ?_ | refine wC.fz (by assumption) ?_ | refine wC.ow (by assumption) ?_ | refine wp_stoS ?_ | refine wo_all ?_ | refine wo_idxS (by assumption) ?_ | refine wo_listS ?_ | refine wo_eqS (by assumption) (by assumption) ?_ | refine wo_neW (by assumption) ?_ | exact ⟨rfl, rfl⟩ | refine ⟨rfl, ?_⟩ | refine wO.of rfl ?_ | refine ap_nil ?_ | refine ap_one ?_
    | refine ⟨_, _, _, _, _, rfl, rfl, rfl, ?_⟩ | refine ⟨_, _, _, rfl, rfl, ?_⟩ | refine ⟨_, _, _, rfl, rfl, rfl, ?_⟩ | refine ⟨_, _, rfl, rfl, ?_⟩ | refine ⟨_, _, rfl, ?_⟩ | refine ⟨_, rfl, rfl, ?_⟩ | refine ⟨_, rfl, ?_⟩ | refine ⟨rfl, _, _, rfl, ?_⟩ | refine ⟨⟨_, rfl⟩, ?_⟩ | refine And.intro (fun _ z => nomatch z) ?_ | exact rfl)
/-! the words of a text -/
noncomputable def sgW (ws : List PySem.Str) (t : Int × PySem.Str) : List PySem.Str := ws ++ (if (decide (t.1 < 0) || !decide (ws = [])) = true then [sgnS t.1] else [])
noncomputable def nuW (t : Int × PySem.Str) : List PySem.Str := if (decide (t.2 = "") || !decide (absI t.1 = 1)) = true then [istr (absI t.1)] else []
noncomputable def naW (t : Int × PySem.Str) : List PySem.Str := if (!decide (t.2 = "")) = true then [t.2] else []
noncomputable def stW (ws : List PySem.Str) (t : Int × PySem.Str) : List PySem.Str := (sgW ws t ++ nuW t) ++ naW t
noncomputable def wsW (ts : List (Int × PySem.Str)) : List PySem.Str := ts.foldl stW []
noncomputable def WOk (ws : List PySem.Str) : Prop := ∀ w ∈ ws, PyData.canLay0 (.str w) = true
theorem strs_py : ∀ ws : List PySem.Str, WOk ws → ∃ ds, pyTs (tS ws) = some ds ∧ PyData.canLayAll0 ds = true ∧ PyData.depthAll ds ≤ 1 ∧ (ds = [] ↔ ws = [])
  | [], _ => ⟨[], rfl, rfl, by decide, by simp⟩
  | t :: r, h => by
    obtain ⟨ds, f1, f2, f3, _⟩ := strs_py r fun x hx => h x (List.mem_cons_of_mem _ hx)
    refine ⟨.str t :: ds, ?_, ?_, ?_, by simp⟩
    · show pyTs (T.str t :: tS r) = _
      rw [pyTs, f1]
      rfl
    · rw [PyData.canLayAll0, f2, h t List.mem_cons_self]
      rfl
    · rw [PyData.depthAll]
      have : PyData.depth (.str t) ≤ 1 := by simp [PyData.depth]
      omega
theorem eq_ws (k : Bool → Bool) {ws : List PySem.Str} (h : WOk ws) : eqF (.lst (tS ws)) (.lst []) k = fB (k (decide (ws = []))) := by
  obtain ⟨ds, f1, f2, f3, f4⟩ := strs_py ws h
  show (match (pyTs (tS ws)).map PyData.list, pyT (.lst []) with
    | some d, some e => if SeqAt.shaped d = true ∧ SeqAt.shaped e = true then fB (k (PyData.eqv d e)) else none
    | _, _ => _) = _
  have s : SeqAt.shaped (.list ds) = true := by
    show (PyData.canLay0 (.list ds) && decide (PyData.depth (.list ds) ≤ 64)) = true
    rw [PyData.canLay0, f2, Bool.true_and, decide_eq_true_eq, PyData.depth]
    omega
  have s0 : SeqAt.shaped (.list []) = true := by decide
  have e0 : pyT (.lst []) = some (.list []) := rfl
  rw [f1, e0]
  simp only [Option.map_some]
  rw [if_pos ⟨s, s0⟩]
  congr 2
  cases ds with
  | nil => rw [decide_eq_true (f4.mp rfl)]; rfl
  | cons d r => rw [decide_eq_false fun z => by cases f4.mpr z]; rfl
theorem wo_neW {P : R → Prop} {ws : List PySem.Str} (h : WOk ws) (q : P (.fz (.bl (!decide (ws = []))))) : wO .ne [.lst (tS ws), .lst []] P := .of (eq_ws not h) q
theorem ws_len : ∀ (ts : List (Int × PySem.Str)) (ws : List PySem.Str), (ts.foldl stW ws).length ≤ ws.length + 3 * ts.length
  | [], ws => Nat.le_refl _
  | t :: r, ws => by
    have h1 := ws_len r (stW ws t)
    have h2 : (stW ws t).length ≤ ws.length + 3 := by
      unfold stW sgW nuW naW
      rw [List.length_append, List.length_append, List.length_append]
      have e : ∀ (b : Bool) (x : PySem.Str), (if b = true then [x] else []).length ≤ 1 := fun b x => by cases b <;> first | exact Nat.le_refl _ | exact Nat.zero_le _
      have e1 := e (decide (t.1 < 0) || !decide (ws = [])) (sgnS t.1)
      have e2 := e (decide (t.2 = "") || !decide (absI t.1 = 1)) (istr (absI t.1))
      have e3 := e (!decide (t.2 = "")) t.2
      omega
    show (r.foldl stW (stW ws t)).length ≤ _
    rw [List.length_cons]
    omega
section
variable {Γ : Nat → Option Def} {L k : Nat}
variable (hΓ : ∀ f d, pg f = some d → Γ f = some d)
include hΓ
end
end FrmP
set_option maxHeartbeats 2000000
/-! the words' text is the form's text -/
namespace FrmP
open PySem PySem.Spec PyProof.Rows L2 Mi MiDF
theorem s_assoc (a b c : PySem.Str) : (a ++ b) ++ c = a ++ (b ++ c) := by
  obtain ⟨x⟩ := a
  obtain ⟨y⟩ := b
  obtain ⟨z⟩ := c
  show PySem.Str.mk ((x ++ y) ++ z) = PySem.Str.mk (x ++ (y ++ z))
  rw [Array.append_assoc]
theorem s_nil (a : PySem.Str) : PySem.Str.empty ++ a = a := by
  obtain ⟨x⟩ := a
  show PySem.Str.mk (#[] ++ x) = _
  rw [Array.empty_append]
theorem s_nil2 (a : PySem.Str) : ("" : PySem.Str) ++ a = a := s_nil a
theorem s_nilr (a : PySem.Str) : a ++ ("" : PySem.Str) = a := by
  obtain ⟨x⟩ := a
  show PySem.Str.mk (x ++ #[]) = _
  rw [Array.append_empty]
noncomputable abbrev J (ws : List PySem.Str) : PySem.Str := PySem.Str.join spc ws
theorem j_cons {a b : PySem.Str} {r : List PySem.Str} : J (a :: b :: r) = (a ++ spc) ++ J (b :: r) := rfl
theorem j_app : ∀ {ws us : List PySem.Str}, ws ≠ [] → us ≠ [] → J (ws ++ us) = (J ws ++ spc) ++ J us
  | [], _, h, _ => absurd rfl h
  | [a], [], _, h => absurd rfl h
  | [a], u :: us, _, _ => rfl
  | a :: b :: r, us, _, h => by
    have ih := j_app (ws := b :: r) (us := us) (by simp) h
    show J (a :: b :: (r ++ us)) = _
    rw [j_cons, j_cons]
    show (a ++ spc) ++ J ((b :: r) ++ us) = _
    rw [ih]
    simp only [s_assoc]
noncomputable abbrev boW (t : Int × PySem.Str) : List PySem.Str := nuW t ++ naW t
theorem bo_ne (t : Int × PySem.Str) : boW t ≠ [] := by
  unfold boW nuW naW
  by_cases e : t.2 = ""
  · rw [decide_eq_true e]; simp
  · rw [decide_eq_false e]; simp
theorem j_bo (t : Int × PySem.Str) : J (boW t) = ttS (absI t.1) t.2 := by
  unfold boW nuW naW ttS
  by_cases e : t.2 = ""
  · rw [decide_eq_true e, if_pos e]
    rfl
  · rw [decide_eq_false e, if_neg e]
    by_cases e1 : absI t.1 = 1
    · rw [decide_eq_true e1, if_pos e1]
      rfl
    · rw [decide_eq_false e1, if_neg e1]
      show J [istr (absI t.1), t.2] = _
      rw [s_nil]
      rfl
theorem st_ne {ws : List PySem.Str} (h : ws ≠ []) (t : Int × PySem.Str) : stW ws t = ws ++ (sgnS t.1 :: boW t) := by
  unfold stW sgW
  rw [decide_eq_false h]
  rw [if_pos (by simp)]
  rw [List.append_assoc, List.append_assoc]
  rfl
theorem j_cons1 (a : PySem.Str) {us : List PySem.Str} (h : us ≠ []) : J (a :: us) = (a ++ spc) ++ J us := by
  cases us with
  | nil => exact absurd rfl h
  | cons b r => rfl
noncomputable def cat : List PySem.Str → PySem.Str
  | [] => ""
  | a :: r => a ++ cat r
theorem j_fold : ∀ (r : List (Int × PySem.Str)) (ws : List PySem.Str), ws ≠ [] → J (r.foldl stW ws) = J ws ++ cat (r.map ptS)
  | [], ws, _ => by rw [List.map_nil, cat, s_nilr]; rfl
  | u :: r, ws, h => by
    have h2 : stW ws u ≠ [] := by rw [st_ne h]; simp
    show J (r.foldl stW (stW ws u)) = _
    rw [j_fold r _ h2, st_ne h, j_app h (by simp), j_cons1 _ (bo_ne u), j_bo, List.map_cons, cat]
    unfold ptS
    rw [s_nil]
    simp only [s_assoc]
theorem join0_cat : ∀ ws : List PySem.Str, PySem.Str.join "" ws = cat ws
  | [] => rfl
  | [a] => by rw [cat, cat, s_nilr]; rfl
  | a :: b :: r => by
    show (a ++ "") ++ PySem.Str.join "" (b :: r) = _
    rw [join0_cat (b :: r), s_nilr]
    rfl
theorem text_eq (t : Int × PySem.Str) (r : List (Int × PySem.Str)) : Txt.join " " (wsW (t :: r)) = ftS (t :: r) := by
  rw [join_eq]
  show J (r.foldl stW (stW [] t)) = Txt.join "" _
  rw [join_eq, join0_cat]
  show _ = (if t.1 < 0 then ("- " : PySem.Str) else "") ++ (ttS (absI t.1) t.2 ++ cat (r.map ptS))
  by_cases hn : t.1 < 0
  · have e : stW [] t = ("-" : PySem.Str) :: boW t := by
      unfold stW sgW
      rw [decide_eq_true hn, if_pos (by simp)]
      have : sgnS t.1 = "-" := if_pos hn
      rw [this, List.append_assoc]
      rfl
    rw [e, j_fold _ _ (by simp), j_cons1 _ (bo_ne t), j_bo, if_pos hn, s_assoc]
    rfl
  · have e : stW [] t = boW t := by
      unfold stW sgW
      rw [decide_eq_false hn, if_neg (by simp)]
      rfl
    rw [e, j_fold _ _ (bo_ne t), j_bo, if_neg hn, s_nil2]
end FrmP
set_option maxHeartbeats 2000000
namespace FrmP
open PySem PySem.Spec PyProof.Rows L2 Mi MiDF
local macro_rules
  | `(tactic| infer_instance) => `(tactic| first
    | refine dp_nil ?_ | refine dp_cons ?_ | refine wp_var rfl ?_ | refine wp_bo rfl ?_ | refine wp_c ?_ | refine wp_op ?_ | refine wp_lst ?_ | refine wp_tup ?_
    | refine wp_call ?_ | refine wp_prop ?_ | refine wp_meth ?_ | refine wp_mk ?_ | refine wp_bop ?_ | refine wp_uop ?_ | refine wp_fld ?_ | refine wp_spc ?_ | refine wp_ceq ?_ | refine wp_inn ?_ | refine wp_nt ?_ | refine wp_fst ?_ | refine jp_nil ?_ | refine wp_isc ?_ | refine wp_dsc rfl rfl ?_ | refine wp_dic0 ?_ | refine wp_dgt ?_ | refine wp_ccm ?_ | refine wp_anP ?_ | refine wp_orP ?_ | refine wp_ite ?_
    | refine sp_it ?_ | refine sp_rng1 ?_ | refine sp_enum ?_ | refine sp_zip ?_ | refine wp_lr ?_
    | refine bp_nil ?_ | refine bp_cons ?_ | refine wp_set ?_ | refine wp_ret ?_ | refine wp_stf ?_ | refine wp_par ?_ | refine wp_ife ?_ | refine wp_ex ?_
    | refine wk_go rfl ?_ | refine wC.fz (by assumption) ?_ | refine wC.ow (by assumption) ?_ | refine wp_stoS ?_ | refine wo_all ?_ | refine wo_idxS (by assumption) ?_ | refine wo_listS ?_ | refine wo_eqS (by assumption) (by assumption) ?_ | refine wo_neW (by assumption) ?_ | exact ⟨rfl, rfl⟩ | refine ⟨rfl, ?_⟩ | refine wO.of rfl ?_ | refine ap_nil ?_ | refine ap_one ?_
    | refine ⟨_, _, _, _, _, rfl, rfl, rfl, ?_⟩ | refine ⟨_, _, _, rfl, rfl, ?_⟩ | refine ⟨_, _, _, rfl, rfl, rfl, ?_⟩ | refine ⟨_, _, rfl, rfl, ?_⟩ | refine ⟨_, _, rfl, ?_⟩ | refine ⟨_, rfl, rfl, ?_⟩ | refine ⟨_, rfl, ?_⟩ | refine ⟨rfl, _, _, rfl, ?_⟩ | refine ⟨⟨_, rfl⟩, ?_⟩ | refine And.intro (fun _ z => nomatch z) ?_ | exact rfl)
/-! numerals -/
theorem num_cps (n : Nat) : (istr (n : Int)).cps.toList = TL.numL n := TL.tl_num n
theorem num_len (n : Nat) : (istr (n : Int)).length = (TL.numL n).length := by
  rw [← num_cps, Array.length_toList]
  rfl
section
variable {Γ : Nat → Option Def} {L k : Nat} (hΓ : ∀ f d, pg f = some d → Γ f = some d)
include hΓ
end
end FrmP
set_option maxHeartbeats 2000000
namespace FrmP
open PySem PySem.Spec PyProof.Rows L2 Mi MiDF
local macro_rules
  | `(tactic| infer_instance) => `(tactic| first
    | refine dp_nil ?_ | refine dp_cons ?_ | refine wp_var rfl ?_ | refine wp_bo rfl ?_ | refine wp_c ?_ | refine wp_op ?_ | refine wp_lst ?_ | refine wp_tup ?_
    | refine wp_call ?_ | refine wp_prop ?_ | refine wp_meth ?_ | refine wp_mk ?_ | refine wp_bop ?_ | refine wp_uop ?_ | refine wp_fld ?_ | refine wp_spc ?_ | refine wp_ceq ?_ | refine wp_inn ?_ | refine wp_nt ?_ | refine wp_fst ?_ | refine jp_nil ?_ | refine wp_isc ?_ | refine wp_dsc rfl rfl ?_ | refine wp_dic0 ?_ | refine wp_dgt ?_ | refine wp_ccm ?_ | refine wp_anP ?_ | refine wp_orP ?_ | refine wp_ite ?_
    | refine sp_it ?_ | refine sp_rng1 ?_ | refine sp_enum ?_ | refine sp_zip ?_ | refine wp_lr ?_
    | refine bp_nil ?_ | refine bp_cons ?_ | refine wp_set ?_ | refine wp_ret ?_ | refine wp_stf ?_ | refine wp_par ?_ | refine wp_ife ?_ | refine wp_ex ?_
    | refine wk_go rfl ?_ | refine wC.fz (by assumption) ?_ | refine wC.ow (by assumption) ?_ | refine wp_stoS ?_ | refine wo_all ?_ | refine wo_idxS (by assumption) ?_ | refine wo_listS ?_ | refine wo_eqS (by assumption) (by assumption) ?_ | refine wo_neW (by assumption) ?_ | exact ⟨rfl, rfl⟩ | refine ⟨rfl, ?_⟩ | refine wO.of rfl ?_ | refine ap_nil ?_ | refine ap_one ?_
    | refine ⟨_, _, _, _, _, rfl, rfl, rfl, ?_⟩ | refine ⟨_, _, _, rfl, rfl, ?_⟩ | refine ⟨_, _, _, rfl, rfl, rfl, ?_⟩ | refine ⟨_, _, rfl, rfl, ?_⟩ | refine ⟨_, _, rfl, ?_⟩ | refine ⟨_, rfl, rfl, ?_⟩ | refine ⟨_, rfl, ?_⟩ | refine ⟨rfl, _, _, rfl, ?_⟩ | refine ⟨⟨_, rfl⟩, ?_⟩ | refine And.intro (fun _ z => nomatch z) ?_ | exact rfl)
/-! drawn numbers -/
section
variable {Γ : Nat → Option Def} {L k : Nat} (hΓ : ∀ f d, pg f = some d → Γ f = some d)
include hΓ
end
end FrmP
set_option maxHeartbeats 2000000
namespace FrmP
open PySem PySem.Spec PyProof.Rows L2 Mi MiDF
local macro_rules
  | `(tactic| infer_instance) => `(tactic| first
    | refine dp_nil ?_ | refine dp_cons ?_ | refine wp_var rfl ?_ | refine wp_bo rfl ?_ | refine wp_c ?_ | refine wp_op ?_ | refine wp_lst ?_ | refine wp_tup ?_
    | refine wp_call ?_ | refine wp_prop ?_ | refine wp_meth ?_ | refine wp_mk ?_ | refine wp_bop ?_ | refine wp_uop ?_ | refine wp_fld ?_ | refine wp_spc ?_ | refine wp_ceq ?_ | refine wp_inn ?_ | refine wp_nt ?_ | refine wp_fst ?_ | refine jp_nil ?_ | refine wp_isc ?_ | refine wp_dsc rfl rfl ?_ | refine wp_dic0 ?_ | refine wp_dgt ?_ | refine wp_ccm ?_ | refine wp_anP ?_ | refine wp_orP ?_ | refine wp_ite ?_
    | refine sp_it ?_ | refine sp_rng1 ?_ | refine sp_enum ?_ | refine sp_zip ?_ | refine wp_lr ?_
    | refine bp_nil ?_ | refine bp_cons ?_ | refine wp_set ?_ | refine wp_ret ?_ | refine wp_stf ?_ | refine wp_par ?_ | refine wp_ife ?_ | refine wp_ex ?_
    | refine wk_go rfl ?_ | refine wC.fz (by assumption) ?_ | refine wC.ow (by assumption) ?_ | refine wp_stoS ?_ | refine wo_all ?_ | refine wo_idxS (by assumption) ?_ | refine wo_listS ?_ | refine wo_eqS (by assumption) (by assumption) ?_ | refine wo_neW (by assumption) ?_ | exact ⟨rfl, rfl⟩ | refine ⟨rfl, ?_⟩ | refine wO.of rfl ?_ | refine ap_nil ?_ | refine ap_one ?_
    | refine ⟨_, _, _, _, _, rfl, rfl, rfl, ?_⟩ | refine ⟨_, _, _, rfl, rfl, ?_⟩ | refine ⟨_, _, _, rfl, rfl, rfl, ?_⟩ | refine ⟨_, _, rfl, rfl, ?_⟩ | refine ⟨_, _, rfl, ?_⟩ | refine ⟨_, rfl, rfl, ?_⟩ | refine ⟨_, rfl, ?_⟩ | refine ⟨rfl, _, _, rfl, ?_⟩ | refine ⟨⟨_, rfl⟩, ?_⟩ | refine And.intro (fun _ z => nomatch z) ?_ | exact rfl)
/-! drawn names -/
theorem nd_le {α : Type} [DecidableEq α] : ∀ {l k : List α}, l.Nodup → (∀ x ∈ l, x ∈ k) → l.length ≤ k.length
  | [], k, _, _ => Nat.zero_le _
  | a :: l, k, hn, h => by
    have hn2 := List.nodup_cons.mp hn
    have ha := h a List.mem_cons_self
    have ih := nd_le (l := l) (k := k.erase a) hn2.2 fun x hx => by
      refine (List.mem_erase_of_ne fun e => ?_).mpr (h x (List.mem_cons_of_mem _ hx))
      subst e
      exact hn2.1 hx
    rw [List.length_erase_of_mem ha] at ih
    have : 0 < k.length := List.length_pos_of_mem ha
    show l.length + 1 ≤ k.length
    omega
theorem any_str (l : List PySem.Str) (w : PySem.Str) : ((tS l).any fun y => Mi.eqT y (.str w)) = decide (w ∈ l) := by
  induction l with
  | nil => rfl
  | cons a l ih =>
    show ((a == w) || ((tS l).any fun y => Mi.eqT y (.str w))) = _
    rw [ih]
    by_cases e : a = w
    · subst e
      simp
    · have e2 : (a == w) = false := beq_eq_false_iff_ne.mpr e
      rw [e2]
      have : w ≠ a := fun z => e z.symm
      simp [this]
noncomputable abbrev keptN : List PySem.Str := ["and", "or", "not", "of", "let", "none", "odd", "open", "phase", "round", "self"]
noncomputable def waysW (w u : PySem.Str) : List PySem.Str := w :: abcS.cps.toList.map fun c => u ++ ⟨#[c]⟩
noncomputable def okW (found : List PySem.Str) (w : PySem.Str) : Bool := !decide (w ∈ found) && !decide (w ∈ keptN)
theorem push_inj {u : PySem.Str} {c d : Nat} (h : u ++ (⟨#[c]⟩ : PySem.Str) = u ++ ⟨#[d]⟩) : c = d := by
  have h1 : (u ++ (⟨#[c]⟩ : PySem.Str)).cps.toList = (u ++ (⟨#[d]⟩ : PySem.Str)).cps.toList := by rw [h]
  have e : ∀ c : Nat, (u ++ (⟨#[c]⟩ : PySem.Str)).cps.toList = u.cps.toList ++ [c] := fun c => by
    show (u.cps ++ #[c]).toList = _
    rw [Array.toList_append]
  rw [e, e] at h1
  have h2 := List.append_cancel_left h1
  cases h2
  rfl
theorem abc_nd : (abcS.cps.toList).Nodup := by decide
theorem abc_len : abcS.cps.toList.length = 26 := by decide
theorem ways_free {found : List PySem.Str} {w u : PySem.Str} (h : found.length < 15) : ∃ c ∈ abcS.cps.toList, okW found (u ++ ⟨#[c]⟩) = true := by
  by_cases hx : ∃ c ∈ abcS.cps.toList, okW found (u ++ ⟨#[c]⟩) = true
  · exact hx
  · have h1 : ∀ x ∈ abcS.cps.toList.map (fun c => u ++ (⟨#[c]⟩ : PySem.Str)), x ∈ found ++ keptN := fun x hm => by
      obtain ⟨c, hc, rfl⟩ := List.mem_map.mp hm
      have h2 : okW found (u ++ ⟨#[c]⟩) = false := by
        cases e : okW found (u ++ ⟨#[c]⟩) with
        | true => exact absurd ⟨c, hc, e⟩ hx
        | false => rfl
      unfold okW at h2
      rw [List.mem_append]
      by_cases e : u ++ (⟨#[c]⟩ : PySem.Str) ∈ found
      · exact .inl e
      · rw [decide_eq_false e] at h2
        by_cases e2 : u ++ (⟨#[c]⟩ : PySem.Str) ∈ keptN
        · exact .inr e2
        · rw [decide_eq_false e2] at h2
          cases h2
    have hn : (abcS.cps.toList.map (fun c => u ++ (⟨#[c]⟩ : PySem.Str))).Nodup := by
      refine List.Pairwise.map _ ?_ abc_nd
      intro a b hab z
      exact hab (push_inj z)
    have := nd_le hn h1
    rw [List.length_map, abc_len, List.length_append] at this
    have hk : keptN.length = 11 := rfl
    omega
theorem ways_ok {found : List PySem.Str} {w u : PySem.Str} (h : found.length < 15) (hw1 : 1 ≤ w.length) (hw6 : w.length ≤ 6) (hwl : ∀ c ∈ w.cps.toList, c ∈ abcS.cps.toList) (hu : u.length ≤ 5) (hul : ∀ c ∈ u.cps.toList, c ∈ abcS.cps.toList) :
    ∃ x xs, (waysW w u).filter (okW found) = x :: xs ∧ NameOk x ∧ x ∉ found := by
  obtain ⟨c, hc, hok⟩ := ways_free (found := found) (w := w) (u := u) h
  have hm : u ++ (⟨#[c]⟩ : PySem.Str) ∈ (waysW w u).filter (okW found) := List.mem_filter.mpr ⟨List.mem_cons_of_mem _ (List.mem_map.mpr ⟨c, hc, rfl⟩), hok⟩
  cases e : (waysW w u).filter (okW found) with
  | nil => rw [e] at hm; cases hm
  | cons x xs =>
    refine ⟨x, xs, rfl, ?_⟩
    have hx : x ∈ (waysW w u).filter (okW found) := by rw [e]; exact List.mem_cons_self
    obtain ⟨hx1, hx2⟩ := List.mem_filter.mp hx
    unfold okW at hx2
    rw [Bool.and_eq_true, Bool.not_eq_true', Bool.not_eq_true', decide_eq_false_iff_not, decide_eq_false_iff_not] at hx2
    refine ⟨?_, hx2.1⟩
    have hk : (keptT.any fun y => Mi.eqT y (.str x)) = false := by
      have := any_str keptN x
      rw [decide_eq_false hx2.2] at this
      exact this
    rcases List.mem_cons.mp hx1 with rfl | h1
    · exact ⟨hw1, hw6, hk, hwl⟩
    · obtain ⟨d, hd, rfl⟩ := List.mem_map.mp h1
      have hl : (u ++ (⟨#[d]⟩ : PySem.Str)).length = u.length + 1 := by rw [PySem.Str.length_append]; rfl
      refine ⟨by omega, by omega, hk, fun z hz => ?_⟩
      have e2 : (u ++ (⟨#[d]⟩ : PySem.Str)).cps.toList = u.cps.toList ++ [d] := by
        show (u.cps ++ #[d]).toList = _
        rw [Array.toList_append]
      rw [e2, List.mem_append] at hz
      rcases hz with hz | hz
      · exact hul z hz
      · rw [List.mem_singleton.mp hz]
        exact hd
end FrmP
set_option maxHeartbeats 2000000
namespace FrmP
open PySem PySem.Spec PyProof.Rows L2 Mi MiDF
local macro_rules
  | `(tactic| infer_instance) => `(tactic| first
    | refine dp_nil ?_ | refine dp_cons ?_ | refine wp_var rfl ?_ | refine wp_bo rfl ?_ | refine wp_c ?_ | refine wp_op ?_ | refine wp_lst ?_ | refine wp_tup ?_
    | refine wp_call ?_ | refine wp_prop ?_ | refine wp_meth ?_ | refine wp_mk ?_ | refine wp_bop ?_ | refine wp_uop ?_ | refine wp_fld ?_ | refine wp_spc ?_ | refine wp_ceq ?_ | refine wp_inn ?_ | refine wp_nt ?_ | refine wp_fst ?_ | refine jp_nil ?_ | refine wp_isc ?_ | refine wp_dsc rfl rfl ?_ | refine wp_dic0 ?_ | refine wp_dgt ?_ | refine wp_ccm ?_ | refine wp_anP ?_ | refine wp_orP ?_ | refine wp_ite ?_
    | refine sp_it ?_ | refine sp_rng1 ?_ | refine sp_enum ?_ | refine sp_zip ?_ | refine wp_lr ?_
    | refine bp_nil ?_ | refine bp_cons ?_ | refine wp_set ?_ | refine wp_ret ?_ | refine wp_stf ?_ | refine wp_par ?_ | refine wp_ife ?_ | refine wp_ex ?_
    | refine wk_go rfl ?_ | refine wC.fz (by assumption) ?_ | refine wC.ow (by assumption) ?_ | refine wp_stoS ?_ | refine wo_all ?_ | refine wo_idxS (by assumption) ?_ | refine wo_listS ?_ | refine wo_eqS (by assumption) (by assumption) ?_ | refine wo_neW (by assumption) ?_ | exact ⟨rfl, rfl⟩ | refine ⟨rfl, ?_⟩ | refine wO.of rfl ?_ | refine ap_nil ?_ | refine ap_one ?_
    | refine ⟨_, _, _, _, _, rfl, rfl, rfl, ?_⟩ | refine ⟨_, _, _, rfl, rfl, ?_⟩ | refine ⟨_, _, _, rfl, rfl, rfl, ?_⟩ | refine ⟨_, _, rfl, rfl, ?_⟩ | refine ⟨_, _, rfl, ?_⟩ | refine ⟨_, rfl, rfl, ?_⟩ | refine ⟨_, rfl, ?_⟩ | refine ⟨rfl, _, _, rfl, ?_⟩ | refine ⟨⟨_, rfl⟩, ?_⟩ | refine And.intro (fun _ z => nomatch z) ?_ | exact rfl)
/-! names are drawn -/
noncomputable abbrev lt1 (c : Nat) : PySem.Str := ⟨#[c]⟩
theorem join_lt : ∀ l : List Nat, (Txt.join "" (l.map lt1)).cps.toList = l := fun l => by
  show TL.tl _ = _
  rw [TL.join_eq, TL.tl_join]
  have e : TL.tl ("" : PySem.Str) = [] := rfl
  rw [e, List.map_map]
  have h : ∀ l : List Nat, TL.joinL [] (l.map (TL.tl ∘ lt1)) = l := fun l => by
    induction l with
    | nil => rfl
    | cons a r ih =>
      cases r with
      | nil => rfl
      | cons b r =>
        show [a] ++ ([] ++ TL.joinL [] ((b :: r).map _)) = _
        rw [ih]; rfl
  exact h l
theorem strs_tS : ∀ l : List PySem.Str, strsT (tS l) = some l
  | [] => rfl
  | c :: l => by
    show (strsT (tS l)).map _ = _
    rw [strs_tS l]; rfl
theorem sum_lt : ∀ l : List Nat, ((l.map lt1).map (·.length)).sum = l.length
  | [] => rfl
  | c :: l => by
    show 1 + ((l.map lt1).map (·.length)).sum = l.length + 1
    rw [sum_lt l]; omega
theorem join_chr {l : List Nat} (h : l.length < 100) : joinF (.str "") (.lst (tS (l.map lt1))) = some (.fz (.str (Txt.join "" (l.map lt1)))) := by
  show (strsT (tS (l.map lt1))).bind (fun ys => if (ys.map (·.length)).sum + ys.length * PySem.Str.length "" ≤ 16777216 then fS (Txt.join "" ys) else none) = _
  rw [strs_tS]
  show (if ((l.map lt1).map (·.length)).sum + (l.map lt1).length * PySem.Str.length "" ≤ 16777216 then fS (Txt.join "" (l.map lt1)) else none) = _
  have z : PySem.Str.length "" = 0 := rfl
  rw [sum_lt, z]
  exact if_pos (by omega)
theorem wo_notinS {P : R → Prop} {x : PySem.Str} {l : List PySem.Str} (q : P (.fz (.bl (!decide (x ∈ l))))) : wO .notin [.str x, .lst (tS l)] P := .of (by
  show (if flatT (.str x) = true ∧ (tS l).all flatT = true then fB (!((tS l).any fun y => Mi.eqT y (.str x))) else none) = _
  rw [any_str]
  refine if_pos ⟨rfl, ?_⟩
  rw [List.all_eq_true]
  intro y hy
  obtain ⟨a, _, rfl⟩ := List.mem_map.mp hy
  rfl) q
theorem wc_ofs {cal : Nat → List Mi.Slot → CRes} {t f b : Nat} {o : O} {Q : R → List Mi.Slot → Prop} (D : Draws cal t f) (B : Bg b o) (hb : 0 < b) (q : ∀ c o', c ∈ abcS.cps.toList → Bg (b - 1) o' → Q (.fz (.str (lt1 c))) [.ow o', .no]) : wC cal f [.ow o, .fz (.str abcS)] Q := by
  have hi : ∀ d : Nat, d < 26 → ∃ c, c ∈ abcS.cps.toList ∧ idxF (.str abcS) (.int d) = some (.fz (.str (lt1 c))) := fun d hd => by
    have hd2 : d < abcS.cps.toList.length := by rw [abc_len]; exact hd
    refine ⟨abcS.cps.toList[d], List.getElem_mem hd2, ?_⟩
    show (if abcS.length ≤ sizeLine then (atI abcS.cps.toList (d : Int)).map fun c => R.fz (.str ⟨#[c]⟩) else none) = _
    rw [if_pos (by decide), atI_nat (x := abcS.cps.toList[d]) (n := d) rfl (List.getElem?_eq_getElem hd2)]
    rfl
  obtain ⟨d, y, o', e, g0, g1, B'⟩ := D.of (b := b - 1) (xs := .str abcS) (n := 26) (B.mono (by omega)) rfl (by omega) (by omega) fun d hd => by
    obtain ⟨c, _, h⟩ := hi d hd
    exact ⟨_, h⟩
  obtain ⟨c, hc, h⟩ := hi d g0
  rw [h] at g1
  cases g1
  exact wC.fz e (q c o' hc B')
theorem cut5 (z : PySem.Str) : (cutS z none (some 5)).length ≤ 5 ∧ ∀ c ∈ (cutS z none (some 5)).cps.toList, c ∈ z.cps.toList := by
  have e : (cutS z none (some 5)).cps.toList = ((z.cps.toList.drop 0).take (min 5 z.length - 0)) := rfl
  constructor
  · show (cutS z none (some 5)).cps.size ≤ 5
    rw [← Array.length_toList, e, List.length_take]
    omega
  · intro c hc
    rw [e] at hc
    exact List.mem_of_mem_take hc
section
variable {Γ : Nat → Option Def} {L k : Nat} (hΓ : ∀ f d, pg f = some d → Γ f = some d)
include hΓ
theorem kwords_ok : callF Γ L (k + 1) 54 [] = .ok (.ow (.lst keptT)) [] := by
  refine wC.eq_ow (wp_run (d := d54) (hΓ _ _ rfl) rfl ?_)
  generalize callF Γ L k = cal at *
  unfold d54
  repeat infer_instance
theorem names50_ok {o : O} {b : Nat} {m : Int} (B : Bg b o) (hb : 60 ≤ b) (m0 : 0 ≤ m) (m1 : m ≤ 6) : ∃ ns o', callF Γ L (k + 3) 50 [.ow o, .fz (.int m)] = .ok (.ow (.lst (tS ns))) [.ow o', .no] ∧ Bg (b - 60) o' ∧ (ns.length : Int) = m ∧ ns.Nodup ∧ ∀ a ∈ ns, NameOk a := by
  have D : Draws (callF Γ L (k + 2)) 15 17 := draws_ok (hΓ 15 d15 rfl) (hΓ 17 d17 rfl)
  have c54 := kwords_ok hΓ (L := L) (k := k + 1)
  suffices h : wC (callF Γ L (k + 3)) 50 [.ow o, .fz (.int m)] fun r outs => ∃ ns o', (r = .ow (.lst (tS ns)) ∧ outs = [.ow o', .no]) ∧ Bg (b - 60) o' ∧ (ns.length : Int) = m ∧ ns.Nodup ∧ ∀ a ∈ ns, NameOk a by
    unfold wC at h
    obtain ⟨r, outs, e, _, n, o', ⟨rfl, rfl⟩, h1, h2⟩ := h
    exact ⟨n, o', e, h1, h2⟩
  refine wp_run (d := d50) (hΓ _ _ rfl) rfl ?_
  generalize callF Γ L (k + 2) = cal at *
  unfold d50
  have hz : sizeLine = 16777216 := rfl
  refine bp_cons (wp_parf ?_)
  refine wp_c ⟨_, rfl, wp_lst (dp_nil ?_)⟩
  refine ⟨_, _, rfl, ?_⟩
  refine ⟨rfl, _, rfl, ⟨Nat.le_of_ble_eq_true rfl, Nat.le_of_ble_eq_true rfl, by decide⟩, ?_⟩
  refine bp_cons (wp_fr ?_)
  repeat infer_instance
  refine ⟨⟨by omega, by omega⟩, fun xs mm => ∃ o' ns s4 s5 s7, mm = [.ow o', .fz (.int m), .fz (.str abcS), .ow (.lst (tS ns)), s4, s5, .no, s7, .no, .no] ∧ (ns.length : Int) + xs.length = m ∧ Bg (b - 8 * ns.length) o' ∧ ns.Nodup ∧ ∀ a ∈ ns, NameOk a, ⟨o, [], _, _, _, rfl, by rw [List.length_map, len_rngI]; simp; omega, B, List.Pairwise.nil, fun _ z => nomatch z⟩, ?_, ?_⟩
  · rintro x xs mm ⟨o1, ns, s4, s5, s7, rfl, hl, B1, hn, hk⟩
    simp only [List.length_cons] at hl
    refine ⟨_, rfl, ?_⟩
    unfold l50_0
    refine bp_cons (wp_set (wp_jn (wp_c ⟨_, rfl, wp_compI ?_⟩)))
    repeat infer_instance
    refine wc_of D B1 (by omega) rfl rfl fun y o2 hy B2 => ?_
    obtain ⟨n, rfl, n0, n1⟩ : ∃ n, y = .int n ∧ 0 < n ∧ n ≤ 6 := by
      simp only [List.mem_cons, List.not_mem_nil, or_false] at hy
      rcases hy with rfl | rfl | rfl <;> exact ⟨_, rfl, by omega, by omega⟩
    repeat infer_instance
    refine wc_take D B2 (by omega) (by omega) (by omega) fun d o3 h0 h1 B3 => ?_
    repeat infer_instance
    refine ⟨⟨by omega, by omega⟩, fun ys acc mm => ∃ o' cs, mm = [.ow o', .fz (.int m), .fz (.str abcS), .ow (.lst (tS ns)), .fz x, s5, .no, s7, .no, .no] ∧ acc = tS (cs.map lt1) ∧ cs.length + ys.length = (1 + d).toNat ∧ Bg (b - 8 * ns.length - 2 - cs.length) o' ∧ ∀ c ∈ cs, c ∈ abcS.cps.toList, rfl, ⟨o3, [], rfl, rfl, by rw [List.length_map, len_rngI]; simp, B3.mono (by simp; omega), fun _ z => nomatch z⟩, ?_, ?_⟩
    · rintro y ys acc mm ⟨o4, cs, rfl, rfl, hl4, B4, hc4⟩
      simp only [List.length_cons] at hl4
      refine ⟨_, rfl, ap_nil ⟨true, rfl, fun _ => ?_, fun z => by cases z⟩⟩
      unfold e50_0
      repeat infer_instance
      refine wc_ofs D B4 (by omega) fun c o5 hc B5 => ?_
      repeat infer_instance
      refine ⟨by unfold tS; rw [List.length_map, List.length_map]; omega, o5, cs ++ [c], rfl, by simp, by simp; omega, B5.mono (by simp; omega), fun z hz => ?_⟩
      rcases List.mem_append.mp hz with h | h
      · exact hc4 z h
      · rw [List.mem_singleton.mp h]; exact hc
    rintro acc mm ⟨o4, cs, rfl, rfl, hl4, B4, hc4⟩
    simp only [List.length_nil, Nat.add_zero] at hl4
    have hj := join_chr (l := cs) (by omega)
    have hwl := join_lt cs
    have hlen : (Txt.join "" (cs.map lt1)).length = cs.length := by
      show (Txt.join "" (cs.map lt1)).cps.size = _
      rw [← Array.length_toList, hwl]
    generalize Txt.join "" (cs.map lt1) = w at *
    refine ⟨_, _, rfl, hj, ?_⟩
    repeat infer_instance
    show wE cal _ [.ow o4, .fz (.int m), .fz (.str abcS), .ow (.lst (tS ns)), .fz x, .fz (.str w), .no, s7, .no, .no] _
    have habc : itemsT (.str abcS) = some (abcS.cps.toList.map fun c => T.str (lt1 c)) := by
      show (if abcS.length ≤ sizeLine then some (abcS.cps.toList.map fun c => T.str ⟨#[c]⟩) else none) = _
      exact if_pos (by decide)
    have hw6 : w.length ≤ 6 := by omega
    have hw1 : 1 ≤ w.length := by omega
    obtain ⟨hu5, hul⟩ := cut5 w
    have s1 : opF (.sl false true) [.str w, .int 5] = some (.fz (.str (cutS w none (some 5)))) := if_pos (by omega)
    generalize cutS w none (some 5) = u at *
    have s2 : ∀ c, opF .add [.str u, .str (lt1 c)] = some (.fz (.str (u ++ lt1 c))) := fun c => if_pos (by
      have : (lt1 c).length = 1 := rfl
      omega)
    refine wp_comp (α := Nat) (sp_it (wp_var rfl ⟨_, _, _, rfl, habc, ?_⟩))
    refine ⟨abcS.cps.toList, fun c => .str (lt1 c), fun _ => true, fun c => .str (u ++ lt1 c), rfl, rfl, rfl, fun c hc => ⟨_, rfl, rfl, ap_nil ⟨rfl, rfl⟩, fun _ => ?_⟩, by rw [abc_len]; omega, ?_⟩
    · unfold e50_1
      repeat infer_instance
      refine wO.of s1 ?_
      repeat infer_instance
      refine wO.of (s2 c) ?_
      repeat infer_instance
    rw [List.filter_eq_self.mpr fun _ _ => rfl]
    repeat infer_instance
    have hways : T.str w :: (abcS.cps.toList.map fun c => T.str (u ++ lt1 c)) = (waysW w u).map T.str := by
      unfold waysW
      rw [List.map_cons, List.map_map]
      rfl
    obtain ⟨z, zs, hz1, hz2, hz3⟩ := ways_ok (found := ns) (w := w) (u := u) (by omega) hw1 hw6 (by rw [hwl]; exact hc4) hu5 (fun c hc => by
      have := hul c hc
      rw [hwl] at this
      exact hc4 c this)
    have hwlen : (waysW w u).length = 27 := by
      unfold waysW
      rw [List.length_cons, List.length_map, abc_len]
    show wT cal L _ [.ow o4, .fz (.int m), .fz (.str abcS), .ow (.lst (tS ns)), .fz x, .fz (.str w), .no, .ow (.lst (T.str w :: (abcS.cps.toList.map fun c => T.str (u ++ lt1 c)))), .no, .no] _
    rw [hways]
    refine wp_app ⟨_, rfl, wp_op (dp_cons ?_)⟩
    refine wp_comp (α := PySem.Str) (sp_it (wp_bo rfl ⟨_, _, _, rfl, rfl, ?_⟩))
    refine ⟨waysW w u, T.str, okW ns, T.str, rfl, rfl, rfl, fun c hc => ⟨_, rfl, rfl, ?_, fun _ => ?_⟩, by rw [hwlen]; omega, ?_⟩
    · refine ap_one ?_
      refine wp_anP (wp_op ?_)
      repeat infer_instance
      refine wo_notinS ?_
      repeat infer_instance
      refine ⟨?_, rfl⟩
      have hk2 := any_str keptN c
      show R.fz (.bl (!decide (c ∈ ns) && !((tS keptN).any fun y => Mi.eqT y (.str c)))) = _
      rw [hk2]
      rfl
    · unfold e50_2
      repeat infer_instance
    rw [hz1]
    repeat infer_instance
    refine wo_idx0 ?_
    repeat infer_instance
    refine ⟨by unfold tS; rw [List.length_map]; omega, ?_⟩
    repeat infer_instance
    refine ⟨o4, ns ++ [z], .fz x, .fz (.str w), .fz (.lst ((waysW w u).map T.str)), ?_, by simp; omega, B4.mono (by simp; omega), ?_, fun a ha => ?_⟩
    · unfold tS
      rw [List.map_append]
      rfl
    · rw [List.nodup_append]
      refine ⟨hn, List.pairwise_singleton .., fun a ha c hc => ?_⟩
      rw [List.mem_singleton.mp hc]
      intro e
      subst e
      exact hz3 ha
    · rcases List.mem_append.mp ha with h | h
      · exact hk a h
      · rw [List.mem_singleton.mp h]; exact hz2
  rintro mm ⟨o1, ns, s4, s5, s7, rfl, hl, B1, hn, hk⟩
  simp only [List.length_nil] at hl
  repeat infer_instance
  exact ⟨_, _, ⟨rfl, rfl⟩, B1.mono (by omega), by omega, hn, hk⟩
end
end FrmP
set_option maxHeartbeats 2000000
namespace FrmP
open PySem PySem.Spec PyProof.Rows L2 Mi MiDF
local macro_rules
  | `(tactic| infer_instance) => `(tactic| first
    | refine dp_nil ?_ | refine dp_cons ?_ | refine wp_var rfl ?_ | refine wp_bo rfl ?_ | refine wp_c ?_ | refine wp_op ?_ | refine wp_lst ?_ | refine wp_tup ?_
    | refine wp_call ?_ | refine wp_prop ?_ | refine wp_meth ?_ | refine wp_mk ?_ | refine wp_bop ?_ | refine wp_uop ?_ | refine wp_fld ?_ | refine wp_spc ?_ | refine wp_ceq ?_ | refine wp_inn ?_ | refine wp_nt ?_ | refine wp_fst ?_ | refine jp_nil ?_ | refine wp_isc ?_ | refine wp_dsc rfl rfl ?_ | refine wp_dic0 ?_ | refine wp_dgt ?_ | refine wp_ccm ?_ | refine wp_anP ?_ | refine wp_orP ?_ | refine wp_ite ?_
    | refine sp_it ?_ | refine sp_rng1 ?_ | refine sp_enum ?_ | refine sp_zip ?_ | refine wp_lr ?_
    | refine bp_nil ?_ | refine bp_cons ?_ | refine wp_set ?_ | refine wp_ret ?_ | refine wp_stf ?_ | refine wp_par ?_ | refine wp_ife ?_ | refine wp_ex ?_
    | refine wk_go rfl ?_ | refine wC.fz (by assumption) ?_ | refine wC.ow (by assumption) ?_ | refine wp_stoS ?_ | refine wo_all ?_ | refine wo_idxS (by assumption) ?_ | refine wo_listS ?_ | refine wo_eqS (by assumption) (by assumption) ?_ | refine wo_neW (by assumption) ?_ | exact ⟨rfl, rfl⟩ | refine ⟨rfl, ?_⟩ | refine wO.of rfl ?_ | refine ap_nil ?_ | refine ap_one ?_
    | refine ⟨_, _, _, _, _, rfl, rfl, rfl, ?_⟩ | refine ⟨_, _, _, rfl, rfl, ?_⟩ | refine ⟨_, _, _, rfl, rfl, rfl, ?_⟩ | refine ⟨_, _, rfl, rfl, ?_⟩ | refine ⟨_, _, rfl, ?_⟩ | refine ⟨_, rfl, rfl, ?_⟩ | refine ⟨_, rfl, ?_⟩ | refine ⟨rfl, _, _, rfl, ?_⟩ | refine ⟨⟨_, rfl⟩, ?_⟩ | refine And.intro (fun _ z => nomatch z) ?_ | exact rfl)
/-! a drawn form -/
theorem putA_new {l : SD} {a : PySem.Str} {b : Int} (h : a ∉ keysS l) : putA l a b = l ++ [(a, b)] := by
  unfold putA
  refine if_neg fun z => ?_
  obtain ⟨q, hq, e⟩ := List.any_eq_true.mp z
  exact h (List.mem_map.mpr ⟨q, hq, of_decide_eq_true e⟩)
theorem puts_nd : ∀ (l acc : SD), (keysS (acc ++ l)).Nodup → putsT (dS acc) (dS l) = dS (acc ++ l)
  | [], acc, _ => by rw [List.append_nil]; rfl
  | q :: r, acc, h => by
    show putsT (putT (dS acc) (.inr q.1) (.int q.2)) (dS r) = _
    have h1 : q.1 ∉ keysS acc := by
      unfold keysS at *
      rw [List.map_append, List.nodup_append] at h
      intro z
      exact h.2.2 q.1 z q.1 (by simp) rfl
    have e2 : acc ++ q :: r = (acc ++ [q]) ++ r := by rw [List.append_assoc]; rfl
    rw [putT_dS, putA_new h1, puts_nd r _ (by rw [← e2]; exact h), e2]
theorem pairs_pr : ∀ l : SD, pairsT (l.map prT) = some (dS l)
  | [] => rfl
  | q :: r => by
    show (pairT (prT q)).bind (fun p => (pairsT (r.map prT)).map fun l => p :: l) = _
    rw [pairs_pr r]
    rfl
theorem wo_dictS {P : R → Prop} {l : SD} (h : (keysS l).Nodup) (q : P (.ow (.dic (dS l)))) : wO .dict [.lst (l.map prT)] P := .of (by
  show (pairsT (l.map prT)).map (fun kvs => R.ow (.dic (putsT [] kvs))) = _
  rw [pairs_pr]
  show some (R.ow (.dic (putsT (dS []) (dS l)))) = _
  rw [puts_nd l [] h]
  rfl) q
section
variable {Γ : Nat → Option Def} {L k : Nat} (hΓ : ∀ f d, pg f = some d → Γ f = some d)
include hΓ
end
end FrmP
set_option maxHeartbeats 2000000
namespace FrmP
open PySem PySem.Spec PyProof.Rows L2 Mi MiDF
local macro_rules
  | `(tactic| infer_instance) => `(tactic| first
    | refine dp_nil ?_ | refine dp_cons ?_ | refine wp_var rfl ?_ | refine wp_bo rfl ?_ | refine wp_c ?_ | refine wp_op ?_ | refine wp_lst ?_ | refine wp_tup ?_
    | refine wp_call ?_ | refine wp_prop ?_ | refine wp_meth ?_ | refine wp_mk ?_ | refine wp_bop ?_ | refine wp_uop ?_ | refine wp_fld ?_ | refine wp_spc ?_ | refine wp_ceq ?_ | refine wp_inn ?_ | refine wp_nt ?_ | refine wp_fst ?_ | refine jp_nil ?_ | refine wp_isc ?_ | refine wp_dsc rfl rfl ?_ | refine wp_dic0 ?_ | refine wp_dgt ?_ | refine wp_ccm ?_ | refine wp_anP ?_ | refine wp_orP ?_ | refine wp_ite ?_
    | refine sp_it ?_ | refine sp_rng1 ?_ | refine sp_enum ?_ | refine sp_zip ?_ | refine wp_lr ?_
    | refine bp_nil ?_ | refine bp_cons ?_ | refine wp_set ?_ | refine wp_ret ?_ | refine wp_stf ?_ | refine wp_par ?_ | refine wp_ife ?_ | refine wp_ex ?_
    | refine wk_go rfl ?_ | refine wC.fz (by assumption) ?_ | refine wC.ow (by assumption) ?_ | refine wp_stoS ?_ | refine wo_all ?_ | refine wo_idxS (by assumption) ?_ | refine wo_listS ?_ | refine wo_eqS (by assumption) (by assumption) ?_ | refine wo_neW (by assumption) ?_ | exact ⟨rfl, rfl⟩ | refine ⟨rfl, ?_⟩ | refine wO.of rfl ?_ | refine ap_nil ?_ | refine ap_one ?_
    | refine ⟨_, _, _, _, _, rfl, rfl, rfl, ?_⟩ | refine ⟨_, _, _, rfl, rfl, ?_⟩ | refine ⟨_, _, _, rfl, rfl, rfl, ?_⟩ | refine ⟨_, _, rfl, rfl, ?_⟩ | refine ⟨_, _, rfl, ?_⟩ | refine ⟨_, rfl, rfl, ?_⟩ | refine ⟨_, rfl, ?_⟩ | refine ⟨rfl, _, _, rfl, ?_⟩ | refine ⟨⟨_, rfl⟩, ?_⟩ | refine And.intro (fun _ z => nomatch z) ?_ | exact rfl)
/-! what signs a text has -/
theorem all_str {s : PySem.Str} (h : ∀ c ∈ s.cps.toList, c < 1114112) : PyData.canLay0 (.str s) = true := by
  rw [PyData.canLay0]
  unfold PyData.strOk
  rw [Array.all_eq_true']
  intro c hc
  exact decide_eq_true (h c (Array.mem_toList_iff.mpr hc))
theorem can_nm (a : PySem.Str) (h : NameOk a) : PyData.canLay0 (.str a) = true := all_str fun c hc => by
  have h1 := h.low c hc
  have h2 : ∀ c ∈ abcS.cps.toList, c < 1114112 := by decide
  exact h2 c h1
theorem can_of (z : String) : PyData.canLay0 (.str (PySem.Str.ofString z)) = true := all_str fun c hc => by
  rw [PyProof.Rows.signs_ofString] at hc
  obtain ⟨ch, _, rfl⟩ := List.mem_map.mp hc
  show ch.val.toNat < 1114112
  have h : ch.val.toNat < 55296 ∨ (57343 < ch.val.toNat ∧ ch.val.toNat < 1114112) := ch.valid
  omega
theorem absn (n : Int) : absI n = ((n.natAbs : Nat) : Int) := by
  unfold absI
  split <;> omega
structure Fm3 (c : Int) (l : SD) : Prop where
  can : CanS l
  len : l.length ≤ 6
  nm : ∀ a ∈ keysS l, NameOk a
  c60 : c.natAbs ≤ 10 ^ 60
  q60 : ∀ q ∈ l, q.2.natAbs ≤ 10 ^ 60
theorem small60 {n : Int} (h : n.natAbs ≤ 10 ^ 60) : Small (absI n) ∧ (istr (absI n)).length ≤ 1000 := by
  have e : (absI n).natAbs = n.natAbs := by unfold absI; split <;> omega
  constructor
  · unfold Small
    rw [e]
    by_cases z : n.natAbs = 0
    · rw [z]; decide
    · have h2 : (10 : Nat) ^ 60 < 2 ^ 1920 := by decide +kernel
      rw [Nat.log2_lt z]
      omega
  · rw [absn, num_len]
    have h2 : (10 : Nat) ^ 60 < 10 ^ 61 := by decide +kernel
    have := TL.numL_len (k := 61) (n := n.natAbs) (by decide) (by omega)
    omega
theorem ws_w : ∀ (ts : List (Int × PySem.Str)) (ws : List PySem.Str), (∀ w ∈ ws, w.length ≤ 1000) → (∀ t ∈ ts, (istr (absI t.1)).length ≤ 1000 ∧ t.2.length ≤ 1000) → ∀ w ∈ ts.foldl stW ws, w.length ≤ 1000
  | [], ws, h, _ => h
  | t :: r, ws, h, ht => ws_w r (stW ws t) (fun w hw => by
      have h1 := ht t List.mem_cons_self
      unfold stW sgW nuW naW at hw
      rcases List.mem_append.mp hw with hw | hw
      · rcases List.mem_append.mp hw with hw | hw
        · rcases List.mem_append.mp hw with hw | hw
          · exact h w hw
          · split at hw
            · rw [List.mem_singleton.mp hw]
              unfold sgnS
              split <;> decide
            · cases hw
        · split at hw
          · rw [List.mem_singleton.mp hw]; exact h1.1
          · cases hw
      · split at hw
        · rw [List.mem_singleton.mp hw]; exact h1.2
        · cases hw) fun u hu => ht u (List.mem_cons_of_mem _ hu)
noncomputable abbrev txtS (c : Int) (l : SD) : PySem.Str := Txt.join " " (wsW (termsS c l))
section
variable {c : Int} {l : SD} (h : Fm3 c l)
include h
theorem Fm3.tlen : (termsS c l).length ≤ 7 := by
  unfold termsS
  have := h.len
  rw [List.length_append, List.length_map]
  split <;> simp <;> omega
theorem Fm3.row {t : Int × PySem.Str} (ht : t ∈ termsS c l) : t.1.natAbs ≤ 10 ^ 60 ∧ (t.2 = "" ∨ NameOk t.2) := by
  unfold termsS at ht
  rcases List.mem_append.mp ht with ht | ht
  · obtain ⟨q, h1, rfl⟩ := List.mem_map.mp ht
    exact ⟨h.q60 q h1, .inr (h.nm _ (List.mem_map.mpr ⟨q, h1, rfl⟩))⟩
  · split at ht
    · rw [List.mem_singleton.mp ht]
      exact ⟨h.c60, .inl rfl⟩
    · cases ht
theorem Fm3.tms : TmsOk (termsS c l) := ⟨by have := h.tlen; omega, fun t ht => by
  obtain ⟨h1, h2⟩ := h.row ht
  obtain ⟨h3, h4⟩ := small60 h1
  refine ⟨h3, h4, ?_, ?_⟩
  · rcases h2 with e | e
    · rw [e]; decide
    · have := e.l6; omega
  · rcases h2 with e | e
    · rw [e]; exact can_of ""
    · exact can_nm _ e⟩
theorem Fm3.wlen : (wsW (termsS c l)).length ≤ 21 ∧ ∀ w ∈ wsW (termsS c l), w.length ≤ 1000 := by
  refine ⟨?_, ws_w _ [] (fun w hw => by cases hw) fun t ht => ⟨(h.tms.sm t ht).2.1, (h.tms.sm t ht).2.2.1⟩⟩
  have := ws_len (termsS c l) []
  have := h.tlen
  simp only [List.length_nil] at *
  show ((termsS c l).foldl stW []).length ≤ 21
  omega
theorem Fm3.join : Mi.JoinOk (wsW (termsS c l)) := by
  obtain ⟨h1, h2⟩ := h.wlen
  have := sum_le (B := 1000) _ h2
  unfold Mi.JoinOk
  have h3 : (wsW (termsS c l)).length * 1000 ≤ 21 * 1000 := Nat.mul_le_mul_right _ h1
  omega
omit h in
theorem terms_ne : termsS c l ≠ [] := fun z => by
  unfold termsS at z
  rw [List.append_eq_nil_iff, List.map_eq_nil_iff] at z
  obtain ⟨z1, z2⟩ := z
  rw [z1] at z2
  revert z2
  rw [if_pos (by simp)]
  simp
omit h in
theorem txt_eq : ftS (termsS c l) = txtS c l := by
  cases e : termsS c l with
  | nil => exact absurd e terms_ne
  | cons t r => rw [txtS, e]; exact (text_eq t r).symm
end
/-! totals -/
section
variable {Γ : Nat → Option Def} {L k : Nat} (hΓ : ∀ f d, pg f = some d → Γ f = some d)
include hΓ
theorem get_ok {c : Int} {l : SD} {a : PySem.Str} (h : NameOk a) : callF Γ L (k + 2) 156 [.fz (frmT c l), .fz (.str a)] = .ok (.fz (.int (atS l a))) [.no, .no] := by
  have c1 := isname_ok hΓ (L := L) (k := k) h
  refine wC.eq_fz (wp_run (d := d156) (hΓ _ _ rfl) rfl ?_)
  generalize callF Γ L (k + 1) = cal at *
  unfold d156
  repeat infer_instance
  refine wif0 rfl ?_
  repeat infer_instance
  refine ⟨_, _, _, _, rfl, rfl, rfl, rfl, rfl, ?_⟩
  rw [dgt_dS]
  repeat infer_instance
end
end FrmP
set_option maxHeartbeats 2000000
namespace FrmP
open PySem PySem.Spec PyProof.Rows L2 Mi MiDF
local macro_rules
  | `(tactic| infer_instance) => `(tactic| first
    | refine dp_nil ?_ | refine dp_cons ?_ | refine wp_var rfl ?_ | refine wp_bo rfl ?_ | refine wp_c ?_ | refine wp_op ?_ | refine wp_lst ?_ | refine wp_tup ?_
    | refine wp_call ?_ | refine wp_prop ?_ | refine wp_meth ?_ | refine wp_mk ?_ | refine wp_bop ?_ | refine wp_uop ?_ | refine wp_fld ?_ | refine wp_spc ?_ | refine wp_ceq ?_ | refine wp_inn ?_ | refine wp_nt ?_ | refine wp_fst ?_ | refine jp_nil ?_ | refine wp_isc ?_ | refine wp_dsc rfl rfl ?_ | refine wp_dic0 ?_ | refine wp_dgt ?_ | refine wp_ccm ?_ | refine wp_anP ?_ | refine wp_orP ?_ | refine wp_ite ?_
    | refine sp_it ?_ | refine sp_rng1 ?_ | refine sp_enum ?_ | refine sp_zip ?_ | refine wp_lr ?_
    | refine bp_nil ?_ | refine bp_cons ?_ | refine wp_set ?_ | refine wp_ret ?_ | refine wp_stf ?_ | refine wp_par ?_ | refine wp_ife ?_ | refine wp_ex ?_
    | refine wk_go rfl ?_ | refine wC.fz (by assumption) ?_ | refine wC.ow (by assumption) ?_ | refine wp_stoS ?_ | refine wo_all ?_ | refine wo_idxS (by assumption) ?_ | refine wo_listS ?_ | refine wo_eqS (by assumption) (by assumption) ?_ | refine wo_neW (by assumption) ?_ | exact ⟨rfl, rfl⟩ | refine ⟨rfl, ?_⟩ | refine wO.of rfl ?_ | refine ap_nil ?_ | refine ap_one ?_
    | refine ⟨_, _, _, _, _, rfl, rfl, rfl, ?_⟩ | refine ⟨_, _, _, rfl, rfl, ?_⟩ | refine ⟨_, _, _, rfl, rfl, rfl, ?_⟩ | refine ⟨_, _, rfl, rfl, ?_⟩ | refine ⟨_, _, rfl, ?_⟩ | refine ⟨_, rfl, rfl, ?_⟩ | refine ⟨_, rfl, ?_⟩ | refine ⟨rfl, _, _, rfl, ?_⟩ | refine ⟨⟨_, rfl⟩, ?_⟩ | refine And.intro (fun _ z => nomatch z) ?_ | exact rfl)
/-! a drawn form -/
section
variable {Γ : Nat → Option Def} {L k : Nat} (hΓ : ∀ f d, pg f = some d → Γ f = some d)
include hΓ
end
end FrmP
set_option maxHeartbeats 2000000
namespace FrmP
open PySem PySem.Spec PyProof.Rows L2 Mi MiDF
local macro_rules
  | `(tactic| infer_instance) => `(tactic| first
    | refine dp_nil ?_ | refine dp_cons ?_ | refine wp_var rfl ?_ | refine wp_bo rfl ?_ | refine wp_c ?_ | refine wp_op ?_ | refine wp_lst ?_ | refine wp_tup ?_
    | refine wp_call ?_ | refine wp_prop ?_ | refine wp_meth ?_ | refine wp_mk ?_ | refine wp_bop ?_ | refine wp_bopi ?_ | refine wp_ropi ?_ | refine wp_uop ?_ | refine wp_fld ?_ | refine wp_spc ?_ | refine wp_ceq ?_ | refine wp_inn ?_ | refine wp_nt ?_ | refine wp_fst ?_ | refine jp_cons ?_ | refine jp_nil ?_ | refine wp_isc ?_ | refine wp_dsc rfl rfl ?_ | refine wp_dic0 ?_ | refine wp_dgt ?_ | refine wp_ccm ?_ | refine wp_anP ?_ | refine wp_orP ?_ | refine wp_ite ?_
    | refine sp_it ?_ | refine sp_rng1 ?_ | refine sp_enum ?_ | refine sp_zip ?_ | refine wp_lr ?_
    | refine bp_nil ?_ | refine bp_cons ?_ | refine wp_set ?_ | refine wp_ret ?_ | refine wp_stf ?_ | refine wp_par ?_ | refine wp_ife ?_ | refine wp_ex ?_
    | refine wk_go rfl ?_ | refine wC.fz (by assumption) ?_ | refine wC.ow (by assumption) ?_ | refine wp_stoS ?_ | refine wo_all ?_ | refine wo_idxS (by assumption) ?_ | refine wo_neI ?_ | refine ap_one ?_ | refine wo_listS ?_ | exact ⟨rfl, rfl⟩ | refine ⟨rfl, ?_⟩ | refine wO.of rfl ?_ | refine ap_nil ?_
    | refine ⟨_, _, _, _, _, rfl, rfl, rfl, ?_⟩ | refine ⟨_, _, _, rfl, rfl, ?_⟩ | refine ⟨_, _, _, rfl, rfl, rfl, ?_⟩ | refine ⟨_, _, rfl, rfl, ?_⟩ | refine ⟨_, _, rfl, ?_⟩ | refine ⟨_, rfl, rfl, ?_⟩ | refine ⟨_, rfl, ?_⟩ | refine ⟨rfl, _, _, rfl, ?_⟩ | refine ⟨⟨_, rfl⟩, ?_⟩ | refine And.intro (fun _ z => nomatch z) ?_ | exact rfl)

/-! reckoning with forms, as rows of names -/
noncomputable def mulS (n : Int) (l : SD) : SD := keptS (l.map fun q => (q.1, q.2 * n))
noncomputable def plusS (l k : SD) : SD := keptS (sumS l k)
theorem keys_scale (n : Int) (l : SD) : keysS (l.map fun q => (q.1, q.2 * n)) = keysS l := by unfold keysS; rw [List.map_map]; rfl
theorem at_scale (n : Int) (l : SD) (x : PySem.Str) : atS (l.map fun q => (q.1, q.2 * n)) x = atS l x * n := by
  induction l with
  | nil => show (0 : Int) = 0 * n; rw [Int.zero_mul]
  | cons q r ih =>
    unfold Mi.atS at ih ⊢
    rw [List.map_cons, lookS_cons, lookS_cons]
    by_cases e : q.1 = x
    · rw [if_pos e, if_pos e]; rfl
    · rw [if_neg e, if_neg e]; exact ih
theorem mulS_at {l : SD} (h : CanS l) (n : Int) (x : PySem.Str) : atS (mulS n l) x = atS l x * n := by
  unfold mulS
  rw [at_keptS (by rw [keys_scale]; exact h.nodup), at_scale]
theorem mulS_can {l : SD} (h : CanS l) (n : Int) : CanS (mulS n l) := keptS_can (by rw [keys_scale]; exact h.nodup)
theorem plusS_at {l k : SD} (h : CanS l) (h' : CanS k) (x : PySem.Str) : atS (plusS l k) x = atS l x + atS k x := by
  unfold plusS
  rw [at_keptS (nodup_sumS k h.nodup), at_sumS, totS_can h']
theorem plusS_can {l k : SD} (h : CanS l) : CanS (plusS l k) := keptS_can (nodup_sumS k h.nodup)
theorem look_fun (f : PySem.Str → Int) (x : PySem.Str) : ∀ as : List PySem.Str, lookS (as.map fun a => (a, f a)) x = if x ∈ as then some (f x) else none
  | [] => rfl
  | a :: r => by
    rw [List.map_cons, lookS_cons, look_fun f x r]
    by_cases e : a = x
    · subst e
      rw [if_pos rfl, if_pos List.mem_cons_self]
    · rw [if_neg e]
      by_cases h : x ∈ r
      · rw [if_pos h, if_pos (List.mem_cons_of_mem _ h)]
      · rw [if_neg h, if_neg fun z => (List.mem_cons.mp z).elim (fun z => e z.symm) h]
structure Bn (ns : List PySem.Str) (m : Nat) (l : SD) : Prop where
  can : CanS l
  sub : ∀ a ∈ keysS l, a ∈ ns
  big : ∀ x, (atS l x).natAbs ≤ m
section
variable {ns : List PySem.Str} {m m' : Nat} {l k : SD}
theorem Bn.len (h : Bn ns m l) : l.length ≤ ns.length := by
  have := nd_le h.can.nodup h.sub
  unfold keysS at this
  rwa [List.length_map] at this
theorem Bn.big2 (h : Bn ns m l) : ∀ q ∈ l, q.2.natAbs ≤ m := fun q hq => by
  have := h.big q.1
  rwa [h.can.at hq] at this
theorem bn_of (h : CanS l) (hs : ∀ a ∈ keysS l, a ∈ ns) (hq : ∀ q ∈ l, q.2.natAbs ≤ m) : Bn ns m l := ⟨h, hs, fun x => by
  by_cases hx : x ∈ keysS l
  · obtain ⟨q, hm, rfl⟩ := List.mem_map.mp hx
    rw [h.at hm]
    exact hq q hm
  · rw [atS_none hx]; exact Nat.zero_le _⟩
theorem mem_of_at {l : SD} (h : CanS l) {a : PySem.Str} (ha : a ∈ keysS l) : atS l a ≠ 0 := by
  obtain ⟨q, hm, rfl⟩ := List.mem_map.mp ha
  rw [h.at hm]
  exact h.nz q hm
theorem bn_by {f : SD} (hc : CanS f) (hs : ∀ a, a ∉ ns → atS f a = 0) (hb : ∀ x, (atS f x).natAbs ≤ m) : Bn ns m f := ⟨hc, fun a ha => Classical.byContradiction fun z => mem_of_at hc ha (hs a z), hb⟩
theorem Bn.off (h : Bn ns m l) {a : PySem.Str} (ha : a ∉ ns) : atS l a = 0 := atS_none fun z => ha (h.sub a z)
theorem Bn.mul (h : Bn ns m l) {n : Int} (hn : n.natAbs ≤ m') : Bn ns (m * m') (mulS n l) := bn_by (mulS_can h.can n) (fun a ha => by rw [mulS_at h.can, h.off ha, Int.zero_mul]) fun x => by
  rw [mulS_at h.can, Int.natAbs_mul]
  exact Nat.mul_le_mul (h.big x) hn
theorem Bn.plus (h : Bn ns m l) (h' : Bn ns m' k) : Bn ns (m + m') (plusS l k) := bn_by (plusS_can h.can) (fun a ha => by rw [plusS_at h.can h'.can, h.off ha, h'.off ha]; rfl) fun x => by
  rw [plusS_at h.can h'.can]
  have := h.big x
  have := h'.big x
  omega
end
end FrmP
set_option maxHeartbeats 2000000
namespace FrmP
open PySem PySem.Spec PyProof.Rows L2 Mi MiDF
local macro_rules
  | `(tactic| infer_instance) => `(tactic| first
    | refine dp_nil ?_ | refine dp_cons ?_ | refine wp_var rfl ?_ | refine wp_bo rfl ?_ | refine wp_c ?_ | refine wp_op ?_ | refine wp_lst ?_ | refine wp_tup ?_
    | refine wp_call ?_ | refine wp_prop ?_ | refine wp_meth ?_ | refine wp_mk ?_ | refine wp_bop ?_ | refine wp_bopi ?_ | refine wp_ropi ?_ | refine wp_uop ?_ | refine wp_fld ?_ | refine wp_spc ?_ | refine wp_ceq ?_ | refine wp_inn ?_ | refine wp_nt ?_ | refine wp_fst ?_ | refine jp_cons ?_ | refine jp_nil ?_ | refine wp_isc ?_ | refine wp_dsc rfl rfl ?_ | refine wp_dic0 ?_ | refine wp_dgt ?_ | refine wp_ccm ?_ | refine wp_anP ?_ | refine wp_orP ?_ | refine wp_ite ?_
    | refine sp_it ?_ | refine sp_rng1 ?_ | refine sp_enum ?_ | refine sp_zip ?_ | refine wp_lr ?_
    | refine bp_nil ?_ | refine bp_cons ?_ | refine wp_set ?_ | refine wp_ret ?_ | refine wp_stf ?_ | refine wp_par ?_ | refine wp_ife ?_ | refine wp_ex ?_
    | refine wk_go rfl ?_ | refine wC.fz (by assumption) ?_ | refine wC.ow (by assumption) ?_ | refine wp_stoS ?_ | refine wo_all ?_ | refine wo_idxS (by assumption) ?_ | refine wo_neI ?_ | refine ap_one ?_ | refine wo_listS ?_ | exact ⟨rfl, rfl⟩ | refine ⟨rfl, ?_⟩ | refine wO.of rfl ?_ | refine ap_nil ?_
    | refine ⟨_, _, _, _, _, rfl, rfl, rfl, ?_⟩ | refine ⟨_, _, _, rfl, rfl, ?_⟩ | refine ⟨_, _, _, rfl, rfl, rfl, ?_⟩ | refine ⟨_, _, rfl, rfl, ?_⟩ | refine ⟨_, _, rfl, ?_⟩ | refine ⟨_, rfl, rfl, ?_⟩ | refine ⟨_, rfl, ?_⟩ | refine ⟨rfl, _, _, rfl, ?_⟩ | refine ⟨⟨_, rfl⟩, ?_⟩ | refine And.intro (fun _ z => nomatch z) ?_ | exact rfl)


section
variable {Γ : Nat → Option Def} {L k : Nat} (hΓ : ∀ f d, pg f = some d → Γ f = some d)
include hΓ
theorem mul_ok {c n : Int} {l : SD} (h : CanS l) (hl : l.length < 64) (hk : ∀ a ∈ keysS l, NameOk a) (hc : c.natAbs < 2 ^ 200) (hn : n.natAbs < 2 ^ 200) (hq : ∀ x, (atS l x).natAbs < 2 ^ 200) :
    callF Γ L (k + 4) 163 [.fz (frmT c l), .fz (.int n)] = .ok (.ow (frmO (c * n) (mulS n l))) [.no, .no] := by
  have c1 := formof_ok hΓ (L := L) (k := k) (c := c * n) (l := l.map fun q => (q.1, q.2 * n)) (by rw [keys_scale]; exact h.nodup) (by rw [List.length_map]; exact hl) (by rw [keys_scale]; exact hk)
  refine wC.eq_ow (wp_run (d := d163) (hΓ _ _ rfl) rfl ?_)
  generalize callF Γ L (k + 3) = cal at *
  unfold d163
  refine bp_cons (wp_ret (wp_call (dp_cons ?_)))
  repeat infer_instance
  refine wo_mul hc hn ?_
  repeat infer_instance
  refine wp_dcm (α := PySem.Str × Int) ?_
  repeat infer_instance
  refine ⟨l, fun q => .str q.1, fun _ => true, fun q => .inr q.1, fun q => .int (q.2 * n), keys_dS l, rfl, rfl, fun q hm => ⟨_, rfl, rfl, ap_nil ⟨rfl, rfl⟩, fun _ => ⟨?_, ?_⟩⟩, by rw [sizeLine_eq]; omega, ?_⟩
  · repeat infer_instance
  · have hk2 : q.1 ∈ keysS l := List.mem_map.mpr ⟨q, hm, rfl⟩
    repeat infer_instance
    refine wo_mul (hq _) hn ?_
    rw [h.at hm]
    repeat infer_instance
  · have e : (l.filter fun _ => true).map (fun q : PySem.Str × Int => ((Sum.inr q.1 : Key), T.int (q.2 * n))) = dS (l.map fun q => (q.1, q.2 * n)) := by
      rw [List.filter_eq_self.mpr fun _ _ => rfl]
      unfold dS
      rw [List.map_map]
      rfl
    rw [e]
    have e2 : putsT [] (dS (l.map fun q => (q.1, q.2 * n))) = dS (l.map fun q => (q.1, q.2 * n)) := puts_dS (List.map (fun q : PySem.Str × Int => (q.1, q.2 * n)) l) [] (by rw [List.nil_append, keys_scale]; exact h.nodup)
    rw [e2]
    repeat infer_instance
theorem add_ok {c c' : Int} {l l' : SD} (h : CanS l) (h' : CanS l') (hl : l.length + l'.length < 64) (hk : ∀ a ∈ keysS l, NameOk a) (hk' : ∀ a ∈ keysS l', NameOk a) :
    callF Γ L (k + 4) 160 [.fz (frmT c l), .fz (frmT c' l')] = .ok (.ow (frmO (c + c') (plusS l l'))) [.no, .no] := by
  have hsl := sum_len l' l
  have c1 := formof_ok hΓ (L := L) (k := k) (c := c + c') (l := sumS l l') (nodup_sumS l' h.nodup) (by omega) (fun a ha => (sum_keys l' l a ha).elim (hk a) (hk' a))
  refine wC.eq_ow (wp_run (d := d160) (hΓ _ _ rfl) rfl ?_)
  generalize callF Γ L (k + 3) = cal at *
  unfold d160
  repeat infer_instance
  refine wp_fr ?_
  repeat infer_instance
  refine ⟨fun xs m => ∃ (dn as : SD) (x : Mi.Slot), xs = (dS as).map (fun kv => unkey kv.1) ∧ m = [.fz (frmT c l), .fz (frmT c' l'), .ow (.dic (dS (sumS l dn))), x] ∧ dn ++ as = l', ⟨[], l', _, rfl, rfl, rfl⟩, ?_, ?_⟩
  · rintro x xs m2 ⟨dn, as, x3, e, rfl, hd⟩
    cases as with
    | nil => cases e
    | cons q as =>
      cases e
      have hm : q ∈ l' := by rw [← hd]; simp
      have hq : q.1 ∈ keysS l' := List.mem_map.mpr ⟨q, hm, rfl⟩
      refine ⟨_, rfl, ?_⟩
      unfold l160_0
      repeat infer_instance
      refine ⟨_, _, _, _, rfl, rfl, rfl, rfl, rfl, ?_⟩
      rw [dgt_dS]
      repeat infer_instance
      rw [h'.at hm]
      repeat infer_instance
      have hlen : (dS (sumS l dn)).length < sizeLine := by
        have h1 := sum_len dn l
        have h2 : l'.length = dn.length + (as.length + 1) := by rw [← hd, List.length_append]; rfl
        unfold dS
        rw [List.length_map, sizeLine_eq]
        omega
      refine ⟨_, _, _, _, rfl, rfl, rfl, hlen, ?_⟩
      repeat infer_instance
      refine ⟨dn ++ [q], as, .fz (.str q.1), rfl, ?_, by rw [List.append_assoc]; exact hd⟩
      rw [putT_dS, sum_app]
      rfl
  rintro m2 ⟨dn, as, x3, e, rfl, hd⟩
  have has : as = [] := by
    cases as with
    | nil => rfl
    | cons q as => cases e
  subst has
  rw [List.append_nil] at hd
  subst hd
  repeat infer_instance
end
end FrmP
set_option maxHeartbeats 2000000
namespace FrmP
open PySem PySem.Spec PyProof.Rows L2 Mi MiDF
local macro_rules
  | `(tactic| infer_instance) => `(tactic| first
    | refine dp_nil ?_ | refine dp_cons ?_ | refine wp_var rfl ?_ | refine wp_bo rfl ?_ | refine wp_c ?_ | refine wp_op ?_ | refine wp_lst ?_ | refine wp_tup ?_
    | refine wp_call ?_ | refine wp_prop ?_ | refine wp_meth ?_ | refine wp_mk ?_ | refine wp_bop ?_ | refine wp_bopi ?_ | refine wp_ropi ?_ | refine wp_uop ?_ | refine wp_fld ?_ | refine wp_spc ?_ | refine wp_ceq ?_ | refine wp_inn ?_ | refine wp_nt ?_ | refine wp_fst ?_ | refine jp_cons ?_ | refine jp_nil ?_ | refine wp_isc ?_ | refine wp_dsc rfl rfl ?_ | refine wp_dic0 ?_ | refine wp_dgt ?_ | refine wp_ccm ?_ | refine wp_anP ?_ | refine wp_orP ?_ | refine wp_ite ?_
    | refine sp_it ?_ | refine sp_rng1 ?_ | refine sp_enum ?_ | refine sp_zip ?_ | refine wp_lr ?_
    | refine bp_nil ?_ | refine bp_cons ?_ | refine wp_set ?_ | refine wp_ret ?_ | refine wp_stf ?_ | refine wp_par ?_ | refine wp_ife ?_ | refine wp_ex ?_
    | refine wk_go rfl ?_ | refine wC.fz (by assumption) ?_ | refine wC.ow (by assumption) ?_ | refine wp_stoS ?_ | refine wo_all ?_ | refine wo_idxS (by assumption) ?_ | refine wo_neI ?_ | refine ap_one ?_ | refine wo_listS ?_ | exact ⟨rfl, rfl⟩ | refine ⟨rfl, ?_⟩ | refine wO.of rfl ?_ | refine ap_nil ?_
    | refine ⟨_, _, _, _, _, rfl, rfl, rfl, ?_⟩ | refine ⟨_, _, _, rfl, rfl, ?_⟩ | refine ⟨_, _, _, rfl, rfl, rfl, ?_⟩ | refine ⟨_, _, rfl, rfl, ?_⟩ | refine ⟨_, _, rfl, ?_⟩ | refine ⟨_, rfl, rfl, ?_⟩ | refine ⟨_, rfl, ?_⟩ | refine ⟨rfl, _, _, rfl, ?_⟩ | refine ⟨⟨_, rfl⟩, ?_⟩ | refine And.intro (fun _ z => nomatch z) ?_ | exact rfl)


/-! loops: start values, the value of a form -/
noncomputable def valS (c : Int) (l v : SD) : Int := c + (l.map fun q => q.2 * Mi.atS v q.1).sum
section
variable {Γ : Nat → Option Def} {L k : Nat} (hΓ : ∀ f d, pg f = some d → Γ f = some d)
include hΓ
theorem num18_ok {v lo hi : Int} (h1 : lo ≤ v) (h2 : v ≤ hi) : callF Γ L (k + 2) 18 [.fz (.int v), .fz (.int lo), .fz (.int hi)] = .ok (.fz (.bl true)) [.no, .no, .no] := by
  have c1 : callF Γ L (k + 1) 22 [.fz (.int v)] = .ok (.fz (.bl true)) [.no] := whole_ok hΓ
  refine wC.eq_fz (wp_run (d := d18) (hΓ _ _ rfl) rfl ?_)
  generalize callF Γ L (k + 1) = cal at *
  unfold d18
  repeat infer_instance
  refine wp_ch ?_
  repeat infer_instance
  refine wif1 (decide_eq_true h1) ?_
  repeat infer_instance
  refine ⟨?_, rfl⟩
  show R.fz (.bl (true && decide (v ≤ hi))) = _
  rw [decide_eq_true h2]
  rfl
theorem start_ok {a : PySem.Str} {v : Int} (ha : NameOk a) (h : v.natAbs ≤ 1000000) : callF Γ L (k + 3) 171 [.fz (prT (a, v))] = .ok (.fz (.bl true)) [.no] := by
  have c1 := isname_ok hΓ (L := L) (k := k + 1) ha
  have c2 := num18_ok hΓ (L := L) (k := k) (v := v) (lo := -1000000) (hi := 1000000) (by omega) (by omega)
  refine wC.eq_fz (wp_run (d := d171) (hΓ _ _ rfl) rfl ?_)
  generalize callF Γ L (k + 2) = cal at *
  unfold d171
  repeat infer_instance
  refine wif0 rfl ?_
  repeat infer_instance
theorem unit_ok {o : T} {a : PySem.Str} (ha : NameOk a) : callF Γ L (k + 5) 169 [.fz o, .fz (.str a)] = .ok (.ow (frmO 0 [(a, 1)])) [.no, .no] := by
  have c1 := of_ok hΓ (L := L) (k := k) (c := 0) (ts := [(a, 1)]) (show 1 < 64 by decide) (fun b hb => by
    rw [List.mem_singleton.mp hb]; exact ha)
  have e : keptS (sumS [] [(a, 1)]) = [(a, 1)] := kept_sum ⟨List.pairwise_singleton _ _, fun q hq => by rw [List.mem_singleton.mp hq]; exact (show (1 : Int) ≠ 0 by decide)⟩ (totS_can ⟨List.pairwise_singleton _ _, fun q hq => by rw [List.mem_singleton.mp hq]; exact (show (1 : Int) ≠ 0 by decide)⟩)
  rw [e] at c1
  refine wC.eq_ow (wp_run (d := d169) (hΓ _ _ rfl) rfl ?_)
  generalize callF Γ L (k + 4) = cal at *
  unfold d169
  repeat infer_instance
theorem lvalue_ok {c : Int} {l v : SD} (hl : l.length < 64) (hc : CanS l) (hv : ∀ a ∈ keysS l, a ∈ keysS v) (hq : ∀ q ∈ l, q.2.natAbs < 2 ^ 200) (hw : ∀ a, (Mi.atS v a).natAbs < 2 ^ 200) :
    callF Γ L (k + 1) 170 [.fz (spT c l), .ow (.dic (dS v))] = .ok (.fz (.int (valS c l v))) [.no, .ow (.dic (dS v))] := by
  refine wC.eq_fz (wp_run (d := d170) (hΓ _ _ rfl) rfl ?_)
  generalize callF Γ L k = cal at *
  unfold d170
  repeat infer_instance
  refine wp_comp (α := PySem.Str × Int) ?_
  repeat infer_instance
  refine ⟨l, fun q => .str q.1, fun _ => true, fun q => .int (q.2 * Mi.atS v q.1), keys_dS l, rfl, rfl, fun q hm => ⟨_, rfl, rfl, ap_nil ⟨rfl, rfl⟩, fun _ => ?_⟩, by rw [sizeLine_eq]; omega, ?_⟩
  · have hk2 : q.1 ∈ keysS l := List.mem_map.mpr ⟨q, hm, rfl⟩
    have hk3 := hv _ hk2
    unfold e170_0
    repeat infer_instance
    rw [hc.at hm]
    refine wo_mul (hq q hm) (hw _) ?_
    repeat infer_instance
  have e : (l.filter fun _ => true).map (fun q : PySem.Str × Int => T.int (q.2 * Mi.atS v q.1)) = tI (l.map fun q => q.2 * Mi.atS v q.1) := by
    rw [List.filter_eq_self.mpr fun _ _ => rfl]
    unfold tI
    rw [List.map_map]
    rfl
  rw [e]
  repeat infer_instance
  refine wo_sumI ?_
  repeat infer_instance
theorem fvalue_ok {c : Int} {l v : SD} (hc : CanS l) (hv : ∀ a ∈ keysS l, a ∈ keysS v) (hq : ∀ q ∈ l, q.2.natAbs < 2 ^ 200) (hw : ∀ a, (Mi.atS v a).natAbs < 2 ^ 200) :
    callF Γ L (k + 1) 167 [.fz (frmT c l), .fz (.dic (dS v))] = .ok (.fz (.int (valS c l v))) [.no, .no] := by
  refine wC.eq_fz (wp_run (d := d167) (hΓ _ _ rfl) rfl ?_)
  generalize callF Γ L k = cal at *
  unfold d167
  repeat infer_instance
  refine wp_fr ?_
  repeat infer_instance
  refine ⟨fun xs m => ∃ (dn as : SD) (x : Mi.Slot), xs = (dS as).map (fun kv => unkey kv.1) ∧ m = [.fz (frmT c l), .fz (.dic (dS v)), .fz (.int (valS c dn v)), x] ∧ dn ++ as = l, ⟨[], l, _, rfl, by
    show [_, _, _, _] = [_, _, Mi.Slot.fz (.int (c + 0)), _]
    rw [Int.add_zero], rfl⟩, ?_, ?_⟩
  · rintro x xs m2 ⟨dn, as, x3, e, rfl, hd⟩
    cases as with
    | nil => cases e
    | cons q as =>
      cases e
      have hm : q ∈ l := by rw [← hd]; simp
      have hk2 : q.1 ∈ keysS l := List.mem_map.mpr ⟨q, hm, rfl⟩
      have hk3 := hv _ hk2
      refine ⟨_, rfl, ?_⟩
      unfold l167_0
      repeat infer_instance
      have hin : ((dS v).any fun kv => decide (kv.1 = (Sum.inr q.1 : Key))) = true := by
        rw [any_dS]
        obtain ⟨p, hp, e⟩ := List.mem_map.mp hk3
        exact List.any_eq_true.mpr ⟨p, hp, decide_eq_true e⟩
      refine wif0 (by rw [hin]; rfl) ?_
      repeat infer_instance
      refine wp_aug ?_
      repeat infer_instance
      refine wo_mul (by rw [hc.at hm]; exact hq q hm) (hw _) ?_
      rw [hc.at hm]
      repeat infer_instance
      refine ⟨dn ++ [q], as, .fz (.str q.1), rfl, ?_, by rw [List.append_assoc]; exact hd⟩
      have e3 : valS c (dn ++ [q]) v = valS c dn v + q.2 * Mi.atS v q.1 := by
        unfold valS
        rw [List.map_append, List.map_cons, List.map_nil, List.sum_append]
        simp
        omega
      rw [e3]
      rfl
  rintro m2 ⟨dn, as, x3, e, rfl, hd⟩
  have has : as = [] := by
    cases as with
    | nil => rfl
    | cons q as => cases e
  subst has
  rw [List.append_nil] at hd
  subst hd
  repeat infer_instance
end
end FrmP
set_option maxHeartbeats 2000000
namespace FrmP
open PySem PySem.Spec PyProof.Rows L2 Mi MiDF
local macro_rules
  | `(tactic| infer_instance) => `(tactic| first
    | refine dp_nil ?_ | refine dp_cons ?_ | refine wp_var rfl ?_ | refine wp_bo rfl ?_ | refine wp_c ?_ | refine wp_op ?_ | refine wp_lst ?_ | refine wp_tup ?_
    | refine wp_call ?_ | refine wp_prop ?_ | refine wp_meth ?_ | refine wp_mk ?_ | refine wp_bop ?_ | refine wp_bopi ?_ | refine wp_ropi ?_ | refine wp_uop ?_ | refine wp_fld ?_ | refine wp_spc ?_ | refine wp_ceq ?_ | refine wp_inn ?_ | refine wp_nt ?_ | refine wp_fst ?_ | refine jp_cons ?_ | refine jp_nil ?_ | refine wp_isc ?_ | refine wp_dsc rfl rfl ?_ | refine wp_dic0 ?_ | refine wp_dgt ?_ | refine wp_ccm ?_ | refine wp_anP ?_ | refine wp_orP ?_ | refine wp_ite ?_
    | refine sp_it ?_ | refine sp_rng1 ?_ | refine sp_enum ?_ | refine sp_zip ?_ | refine wp_lr ?_
    | refine bp_nil ?_ | refine bp_cons ?_ | refine wp_set ?_ | refine wp_ret ?_ | refine wp_stf ?_ | refine wp_par ?_ | refine wp_ife ?_ | refine wp_ex ?_
    | refine wk_go rfl ?_ | refine wC.fz (by assumption) ?_ | refine wC.ow (by assumption) ?_ | refine wp_stoS ?_ | refine wo_all ?_ | refine wo_idxS (by assumption) ?_ | refine wo_neI ?_ | refine ap_one ?_ | refine wo_listS ?_ | exact ⟨rfl, rfl⟩ | refine ⟨rfl, ?_⟩ | refine wO.of rfl ?_ | refine ap_nil ?_
    | refine ⟨_, _, _, _, _, rfl, rfl, rfl, ?_⟩ | refine ⟨_, _, _, rfl, rfl, ?_⟩ | refine ⟨_, _, _, rfl, rfl, rfl, ?_⟩ | refine ⟨_, _, rfl, rfl, ?_⟩ | refine ⟨_, _, rfl, ?_⟩ | refine ⟨_, rfl, rfl, ?_⟩ | refine ⟨_, rfl, ?_⟩ | refine ⟨rfl, _, _, rfl, ?_⟩ | refine ⟨⟨_, rfl⟩, ?_⟩ | refine And.intro (fun _ z => nomatch z) ?_ | exact rfl)


/-! deeds: a name, a constant and factors -/
noncomputable abbrev Deed := PySem.Str × Int × SD
noncomputable abbrev deT (d : Deed) : T := .tup [.str d.1, spT d.2.1 d.2.2]
noncomputable abbrev deF (d : Deed) : T := .tup [.str d.1, frmT d.2.1 d.2.2]
noncomputable def behS (v : SD) (ds : List Deed) : SD := ds.foldl (fun v d => putA v d.1 (valS d.2.1 d.2.2 v)) v
structure DeedOk (ns : List PySem.Str) (d : Deed) : Prop where
  mem : d.1 ∈ ns
  can : CanS d.2.2
  sub : ∀ a ∈ keysS d.2.2, a ∈ ns
  fac : ∀ q ∈ d.2.2, q.2.natAbs ≤ 99
  con : d.2.1.natAbs ≤ 99
structure NsOk (ns : List PySem.Str) : Prop where
  nd : ns.Nodup
  lo : 1 ≤ ns.length
  hi : ns.length ≤ 3
  nm : ∀ a ∈ ns, NameOk a
structure VOk (ns : List PySem.Str) (M : Nat) (v : SD) : Prop where
  keys : keysS v = ns
  big : ∀ a, (Mi.atS v a).natAbs ≤ M
theorem DeedOk.len {ns : List PySem.Str} {d : Deed} (h : DeedOk ns d) : d.2.2.length ≤ ns.length := by
  have := nd_le h.can.nodup h.sub
  unfold keysS at this
  rw [List.length_map] at this
  exact this
theorem natAbs_sum {B : Nat} : ∀ l : List Int, (∀ x ∈ l, x.natAbs ≤ B) → l.sum.natAbs ≤ l.length * B
  | [], _ => by simp
  | x :: r, h => by
    have h1 := h x List.mem_cons_self
    have h2 := natAbs_sum r fun y hy => h y (List.mem_cons_of_mem _ hy)
    rw [List.sum_cons, List.length_cons, Nat.succ_mul]
    omega
theorem valS_big {ns : List PySem.Str} {M : Nat} {v : SD} {d : Deed} (hn : NsOk ns) (h : DeedOk ns d) (hv : VOk ns M v) (hM : 1 ≤ M) : (valS d.2.1 d.2.2 v).natAbs ≤ 400 * M := by
  have h1 := natAbs_sum (B := 99 * M) (d.2.2.map fun q => q.2 * Mi.atS v q.1) (fun x hx => by
    obtain ⟨q, hq, rfl⟩ := List.mem_map.mp hx
    rw [Int.natAbs_mul]
    exact Nat.mul_le_mul (h.fac q hq) (hv.big _))
  rw [List.length_map] at h1
  have h2 := h.len
  have h3 := hn.hi
  have h4 : d.2.2.length * (99 * M) ≤ 3 * (99 * M) := Nat.mul_le_mul_right _ (by omega)
  have h5 := h.con
  unfold valS
  omega
theorem VOk.put {ns : List PySem.Str} {M M' : Nat} {v : SD} {a : PySem.Str} {b : Int} (hv : VOk ns M v) (ha : a ∈ ns) (hb : b.natAbs ≤ M') (hM : M ≤ M') : VOk ns M' (putA v a b) := by
  refine ⟨?_, fun x => ?_⟩
  · rw [keys_putA, hv.keys, if_pos ha]
  · rw [at_putA]
    split
    · exact hb
    · exact Nat.le_trans (hv.big _) hM
theorem beh_ok {ns : List PySem.Str} (hn : NsOk ns) : ∀ (ds : List Deed) {M : Nat} {v : SD}, VOk ns M v → 1 ≤ M → (∀ d ∈ ds, DeedOk ns d) → VOk ns (400 ^ ds.length * M) (behS v ds)
  | [], M, v, hv, _, _ => by show VOk ns (400 ^ 0 * M) v; rw [Nat.pow_zero, Nat.one_mul]; exact hv
  | d :: r, M, v, hv, hM, h => by
    have hd := h d List.mem_cons_self
    have h1 := hv.put (M' := 400 * M) hd.mem (valS_big hn hd hv hM) (by omega)
    have h2 := beh_ok hn r h1 (by omega) fun e he => h e (List.mem_cons_of_mem _ he)
    rw [List.length_cons, Nat.pow_succ, Nat.mul_assoc]
    exact h2
section
variable {Γ : Nat → Option Def} {L k : Nat} (hΓ : ∀ f d, pg f = some d → Γ f = some d)
include hΓ
theorem behind_ok {ns : List PySem.Str} {M : Nat} {v : SD} {ds : List Deed} (hn : NsOk ns) (hv : VOk ns M v) (hM : 1 ≤ M) (hd : ∀ d ∈ ds, DeedOk ns d) (hB : 400 ^ ds.length * M < 2 ^ 200) :
    callF Γ L (k + 2) 139 [.fz (.dic (dS v)), .fz (.lst (ds.map deT))] = .ok (.ow (.dic (dS (behS v ds)))) [.no, .no] := by
  have c1 : ∀ {c : Int} {l w : SD}, l.length < 64 → CanS l → (∀ a ∈ keysS l, a ∈ keysS w) → (∀ q ∈ l, q.2.natAbs < 2 ^ 200) → (∀ a, (Mi.atS w a).natAbs < 2 ^ 200) → callF Γ L (k + 1) 170 [.fz (spT c l), .ow (.dic (dS w))] = .ok (.fz (.int (valS c l w))) [.no, .ow (.dic (dS w))] := fun a b c d e => lvalue_ok hΓ a b c d e
  refine wC.eq_ow (wp_run (d := d139) (hΓ _ _ rfl) rfl ?_)
  generalize callF Γ L (k + 1) = cal at *
  unfold d139
  repeat infer_instance
  refine wO.of (r := .ow (.dic (dS v))) (by
    show kwdF [] (.dic (dS v)) = _
    unfold kwdF
    simp only
    rw [if_pos]
    rw [List.all_map, List.all_eq_true]
    intro q hq
    rfl) ?_
  repeat infer_instance
  refine wp_fr ?_
  repeat infer_instance
  refine ⟨fun xs m => ∃ (as : List Deed) (w : SD) (x y : Mi.Slot) (N : Nat), xs = as.map deT ∧ m = [.fz (.dic (dS v)), .fz (.lst (ds.map deT)), .ow (.dic (dS w)), x, y] ∧ VOk ns N w ∧ 1 ≤ N ∧ 400 ^ as.length * N < 2 ^ 200 ∧ (∀ d ∈ as, DeedOk ns d) ∧ behS w as = behS v ds, ⟨ds, v, _, _, M, rfl, rfl, hv, hM, hB, hd, rfl⟩, ?_, ?_⟩
  · rintro x xs m2 ⟨as, w, x3, x4, N, e, rfl, hw, hN, hB, ha, hs⟩
    cases as with
    | nil => cases e
    | cons d as =>
      cases e
      have h1 := ha d List.mem_cons_self
      have h2 := h1.len
      have h3 := hn.hi
      have hNB : 400 * N < 2 ^ 200 := by
        rw [List.length_cons, Nat.pow_succ, Nat.mul_assoc] at hB
        have : 1 * (400 * N) ≤ 400 ^ as.length * (400 * N) := Nat.mul_le_mul_right _ (Nat.pos_of_ne_zero (by exact Nat.ne_of_gt (Nat.pow_pos (by omega))))
        omega
      have c2 := c1 (c := d.2.1) (l := d.2.2) (w := w) (by omega) h1.can (fun a hh => by rw [hw.keys]; exact h1.sub a hh) (fun q hq => Nat.lt_of_le_of_lt (h1.fac q hq) (by decide)) (fun a => Nat.lt_of_le_of_lt (hw.big a) (by omega))
      have hlen : w.length = ns.length := by
        have := congrArg List.length hw.keys
        unfold keysS at this
        rw [List.length_map] at this
        exact this
      refine ⟨_, rfl, ?_⟩
      unfold l139_0
      repeat infer_instance
      refine ⟨_, _, _, _, rfl, rfl, rfl, ?_, ?_⟩
      · unfold dS; rw [List.length_map]; have : sizeLine = 16777216 := rfl; omega
      rw [putT_dS]
      repeat infer_instance
      refine ⟨as, _, _, _, 400 * N, rfl, rfl, hw.put h1.mem (valS_big hn h1 hw hN) (by omega), by omega, ?_, fun e he => ha e (List.mem_cons_of_mem _ he), hs⟩
      rw [List.length_cons, Nat.pow_succ, Nat.mul_assoc] at hB
      exact hB
  rintro m2 ⟨as, w, x3, x4, N, e, rfl, hw, hN, hB, ha, hs⟩
  have has : as = [] := by
    cases as with
    | nil => rfl
    | cons q as => cases e
  subst has
  have hs : w = behS v ds := hs
  subst hs
  repeat infer_instance
end
end FrmP
set_option maxHeartbeats 2000000
namespace FrmP
open PySem PySem.Spec PyProof.Rows L2 Mi MiDF
local macro_rules
  | `(tactic| infer_instance) => `(tactic| first
    | refine dp_nil ?_ | refine dp_cons ?_ | refine wp_var rfl ?_ | refine wp_bo rfl ?_ | refine wp_c ?_ | refine wp_op ?_ | refine wp_lst ?_ | refine wp_tup ?_
    | refine wp_call ?_ | refine wp_prop ?_ | refine wp_meth ?_ | refine wp_mk ?_ | refine wp_bop ?_ | refine wp_bopi ?_ | refine wp_ropi ?_ | refine wp_uop ?_ | refine wp_fld ?_ | refine wp_spc ?_ | refine wp_ceq ?_ | refine wp_inn ?_ | refine wp_gti ?_ | refine wp_nt ?_ | refine wp_fst ?_ | refine jp_cons ?_ | refine jp_nil ?_ | refine wp_isc ?_ | refine wp_dsc rfl rfl ?_ | refine wp_dic0 ?_ | refine wp_dgt ?_ | refine wp_ccm ?_ | refine wp_anP ?_ | refine wp_orP ?_ | refine wp_ite ?_
    | refine sp_it ?_ | refine sp_rng1 ?_ | refine sp_enum ?_ | refine sp_zip ?_ | refine wp_lr ?_
    | refine bp_nil ?_ | refine bp_cons ?_ | refine wp_set ?_ | refine wp_ret ?_ | refine wp_stf ?_ | refine wp_par ?_ | refine wp_ife ?_ | refine wp_ex ?_
    | refine wk_go rfl ?_ | refine wC.fz (by assumption) ?_ | refine wC.ow (by assumption) ?_ | refine wp_stoS ?_ | refine wo_all ?_ | refine wo_idxS (by assumption) ?_ | refine wo_neI ?_ | refine ap_one ?_ | refine wo_listS ?_ | exact ⟨rfl, rfl⟩ | refine ⟨rfl, ?_⟩ | refine wO.of rfl ?_ | refine ap_nil ?_
    | refine ⟨_, _, _, _, _, rfl, rfl, rfl, ?_⟩ | refine ⟨_, _, _, rfl, rfl, ?_⟩ | refine ⟨_, _, _, rfl, rfl, rfl, ?_⟩ | refine ⟨_, _, rfl, rfl, ?_⟩ | refine ⟨_, _, rfl, ?_⟩ | refine ⟨_, rfl, rfl, ?_⟩ | refine ⟨_, rfl, ?_⟩ | refine ⟨rfl, _, _, rfl, ?_⟩ | refine ⟨⟨_, rfl⟩, ?_⟩ | refine And.intro (fun _ z => nomatch z) ?_ | exact rfl)


theorem wo_isinS {P : R → Prop} {x : PySem.Str} {l : List PySem.Str} (q : P (.fz (.bl (decide (x ∈ l))))) : wO .isin [.str x, .lst (tS l)] P := .of (by
  show (if flatT (.str x) = true ∧ (tS l).all flatT = true then fB (id ((tS l).any fun y => Mi.eqT y (.str x))) else none) = _
  rw [any_str]
  refine if_pos ⟨rfl, ?_⟩
  rw [List.all_eq_true]
  intro y hy
  obtain ⟨a, _, rfl⟩ := List.mem_map.mp hy
  rfl) q
theorem cutS_to {ns : List PySem.Str} {d : Int} (h : 0 ≤ d) : cutT (tS ns) none (some d) = tS (ns.take d.toNat) := by
  obtain ⟨n, rfl⟩ := Int.eq_ofNat_of_zero_le h
  unfold cutT
  rw [HT.sIx_none, HT.sIx_nat, Int.toNat_natCast, List.drop_zero, Nat.sub_zero]
  unfold tS
  rw [List.length_map, ← List.map_take]
  congr 1
  rcases Nat.le_total n ns.length with h | h
  · rw [Nat.min_eq_left h]
  · rw [Nat.min_eq_right h, List.take_of_length_le (Nat.le_refl _), List.take_of_length_le h]
noncomputable abbrev phT (ds : List Deed) : T := .lst (ds.map deT)
noncomputable abbrev phF (ds : List Deed) : T := .lst (ds.map deF)
noncomputable abbrev loopO (ss : SD) (ps : List (List Deed)) : O := .ins 16 [("own_starts", .dic (dS ss)), ("own_phases", .lst (ps.map phF))]
noncomputable abbrev loopT (ss : SD) (ps : List (List Deed)) : T := .ins 16 [("own_starts", .dic (dS ss)), ("own_phases", .lst (ps.map phF))]
noncomputable abbrev lspT (ss : SD) (ps : List (List Deed)) : T := .lst [.lst (ss.map prT), .lst (ps.map phT)]
structure LoopOk (nn : List PySem.Str) (ss : SD) (ps : List (List Deed)) : Prop where
  ns : NsOk nn
  keys : keysS ss = nn
  st : ∀ q ∈ ss, q.2.natAbs ≤ 1000000
  lo : 1 ≤ ps.length
  hi : ps.length ≤ 3
  ph : ∀ p ∈ ps, p.length ≤ 6 ∧ ∀ d ∈ p, DeedOk nn d
theorem LoopOk.len {ns : List PySem.Str} {ss : SD} {ps : List (List Deed)} (h : LoopOk ns ss ps) : ss.length = ns.length := by
  have := congrArg List.length h.keys
  unfold keysS at this
  rw [List.length_map] at this
  exact this
theorem names_mem {ns dn as : List PySem.Str} {a : PySem.Str} (hd : ns.Nodup) (e : dn ++ a :: as = ns) : a ∉ ns.take dn.length := by
  subst e
  rw [List.take_left]
  rw [List.nodup_append] at hd
  intro z
  exact hd.2.2 a z a List.mem_cons_self rfl
section
variable {Γ : Nat → Option Def} {L k : Nat} (hΓ : ∀ f d, pg f = some d → Γ f = some d)
include hΓ
theorem deed_ok {ns : List PySem.Str} {d : Deed} (hn : NsOk ns) (h : DeedOk ns d) : callF Γ L (k + 3) 172 [.fz (deF d), .fz (.lst (tS ns))] = .ok (.fz (.bl true)) [.no, .no] := by
  have c1 := isname_ok hΓ (L := L) (k := k + 1) (hn.nm _ h.mem)
  have c2 : callF Γ L (k + 2) 144 [.fz (frmT d.2.1 d.2.2)] = _ := const_ok hΓ (k := k + 1)
  have c3 := num18_ok hΓ (L := L) (k := k) (v := d.2.1) (lo := -1000000) (hi := 1000000) (by have := h.con; omega) (by have := h.con; omega)
  have c4 : callF Γ L (k + 2) 145 [.fz (frmT d.2.1 d.2.2)] = _ := names_ok hΓ (k := k + 1)
  have c5 : ∀ a, NameOk a → callF Γ L (k + 2) 156 [.fz (frmT d.2.1 d.2.2), .fz (.str a)] = .ok (.fz (.int (Mi.atS d.2.2 a))) [.no, .no] := fun a ha => get_ok hΓ (k := k) ha
  have c6 : ∀ q ∈ d.2.2, callF Γ L (k + 2) 18 [.fz (.int q.2), .fz (.int (-99)), .fz (.int 99)] = .ok (.fz (.bl true)) [.no, .no, .no] := fun q hq => num18_ok hΓ (by have := h.fac q hq; omega) (by have := h.fac q hq; omega)
  refine wC.eq_fz (wp_run (d := d172) (hΓ _ _ rfl) rfl ?_)
  generalize callF Γ L (k + 2) = cal at *
  unfold d172
  repeat infer_instance
  refine wif0 rfl ?_
  repeat infer_instance
  refine wo_notinS ?_
  repeat infer_instance
  refine wif0 (by rw [decide_eq_true h.mem]; rfl) ?_
  repeat infer_instance
  refine wp_comp (α := PySem.Str × Int) ?_
  repeat infer_instance
  have hl := h.len
  have h3 := hn.hi
  refine ⟨d.2.2, fun q => .str q.1, fun _ => true, fun _ => .bl true, by rw [List.map_map]; rfl, rfl, rfl, fun q hm => ⟨_, rfl, rfl, ap_nil ⟨rfl, rfl⟩, fun _ => ?_⟩, by rw [sizeLine_eq]; omega, ?_⟩
  · have hk2 : q.1 ∈ keysS d.2.2 := List.mem_map.mpr ⟨q, hm, rfl⟩
    have c7 := c5 q.1 (hn.nm _ (h.sub _ hk2))
    rw [h.can.at hm] at c7
    have c8 := c6 q hm
    unfold e172_0
    repeat infer_instance
    refine wo_isinS ?_
    repeat infer_instance
    rw [decide_eq_true (h.sub _ hk2)]
    rfl
  rw [List.filter_eq_self.mpr fun _ _ => rfl]
  repeat infer_instance
  refine ⟨?_, rfl⟩
  show R.fz (.bl (d.2.2.all fun _ => true)) = _
  rw [List.all_eq_true.mpr fun _ _ => rfl]
theorem loop_ok {ns : List PySem.Str} {ss : SD} {ps : List (List Deed)} (h : LoopOk ns ss ps) :
    callF Γ L (k + 4) 168 [.ow (.ins 16 []), .fz (.lst (ss.map prT)), .fz (.tup (ps.map phF))] = .ok (.fz .non) [.ow (loopO ss ps), .no, .no] := by
  have hz : sizeLine = 16777216 := rfl
  have c1 : ∀ xs : List T, callF Γ L (k + 3) 19 [.fz (.lst xs)] = .ok (.fz (.bl true)) [.no] := fun xs => islist_ok hΓ (k := k + 2)
  have c2 : ∀ q ∈ ss, callF Γ L (k + 3) 171 [.fz (prT q)] = .ok (.fz (.bl true)) [.no] := fun q hq => start_ok hΓ (h.ns.nm _ (by rw [← h.keys]; exact List.mem_map.mpr ⟨q, hq, rfl⟩)) (h.st q hq)
  have c3 : ∀ d, DeedOk ns d → callF Γ L (k + 3) 172 [.fz (deF d), .fz (.lst (tS ns))] = .ok (.fz (.bl true)) [.no, .no] := fun d hd => deed_ok hΓ h.ns hd
  have hl := h.len
  have h1 := h.ns.lo
  have h3 := h.ns.hi
  refine wC.eq_fz (wp_run (d := d168) (hΓ _ _ rfl) rfl ?_)
  generalize callF Γ L (k + 3) = cal at *
  unfold d168
  have d1 := c1 (ss.map prT)
  repeat infer_instance
  refine wp_ch ?_
  repeat infer_instance
  refine wif1 (by show decide ((1 : Int) ≤ ((ss.map prT).length : Int)) = true; rw [List.length_map]; exact decide_eq_true (by omega)) ?_
  repeat infer_instance
  refine wif0 (by show (!true || !decide (((ss.map prT).length : Int) ≤ 3)) = false; rw [List.length_map, decide_eq_true (by omega : (ss.length : Int) ≤ 3)]; rfl) ?_
  repeat infer_instance
  refine wp_fr ?_
  repeat infer_instance
  refine ⟨fun xs m => ∃ (as : SD) (kk : Nat) (x y : Mi.Slot), xs = enumT kk (as.map prT) ∧ m = [.ow (.ins 16 []), .fz (.lst (ss.map prT)), .fz (.tup (ps.map phF)), x, y, .no, .no, .no, .no, .no] ∧ ∀ q ∈ as, q ∈ ss, ⟨ss, 0, _, _, rfl, rfl, fun _ hq => hq⟩, ?_, ?_⟩
  · rintro x xs m2 ⟨as, kk, x3, x4, e, rfl, hs⟩
    cases as with
    | nil => cases e
    | cons q as =>
      cases e
      have d2 := c2 q (hs q List.mem_cons_self)
      refine ⟨_, rfl, ?_⟩
      unfold l168_0
      repeat infer_instance
      refine wif0 rfl ?_
      repeat infer_instance
      exact ⟨as, _, _, _, rfl, rfl, fun p hp => hs p (List.mem_cons_of_mem _ hp)⟩
  rintro m2 ⟨as, kk, x3, x4, e, rfl, hs⟩
  repeat infer_instance
  refine wp_comp (α := PySem.Str × Int) ?_
  repeat infer_instance
  refine ⟨ss, prT, fun _ => true, fun q => .str q.1, rfl, rfl, rfl, fun q hm => ⟨_, rfl, rfl, ap_nil ⟨rfl, rfl⟩, fun _ => ?_⟩, by rw [hz]; omega, ?_⟩
  · unfold e168_0
    repeat infer_instance
  rw [List.filter_eq_self.mpr fun _ _ => rfl]
  have en : ss.map (fun q => T.str q.1) = tS ns := by rw [← h.keys]; unfold keysS tS; rw [List.map_map]; rfl
  rw [en]
  repeat infer_instance
  refine wp_fr ?_
  repeat infer_instance
  refine ⟨fun xs m => ∃ (dn as : List PySem.Str) (x y : Mi.Slot), xs = enumT dn.length (tS as) ∧ m = [.ow (.ins 16 []), .fz (.lst (ss.map prT)), .fz (.tup (ps.map phF)), x, x4, .fz (.lst (tS ns)), y, .no, .no, .no] ∧ dn ++ as = ns ∧ ∀ o, y ≠ .ow o, ⟨[], ns, _, _, rfl, rfl, rfl, fun _ z => nomatch z⟩, ?_, ?_⟩
  · rintro x xs m2 ⟨dn, as, x5, x6, e, rfl, hd, h6⟩
    cases as with
    | nil => cases e
    | cons a as =>
      cases e
      refine ⟨_, rfl, ?_⟩
      unfold l168_1
      repeat infer_instance
      show wO .isin [.str a, .lst (cutT (tS ns) none (some (dn.length : Int)))] _
      rw [cutS_to (Int.natCast_nonneg _), Int.toNat_natCast]
      refine wo_isinS ?_
      repeat infer_instance
      refine wif0 (decide_eq_false (names_mem h.ns.nd hd)) ?_
      repeat infer_instance
      refine ⟨dn ++ [a], as, _, _, ?_, rfl, by rw [List.append_assoc]; exact hd, fun _ z => nomatch z⟩
      rw [List.length_append]
      rfl
  rintro m2 ⟨dn, as, x5, x6, e, rfl, hd, h6⟩
  repeat infer_instance
  refine wp_ch ?_
  repeat infer_instance
  refine wif1 (by show decide ((1 : Int) ≤ ((ps.map phF).length : Int)) = true; rw [List.length_map]; exact decide_eq_true (by have := h.lo; omega)) ?_
  repeat infer_instance
  refine wif0 (by show (!decide (((ps.map phF).length : Int) ≤ 3)) = false; rw [List.length_map, decide_eq_true (by have := h.hi; omega : (ps.length : Int) ≤ 3)]; rfl) ?_
  repeat infer_instance
  refine wp_fr ?_
  repeat infer_instance
  refine ⟨fun xs m => ∃ (as : List (List Deed)) (kk : Nat) (x y : Mi.Slot), xs = enumT kk (as.map phF) ∧ m = [.ow (.ins 16 []), .fz (.lst (ss.map prT)), .fz (.tup (ps.map phF)), x, x4, .fz (.lst (tS ns)), x6, .no, y, .no] ∧ (∀ q ∈ as, q ∈ ps) ∧ ∀ o, y ≠ .ow o, ⟨ps, 0, _, _, rfl, rfl, (fun _ hq => hq), fun _ z => nomatch z⟩, ?_, ?_⟩
  · rintro x xs m2 ⟨as, kk, x7, x8, e, rfl, hs, h8⟩
    cases as with
    | nil => cases e
    | cons p as =>
      cases e
      have hp := h.ph p (hs p List.mem_cons_self)
      have d1 := c1 (p.map deF)
      refine ⟨_, rfl, ?_⟩
      unfold l168_2
      repeat infer_instance
      refine wp_comp (α := Deed) ?_
      repeat infer_instance
      refine ⟨p, deF, fun _ => true, fun _ => .bl true, rfl, rfl, rfl, fun d hm => ⟨_, rfl, rfl, ap_nil ⟨rfl, rfl⟩, fun _ => ?_⟩, by rw [hz]; have := hp.1; omega, ?_⟩
      · have d3 := c3 d (hp.2 d hm)
        unfold e168_1
        repeat infer_instance
      rw [List.filter_eq_self.mpr fun _ _ => rfl]
      repeat infer_instance
      refine wif0 (by
        show (!true || (decide (((p.map deF).length : Int) > 6) || !p.all fun _ => true)) = false
        rw [List.length_map, decide_eq_false (by have := hp.1; omega : ¬ (p.length : Int) > 6), List.all_eq_true.mpr fun _ _ => rfl]
        rfl) ?_
      repeat infer_instance
      exact ⟨as, _, _, _, rfl, rfl, (fun q hq => hs q (List.mem_cons_of_mem _ hq)), fun _ z => nomatch z⟩
  rintro m2 ⟨as, kk, x7, x8, e, rfl, hs, h8⟩
  repeat infer_instance
  refine wp_dcm (α := PySem.Str × Int) ?_
  repeat infer_instance
  refine ⟨ss, prT, fun _ => true, fun q => .inr q.1, fun q => .int q.2, rfl, by cases x6 <;> first | rfl | exact absurd rfl (h6 _), rfl, fun q hm => ⟨_, rfl, rfl, ap_nil ⟨rfl, rfl⟩, fun _ => ⟨?_, ?_⟩⟩, by rw [hz]; omega, ?_⟩
  · repeat infer_instance
  · repeat infer_instance
  rw [List.filter_eq_self.mpr fun _ _ => rfl]
  have e2 : putsT [] (ss.map fun q => ((Sum.inr q.1 : Key), T.int q.2)) = dS ss := puts_dS ss [] (by rw [List.nil_append, h.keys]; exact h.ns.nd)
  rw [e2]
  repeat infer_instance
  refine wp_comp (α := List Deed) ?_
  repeat infer_instance
  refine ⟨ps, phF, fun _ => true, phF, rfl, by cases x8 <;> first | rfl | exact absurd rfl (h8 _), rfl, fun p hm => ⟨_, rfl, rfl, ap_nil ⟨rfl, rfl⟩, fun _ => ?_⟩, by rw [hz]; have := h.hi; omega, ?_⟩
  · unfold e168_2
    repeat infer_instance
  rw [List.filter_eq_self.mpr fun _ _ => rfl]
  repeat infer_instance
theorem period_ok {ss : SD} {ps : List (List Deed)} : callF Γ L (k + 1) 166 [.fz (loopT ss ps)] = .ok (.fz (.int ps.length)) [.no] := by
  refine wC.eq_fz (wp_run (d := d166) (hΓ _ _ rfl) rfl ?_)
  generalize callF Γ L k = cal at *
  unfold d166
  repeat infer_instance
  refine ⟨?_, rfl⟩
  show R.fz (.int ((ps.map phF).length : Int)) = _
  rw [List.length_map]
end
end FrmP
set_option maxHeartbeats 2000000
namespace FrmP
open PySem PySem.Spec PyProof.Rows L2 Mi MiDF
local macro_rules
  | `(tactic| infer_instance) => `(tactic| first
    | refine dp_nil ?_ | refine dp_cons ?_ | refine wp_var rfl ?_ | refine wp_bo rfl ?_ | refine wp_c ?_ | refine wp_op ?_ | refine wp_lst ?_ | refine wp_tup ?_
    | refine wp_call ?_ | refine wp_prop ?_ | refine wp_meth ?_ | refine wp_mk ?_ | refine wp_bop ?_ | refine wp_bopi ?_ | refine wp_ropi ?_ | refine wp_uop ?_ | refine wp_fld ?_ | refine wp_spc ?_ | refine wp_ceq ?_ | refine wp_inn ?_ | refine wp_gti ?_ | refine wp_nt ?_ | refine wp_fst ?_ | refine jp_cons ?_ | refine jp_nil ?_ | refine wp_isc ?_ | refine wp_dsc rfl rfl ?_ | refine wp_dic0 ?_ | refine wp_dgt ?_ | refine wp_ccm ?_ | refine wp_anP ?_ | refine wp_orP ?_ | refine wp_ite ?_
    | refine sp_it ?_ | refine sp_rng1 ?_ | refine sp_enum ?_ | refine sp_zip ?_ | refine wp_lr ?_
    | refine bp_nil ?_ | refine bp_cons ?_ | refine wp_set ?_ | refine wp_ret ?_ | refine wp_stf ?_ | refine wp_par ?_ | refine wp_ife ?_ | refine wp_ex ?_
    | refine wk_go rfl ?_ | refine wC.fz (by assumption) ?_ | refine wC.ow (by assumption) ?_ | refine wp_stoS ?_ | refine wo_all ?_ | refine wo_idxS (by assumption) ?_ | refine wo_neI ?_ | refine ap_one ?_ | refine wo_listS ?_ | exact ⟨rfl, rfl⟩ | refine ⟨rfl, ?_⟩ | refine wO.of rfl ?_ | refine ap_nil ?_
    | refine ⟨_, _, _, _, _, rfl, rfl, rfl, ?_⟩ | refine ⟨_, _, _, rfl, rfl, ?_⟩ | refine ⟨_, _, _, rfl, rfl, rfl, ?_⟩ | refine ⟨_, _, rfl, rfl, ?_⟩ | refine ⟨_, _, rfl, ?_⟩ | refine ⟨_, rfl, rfl, ?_⟩ | refine ⟨_, rfl, ?_⟩ | refine ⟨rfl, _, _, rfl, ?_⟩ | refine ⟨⟨_, rfl⟩, ?_⟩ | refine And.intro (fun _ z => nomatch z) ?_ | exact rfl)


section
variable {Γ : Nat → Option Def} {L k : Nat} (hΓ : ∀ f d, pg f = some d → Γ f = some d)
include hΓ
theorem number_to {o : O} {b : Nat} {m : Int} {M : Nat} (B : Bg b o) (hb : 2 ≤ b) (m0 : 1 ≤ m) (m1 : m < 2 ^ 62) (mM : m.toNat ≤ M) (M9 : 9 ≤ M) : ∃ n o', callF Γ L (k + 3) 26 [.ow o, .fz (.int m)] = .ok (.fz (.int n)) [.ow o', .no] ∧ Bg (b - 2) o' ∧ n.natAbs ≤ M := by
  have D : Draws (callF Γ L (k + 2)) 15 17 := draws_ok (hΓ 15 d15 rfl) (hΓ 17 d17 rfl)
  suffices h : wC (callF Γ L (k + 3)) 26 [.ow o, .fz (.int m)] fun r outs => ∃ n o', (r = .fz (.int n) ∧ outs = [.ow o', .no]) ∧ Bg (b - 2) o' ∧ n.natAbs ≤ M by
    unfold wC at h
    obtain ⟨r, outs, e, _, n, o', ⟨rfl, rfl⟩, h1, h2⟩ := h
    exact ⟨n, o', e, h1, h2⟩
  refine wp_run (d := d26) (hΓ _ _ rfl) rfl ?_
  generalize callF Γ L (k + 2) = cal at *
  unfold d26
  repeat infer_instance
  refine wc_of D B (by omega) rfl rfl fun y o1 hy B1 => ?_
  obtain ⟨n, rfl, n0, n1, n2⟩ : ∃ n, y = .int n ∧ 1 ≤ n ∧ n ≤ M ∧ n < 2 ^ 62 := by
    simp only [List.mem_cons, List.not_mem_nil, or_false] at hy
    rcases hy with rfl | rfl | rfl | rfl <;> exact ⟨_, rfl, by omega, by omega, by omega⟩
  have hm : wO .mul [.int 2, .int n] fun r => r = .fz (.int (2 * n)) := .of (by
    show (if (2 : Int).natAbs.log2 + n.natAbs.log2 < 1000000 then some (R.fz (.int (2 * n))) else none) = _
    have h3 : (2 : Int).natAbs.log2 = 1 := by decide
    have h4 : n.natAbs.log2 < 64 := by
      by_cases e : n.natAbs = 0
      · rw [e]; decide
      · rw [Nat.log2_lt e]; omega
    rw [h3]
    exact if_pos (by omega)) rfl
  unfold wO at hm
  obtain ⟨r, hm, rfl⟩ := hm
  repeat infer_instance
  refine wO.of hm ?_
  repeat infer_instance
  refine wc_take D B1 (by omega) (by omega) (by omega) fun d o2 h0 h1 B2 => ?_
  repeat infer_instance
  refine ⟨_, _, ⟨rfl, rfl⟩, B2, by omega⟩
theorem form51_to {o : O} {b : Nat} {ns : List PySem.Str} {m : Int} {M : Nat} (B : Bg b o) (hb : 30 ≤ b) (m0 : 1 ≤ m) (mM : m.toNat ≤ M) (M9 : 9 ≤ M) (m1 : m < 2 ^ 62) (hn : ns.Nodup) (h4 : ns.length ≤ 5) (hk : ∀ a ∈ ns, NameOk a) :
    ∃ c l o', callF Γ L (k + 4) 51 [.ow o, .fz (.lst (tS ns)), .fz (.int m)] = .ok (.fz (.tup [.int c, .dic (dS l)])) [.ow o', .no, .no] ∧ Bg (b - 30) o' ∧ CanS l ∧ l.length ≤ 5 ∧ (∀ a ∈ keysS l, a ∈ ns) ∧ c.natAbs ≤ M ∧ ∀ q ∈ l, q.2.natAbs ≤ M := by
  have D : Draws (callF Γ L (k + 3)) 15 17 := draws_ok (hΓ 15 d15 rfl) (hΓ 17 d17 rfl)
  have N : ∀ {o : O} {b : Nat}, Bg b o → 2 ≤ b → ∃ n o', callF Γ L (k + 3) 26 [.ow o, .fz (.int m)] = .ok (.fz (.int n)) [.ow o', .no] ∧ Bg (b - 2) o' ∧ n.natAbs ≤ M := fun B hb => number_to hΓ B hb m0 m1 mM M9
  suffices h : wC (callF Γ L (k + 4)) 51 [.ow o, .fz (.lst (tS ns)), .fz (.int m)] fun r outs => ∃ c l o', (r = .fz (.tup [.int c, .dic (dS l)]) ∧ outs = [.ow o', .no, .no]) ∧ Bg (b - 30) o' ∧ CanS l ∧ l.length ≤ 5 ∧ (∀ a ∈ keysS l, a ∈ ns) ∧ c.natAbs ≤ M ∧ ∀ q ∈ l, q.2.natAbs ≤ M by
    unfold wC at h
    obtain ⟨r, outs, e, _, c, l, o', ⟨rfl, rfl⟩, h1, h2⟩ := h
    exact ⟨c, l, o', e, h1, h2⟩
  refine wp_run (d := d51) (hΓ _ _ rfl) rfl ?_
  generalize callF Γ L (k + 3) = cal at *
  unfold d51
  have hz : sizeLine = 16777216 := rfl
  refine bp_cons (wp_set (wp_compI ?_))
  repeat infer_instance
  refine wo_srtS (by omega) ?_
  repeat infer_instance
  have hpm := sortT_perm ns
  have hasc := sortT_asc hn
  have hlen : (sortT ns).length = ns.length := hpm.length_eq
  refine ⟨fun xs acc mm => ∃ (o' : O) (l : SD) (as dn : List PySem.Str), mm = [.ow o', .fz (.lst (tS ns)), .fz (.int m), .no, .no, .no] ∧ xs = as.map T.str ∧ acc = l.map prT ∧ dn ++ as = sortT ns ∧ (keysS l).Sublist dn ∧ Bg (b - 3 * dn.length) o' ∧ ∀ q ∈ l, q.2.natAbs ≤ M, rfl, ⟨o, [], sortT ns, [], rfl, rfl, rfl, rfl, List.Sublist.refl _, B, fun _ z => nomatch z⟩, ?_, ?_⟩
  · rintro x xs acc mm ⟨o1, l, as, dn, rfl, e, rfl, hd, hs, B1, hq⟩
    cases as with
    | nil => cases e
    | cons a as =>
      cases e
      have hdl : dn.length + (as.length + 1) = ns.length := by rw [← hlen, ← hd, List.length_append]; rfl
      have hll : l.length ≤ dn.length := by
        have := hs.length_le
        unfold keysS at this
        rw [List.length_map] at this
        exact this
      refine ⟨_, rfl, ap_one ?_⟩
      repeat infer_instance
      refine wc_take D B1 (by omega) (by omega) (by omega) fun d o2 h0 h1 B2 => ?_
      repeat infer_instance
      have hd9 : (dn ++ [a]) ++ as = sortT ns := by rw [List.append_assoc]; exact hd
      refine ⟨fun _ => ?_, fun _ => ⟨o2, l, as, dn ++ [a], rfl, rfl, rfl, hd9, hs.trans (List.sublist_append_left ..), B2.mono (by simp; omega), hq⟩⟩
      unfold e51_0
      repeat infer_instance
      obtain ⟨n, o3, e3, B3, hn3⟩ := N B2 (by omega)
      refine wC.fz e3 ?_
      repeat infer_instance
      refine ⟨by rw [List.length_map]; omega, o3, l ++ [(a, n)], as, dn ++ [a], rfl, rfl, by simp, hd9, ?_, B3.mono (by simp; omega), fun q hm => ?_⟩
      · unfold keysS
        rw [List.map_append]
        exact List.Sublist.append hs (List.Sublist.refl _)
      · rcases List.mem_append.mp hm with h | h
        · exact hq q h
        · rw [List.mem_singleton.mp h]; exact hn3
  rintro acc mm ⟨o1, l, as, dn, rfl, e, rfl, hd, hs, B1, hq⟩
  have has : as = [] := by
    cases as with
    | nil => rfl
    | cons a r => cases e
  subst has
  rw [List.append_nil] at hd
  subst hd
  repeat infer_instance
  obtain ⟨c, o2, e2, B2, hc⟩ := N B1 (by omega)
  refine wC.fz e2 ?_
  repeat infer_instance
  show wE cal _ [.ow o2, .fz (.lst (tS ns)), .fz (.int m), .ow (.lst (l.map prT)), .no, .no] _
  have hll : l.length ≤ 5 := by
    have := hs.length_le
    unfold keysS at this
    rw [List.length_map] at this
    omega
  have hsub : ∀ P : PySem.Str × Int → Bool, (keysS (l.filter P)).Sublist (sortT ns) := fun P => (List.Sublist.map _ List.filter_sublist).trans hs
  refine wp_comp (α := PySem.Str × Int) (sp_it (wp_bo rfl ⟨_, _, _, rfl, rfl, ?_⟩))
  refine ⟨l, prT, fun q => !(q.2 == 0), prT, rfl, rfl, rfl, fun q hm => ⟨_, rfl, rfl, ap_one ?_, fun _ => ?_⟩, by omega, ?_⟩
  · repeat infer_instance
  · unfold e51_1
    repeat infer_instance
  repeat infer_instance
  refine wo_dictS ((hsub _).nodup (hasc.imp fun z => z.2)) ?_
  repeat infer_instance
  refine ⟨c, _, o2, ⟨rfl, rfl⟩, B2.mono (by omega), ⟨hasc.sublist (hsub _), fun q hm => ?_⟩, ?_, fun a ha => ?_, hc, fun q hm => hq q (List.mem_filter.mp hm).1⟩
  · have := (List.mem_filter.mp hm).2
    simpa using this
  · exact Nat.le_trans (List.length_filter_le ..) hll
  · exact hpm.mem_iff.mp ((hsub _).subset ha)
end
theorem app_snoc {α : Type} (a : List α) (x : α) : (a ++ [x]).length = a.length + 1 := by simp
section
variable {Γ : Nat → Option Def} {L k : Nat} (hΓ : ∀ f d, pg f = some d → Γ f = some d)
include hΓ
theorem some_ok {o : O} {b : Nat} (B : Bg b o) (hb : 1000 ≤ b) {z0 z1 z2 z3 : Int} (h0 : 1 ≤ z0 ∧ z0 ≤ 3) (h1 : 1 ≤ z1 ∧ z1 ≤ 3) (h2 : 1 ≤ z2 ∧ z2 ≤ 6) (h3 : 1 ≤ z3 ∧ z3 ≤ 99) :
    ∃ ns ss ps o', callF Γ L (k + 6) 57 [.ow o, .fz (.lst [.int z0, .int z1, .int z2, .int z3])] = .ok (.ow (.lst [.lst (ss.map prT), .lst (ps.map phT)])) [.ow o', .no] ∧ Bg (b - 1000) o' ∧ LoopOk ns ss ps ∧ (ps.length : Int) ≤ z1 := by
  have hz : sizeLine = 16777216 := rfl
  have D : Draws (callF Γ L (k + 5)) 15 17 := draws_ok (hΓ 15 d15 rfl) (hΓ 17 d17 rfl)
  have N : ∀ {o : O} {b : Nat}, Bg b o → 2 ≤ b → ∃ n o', callF Γ L (k + 5) 26 [.ow o, .fz (.int 1000000)] = .ok (.fz (.int n)) [.ow o', .no] ∧ Bg (b - 2) o' ∧ n.natAbs ≤ 1000000 := fun B hb => number_to hΓ (k := k + 2) B hb (by omega) (by omega) (by omega) (by omega)
  have W : ∀ {o : O} {b : Nat} {m : Int}, Bg b o → 60 ≤ b → 0 ≤ m → m ≤ 6 → ∃ ns o', callF Γ L (k + 5) 50 [.ow o, .fz (.int m)] = .ok (.ow (.lst (tS ns))) [.ow o', .no] ∧ Bg (b - 60) o' ∧ (ns.length : Int) = m ∧ ns.Nodup ∧ ∀ a ∈ ns, NameOk a := fun B hb a c => names50_ok hΓ (k := k + 2) B hb a c
  have F : ∀ {o : O} {b : Nat} {ns : List PySem.Str} {m : Int}, Bg b o → 30 ≤ b → 1 ≤ m → m ≤ 99 → NsOk ns → ∃ c l o', callF Γ L (k + 5) 51 [.ow o, .fz (.lst (tS ns)), .fz (.int m)] = .ok (.fz (.tup [.int c, .dic (dS l)])) [.ow o', .no, .no] ∧ Bg (b - 30) o' ∧ CanS l ∧ l.length ≤ 5 ∧ (∀ a ∈ keysS l, a ∈ ns) ∧ c.natAbs ≤ 99 ∧ ∀ q ∈ l, q.2.natAbs ≤ 99 := fun B hb m0 m1 hn => form51_to hΓ (k := k + 1) B hb m0 (by omega) (by omega) (by omega) hn.nd (by have := hn.hi; omega) hn.nm
  suffices h : wC (callF Γ L (k + 6)) 57 [.ow o, .fz (.lst [.int z0, .int z1, .int z2, .int z3])] fun r outs => ∃ ns ss ps o', (r = .ow (.lst [.lst (ss.map prT), .lst (ps.map phT)]) ∧ outs = [.ow o', .no]) ∧ Bg (b - 1000) o' ∧ LoopOk ns ss ps ∧ (ps.length : Int) ≤ z1 by
    unfold wC at h
    obtain ⟨r, outs, e, _, ns, ss, ps, o', ⟨rfl, rfl⟩, hh⟩ := h
    exact ⟨ns, ss, ps, o', e, hh⟩
  refine wp_run (d := d57) (hΓ _ _ rfl) rfl ?_
  generalize callF Γ L (k + 5) = cal at *
  unfold d57
  repeat infer_instance
  refine wc_take D B (by omega) (by omega) (by omega) fun d o1 g0 g1 B1 => ?_
  repeat infer_instance
  obtain ⟨ns, o2, e2, B2, hl, hnd, hnm⟩ := W (m := 1 + d) B1 (by omega) (by omega) (by omega)
  have hn : NsOk ns := ⟨hnd, by omega, by omega, hnm⟩
  have hl3 := hn.hi
  refine wC.ow e2 ?_
  repeat infer_instance
  refine wp_compI ?_
  repeat infer_instance
  refine ⟨fun xs acc mm => ∃ (o' : O) (l : SD) (as dn : List PySem.Str), mm = [.ow o', .fz (.lst [.int z0, .int z1, .int z2, .int z3]), .fz (.lst (tS ns)), .no, .no, .no, .no, .no, .no, .no, .no] ∧ xs = tS as ∧ acc = l.map prT ∧ dn ++ as = ns ∧ keysS l = dn ∧ Bg (b - 61 - 3 * dn.length) o' ∧ ∀ q ∈ l, q.2.natAbs ≤ 1000000, rfl, ⟨o2, [], ns, [], rfl, rfl, rfl, rfl, rfl, B2.mono (by simp; omega), fun _ z => nomatch z⟩, ?_, ?_⟩
  · rintro x xs acc mm ⟨o3, l, as, dn, rfl, e, rfl, hd, hk, B3, hq⟩
    cases as with
    | nil => cases e
    | cons a as =>
      cases e
      have hdl : dn.length + (as.length + 1) = ns.length := by rw [← hd, List.length_append]; rfl
      have hll : l.length = dn.length := by rw [← hk]; unfold keysS; rw [List.length_map]
      refine ⟨_, rfl, ap_nil ⟨_, rfl, fun _ => ?_, fun z => nomatch z⟩⟩
      unfold e57_0
      repeat infer_instance
      obtain ⟨n, o4, e4, B4, hn4⟩ := N B3 (by omega)
      refine wC.fz e4 ?_
      repeat infer_instance
      refine wc_of D B4 (by omega) rfl rfl fun y o5 hy B5 => ?_
      obtain ⟨n2, rfl, hn2⟩ : ∃ n : Int, y = .int n ∧ n.natAbs ≤ 1000000 := by
        simp only [List.mem_cons, List.not_mem_nil, or_false] at hy
        rcases hy with rfl | rfl | rfl | rfl | rfl | rfl | rfl <;> exact ⟨_, rfl, by omega⟩
      repeat infer_instance
      refine ⟨by rw [List.length_map]; omega, o5, l ++ [(a, n2)], as, dn ++ [a], rfl, rfl, by simp, by rw [List.append_assoc]; exact hd, ?_, B5.mono (by simp; omega), fun q hm => ?_⟩
      · unfold keysS at *
        rw [List.map_append, hk]
        rfl
      · rcases List.mem_append.mp hm with h | h
        · exact hq q h
        · rw [List.mem_singleton.mp h]; exact hn2
  rintro acc mm ⟨o3, ss, as, dn, rfl, e, rfl, hd, hk, B3, hq⟩
  have has : as = [] := by
    cases as with
    | nil => rfl
    | cons a r => cases e
  subst has
  rw [List.append_nil] at hd
  have hd := hd.symm
  subst hd
  repeat infer_instance
  refine wp_paro1 ?_
  repeat infer_instance
  refine wc_of D B3 (by omega) rfl rfl fun y o5 hy B5 => ?_
  obtain ⟨m, rfl, m0, m1⟩ : ∃ n : Int, y = .int n ∧ 1 ≤ n ∧ n ≤ 99 := by
    simp only [List.mem_cons, List.not_mem_nil, or_false] at hy
    rcases hy with rfl | rfl | rfl | rfl | rfl <;> exact ⟨_, rfl, by omega, by omega⟩
  repeat infer_instance
  refine ⟨⟨Nat.le_of_ble_eq_true rfl, Nat.le_of_ble_eq_true rfl, by decide⟩, ?_⟩
  repeat infer_instance
  refine wp_fr ?_
  repeat infer_instance
  refine wc_take D B5 (by omega) (by omega) (by omega) fun d2 o6 g2 g3 B6 => ?_
  repeat infer_instance
  refine ⟨⟨by omega, by omega⟩, fun xs mm => ∃ (o' : O) (ps : List (List Deed)) (s7 s8 s9 s10 : Mi.Slot) (us : List Int), mm = [.ow o', .fz (.lst [.int z0, .int z1, .int z2, .int z3]), .fz (.lst (tS ns)), .ow (.lst (ss.map prT)), .no, .ow (.lst (ps.map phT)), .fz (.int m), s7, s8, s9, s10] ∧ xs = tI us ∧ (ps.length : Int) + us.length = 1 + d2 ∧ Bg (b - 100 - 200 * ps.length) o' ∧ ∀ p ∈ ps, p.length ≤ 6 ∧ ∀ d ∈ p, DeedOk ns d, ⟨o6, [], _, _, _, _, rngI 0 (1 + d2), rfl, rfl, by rw [len_rngI]; simp; omega, B6.mono (by simp; omega), fun _ z => nomatch z⟩, ?_, ?_⟩
  · rintro x xs mm ⟨o7, ps, s7, s8, s9, s10, us, rfl, e, hu, B7, hp⟩
    cases us with
    | nil => cases e
    | cons u us =>
      cases e
      rw [List.length_cons] at hu
      refine ⟨_, rfl, ?_⟩
      unfold l57_1
      repeat infer_instance
      refine wp_fr ?_
      repeat infer_instance
      refine wc_take D B7 (by omega) (by omega) (by omega) fun d3 o8 g4 g5 B8 => ?_
      repeat infer_instance
      refine ⟨⟨by omega, by omega⟩, fun xs mm => ∃ (o' : O) (ds : List Deed) (s9 s10 : Mi.Slot) (vs : List Int), mm = [.ow o', .fz (.lst [.int z0, .int z1, .int z2, .int z3]), .fz (.lst (tS ns)), .ow (.lst (ss.map prT)), .no, .ow (.lst (ps.map phT)), .fz (.int m), .fz (.int u), .ow (.lst (ds.map deT)), s9, s10] ∧ xs = tI vs ∧ (ds.length : Int) + vs.length = d3 ∧ Bg (b - 101 - 200 * ps.length - 32 * ds.length) o' ∧ ∀ d ∈ ds, DeedOk ns d, ⟨o8, [], _, _, rngI 0 d3, rfl, rfl, by rw [len_rngI]; simp; omega, B8.mono (by simp; omega), fun _ z => nomatch z⟩, ?_, ?_⟩
      · rintro x xs mm ⟨o9, ds, s9, s10, vs, rfl, e, hv, B9, hds⟩
        cases vs with
        | nil => cases e
        | cons v vs =>
          cases e
          rw [List.length_cons] at hv
          obtain ⟨c, l, o10, e10, B10, f1, f2, f3, f4, f5⟩ := F (m := m) B9 (by omega) m0 m1 hn
          refine ⟨_, rfl, ?_⟩
          unfold l57_0
          repeat infer_instance
          refine wp_app ⟨_, rfl, ?_⟩
          repeat infer_instance
          refine wc_of D B10 (by omega) (by show Nat.blt 0 (tS ns).length = true; unfold tS; rw [List.length_map]; exact Nat.ble_eq_true_of_le hn.lo) (by show Nat.blt (tS ns).length 100000 = true; unfold tS; rw [List.length_map]; exact Nat.ble_eq_true_of_le (by omega)) fun y o11 hy B11 => ?_
          obtain ⟨a, ha, rfl⟩ := List.mem_map.mp hy
          repeat infer_instance
          refine wc_of D B11 (by omega) rfl rfl fun y o12 hy B12 => ?_
          obtain ⟨c2, rfl, hc2⟩ : ∃ n : Int, y = .int n ∧ n.natAbs ≤ 99 := by
            simp only [List.mem_cons, List.not_mem_nil, or_false] at hy
            rcases hy with rfl | rfl | rfl | rfl | rfl <;> exact ⟨_, rfl, by omega⟩
          repeat infer_instance
          refine ⟨by rw [List.length_map, hz]; omega, ?_⟩
          repeat infer_instance
          refine ⟨o12, ds ++ [(a, c2, l)], .fz (.int v), .fz (spT c l), vs, ?_, rfl, by rw [app_snoc]; omega, B12.mono (by rw [app_snoc]; omega), fun d hd => ?_⟩
          · rw [List.map_append]
            rfl
          · rcases List.mem_append.mp hd with h | h
            · exact hds d h
            · rw [List.mem_singleton.mp h]; exact ⟨ha, f1, f3, f5, hc2⟩
      rintro mm ⟨o9, ds, s9, s10, vs, rfl, e, hv, B9, hds⟩
      have hvs : vs = [] := by
        cases vs with
        | nil => rfl
        | cons a r => cases e
      subst hvs
      have hv : (ds.length : Int) + 0 = d3 := hv
      repeat infer_instance
      refine wp_app ⟨_, rfl, ?_⟩
      repeat infer_instance
      refine ⟨by rw [List.length_map, hz]; omega, ?_⟩
      repeat infer_instance
      refine ⟨o9, ps ++ [ds], .fz (.int u), .fz (phT ds), s9, s10, us, ?_, rfl, by rw [app_snoc]; omega, B9.mono (by rw [app_snoc]; omega), fun p hq => ?_⟩
      · rw [List.map_append]
        rfl
      · rcases List.mem_append.mp hq with h | h
        · exact hp p h
        · rw [List.mem_singleton.mp h]; exact ⟨by omega, hds⟩
  rintro mm ⟨o7, ps, s7, s8, s9, s10, us, rfl, e, hu, B7, hp⟩
  have hus : us = [] := by
    cases us with
    | nil => rfl
    | cons a r => cases e
  subst hus
  have hu : (ps.length : Int) + 0 = 1 + d2 := hu
  repeat infer_instance
  exact ⟨ns, ss, ps, o7, ⟨rfl, rfl⟩, B7.mono (by omega), ⟨hn, hk, hq, by omega, by omega, hp⟩, by omega⟩
theorem lloop_ok {ns : List PySem.Str} {ss : SD} {ps : List (List Deed)} (h : LoopOk ns ss ps) : callF Γ L (k + 6) 58 [.fz (lspT ss ps)] = .ok (.ow (loopO ss ps)) [.no] := by
  have hz : sizeLine = 16777216 := rfl
  have c1 : ∀ d, DeedOk ns d → callF Γ L (k + 5) 52 [.fz (spT d.2.1 d.2.2)] = .ok (.ow (frmO d.2.1 d.2.2)) [.no] := fun d hd => lform_ok hΓ hd.can (by have := hd.len; have := h.ns.hi; omega) fun a ha => h.ns.nm _ (hd.sub a ha)
  have c2 : callF Γ L (k + 5) 168 [.ow (.ins 16 []), .fz (.lst (ss.map prT)), .fz (.tup (ps.map phF))] = .ok (.fz .non) [.ow (loopO ss ps), .no, .no] := loop_ok hΓ (k := k + 1) h
  refine wC.eq_ow (wp_run (d := d58) (hΓ _ _ rfl) rfl ?_)
  generalize callF Γ L (k + 5) = cal at *
  unfold d58
  repeat infer_instance
  refine wp_comp (α := List Deed) ?_
  repeat infer_instance
  refine ⟨ps, phT, fun _ => true, phF, rfl, rfl, rfl, fun p hm => ⟨_, rfl, rfl, ap_nil ⟨rfl, rfl⟩, fun _ => ?_⟩, by rw [hz]; have := h.hi; omega, ?_⟩
  · unfold e58_1
    refine wp_comp (α := Deed) ?_
    repeat infer_instance
    refine ⟨p, deT, fun _ => true, deF, rfl, rfl, rfl, fun d hd => ⟨_, rfl, rfl, ap_nil ⟨rfl, rfl⟩, fun _ => ?_⟩, by rw [hz]; have := (h.ph p hm).1; omega, ?_⟩
    · have c3 := c1 d ((h.ph p hm).2 d hd)
      unfold e58_0
      repeat infer_instance
    rw [List.filter_eq_self.mpr fun _ _ => rfl]
    repeat infer_instance
  rw [List.filter_eq_self.mpr fun _ _ => rfl]
  have hlo := h.lo
  have hhi := h.hi
  match ps, h, c2, hlo, hhi with
  | [p0], h, c2, _, _ =>
    repeat infer_instance
    refine wif1 rfl ?_
    repeat infer_instance
  | [p0, p1], h, c2, _, _ =>
    repeat infer_instance
    refine wif0 rfl ?_
    repeat infer_instance
    refine wif1 rfl ?_
    repeat infer_instance
  | [p0, p1, p2], h, c2, _, _ =>
    repeat infer_instance
    refine wif0 rfl ?_
    repeat infer_instance
    refine wif0 rfl ?_
    repeat infer_instance
end
end FrmP
set_option maxHeartbeats 2000000
namespace FrmP
open PySem PySem.Spec PyProof.Rows L2 Mi MiDF
local macro_rules
  | `(tactic| infer_instance) => `(tactic| first
    | refine dp_nil ?_ | refine dp_cons ?_ | refine wp_var rfl ?_ | refine wp_bo rfl ?_ | refine wp_c ?_ | refine wp_op ?_ | refine wp_lst ?_ | refine wp_tup ?_
    | refine wp_call ?_ | refine wp_prop ?_ | refine wp_meth ?_ | refine wp_mk ?_ | refine wp_bop ?_ | refine wp_bopi ?_ | refine wp_ropi ?_ | refine wp_uop ?_ | refine wp_fld ?_ | refine wp_spc ?_ | refine wp_ceq ?_ | refine wp_inn ?_ | refine wp_gti ?_ | refine wp_nt ?_ | refine wp_fst ?_ | refine jp_cons ?_ | refine jp_nil ?_ | refine wp_isc ?_ | refine wp_dsc rfl rfl ?_ | refine wp_dic0 ?_ | refine wp_dgt ?_ | refine wp_ccm ?_ | refine wp_anP ?_ | refine wp_orP ?_ | refine wp_ite ?_
    | refine sp_it ?_ | refine sp_rng1 ?_ | refine sp_enum ?_ | refine sp_zip ?_ | refine wp_lr ?_
    | refine bp_nil ?_ | refine bp_cons ?_ | refine wp_set ?_ | refine wp_ret ?_ | refine wp_stf ?_ | refine wp_par ?_ | refine wp_ife ?_ | refine wp_ex ?_
    | refine wk_go rfl ?_ | refine wC.fz (by assumption) ?_ | refine wC.ow (by assumption) ?_ | refine wp_stoS ?_ | refine wo_all ?_ | refine wo_idxS (by assumption) ?_ | refine wo_neI ?_ | refine ap_one ?_ | refine wo_listS ?_ | exact ⟨rfl, rfl⟩ | refine ⟨rfl, ?_⟩ | refine wO.of rfl ?_ | refine ap_nil ?_
    | refine ⟨_, _, _, _, _, rfl, rfl, rfl, ?_⟩ | refine ⟨_, _, _, rfl, rfl, ?_⟩ | refine ⟨_, _, _, rfl, rfl, rfl, ?_⟩ | refine ⟨_, _, rfl, rfl, ?_⟩ | refine ⟨_, _, rfl, ?_⟩ | refine ⟨_, rfl, rfl, ?_⟩ | refine ⟨_, rfl, ?_⟩ | refine ⟨rfl, _, _, rfl, ?_⟩ | refine ⟨⟨_, rfl⟩, ?_⟩ | refine And.intro (fun _ z => nomatch z) ?_ | exact rfl)


/-! the forms of a phase -/
noncomputable abbrev fRn (ns : List PySem.Str) (g : PySem.Str → Int × SD) : List (Key × T) := ns.map fun a => ((.inr a : Key), frmT (g a).1 (g a).2)
noncomputable def setG (g : PySem.Str → Int × SD) (a : PySem.Str) (p : Int × SD) : PySem.Str → Int × SD := fun x => if x = a then p else g x
theorem valT_fRn {g : PySem.Str → Int × SD} {a : PySem.Str} : ∀ {ns : List PySem.Str}, a ∈ ns → valT (fRn ns g) (.inr a) = some (frmT (g a).1 (g a).2)
  | b :: r, h => by
    unfold valT fRn
    rw [List.map_cons, List.find?_cons]
    simp only [inr_dec]
    by_cases e : b = a
    · subst e
      simp
    · have h2 : a ∈ r := by
        rcases List.mem_cons.mp h with z | z
        · exact absurd z.symm e
        · exact z
      have := valT_fRn (g := g) h2
      rw [decide_eq_false e]
      exact this
theorem putT_fRn {ns : List PySem.Str} {g : PySem.Str → Int × SD} {a : PySem.Str} {c : Int} {l : SD} (h : a ∈ ns) : putT (fRn ns g) (.inr a) (frmT c l) = fRn ns (setG g a (c, l)) := by
  unfold putT
  rw [if_pos]
  · unfold fRn
    rw [List.map_map]
    refine List.map_congr_left fun x hx => ?_
    show (if decide ((Sum.inr x : Key) = Sum.inr a) = true then _ else _) = _
    rw [inr_dec]
    unfold setG
    by_cases e : x = a
    · subst e
      simp
    · simp [e]
  · rw [List.any_eq_true]
    exact ⟨_, List.mem_map.mpr ⟨a, h, rfl⟩, by simp⟩
theorem puts_nodup : ∀ (l acc : List (Key × T)), ((acc ++ l).map (·.1)).Nodup → putsT acc l = acc ++ l
  | [], acc, _ => by rw [List.append_nil]; rfl
  | q :: r, acc, h => by
    show putsT (putT acc q.1 q.2) r = _
    have h1 : (acc.any fun kv => decide (kv.1 = q.1)) = false := by
      rw [List.any_eq_false]
      intro x hx e
      rw [List.map_append, List.nodup_append] at h
      exact h.2.2 x.1 (List.mem_map.mpr ⟨x, hx, rfl⟩) q.1 (by simp) (of_decide_eq_true e)
    have e2 : acc ++ q :: r = (acc ++ [q]) ++ r := by rw [List.append_assoc]; rfl
    have e3 : putT acc q.1 q.2 = acc ++ [q] := by
      unfold putT
      rw [h1]
      rfl
    rw [e3, puts_nodup r _ (by rw [← e2]; exact h), e2]
theorem wo_idxF {P : Mi.R → Prop} {ns : List PySem.Str} {g : PySem.Str → Int × SD} {a : PySem.Str} (h : a ∈ ns) (q : P (.fz (frmT (g a).1 (g a).2))) : wO .idx [.dic (fRn ns g), .str a] P := .of (by
  show (keyT (.str a)).bind (fun q => (valT (fRn ns g) q).map R.fz) = _
  show (valT (fRn ns g) (.inr a)).map R.fz = _
  rw [valT_fRn h]
  rfl) q
/-! values, by the names -/
theorem sum_add {α : Type} (f g : α → Int) : ∀ l : List α, (l.map fun x => f x + g x).sum = (l.map f).sum + (l.map g).sum
  | [] => rfl
  | x :: r => by
    simp only [List.map_cons, List.sum_cons, sum_add f g r]
    omega
theorem sum_scale {α : Type} (f : α → Int) (n : Int) : ∀ l : List α, (l.map fun x => n * f x).sum = n * (l.map f).sum
  | [] => by simp
  | x :: r => by
    simp only [List.map_cons, List.sum_cons, sum_scale f n r]
    rw [Int.mul_add]
theorem sum_zero {α : Type} (f : α → Int) : ∀ l : List α, (∀ x ∈ l, f x = 0) → (l.map f).sum = 0
  | [], _ => rfl
  | x :: r, h => by
    rw [List.map_cons, List.sum_cons, h x List.mem_cons_self, sum_zero f r fun y hy => h y (List.mem_cons_of_mem _ hy)]
    rfl
theorem sum_one (b : Int) (a : PySem.Str) : ∀ ns : List PySem.Str, ns.Nodup → a ∈ ns → (ns.map fun x => if x = a then b else 0).sum = b
  | [], _, h => by cases h
  | x :: r, hd, h => by
    rw [List.map_cons, List.sum_cons]
    have hd' := List.nodup_cons.mp hd
    by_cases e : x = a
    · subst e
      rw [if_pos rfl, sum_zero _ r fun y hy => if_neg fun z => hd'.1 (by rw [← z]; exact hy)]
      omega
    · rw [if_neg e, sum_one b a r hd'.2 ((List.mem_cons.mp h).resolve_left fun z => e z.symm)]
      omega
theorem sum_names (v : PySem.Str → Int) : ∀ (l : SD) {ns : List PySem.Str}, ns.Nodup → (keysS l).Nodup → (∀ a ∈ keysS l, a ∈ ns) → (l.map fun q => q.2 * v q.1).sum = (ns.map fun x => Mi.atS l x * v x).sum
  | [], ns, _, _, _ => by
    rw [sum_zero _ ns fun x _ => by show (0 : Int) * _ = 0; rw [Int.zero_mul]]
    rfl
  | q :: r, ns, hn, hk, hs => by
    have hk' := List.nodup_cons.mp hk
    rw [List.map_cons, List.sum_cons, sum_names v r hn hk'.2 fun a ha => hs a (List.mem_cons_of_mem _ ha)]
    have h1 : ∀ x, Mi.atS (q :: r) x * v x = (if x = q.1 then q.2 * v q.1 else 0) + Mi.atS r x * v x := fun x => by
      unfold Mi.atS
      rw [lookS_cons]
      by_cases e : x = q.1
      · subst e
        rw [if_pos rfl, if_pos rfl, lookS_none.mpr hk'.1]
        simp
      · rw [if_neg (fun z => e z.symm), if_neg e]
        omega
    rw [List.map_congr_left fun x _ => h1 x, sum_add, sum_one _ _ ns hn (hs _ List.mem_cons_self)]
theorem valS_ns {ns : List PySem.Str} {m : Nat} {c : Int} {l v : SD} (hn : ns.Nodup) (h : Bn ns m l) : valS c l v = c + (ns.map fun x => Mi.atS l x * Mi.atS v x).sum := by
  unfold valS
  rw [sum_names (fun x => Mi.atS v x) l hn h.can.nodup h.sub]
theorem valS_lin {ns : List PySem.Str} {m m' : Nat} {c c' n : Int} {l l' v : SD} (hn : ns.Nodup) (h : Bn ns m l) (h' : Bn ns m' l') : valS (c + c' * n) (plusS l (mulS n l')) v = valS c l v + n * valS c' l' v := by
  have hm := h'.mul (n := n) (Nat.le_refl _)
  rw [valS_ns hn (h.plus hm), valS_ns hn h, valS_ns hn h', List.map_congr_left (g := fun x => Mi.atS l x * Mi.atS v x + n * (Mi.atS l' x * Mi.atS v x)), sum_add, sum_scale, Int.mul_add, Int.mul_comm n c']
  · omega
  · intro x _
    rw [plusS_at h.can hm.can, mulS_at h'.can, Int.add_mul, Int.mul_comm (Mi.atS l' x) n, Int.mul_assoc]
theorem valS_unit {ns : List PySem.Str} {a : PySem.Str} {v : SD} : valS 0 [(a, 1)] v = Mi.atS v a := by
  unfold valS
  simp
structure FoOk (ns : List PySem.Str) (M : Nat) (g : PySem.Str → Int × SD) : Prop where
  bn : ∀ a ∈ ns, Bn ns M (g a).2
  c : ∀ a ∈ ns, (g a).1.natAbs ≤ M
theorem behS_snoc (v : SD) (ds : List Deed) (d : Deed) : behS v (ds ++ [d]) = putA (behS v ds) d.1 (valS d.2.1 d.2.2 (behS v ds)) := by
  unfold behS
  rw [List.foldl_append]
  rfl
theorem bn_one {ns : List PySem.Str} {a : PySem.Str} (ha : a ∈ ns) : Bn ns 1 [(a, 1)] := bn_of ⟨List.pairwise_singleton _ _, fun q hq => by rw [List.mem_singleton.mp hq]; exact (show (1 : Int) ≠ 0 by decide)⟩ (fun b hb => by rw [List.mem_singleton.mp hb]; exact ha) (fun q hq => by rw [List.mem_singleton.mp hq]; exact Nat.le_refl _)
theorem bn_none {ns : List PySem.Str} : Bn ns 0 [] := ⟨⟨.nil, fun q hq => (by cases hq)⟩, fun a ha => (by cases ha), fun x => Nat.le_refl _⟩
theorem bn_up {ns : List PySem.Str} {m m' : Nat} {l : SD} (h : Bn ns m l) (hm : m ≤ m') : Bn ns m' l := ⟨h.can, h.sub, fun x => Nat.le_trans (h.big x) hm⟩
section
variable {Γ : Nat → Option Def} {L k : Nat} (hΓ : ∀ f d, pg f = some d → Γ f = some d)
include hΓ
theorem forms_ok {ns : List PySem.Str} {ss : SD} {ps : List (List Deed)} {i : Nat} {p : List Deed} (h : LoopOk ns ss ps) (hp : ps[i]? = some p) :
    ∃ g, callF Γ L (k + 6) 165 [.fz (loopT ss ps), .fz (.int i)] = .ok (.ow (.dic (fRn ns g))) [.no, .no] ∧ FoOk ns (400 ^ 6) g ∧ ∀ v, keysS v = ns → ∀ a ∈ ns, valS (g a).1 (g a).2 v = Mi.atS (behS v p) a := by
  have hz : sizeLine = 16777216 := rfl
  have hil := (List.getElem?_eq_some_iff.mp hp).1
  have hpm : p ∈ ps := List.mem_of_getElem? hp
  have hph := h.ph p hpm
  have hhi := h.hi
  have hl := h.len
  have hn3 := h.ns.hi
  have c1 : callF Γ L (k + 5) 18 [.fz (.int i), .fz (.int 0), .fz (.int ((ps.length : Int) - 1))] = .ok (.fz (.bl true)) [.no, .no, .no] := num18_ok hΓ (k := k + 3) (by omega) (by omega)
  have c2 : ∀ q ∈ ss, callF Γ L (k + 5) 169 [.fz (loopT ss ps), .fz (.str q.1)] = .ok (.ow (frmO 0 [(q.1, 1)])) [.no, .no] := fun q hq => unit_ok hΓ (k := k) (h.ns.nm _ (by rw [← h.keys]; exact List.mem_map.mpr ⟨q, hq, rfl⟩))
  have c3 : ∀ {c : Int} {l : SD}, callF Γ L (k + 5) 144 [.fz (frmT c l)] = .ok (.fz (.int c)) [.no] := const_ok hΓ (k := k + 4)
  have c4 : ∀ {c : Int} {l : SD}, callF Γ L (k + 5) 145 [.fz (frmT c l)] = .ok (.ow (.lst ((keysS l).map .str))) [.no] := names_ok hΓ (k := k + 4)
  have c5 : ∀ {c : Int}, callF Γ L (k + 5) 154 [.ow (.ins 46 []), .fz (.int c), .fz (.dic (dS []))] = .ok (.fz .non) [.ow (frmO c []), .no, .no] := fun {c} => init_ok hΓ (k := k + 3) (c := c) (l := []) .nil (by decide) (fun a ha => nomatch ha)
  have c6 : ∀ {c : Int} {l : SD} {a : PySem.Str}, NameOk a → callF Γ L (k + 5) 156 [.fz (frmT c l), .fz (.str a)] = .ok (.fz (.int (Mi.atS l a))) [.no, .no] := fun ha => get_ok hΓ (k := k + 3) ha
  have c7 : ∀ {c n : Int} {l : SD} {m : Nat}, Bn ns m l → m < 2 ^ 200 → c.natAbs < 2 ^ 200 → n.natAbs < 2 ^ 200 → callF Γ L (k + 5) 163 [.fz (frmT c l), .fz (.int n)] = .ok (.ow (frmO (c * n) (mulS n l))) [.no, .no] := fun hb hm hc hn => mul_ok hΓ (k := k + 1) hb.can (by have := hb.len; omega) (fun a ha => h.ns.nm a (hb.sub a ha)) hc hn (fun x => Nat.lt_of_le_of_lt (hb.big x) hm)
  have c8 : ∀ {c c' : Int} {l l' : SD} {m m' : Nat}, Bn ns m l → Bn ns m' l' → callF Γ L (k + 5) 160 [.fz (frmT c l), .fz (frmT c' l')] = .ok (.ow (frmO (c + c') (plusS l l'))) [.no, .no] := fun hb hb' => add_ok hΓ (k := k + 1) hb.can hb'.can (by have := hb.len; have := hb'.len; omega) (fun a ha => h.ns.nm a (hb.sub a ha)) (fun a ha => h.ns.nm a (hb'.sub a ha))
  suffices hh : wC (callF Γ L (k + 6)) 165 [.fz (loopT ss ps), .fz (.int i)] fun r outs => ∃ g, (r = .ow (.dic (fRn ns g)) ∧ outs = [.no, .no]) ∧ FoOk ns (400 ^ 6) g ∧ ∀ v, keysS v = ns → ∀ a ∈ ns, valS (g a).1 (g a).2 v = Mi.atS (behS v p) a by
    unfold wC at hh
    obtain ⟨r, outs, e, _, g, ⟨rfl, rfl⟩, hh⟩ := hh
    exact ⟨g, e, hh⟩
  refine wp_run (d := d165) (hΓ _ _ rfl) rfl ?_
  generalize callF Γ L (k + 5) = cal at *
  unfold d165
  repeat infer_instance
  rw [List.length_map]
  repeat infer_instance
  refine wif0 rfl ?_
  repeat infer_instance
  refine wp_dcm (α := PySem.Str × Int) ?_
  repeat infer_instance
  refine ⟨ss, fun q => .str q.1, fun _ => true, fun q => .inr q.1, fun q => frmT 0 [(q.1, 1)], keys_dS ss, rfl, rfl, fun q hm => ⟨_, rfl, rfl, ap_nil ⟨rfl, rfl⟩, fun _ => ⟨?_, ?_⟩⟩, by rw [hz]; omega, ?_⟩
  · repeat infer_instance
  · have c2' := c2 q hm
    repeat infer_instance
  rw [List.filter_eq_self.mpr fun _ _ => rfl]
  have e1 : ss.map (fun q => ((Sum.inr q.1 : Key), frmT 0 [(q.1, 1)])) = fRn ns (fun a => (0, [(a, 1)])) := by
    unfold fRn
    rw [← h.keys]
    unfold keysS
    rw [List.map_map]
    rfl
  rw [e1, puts_nodup _ [] (by
    rw [List.nil_append]
    unfold fRn
    rw [List.map_map]
    exact h.ns.nd.map _ fun a b hab z => hab (Sum.inr.inj z)), List.nil_append]
  repeat infer_instance
  refine wp_fr ?_
  repeat infer_instance
  refine wO.of (r := .fz (phF p)) (by
    show (atI (ps.map phF) (i : Int)).map R.fz = _
    rw [atI_nat (x := phF p) (n := i) rfl (by rw [List.getElem?_map, hp]; rfl)]
    rfl) ?_
  repeat infer_instance
  refine ⟨fun xs m => ∃ (dn as : List Deed) (g : PySem.Str → Int × SD) (M : Nat) (s3 s4 s5 s6 : Mi.Slot), xs = as.map deF ∧ m = [.fz (loopT ss ps), .fz (.int i), .ow (.dic (fRn ns g)), s3, s4, s5, s6] ∧ dn ++ as = p ∧ FoOk ns M g ∧ 1 ≤ M ∧ M ≤ 400 ^ dn.length ∧ ∀ v, keysS v = ns → ∀ a ∈ ns, valS (g a).1 (g a).2 v = Mi.atS (behS v dn) a, ⟨[], p, _, 1, _, _, _, _, rfl, rfl, rfl, ⟨fun a ha => bn_one ha, fun a ha => Nat.zero_le _⟩, Nat.le_refl _, Nat.le_refl _, fun v hv a ha => valS_unit (ns := ns)⟩, ?_, ?_⟩
  · rintro x xs mm ⟨dn, as, g, M, s3, s4, s5, s6, e, rfl, hd, hF, hM1, hM, hv⟩
    cases as with
    | nil => cases e
    | cons d as =>
      cases e
      have hdo := hph.2 d (by rw [← hd]; simp)
      have hdn : dn.length < 6 := by
        have : dn.length + (as.length + 1) = p.length := by rw [← hd, List.length_append]; rfl
        have := hph.1
        omega
      have hM5 : M ≤ 400 ^ 5 := Nat.le_trans hM (Nat.pow_le_pow_right (by decide) (by omega))
      have p5 : (400 : Nat) ^ 5 = 10240000000000 := by decide
      have hdl := hdo.len
      refine ⟨_, rfl, ?_⟩
      unfold l165_1
      have c5' := c5 (c := d.2.1)
      have c3' := c3 (c := d.2.1) (l := d.2.2)
      have c4' := c4 (c := d.2.1) (l := d.2.2)
      repeat infer_instance
      refine wp_fr ?_
      repeat infer_instance
      refine ⟨fun xs m => ∃ (dq aq : SD) (c : Int) (l : SD) (s6 : Mi.Slot), xs = aq.map (fun q => T.str q.1) ∧ m = [.fz (loopT ss ps), .fz (.int i), .ow (.dic (fRn ns g)), .fz (.str d.1), .fz (frmT d.2.1 d.2.2), .ow (frmO c l), s6] ∧ dq ++ aq = d.2.2 ∧ Bn ns (99 * M * dq.length) l ∧ c.natAbs ≤ 99 + 99 * M * dq.length ∧ ∀ v, valS c l v = d.2.1 + (dq.map fun q => q.2 * valS (g q.1).1 (g q.1).2 v).sum, ⟨[], d.2.2, d.2.1, [], _, by unfold keysS; rw [List.map_map]; rfl, rfl, rfl, bn_none, by have := hdo.con; omega, fun v => by
        unfold valS
        simp⟩, ?_, ?_⟩
      · rintro x xs mm ⟨dq, aq, c, l, s6, e, rfl, hq, hb, hc, hval⟩
        cases aq with
        | nil => cases e
        | cons q aq =>
          cases e
          have hqm : q ∈ d.2.2 := by rw [← hq]; simp
          have hk1 : q.1 ∈ keysS d.2.2 := List.mem_map.mpr ⟨q, hqm, rfl⟩
          have hk2 := hdo.sub _ hk1
          have c6' := c6 (c := d.2.1) (l := d.2.2) (h.ns.nm _ hk2)
          rw [hdo.can.at hqm] at c6'
          have hf := hdo.fac q hqm
          have c7' := c7 (c := (g q.1).1) (n := q.2) (hF.bn _ hk2) (by omega) (by have := hF.c _ hk2; omega) (by omega)
          have c8' := c8 (c := c) (c' := (g q.1).1 * q.2) hb ((hF.bn _ hk2).mul (n := q.2) (Nat.le_refl _))
          refine ⟨_, rfl, ?_⟩
          unfold l165_0
          repeat infer_instance
          refine wo_idxF hk2 ?_
          repeat infer_instance
          refine ⟨dq ++ [q], aq, _, _, _, rfl, rfl, by rw [List.append_assoc]; exact hq, ?_, ?_, fun v => ?_⟩
          · refine bn_up (hb.plus ((hF.bn _ hk2).mul (n := q.2) hf)) ?_
            rw [List.length_append, List.length_singleton, Nat.mul_add, Nat.mul_one, Nat.mul_comm M 99]
            exact Nat.le_refl _
          · have h1 : ((g q.1).1 * q.2).natAbs ≤ M * 99 := by
              rw [Int.natAbs_mul]
              exact Nat.mul_le_mul (hF.c _ hk2) hf
            rw [List.length_append, List.length_singleton, Nat.mul_add, Nat.mul_one]
            omega
          · rw [valS_lin h.ns.nd hb (hF.bn _ hk2), hval, List.map_append, List.sum_append]
            simp
            omega
      rintro mm ⟨dq, aq, c, l, s6, e, rfl, hq, hb, hc, hval⟩
      have haq : aq = [] := by
        cases aq with
        | nil => rfl
        | cons q as => cases e
      subst haq
      rw [List.append_nil] at hq
      subst hq
      repeat infer_instance
      refine ⟨_, _, _, _, rfl, rfl, rfl, ?_, ?_⟩
      · unfold fRn; rw [List.length_map, hz]; omega
      rw [show putT (fRn ns g) (.inr d.1) (frmO c l).frz = fRn ns (setG g d.1 (c, l)) from putT_fRn hdo.mem]
      repeat infer_instance
      have hm3 : 99 * M * d.2.2.length ≤ 99 * M * 3 := Nat.mul_le_mul_left _ (by omega)
      refine ⟨dn ++ [d], as, _, 400 * M, _, _, _, _, rfl, rfl, by rw [List.append_assoc]; exact hd, ⟨fun a ha => ?_, fun a ha => ?_⟩, by omega, ?_, fun v hkv a ha => ?_⟩
      · unfold setG
        split
        · exact bn_up hb (by omega)
        · exact bn_up (hF.bn a ha) (by omega)
      · unfold setG
        split
        · show c.natAbs ≤ _; omega
        · exact Nat.le_trans (hF.c a ha) (by omega)
      · rw [List.length_append, List.length_singleton, Nat.pow_succ, Nat.mul_comm _ 400]
        exact Nat.mul_le_mul_left _ hM
      · rw [behS_snoc, at_putA]
        unfold setG
        split
        · show valS c l v = _
          rw [hval]
          unfold valS
          congr 1
          congr 1
          refine List.map_congr_left fun q hq => ?_
          have := hv v hkv q.1 (hdo.sub _ (List.mem_map.mpr ⟨q, hq, rfl⟩))
          unfold valS at this
          rw [this]
        · exact hv v hkv a ha
  rintro mm ⟨dn, as, g, M, s3, s4, s5, s6, e, rfl, hd, hF, hM1, hM, hv⟩
  have has : as = [] := by
    cases as with
    | nil => rfl
    | cons q as => cases e
  subst has
  rw [List.append_nil] at hd
  subst hd
  repeat infer_instance
  have hM6 : M ≤ 400 ^ 6 := Nat.le_trans hM (Nat.pow_le_pow_right (by decide) hph.1)
  exact ⟨g, ⟨rfl, rfl⟩, ⟨fun a ha => bn_up (hF.bn a ha) hM6, fun a ha => Nat.le_trans (hF.c a ha) hM6⟩, hv⟩
end
end FrmP
set_option maxHeartbeats 2000000
namespace FrmP
open PySem PySem.Spec PyProof.Rows L2 Mi MiDF
local macro_rules
  | `(tactic| infer_instance) => `(tactic| first
    | refine dp_nil ?_ | refine dp_cons ?_ | refine wp_var rfl ?_ | refine wp_bo rfl ?_ | refine wp_c ?_ | refine wp_op ?_ | refine wp_lst ?_ | refine wp_tup ?_
    | refine wp_call ?_ | refine wp_prop ?_ | refine wp_meth ?_ | refine wp_mk ?_ | refine wp_bop ?_ | refine wp_bopi ?_ | refine wp_ropi ?_ | refine wp_uop ?_ | refine wp_fld ?_ | refine wp_spc ?_ | refine wp_ceq ?_ | refine wp_inn ?_ | refine wp_gti ?_ | refine wp_nt ?_ | refine wp_fst ?_ | refine jp_cons ?_ | refine jp_nil ?_ | refine wp_isc ?_ | refine wp_dsc rfl rfl ?_ | refine wp_dic0 ?_ | refine wp_dgt ?_ | refine wp_ccm ?_ | refine wp_anP ?_ | refine wp_orP ?_ | refine wp_ite ?_
    | refine sp_it ?_ | refine sp_rng1 ?_ | refine sp_enum ?_ | refine sp_zip ?_ | refine wp_lr ?_
    | refine bp_nil ?_ | refine bp_cons ?_ | refine wp_set ?_ | refine wp_ret ?_ | refine wp_stf ?_ | refine wp_par ?_ | refine wp_ife ?_ | refine wp_ex ?_
    | refine wk_go rfl ?_ | refine wC.fz (by assumption) ?_ | refine wC.ow (by assumption) ?_ | refine wp_stoS ?_ | refine wo_all ?_ | refine wo_idxS (by assumption) ?_ | refine wo_neI ?_ | refine ap_one ?_ | refine wo_listS ?_ | exact ⟨rfl, rfl⟩ | refine ⟨rfl, ?_⟩ | refine wO.of rfl ?_ | refine ap_nil ?_
    | refine ⟨_, _, _, _, _, rfl, rfl, rfl, ?_⟩ | refine ⟨_, _, _, rfl, rfl, ?_⟩ | refine ⟨_, _, _, rfl, rfl, rfl, ?_⟩ | refine ⟨_, _, rfl, rfl, ?_⟩ | refine ⟨_, _, rfl, ?_⟩ | refine ⟨_, rfl, rfl, ?_⟩ | refine ⟨_, rfl, ?_⟩ | refine ⟨rfl, _, _, rfl, ?_⟩ | refine ⟨⟨_, rfl⟩, ?_⟩ | refine And.intro (fun _ z => nomatch z) ?_ | exact rfl)


section
variable {Γ : Nat → Option Def} {L k : Nat} (hΓ : ∀ f d, pg f = some d → Γ f = some d)
include hΓ
theorem number_wide {o : O} {b : Nat} {m : Int} (B : Bg b o) (hb : 2 ≤ b) (m0 : 9 ≤ m) (m1 : m < 2 ^ 190) : ∃ n o', callF Γ L (k + 3) 26 [.ow o, .fz (.int m)] = .ok (.fz (.int n)) [.ow o', .no] ∧ Bg (b - 2) o' ∧ n.natAbs ≤ m.toNat := by
  have D : Draws (callF Γ L (k + 2)) 15 17 := draws_ok (hΓ 15 d15 rfl) (hΓ 17 d17 rfl)
  have W : ∀ {o : O} {b : Nat} {q : Int}, Bg b o → 0 < b → 0 < q → q < 2 ^ 200 → ∃ d o', callF Γ L (k + 2) 15 [.ow o, .fz (.int q)] = .ok (.fz (.int d)) [.ow o', .no] ∧ 0 ≤ d ∧ d < q ∧ Bg (b - 1) o' := fun {o b q} ⟨c, B, hc⟩ hb h0 h1 => by
    obtain ⟨d, s', e, g0, g1, B'⟩ := take_okW (Γ := Γ) (L := L) (k := k + 1) (hΓ 15 d15 rfl) B (by omega) h0 h1
    obtain ⟨o', rfl⟩ := B'.ow
    exact ⟨d, o', e, g0, g1, c + 1, B', by omega⟩
  suffices h : wC (callF Γ L (k + 3)) 26 [.ow o, .fz (.int m)] fun r outs => ∃ n o', (r = .fz (.int n) ∧ outs = [.ow o', .no]) ∧ Bg (b - 2) o' ∧ n.natAbs ≤ m.toNat by
    unfold wC at h
    obtain ⟨r, outs, e, _, n, o', ⟨rfl, rfl⟩, h1, h2⟩ := h
    exact ⟨n, o', e, h1, h2⟩
  refine wp_run (d := d26) (hΓ _ _ rfl) rfl ?_
  generalize callF Γ L (k + 2) = cal at *
  unfold d26
  repeat infer_instance
  refine wc_of D B (by omega) rfl rfl fun y o1 hy B1 => ?_
  obtain ⟨n, rfl, n0, n1, n2⟩ : ∃ n, y = .int n ∧ 1 ≤ n ∧ n ≤ m ∧ n < 2 ^ 190 := by
    simp only [List.mem_cons, List.not_mem_nil, or_false] at hy
    rcases hy with rfl | rfl | rfl | rfl <;> exact ⟨_, rfl, by omega, by omega, by omega⟩
  have hm : wO .mul [.int 2, .int n] fun r => r = .fz (.int (2 * n)) := .of (by
    show (if (2 : Int).natAbs.log2 + n.natAbs.log2 < 1000000 then some (R.fz (.int (2 * n))) else none) = _
    have h3 : (2 : Int).natAbs.log2 = 1 := by decide
    have h4 : n.natAbs.log2 < 200 := by
      by_cases e : n.natAbs = 0
      · rw [e]; decide
      · rw [Nat.log2_lt e]; omega
    rw [h3]
    exact if_pos (by omega)) rfl
  unfold wO at hm
  obtain ⟨r, hm, rfl⟩ := hm
  repeat infer_instance
  refine wO.of hm ?_
  repeat infer_instance
  obtain ⟨d, o2, e2, h0, h1, B2⟩ := W (q := 2 * n + 1) B1 (by omega) (by omega) (by omega)
  refine wC.fz e2 ?_
  repeat infer_instance
  refine ⟨_, _, ⟨rfl, rfl⟩, B2, by omega⟩
end
theorem po_tS (l : List PySem.Str) (h : ∀ a ∈ l, NameOk a) : Po 1 (.lst (tS l)) := po_flats (by
  rw [List.all_eq_true]
  intro x hx
  obtain ⟨a, ha, rfl⟩ := List.mem_map.mp hx
  exact can_nm a (h a ha))
theorem wo_neNm {P : R → Prop} {l : List PySem.Str} (h : ∀ a ∈ l, NameOk a) (q : P (.fz (.bl false))) : wO .ne [.lst (tS l), .lst (tS l)] P := wo_nePl rfl (po_tS l h) (by decide) q
end FrmP
set_option maxHeartbeats 4000000
namespace K46
open PySem PySem.Spec PyProof.Rows L2 Mi MiDF FrmP
local macro_rules
  | `(tactic| infer_instance) => `(tactic| first
    | refine dp_nil ?_ | refine dp_cons ?_ | refine wp_var rfl ?_ | refine wp_bo rfl ?_ | refine wp_c ?_ | refine wp_op ?_ | refine wp_lst ?_ | refine wp_tup ?_
    | refine wp_call ?_ | refine wp_prop ?_ | refine wp_meth ?_ | refine wp_mk ?_ | refine wp_bop ?_ | refine wp_bopi ?_ | refine wp_ropi ?_ | refine wp_uop ?_ | refine wp_fld ?_ | refine wp_spc ?_ | refine wp_ceq ?_ | refine wp_inn ?_ | refine wp_gti ?_ | refine wp_nt ?_ | refine wp_fst ?_ | refine jp_cons ?_ | refine jp_nil ?_ | refine wp_isc ?_ | refine wp_dsc rfl rfl ?_ | refine wp_dic0 ?_ | refine wp_dgt ?_ | refine wp_ccm ?_ | refine wp_anP ?_ | refine wp_orP ?_ | refine wp_ite ?_
    | refine sp_it ?_ | refine sp_rng1 ?_ | refine sp_enum ?_ | refine sp_zip ?_ | refine wp_lr ?_
    | refine bp_nil ?_ | refine bp_cons ?_ | refine wp_set ?_ | refine wp_ret ?_ | refine wp_stf ?_ | refine wp_par ?_ | refine wp_ife ?_ | refine wp_ex ?_
    | refine wk_go rfl ?_ | refine wC.fz (by assumption) ?_ | refine wC.ow (by assumption) ?_ | refine wp_stoS ?_ | refine wo_all ?_ | refine wo_idxS (by assumption) ?_ | refine wo_neI ?_ | refine ap_one ?_ | refine wo_listS ?_ | exact ⟨rfl, rfl⟩ | refine ⟨rfl, ?_⟩ | refine wO.of rfl ?_ | refine ap_nil ?_
    | refine ⟨_, _, _, _, _, rfl, rfl, rfl, ?_⟩ | refine ⟨_, _, _, rfl, rfl, ?_⟩ | refine ⟨_, _, _, rfl, rfl, rfl, ?_⟩ | refine ⟨_, _, rfl, rfl, ?_⟩ | refine ⟨_, _, rfl, ?_⟩ | refine ⟨_, rfl, rfl, ?_⟩ | refine ⟨_, rfl, ?_⟩ | refine ⟨rfl, _, _, rfl, ?_⟩ | refine ⟨⟨_, rfl⟩, ?_⟩ | refine And.intro (fun _ z => nomatch z) ?_ | exact rfl)


theorem hΓ : ∀ f d, pg f = some d → Γ f = some d := fun f d h => by
  unfold Γ
  by_cases e : f = 56
  · subst e
    have : pg 56 = none := rfl
    rw [this] at h; cases h
  · rw [if_neg e]; exact h
noncomputable abbrev kk : Nat := 13
noncomputable abbrev LL : Nat := 64
theorem hroom : L2.Room (2 * (kk + 1)) callerA := ⟨rfl, by decide, by decide⟩
structure Cal (cal : Nat → List Mi.Slot → CRes) : Prop where
  dr : Draws cal 15 17
  num : ∀ {o : O} {b : Nat}, Bg b o → 2 ≤ b → ∃ n o', cal 26 [.ow o, .fz (.int (10 ^ 30))] = .ok (.fz (.int n)) [.ow o', .no] ∧ Bg (b - 2) o' ∧ n.natAbs ≤ 10 ^ 30
  some : ∀ {o : O} {b : Nat}, Bg b o → 1000 ≤ b → ∃ ns ss ps o', cal 57 [.ow o, .fz (.lst [.int 3, .int 3, .int 6, .int 99])] = .ok (.ow (.lst [.lst (ss.map prT), .lst (ps.map phT)])) [.ow o', .no] ∧ Bg (b - 1000) o' ∧ LoopOk ns ss ps ∧ (ps.length : Int) ≤ 3
  lloop : ∀ {ns ss ps}, LoopOk ns ss ps → cal 58 [.fz (lspT ss ps)] = .ok (.ow (loopO ss ps)) [.no]
  mkl : ∀ {ns ss ps}, LoopOk ns ss ps → cal 168 [.ow (.ins 16 []), .fz (.lst (ss.map prT)), .fz (.tup (ps.map phF))] = .ok (.fz .non) [.ow (loopO ss ps), .no, .no]
  per : ∀ {ss ps}, cal 166 [.fz (loopT ss ps)] = .ok (.fz (.int ps.length)) [.no]
  forms : ∀ {ns ss ps} {i : Nat} {p : List Deed}, LoopOk ns ss ps → ps[i]? = .some p → ∃ g, cal 165 [.fz (loopT ss ps), .fz (.int i)] = .ok (.ow (.dic (fRn ns g))) [.no, .no] ∧ FoOk ns (400 ^ 6) g ∧ ∀ v, keysS v = ns → ∀ a ∈ ns, valS (g a).1 (g a).2 v = Mi.atS (behS v p) a
  beh : ∀ {ns : List PySem.Str} {M : Nat} {v : SD} {ds : List Deed}, NsOk ns → VOk ns M v → 1 ≤ M → (∀ d ∈ ds, DeedOk ns d) → 400 ^ ds.length * M < 2 ^ 200 → cal 139 [.fz (.dic (dS v)), .fz (.lst (ds.map deT))] = .ok (.ow (.dic (dS (behS v ds)))) [.no, .no]
  val : ∀ {c : Int} {l v : SD}, CanS l → (∀ a ∈ keysS l, a ∈ keysS v) → (∀ q ∈ l, q.2.natAbs < 2 ^ 200) → (∀ a, (Mi.atS v a).natAbs < 2 ^ 200) → cal 167 [.fz (frmT c l), .fz (.dic (dS v))] = .ok (.fz (.int (valS c l v))) [.no, .no]
  nms : ∀ {c l}, cal 145 [.fz (frmT c l)] = .ok (.ow (.lst ((keysS l).map .str))) [.no]
  eq : ∀ {c c' l l'}, CanS l → CanS l' → cal 142 [.fz (frmT c l), .fz (frmT c' l')] = .ok (.fz (.bl (decide (c = c') && decide (l = l')))) [.no, .no]
  unit : ∀ {a}, NameOk a → cal 147 [.fz (.lst [.tup [.str a, .int 1]]), .fz (.int 0)] = .ok (.ow (frmO 0 [(a, 1)])) [.no, .no]
  form : ∀ {c : Int} {l : SD}, (keysS l).Nodup → l.length < 64 → (∀ a ∈ keysS l, NameOk a) → cal 154 [.ow (.ins 46 []), .fz (.int c), .fz (.dic (dS l))] = .ok (.fz .non) [.ow (frmO c (keptS l)), .no, .no]
  text : ∀ {c l}, Fm3 c l → cal 140 [.fz (frmT c l)] = .ok (.fz (.str (txtS c l))) [.no]
  same : ∀ (n : Nat) (t : T), Pq n t → n < 8 → cal 13 [.fz t, .fz t] = .ok (.fz (.bl true)) [.no, .no]
theorem kept_one {a : PySem.Str} : keptS (sumS [] [(a, 1)]) = [(a, 1)] := kept_sum ⟨List.pairwise_singleton _ _, fun q hq => by rw [List.mem_singleton.mp hq]; exact (show (1 : Int) ≠ 0 by decide)⟩ (totS_can ⟨List.pairwise_singleton _ _, fun q hq => by rw [List.mem_singleton.mp hq]; exact (show (1 : Int) ≠ 0 by decide)⟩)
theorem cal_ok : Cal (callF Γ LL kk) where
  dr := draws_ok (k := 11) (hΓ 15 d15 rfl) (hΓ 17 d17 rfl)
  num B hb := number_wide hΓ (k := 10) B hb (by decide) (by decide)
  some B hb := some_ok hΓ (k := 7) B hb (by decide) (by decide) (by decide) (by decide)
  lloop h := lloop_ok hΓ (k := 7) h
  mkl h := loop_ok hΓ (k := 9) h
  per := period_ok hΓ (k := 12)
  forms h hp := forms_ok hΓ (k := 7) h hp
  beh hn hv hM hd hB := behind_ok hΓ (k := 11) hn hv hM hd hB
  val h hv hq hw := fvalue_ok hΓ (k := 12) h hv hq hw
  nms := names_ok hΓ (k := 12)
  eq h h' := eq_ok hΓ (k := 12) h h'
  unit {a} ha := by
    have c1 := of_ok hΓ (L := LL) (k := 9) (c := 0) (ts := [(a, 1)]) (show 1 < 64 by decide) (fun b hb => by rw [List.mem_singleton.mp hb]; exact ha)
    rw [kept_one] at c1
    exact c1
  form hn hl hk := init_ok hΓ (k := 11) hn hl hk
  text h := txt_eq ▸ text_ok hΓ (k := 11) h.can h.tms
  same n t h hn := same_refl2 (hΓ 13 d13 rfl) n t 13 h (by omega)
end K46
set_option maxHeartbeats 4000000
namespace K46
open PySem PySem.Spec PyProof.Rows L2 Mi MiDF FrmP
local macro_rules
  | `(tactic| infer_instance) => `(tactic| first
    | refine dp_nil ?_ | refine dp_cons ?_ | refine wp_var rfl ?_ | refine wp_bo rfl ?_ | refine wp_c ?_ | refine wp_op ?_ | refine wp_lst ?_ | refine wp_tup ?_
    | refine wp_call ?_ | refine wp_prop ?_ | refine wp_meth ?_ | refine wp_mk ?_ | refine wp_bop ?_ | refine wp_bopi ?_ | refine wp_ropi ?_ | refine wp_uop ?_ | refine wp_fld ?_ | refine wp_spc ?_ | refine wp_ceq ?_ | refine wp_inn ?_ | refine wp_gti ?_ | refine wp_nt ?_ | refine wp_fst ?_ | refine jp_cons ?_ | refine jp_nil ?_ | refine wp_isc ?_ | refine wp_dsc rfl rfl ?_ | refine wp_dic0 ?_ | refine wp_dgt ?_ | refine wp_ccm ?_ | refine wp_anP ?_ | refine wp_orP ?_ | refine wp_ite ?_
    | refine sp_it ?_ | refine sp_rng1 ?_ | refine sp_enum ?_ | refine sp_zip ?_ | refine wp_lr ?_
    | refine bp_nil ?_ | refine bp_cons ?_ | refine wp_set ?_ | refine wp_ret ?_ | refine wp_stf ?_ | refine wp_par ?_ | refine wp_ife ?_ | refine wp_ex ?_
    | refine wk_go rfl ?_ | refine wC.fz (by assumption) ?_ | refine wC.ow (by assumption) ?_ | refine wp_stoS ?_ | refine wo_all ?_ | refine wo_idxS (by assumption) ?_ | refine wo_neI ?_ | refine ap_one ?_ | refine wo_listS ?_ | refine wo_dictS (by assumption) ?_ | exact ⟨rfl, rfl⟩ | refine ⟨rfl, ?_⟩ | refine wO.of rfl ?_ | refine ap_nil ?_
    | refine ⟨_, _, _, _, _, rfl, rfl, rfl, ?_⟩ | refine ⟨_, _, _, rfl, rfl, ?_⟩ | refine ⟨_, _, _, rfl, rfl, rfl, ?_⟩ | refine ⟨_, _, rfl, rfl, ?_⟩ | refine ⟨_, _, rfl, ?_⟩ | refine ⟨_, rfl, rfl, ?_⟩ | refine ⟨_, rfl, ?_⟩ | refine ⟨rfl, _, _, rfl, ?_⟩ | refine ⟨⟨_, rfl⟩, ?_⟩ | refine And.intro (fun _ z => nomatch z) ?_ | exact rfl)


section
variable {cal : Nat → List Mi.Slot → CRes} {D : En} {xs : List Int} {o : O} {b i : Nat} {ns : List PySem.Str} {ss : SD} {ps : List (List Deed)} {p : List Deed} {g : PySem.Str → Int × SD} {s1 s2 s3 s4 s7 s8 s9 s10 s11 s12 s13 : Mi.Slot}
noncomputable abbrev Y (xs : List Int) (s1 s2 s3 s4 s7 s8 s9 s10 s11 s12 s13 : Mi.Slot) : List Mi.Slot := [.fz (.scr xs), s1, s2, s3, s4, .no, .no, s7, s8, s9, s10, s11, s12, s13]
theorem idx_at {P : Mi.R → Prop} {α : Type} {f : α → T} {l : List α} {a : α} {j : Nat} (h : l[j]? = some a) (q : P (.fz (f a))) : wO .idx [.lst (l.map f), .int j] P := .of (by
  show (atI (l.map f) (j : Int)).map Mi.R.fz = _
  rw [atI_nat (x := f a) (n := j) rfl (by rw [List.getElem?_map, h]; rfl)]
  rfl) q
theorem turn (C : Cal cal) (h : LoopOk ns ss ps) (hp : ps[i]? = some p) (hF : FoOk ns (400 ^ 6) g) (hv : ∀ v, keysS v = ns → ∀ a ∈ ns, valS (g a).1 (g a).2 v = Mi.atS (behS v p) a) (B : Bg b o) (hb : 20 ≤ b)
    (q : ∀ o' s10 s11, Bg (b - 20) o' → D.nx (Y xs (.ow o') (.fz (lspT ss ps)) (.fz (loopT ss ps)) (.fz (.lst (tS ns))) (.fz (.int i)) (.ow (.dic (fRn ns g))) s9 s10 s11 s12 s13)) :
    wB cal LL l56_0 (Y xs (.ow o) (.fz (lspT ss ps)) (.fz (loopT ss ps)) (.fz (.lst (tS ns))) (.fz (.int i)) (.ow (.dic (fRn ns g))) s9 s10 s11 s12 s13) D := by
  have hz : sizeLine = 16777216 := rfl
  have hhi := h.ns.hi
  have hpm : p ∈ ps := List.mem_of_getElem? hp
  have hph := h.ph p hpm
  unfold l56_0
  refine bp_cons (wp_set (wp_op (dp_cons (wp_compI ?_))))
  repeat infer_instance
  refine ⟨fun xs' acc mm => ∃ (o' : O) (l : SD) (as dn : List PySem.Str), mm = Y xs (.ow o') (.fz (lspT ss ps)) (.fz (loopT ss ps)) (.fz (.lst (tS ns))) (.fz (.int i)) (.ow (.dic (fRn ns g))) s9 s10 s11 s12 s13 ∧ xs' = tS as ∧ acc = l.map prT ∧ dn ++ as = ns ∧ keysS l = dn ∧ Bg (b - 3 * dn.length) o' ∧ ∀ q ∈ l, q.2.natAbs ≤ 10 ^ 30, rfl, ⟨o, [], ns, [], rfl, rfl, rfl, rfl, rfl, B.mono (by simp), fun _ z => nomatch z⟩, ?_, ?_⟩
  · rintro x xs' acc mm ⟨o3, l, as, dn, rfl, e, rfl, hd, hk, B3, hq⟩
    cases as with
    | nil => cases e
    | cons a as =>
      cases e
      have hdl : dn.length + (as.length + 1) = ns.length := by rw [← hd, List.length_append]; rfl
      have hll : l.length = dn.length := by rw [← hk]; unfold keysS; rw [List.length_map]
      refine ⟨_, rfl, ap_nil ⟨_, rfl, fun _ => ?_, fun z => nomatch z⟩⟩
      unfold e56_1
      repeat infer_instance
      obtain ⟨n, o4, e4, B4, hn4⟩ := C.num B3 (by omega)
      refine wC.fz e4 ?_
      repeat infer_instance
      refine wc_of C.dr B4 (by omega) rfl rfl fun y o5 hy B5 => ?_
      obtain ⟨n2, rfl, hn2⟩ : ∃ n : Int, y = .int n ∧ n.natAbs ≤ 10 ^ 30 := by
        simp only [List.mem_cons, List.not_mem_nil, or_false] at hy
        rcases hy with rfl | rfl | rfl <;> exact ⟨_, rfl, by omega⟩
      repeat infer_instance
      refine ⟨by rw [List.length_map]; omega, o5, l ++ [(a, n2)], as, dn ++ [a], rfl, rfl, by simp, by rw [List.append_assoc]; exact hd, ?_, B5.mono (by simp; omega), fun q hm => ?_⟩
      · unfold keysS at *
        rw [List.map_append, hk]
        rfl
      · rcases List.mem_append.mp hm with h | h
        · exact hq q h
        · rw [List.mem_singleton.mp h]; exact hn2
  rintro acc mm ⟨o3, v, as, dn, rfl, e, rfl, hd, hk, B3, hq⟩
  have has : as = [] := by
    cases as with
    | nil => rfl
    | cons a r => cases e
  subst has
  rw [List.append_nil] at hd
  subst hd
  have hnd : (keysS v).Nodup := by rw [hk]; exact h.ns.nd
  have hV : VOk dn (10 ^ 30) v := ⟨hk, fun x => by
    by_cases hx : x ∈ keysS v
    · obtain ⟨q, hm, rfl⟩ := List.mem_map.mp hx
      have : Mi.atS v q.1 = q.2 := by
        unfold Mi.atS
        rw [lookS_mem hnd hm]
        rfl
      rw [this]
      exact hq q hm
    · rw [Mi.atS_none hx]; exact Nat.zero_le _⟩
  have hB : 400 ^ p.length * 10 ^ 30 < 2 ^ 200 := by
    have h1 : (400 : Nat) ^ p.length ≤ 400 ^ 6 := Nat.pow_le_pow_right (by decide) hph.1
    have h2 : (400 : Nat) ^ 6 * 10 ^ 30 < 2 ^ 200 := by decide +kernel
    exact Nat.lt_of_le_of_lt (Nat.mul_le_mul_right (10 ^ 30) h1) h2
  have c1 := C.beh h.ns hV (by decide +kernel) hph.2 hB
  have hW := beh_ok h.ns p hV (by decide +kernel) hph.2
  have c2 : ∀ a ∈ dn, cal 167 [.fz (frmT (g a).1 (g a).2), .fz (.dic (dS v))] = .ok (.fz (.int (Mi.atS (behS v p) a))) [.no, .no] := fun a ha => by
    rw [← hv v hk a ha]
    have hb := hF.bn a ha
    have p6 : (400 : Nat) ^ 6 < 2 ^ 200 := by decide +kernel
    have p30 : (10 : Nat) ^ 30 < 2 ^ 200 := by decide +kernel
    exact C.val hb.can (fun x hx => by rw [hk]; exact hb.sub x hx) (fun q hq => Nat.lt_of_le_of_lt (hb.big2 q hq) p6) (fun x => Nat.lt_of_le_of_lt (hV.big x) p30)
  have c3 := C.same 1 (.lst (dn.map fun a => .int (Mi.atS (behS v p) a))) (.lst (fun x hx => by
    obtain ⟨a, _, rfl⟩ := List.mem_map.mp hx
    exact .flat rfl) (by rw [List.length_map, hz]; omega)) (by decide)
  repeat infer_instance
  refine idx_at hp ?_
  repeat infer_instance
  refine wp_comp (α := PySem.Str) ?_
  repeat infer_instance
  refine ⟨dn, T.str, fun _ => true, fun a => .int (Mi.atS (behS v p) a), rfl, rfl, rfl, fun a ha => ⟨_, rfl, rfl, ap_nil ⟨rfl, rfl⟩, fun _ => ?_⟩, by rw [hz]; omega, ?_⟩
  · have c2' := c2 a ha
    unfold e56_2
    repeat infer_instance
    refine wo_idxF ha ?_
    repeat infer_instance
  rw [List.filter_eq_self.mpr fun _ _ => rfl]
  repeat infer_instance
  refine wp_comp (α := PySem.Str) ?_
  repeat infer_instance
  refine ⟨dn, T.str, fun _ => true, fun a => .int (Mi.atS (behS v p) a), rfl, rfl, rfl, fun a ha => ⟨_, rfl, rfl, ap_nil ⟨rfl, rfl⟩, fun _ => ?_⟩, by rw [hz]; omega, ?_⟩
  · have hin : a ∈ keysS (behS v p) := by rw [hW.keys]; exact ha
    unfold e56_3
    repeat infer_instance
  rw [List.filter_eq_self.mpr fun _ _ => rfl]
  repeat infer_instance
  refine wif0 rfl ?_
  repeat infer_instance
  exact q _ _ _ (B3.mono (by omega))
end
end K46
set_option maxHeartbeats 4000000
namespace K46
open PySem PySem.Spec PyProof.Rows L2 Mi MiDF FrmP
local macro_rules
  | `(tactic| infer_instance) => `(tactic| first
    | refine dp_nil ?_ | refine dp_cons ?_ | refine wp_var rfl ?_ | refine wp_bo rfl ?_ | refine wp_c ?_ | refine wp_op ?_ | refine wp_lst ?_ | refine wp_tup ?_
    | refine wp_call ?_ | refine wp_prop ?_ | refine wp_meth ?_ | refine wp_mk ?_ | refine wp_bop ?_ | refine wp_bopi ?_ | refine wp_ropi ?_ | refine wp_uop ?_ | refine wp_fld ?_ | refine wp_spc ?_ | refine wp_ceq ?_ | refine wp_inn ?_ | refine wp_gti ?_ | refine wp_nt ?_ | refine wp_fst ?_ | refine jp_cons ?_ | refine jp_nil ?_ | refine wp_isc ?_ | refine wp_dsc rfl rfl ?_ | refine wp_dic0 ?_ | refine wp_dgt ?_ | refine wp_ccm ?_ | refine wp_anP ?_ | refine wp_orP ?_ | refine wp_ite ?_
    | refine sp_it ?_ | refine sp_rng1 ?_ | refine sp_enum ?_ | refine sp_zip ?_ | refine wp_lr ?_
    | refine bp_nil ?_ | refine bp_cons ?_ | refine wp_set ?_ | refine wp_ret ?_ | refine wp_stf ?_ | refine wp_par ?_ | refine wp_ife ?_ | refine wp_ex ?_
    | refine wk_go rfl ?_ | refine wC.fz (by assumption) ?_ | refine wC.ow (by assumption) ?_ | refine wp_stoS ?_ | refine wo_all ?_ | refine wo_idxS (by assumption) ?_ | refine wo_neI ?_ | refine ap_one ?_ | refine wo_listS ?_ | refine wo_dictS (by assumption) ?_ | exact ⟨rfl, rfl⟩ | refine ⟨rfl, ?_⟩ | refine wO.of rfl ?_ | refine ap_nil ?_
    | refine ⟨_, _, _, _, _, rfl, rfl, rfl, ?_⟩ | refine ⟨_, _, _, rfl, rfl, ?_⟩ | refine ⟨_, _, _, rfl, rfl, rfl, ?_⟩ | refine ⟨_, _, rfl, rfl, ?_⟩ | refine ⟨_, _, rfl, ?_⟩ | refine ⟨_, rfl, rfl, ?_⟩ | refine ⟨_, rfl, ?_⟩ | refine ⟨rfl, _, _, rfl, ?_⟩ | refine ⟨⟨_, rfl⟩, ?_⟩ | refine And.intro (fun _ z => nomatch z) ?_ | exact rfl)


section
variable {cal : Nat → List Mi.Slot → CRes} {D : En} {xs : List Int} {o : O} {b i : Nat} {ns : List PySem.Str} {ss : SD} {ps : List (List Deed)} {p : List Deed} {g : PySem.Str → Int × SD} {s1 s2 s3 s4 s7 s8 s9 s10 s11 s12 s13 : Mi.Slot}
theorem keys_fRn : (fRn ns g).map (fun kv => unkey kv.1) = tS ns := by
  unfold fRn tS
  rw [List.map_map]
  rfl
theorem idx_last {P : Mi.R → Prop} {l : List PySem.Str} {a : PySem.Str} (q : P (.fz (.str a))) : wO .idx [.lst (tS (l ++ [a])), .int (-1)] P := .of (by
  have e : atI (tS (l ++ [a])) (-1) = some (T.str a) := by
    unfold atI ixN
    unfold tS
    have e0 : (-1 + ((l.length : Int) + 1)).toNat = l.length := by omega
    simp
    rw [if_pos (by omega), Option.bind_some, e0, List.getElem?_append_right (by simp)]
    simp
  show (atI (tS (l ++ [a])) (-1)).map Mi.R.fz = _
  rw [e]
  rfl) q
theorem val_fun {m : Nat} {c : Int} {l : SD} (hn : ns.Nodup) (h : Bn ns m l) (f : PySem.Str → Int) : valS c l (ns.map fun a => (a, f a)) = c + (ns.map fun x => Mi.atS l x * f x).sum := by
  rw [valS_ns hn h, List.map_congr_left fun x hx => ?_]
  show Mi.atS l x * Mi.atS (ns.map fun a => (a, f a)) x = _
  congr 1
  unfold Mi.atS
  rw [look_fun f, if_pos hx]
  rfl
theorem val_ext {m m' : Nat} {c c' : Int} {l l' : SD} (hn : ns.Nodup) (h : Bn ns m l) (h' : Bn ns m' l') (e : ∀ v, keysS v = ns → valS c l v = valS c' l' v) : c = c' ∧ l = l' := by
  have e1 : ∀ f : PySem.Str → Int, c + (ns.map fun x => Mi.atS l x * f x).sum = c' + (ns.map fun x => Mi.atS l' x * f x).sum := fun f => by
    rw [← val_fun hn h, ← val_fun hn h']
    exact e _ (by unfold keysS; rw [List.map_map]; exact List.map_id _)
  have hc : c = c' := by
    have := e1 fun _ => 0
    rw [sum_zero _ ns fun x _ => Int.mul_zero _, sum_zero _ ns fun x _ => Int.mul_zero _] at this
    omega
  refine ⟨hc, can_ext h.can h'.can fun x => ?_⟩
  by_cases hx : x ∈ ns
  · have := e1 fun y => if y = x then 1 else 0
    have k : ∀ q : SD, (ns.map fun y => Mi.atS q y * if y = x then 1 else 0) = ns.map fun y => if y = x then Mi.atS q x else 0 := fun q => List.map_congr_left fun y _ => by
      by_cases e : y = x
      · subst e; simp
      · simp [e]
    rw [k, k, sum_one _ _ ns hn hx, sum_one _ _ ns hn hx] at this
    omega
  · rw [h.off hx, h'.off hx]
theorem phase (C : Cal cal) (h : LoopOk ns ss ps) (hp : ps[i]? = some p) (B : Bg b o) (hb : 100 ≤ b)
    (q : ∀ o' s8 s9 s10 s11, Bg (b - 100) o' → D.nx (Y xs (.ow o') (.fz (lspT ss ps)) (.fz (loopT ss ps)) (.fz (.lst (tS ns))) (.fz (.int i)) s8 s9 s10 s11 .no s13)) :
    wB cal LL l56_1 (Y xs (.ow o) (.fz (lspT ss ps)) (.fz (loopT ss ps)) (.fz (.lst (tS ns))) (.fz (.int i)) s8 s9 s10 s11 .no s13) D := by
  have hz : sizeLine = 16777216 := rfl
  obtain ⟨g, e1, hF, hv⟩ := C.forms h hp
  have hhi := h.ns.hi
  have hlo := h.ns.lo
  have c2 := C.per (ss := ss) (ps := ps)
  have c3 := C.same 0 (.int ps.length) (.flat rfl) (by decide)
  have hq : ("q" : PySem.Str) ∈ ns ∨ ("q" : PySem.Str) ∉ ns := Classical.em _
  unfold l56_1
  repeat infer_instance
  show wO .ne [.lst ((fRn ns g).map fun kv => unkey kv.1), .lst (tS ns)] _
  rw [keys_fRn]
  refine wo_neNm h.ns.nm ?_
  repeat infer_instance
  rw [List.length_map]
  repeat infer_instance
  refine wif0 rfl ?_
  repeat infer_instance
  refine wp_fr ?_
  repeat infer_instance
  refine ⟨⟨by decide, by decide⟩, fun ys mm => ∃ (o' : O) (us : List Int) (s9 s10 s11 : Mi.Slot), ys = tI us ∧ us.length ≤ 3 ∧ Bg (b - 100 + 20 * us.length) o' ∧ mm = Y xs (.ow o') (.fz (lspT ss ps)) (.fz (loopT ss ps)) (.fz (.lst (tS ns))) (.fz (.int i)) (.ow (.dic (fRn ns g))) s9 s10 s11 .no s13, ⟨o, rngI 0 3, _, _, _, rfl, by rw [len_rngI]; decide, B.mono (by rw [len_rngI]; simp; omega), rfl⟩, ?_, ?_⟩
  · rintro x ys mm ⟨o1, us, s9, s10, s11, e, hu, B1, rfl⟩
    cases us with
    | nil => cases e
    | cons u us =>
      cases e
      rw [List.length_cons] at hu B1
      refine ⟨_, rfl, turn C h hp hF hv B1 (by omega) fun o2 s10 s11 B2 => ?_⟩
      exact ⟨o2, us, _, _, _, rfl, by omega, B2.mono (by omega), rfl⟩
  rintro mm ⟨o1, us, s9, s10, s11, e, hu, B1, rfl⟩
  have hus : us = [] := by
    cases us with
    | nil => rfl
    | cons q as => cases e
  subst hus
  have B1 : Bg (b - 100) o1 := B1
  repeat infer_instance
  refine ⟨_, _, _, _, rfl, rfl, rfl, ?_, ?_⟩
  · unfold fRn; rw [List.length_map, hz]; omega
  repeat infer_instance
  show wO .ne [.lst ((fRn ns g).map fun kv => unkey kv.1), .lst (tS ns)] _
  rw [keys_fRn]
  refine wo_neNm h.ns.nm ?_
  repeat infer_instance
  obtain ⟨a, r, hns⟩ : ∃ a r, ns = a :: r := by
    cases ns with
    | nil => exact absurd hlo (by decide)
    | cons a r => exact ⟨a, r, rfl⟩
  have ha : a ∈ ns := by rw [hns]; exact List.mem_cons_self
  have hi0 : ∀ {P : Mi.R → Prop}, P (.fz (.str a)) → wO .idx [.lst (tS ns), .int 0] P := fun q => by rw [hns]; exact wo_idx0 q
  have hb1 := hF.bn a ha
  have c5 := C.nms (c := (g a).1) (l := (g a).2)
  refine wp_comp (α := PySem.Str × Int) ?_
  repeat infer_instance
  refine hi0 ?_
  repeat infer_instance
  refine wo_idxF ha ?_
  repeat infer_instance
  refine ⟨(g a).2, fun q => .str q.1, fun _ => true, fun _ => .bl true, by rw [List.map_map]; rfl, rfl, rfl, fun q hm => ⟨_, rfl, rfl, ap_nil ⟨rfl, rfl⟩, fun _ => ?_⟩, by rw [hz]; have := hb1.len; omega, ?_⟩
  · have hk2 : q.1 ∈ ns := hb1.sub _ (List.mem_map.mpr ⟨q, hm, rfl⟩)
    unfold e56_4
    repeat infer_instance
    refine wo_isinS ?_
    repeat infer_instance
    rw [decide_eq_true hk2]
    rfl
  rw [List.filter_eq_self.mpr fun _ _ => rfl]
  repeat infer_instance
  refine wif0 (by
    show (!(List.all (g a).2 fun _ => true)) = false
    rw [List.all_eq_true.mpr fun _ _ => rfl]
    rfl) ?_
  refine bp_nil (bp_cons (wp_ife (wp_an ?_)))
  repeat infer_instance
  refine idx_at hp ?_
  repeat infer_instance
  refine ⟨fun hpe => ?_, fun _ => ?_⟩
  · have hpn : p = [] := by
      cases p with
      | nil => rfl
      | cons d r => cases hpe
    subst hpn
    obtain ⟨r2, z, hnz⟩ : ∃ r z, ns = r ++ [z] := ⟨ns.dropLast, ns.getLast (by rw [hns]; exact fun z => nomatch z), (List.dropLast_concat_getLast _).symm⟩
    have hzm : z ∈ ns := by rw [hnz]; simp
    have hil : ∀ {P : Mi.R → Prop}, P (.fz (.str z)) → wO .idx [.lst (tS ns), .int (-1)] P := fun q => by rw [hnz]; exact idx_last q
    have c6 := C.unit (h.ns.nm z hzm)
    have hbz := hF.bn z hzm
    have c7 := C.eq (c := (g z).1) (c' := 0) hbz.can (bn_one (ns := ns) hzm).can
    have hval : (g z).1 = 0 ∧ (g z).2 = [(z, 1)] := val_ext h.ns.nd hbz (bn_one hzm) fun v hk => by
      rw [hv v hk z hzm, valS_unit (ns := ns)]
      rfl
    rw [hval.1, hval.2] at c7
    have c7' : cal 142 [.fz (frmT 0 [(z, 1)]), .fz (frmT 0 [(z, 1)])] = .ok (.fz (.bl true)) [.no, .no] := by
      rw [c7]
      simp
    repeat infer_instance
    refine hil ?_
    repeat infer_instance
    refine wo_idxF hzm ?_
    rw [hval.1, hval.2]
    repeat infer_instance
    refine hil ?_
    repeat infer_instance
    refine wif0 rfl ?_
    repeat infer_instance
    exact q _ _ _ _ _ B1
  · repeat infer_instance
    refine wif0 rfl ?_
    repeat infer_instance
    exact q _ _ _ _ _ B1
end
noncomputable abbrev sx : PySem.Str := "x"
noncomputable abbrev sy : PySem.Str := "y"
theorem law_true (xs : List Int) (_ : xs.length ≤ 63) : ∃ outs, callF Γ LL (kk + 1) 56 [.fz (.scr xs)] = .ok (.fz (.bl true)) outs := by
  obtain ⟨o, eb, B0⟩ := bag_mk (Γ := Γ) (L := LL) (k := 12) (hΓ 2 d2 rfl) (ns := xs)
  have eb' : callF Γ LL kk 2 [.fz (.scr xs)] = .ok (.ow o) [.no] := eb
  clear eb
  have C := cal_ok
  suffices h : wC (callF Γ LL (kk + 1)) 56 [.fz (.scr xs)] fun r _ => r = .fz (.bl true) by
    unfold wC at h
    obtain ⟨r, outs, e, _, rfl⟩ := h
    exact ⟨outs, e⟩
  refine wp_run (d := d56) rfl rfl ?_
  generalize callF Γ LL kk = cal at *
  have hz : sizeLine = 16777216 := rfl
  unfold d56
  repeat infer_instance
  obtain ⟨ns, ss, ps, o1, e1, B1, h, _⟩ := C.some B0 (by decide)
  refine wC.ow e1 ?_
  have c2 := C.lloop h
  have hl := h.len
  have hhi := h.ns.hi
  repeat infer_instance
  refine wp_unp ?_
  repeat infer_instance
  refine wp_comp (α := PySem.Str × Int) ?_
  repeat infer_instance
  refine ⟨ss, prT, fun _ => true, fun q => .str q.1, rfl, rfl, rfl, fun q hm => ⟨_, rfl, rfl, ap_nil ⟨rfl, rfl⟩, fun _ => ?_⟩, by rw [hz]; omega, ?_⟩
  · unfold e56_0
    repeat infer_instance
  rw [List.filter_eq_self.mpr fun _ _ => rfl]
  have en : ss.map (fun q => T.str q.1) = tS ns := by rw [← h.keys]; unfold keysS tS; rw [List.map_map]; rfl
  rw [en]
  repeat infer_instance
  refine wp_fr ?_
  repeat infer_instance
  rw [List.length_map]
  have hph := h.hi
  refine ⟨⟨by omega, by omega⟩, fun ys mm => ∃ (o' : O) (us : List Int) (dn : Nat) (s7 s8 s9 s10 s11 : Mi.Slot), ys = tI us ∧ us = (List.range us.length).map (fun k : Nat => ((dn + k : Nat) : Int)) ∧ dn + us.length = ps.length ∧ Bg (100 * us.length) o' ∧ mm = Y xs (.ow o') (.fz (lspT ss ps)) (.fz (loopT ss ps)) (.fz (.lst (tS ns))) s7 s8 s9 s10 s11 .no .no, ⟨o1, rngI 0 ps.length, 0, _, _, _, _, _, rfl, by
    rw [len_rngI]
    unfold rngI
    simp, by rw [len_rngI]; simp, B1.mono (by rw [len_rngI]; simp; omega), rfl⟩, ?_, ?_⟩
  · rintro x ys mm ⟨o2, us, dn, s7, s8, s9, s10, s11, e, hu, hdn, B2, rfl⟩
    cases us with
    | nil => cases e
    | cons u us =>
      cases e
      rw [List.length_cons] at hdn B2
      rw [List.length_cons, List.range_succ_eq_map, List.map_cons, List.map_map] at hu
      obtain ⟨hu1, hu2⟩ := List.cons.inj hu
      have hlt : dn < ps.length := by omega
      obtain rfl : u = (dn : Int) := by rw [hu1]; simp
      refine ⟨_, rfl, phase C h (p := ps[dn]) (List.getElem?_eq_getElem hlt) B2 (by omega) fun o3 s8 s9 s10 s11 B3 => ?_⟩
      refine ⟨o3, us, dn + 1, _, _, _, _, _, rfl, ?_, by omega, B3.mono (by omega), rfl⟩
      rw [hu2]
      simp
      intro k hk
      omega
  rintro mm ⟨o2, us, dn, s7, s8, s9, s10, s11, e, hu, hdn, B2, rfl⟩
  have nx : NameOk sx := ⟨by decide, by decide, by decide, by decide⟩
  have ny : NameOk sy := ⟨by decide, by decide, by decide, by decide⟩
  have k1 : CanS [(sx, 1), (sy, 1)] := ⟨by decide, by decide⟩
  have k2 : CanS [(sx, 2)] := ⟨by decide, by decide⟩
  have k3 : CanS [(sx, 2), (sy, 2)] := ⟨by decide, by decide⟩
  have NX : NsOk [sx, sy] := ⟨by decide, by decide, by decide, fun a ha => by
    simp only [List.mem_cons, List.not_mem_nil, or_false] at ha
    rcases ha with rfl | rfl
    · exact nx
    · exact ny⟩
  have q1 : DeedOk [sx, sy] (sx, 0, [(sx, 1), (sy, 1)]) := ⟨by decide, k1, by decide, by decide, by decide⟩
  have q2 : DeedOk [sx, sy] (sy, 5, [(sx, 2)]) := ⟨by decide, k2, by decide, by decide, by decide⟩
  have h2 : LoopOk [sx, sy] [(sx, 1), (sy, 2)] [[(sx, 0, [(sx, 1), (sy, 1)]), (sy, 5, [(sx, 2)])]] := ⟨NX, rfl, by decide, by decide, by decide, fun p hp => by
    rw [List.mem_singleton.mp hp]
    refine ⟨by decide, fun d hd => ?_⟩
    simp only [List.mem_cons, List.not_mem_nil, or_false] at hd
    rcases hd with rfl | rfl
    · exact q1
    · exact q2⟩
  have f1 : cal 154 [.ow (.ins 46 []), .fz (.int 0), .fz (.dic (putsT [] [((.inr sx : Key), .int 1), (.inr sy, .int 1)]))] = .ok (.fz .non) [.ow (frmO 0 [(sx, 1), (sy, 1)]), .no, .no] := by
    have := C.form (c := 0) k1.nodup (by decide) (fun a ha => NX.nm a (q1.sub a ha))
    rw [keptS_same k1] at this
    rw [← this]
    rfl
  have f2 : cal 154 [.ow (.ins 46 []), .fz (.int 5), .fz (.dic (putsT [] [((.inr sx : Key), .int 2)]))] = .ok (.fz .non) [.ow (frmO 5 [(sx, 2)]), .no, .no] := by
    have := C.form (c := 5) k2.nodup (by decide) (fun a ha => NX.nm a (q2.sub a ha))
    rw [keptS_same k2] at this
    rw [← this]
    rfl
  have f3 := C.mkl h2
  obtain ⟨g, f4, hF, hv⟩ := C.forms (i := 0) h2 rfl
  have mx : sx ∈ ([sx, sy] : List PySem.Str) := by decide
  have my : sy ∈ ([sx, sy] : List PySem.Str) := by decide
  have gx : (g sx).1 = 0 ∧ (g sx).2 = [(sx, 1), (sy, 1)] := val_ext NX.nd (hF.bn _ mx) (bn_of (m := 1) k1 (by decide) (by decide)) fun v hk => by
    rw [hv v hk _ mx]
    show Mi.atS (putA (putA v sx _) sy _) sx = _
    rw [at_putA, if_neg (by decide), at_putA, if_pos rfl]
  have gy : (g sy).1 = 5 ∧ (g sy).2 = [(sx, 2), (sy, 2)] := val_ext NX.nd (hF.bn _ my) (bn_of (m := 2) k3 (by decide) (by decide)) fun v hk => by
    rw [hv v hk _ my]
    show Mi.atS (putA (putA v sx (valS 0 [(sx, 1), (sy, 1)] v)) sy (valS 5 [(sx, 2)] (putA v sx (valS 0 [(sx, 1), (sy, 1)] v)))) sy = _
    rw [at_putA, if_pos rfl]
    unfold valS
    simp only [List.map_cons, List.map_nil, List.sum_cons, List.sum_nil, at_putA, if_true]
    omega
  have Fx : Fm3 0 [(sx, 1), (sy, 1)] := ⟨k1, by decide, fun a ha => NX.nm a (q1.sub a ha), by decide, by decide +kernel⟩
  have Fy : Fm3 5 [(sx, 2), (sy, 2)] := ⟨k3, by decide, fun a ha => NX.nm a ((by decide : ∀ a ∈ keysS [(sx, (2 : Int)), (sy, 2)], a ∈ ([sx, sy] : List PySem.Str)) a ha), by decide +kernel, by decide +kernel⟩
  have f5 := C.text Fx
  have f6 := C.text Fy
  rw [show txtS 0 [(sx, 1), (sy, 1)] = "x + y" by decide +kernel] at f5
  rw [show txtS 5 [(sx, 2), (sy, 2)] = "2 x + 2 y + 5" by decide +kernel] at f6
  have f7 := C.same 1 (.lst [.str "x + y", .str "2 x + 2 y + 5"]) (.lst (fun x hx => by
    simp only [List.mem_cons, List.not_mem_nil, or_false] at hx
    rcases hx with rfl | rfl <;> exact .flat rfl) (by decide)) (by decide)
  have f5' : cal 140 [.fz (frmT (g sx).1 (g sx).2)] = .ok (.fz (.str "x + y")) [.no] := by rw [gx.1, gx.2]; exact f5
  have f6' : cal 140 [.fz (frmT (g sy).1 (g sy).2)] = .ok (.fz (.str "2 x + 2 y + 5")) [.no] := by rw [gy.1, gy.2]; exact f6
  repeat infer_instance
end K46
set_option maxHeartbeats 0
open PySem PySem.Spec PyProof.Rows L2 Mi MiDF K46
theorem K46.owes : K46.Owes := by
  refine ⟨CXA (PySem.Challenge.rw_loneround_k46_whole_forms_of_phases).prog, 2 * (K46.kk + 1), K46.hroom, fun _ _ _ _ z => cxA_no z, ?_⟩
  intro w mg fa h Y Gn hmg
  obtain ⟨K, KX, c⟩ := Y
  have t := top_of KX Gn c
  obtain ⟨fd, F⟩ := c.def_ 0 (d := D56) rfl
  have ea := hmg.symm.trans (t.glo 68 "law" rfl)
  cases ea
  have b := L2.FunD.bindsA (ps := p56) F fun _ _ _ _ _ _ us hl => match us, hl with | [_], _ => rfl
  refine ⟨K, fd, spM ⟨K, clsOf K cn⟩ (callF K46.Γ K46.LL (K46.kk + 1)) 56, KX, fun s v => b s [v] rfl, fun H a ns hl hO hS => ?_, fun base hb hn => ?_⟩
  · obtain ⟨outs, ho⟩ := K46.law_true ns hl
    exact law_sp ho hO hS _
  · exact cxA (Mi.fn_ok (G := ⟨K, clsOf K cn⟩) F sc56 rfl (d := d56) rfl rfl rfl rfl (by decide) (b56 (K46.all (G := ⟨K, clsOf K cn⟩) t K46.kk)))
theorem PySem.Challenge.cw_loneround_k46_whole_forms_of_phases_holds : PySem.Challenge.rw_loneround_k46_whole_forms_of_phases.Holds :=
  K46.head K46.owes
